import PyProof.Rows.All
import Wide.All
import OpenK.AllK
import Wide.FinOn
import PySem.Challenge.RW_rh0077_01
set_option Elab.async false
set_option maxRecDepth 100000
set_option linter.all false
set_option maxHeartbeats 1000000
set_option compiler.extract_closed false
namespace Mine
open PySem PySem.Calls PyProof.Rows PySem.W
theorem fl0 {a G : Prop} (h : a) (k : a → G) : G := k h
theorem xe1 {α1 : Type} {G : Prop} {p : α1 → Prop} (h : ∀ x1, p x1 → G) : (∃ x1, p x1) → G := fun q => q.elim h
theorem xe2 {α1 α2 : Type} {G : Prop} {p : α1 → α2 → Prop} (h : ∀ x1 x2, p x1 x2 → G) : (∃ x1 x2, p x1 x2) → G := xe1 fun x1 => xe1 (h x1)
theorem xe3 {α1 α2 α3 : Type} {G : Prop} {p : α1 → α2 → α3 → Prop} (h : ∀ x1 x2 x3, p x1 x2 x3 → G) : (∃ x1 x2 x3, p x1 x2 x3) → G := xe1 fun x1 => xe2 (h x1)
theorem xe4 {α1 α2 α3 α4 : Type} {G : Prop} {p : α1 → α2 → α3 → α4 → Prop} (h : ∀ x1 x2 x3 x4, p x1 x2 x3 x4 → G) : (∃ x1 x2 x3 x4, p x1 x2 x3 x4) → G := xe1 fun x1 => xe3 (h x1)
theorem xe5 {α1 α2 α3 α4 α5 : Type} {G : Prop} {p : α1 → α2 → α3 → α4 → α5 → Prop} (h : ∀ x1 x2 x3 x4 x5, p x1 x2 x3 x4 x5 → G) : (∃ x1 x2 x3 x4 x5, p x1 x2 x3 x4 x5) → G := xe1 fun x1 => xe4 (h x1)
theorem xe6 {α1 α2 α3 α4 α5 α6 : Type} {G : Prop} {p : α1 → α2 → α3 → α4 → α5 → α6 → Prop} (h : ∀ x1 x2 x3 x4 x5 x6, p x1 x2 x3 x4 x5 x6 → G) : (∃ x1 x2 x3 x4 x5 x6, p x1 x2 x3 x4 x5 x6) → G := xe1 fun x1 => xe5 (h x1)
theorem xe7 {α1 α2 α3 α4 α5 α6 α7 : Type} {G : Prop} {p : α1 → α2 → α3 → α4 → α5 → α6 → α7 → Prop} (h : ∀ x1 x2 x3 x4 x5 x6 x7, p x1 x2 x3 x4 x5 x6 x7 → G) : (∃ x1 x2 x3 x4 x5 x6 x7, p x1 x2 x3 x4 x5 x6 x7) → G := xe1 fun x1 => xe6 (h x1)
theorem xe8 {α1 α2 α3 α4 α5 α6 α7 α8 : Type} {G : Prop} {p : α1 → α2 → α3 → α4 → α5 → α6 → α7 → α8 → Prop} (h : ∀ x1 x2 x3 x4 x5 x6 x7 x8, p x1 x2 x3 x4 x5 x6 x7 x8 → G) : (∃ x1 x2 x3 x4 x5 x6 x7 x8, p x1 x2 x3 x4 x5 x6 x7 x8) → G := xe1 fun x1 => xe7 (h x1)
theorem xe9 {α1 α2 α3 α4 α5 α6 α7 α8 α9 : Type} {G : Prop} {p : α1 → α2 → α3 → α4 → α5 → α6 → α7 → α8 → α9 → Prop} (h : ∀ x1 x2 x3 x4 x5 x6 x7 x8 x9, p x1 x2 x3 x4 x5 x6 x7 x8 x9 → G) : (∃ x1 x2 x3 x4 x5 x6 x7 x8 x9, p x1 x2 x3 x4 x5 x6 x7 x8 x9) → G := xe1 fun x1 => xe8 (h x1)
theorem an2 {a1 a2 G : Prop} (h : a1 → a2 → G) : a1 ∧ a2 → G := fun q => h q.1 q.2
theorem an3 {a1 a2 a3 G : Prop} (h : a1 → a2 → a3 → G) : a1 ∧ a2 ∧ a3 → G := an2 fun q => an2 (h q)
theorem an4 {a1 a2 a3 a4 G : Prop} (h : a1 → a2 → a3 → a4 → G) : a1 ∧ a2 ∧ a3 ∧ a4 → G := an2 fun q => an3 (h q)
theorem an5 {a1 a2 a3 a4 a5 G : Prop} (h : a1 → a2 → a3 → a4 → a5 → G) : a1 ∧ a2 ∧ a3 ∧ a4 ∧ a5 → G := an2 fun q => an4 (h q)
theorem an6 {a1 a2 a3 a4 a5 a6 G : Prop} (h : a1 → a2 → a3 → a4 → a5 → a6 → G) : a1 ∧ a2 ∧ a3 ∧ a4 ∧ a5 ∧ a6 → G := an2 fun q => an5 (h q)
theorem an7 {a1 a2 a3 a4 a5 a6 a7 G : Prop} (h : a1 → a2 → a3 → a4 → a5 → a6 → a7 → G) : a1 ∧ a2 ∧ a3 ∧ a4 ∧ a5 ∧ a6 ∧ a7 → G := an2 fun q => an6 (h q)
theorem an8 {a1 a2 a3 a4 a5 a6 a7 a8 G : Prop} (h : a1 → a2 → a3 → a4 → a5 → a6 → a7 → a8 → G) : a1 ∧ a2 ∧ a3 ∧ a4 ∧ a5 ∧ a6 ∧ a7 ∧ a8 → G := an2 fun q => an7 (h q)
theorem an9 {a1 a2 a3 a4 a5 a6 a7 a8 a9 G : Prop} (h : a1 → a2 → a3 → a4 → a5 → a6 → a7 → a8 → a9 → G) : a1 ∧ a2 ∧ a3 ∧ a4 ∧ a5 ∧ a6 ∧ a7 ∧ a8 ∧ a9 → G := an2 fun q => an8 (h q)
theorem an10 {a1 a2 a3 a4 a5 a6 a7 a8 a9 a10 G : Prop} (h : a1 → a2 → a3 → a4 → a5 → a6 → a7 → a8 → a9 → a10 → G) : a1 ∧ a2 ∧ a3 ∧ a4 ∧ a5 ∧ a6 ∧ a7 ∧ a8 ∧ a9 ∧ a10 → G := an2 fun q => an9 (h q)
theorem an11 {a1 a2 a3 a4 a5 a6 a7 a8 a9 a10 a11 G : Prop} (h : a1 → a2 → a3 → a4 → a5 → a6 → a7 → a8 → a9 → a10 → a11 → G) : a1 ∧ a2 ∧ a3 ∧ a4 ∧ a5 ∧ a6 ∧ a7 ∧ a8 ∧ a9 ∧ a10 ∧ a11 → G := an2 fun q => an10 (h q)
theorem an12 {a1 a2 a3 a4 a5 a6 a7 a8 a9 a10 a11 a12 G : Prop} (h : a1 → a2 → a3 → a4 → a5 → a6 → a7 → a8 → a9 → a10 → a11 → a12 → G) : a1 ∧ a2 ∧ a3 ∧ a4 ∧ a5 ∧ a6 ∧ a7 ∧ a8 ∧ a9 ∧ a10 ∧ a11 ∧ a12 → G := an2 fun q => an11 (h q)
theorem an13 {a1 a2 a3 a4 a5 a6 a7 a8 a9 a10 a11 a12 a13 G : Prop} (h : a1 → a2 → a3 → a4 → a5 → a6 → a7 → a8 → a9 → a10 → a11 → a12 → a13 → G) : a1 ∧ a2 ∧ a3 ∧ a4 ∧ a5 ∧ a6 ∧ a7 ∧ a8 ∧ a9 ∧ a10 ∧ a11 ∧ a12 ∧ a13 → G := an2 fun q => an12 (h q)

/-- abstract objects: what a view knows of an address; the number is a ghost tag (0: never changed) -/
inductive AO where
  | tup (xs : List Value)
  | lst (t : Nat) (xs : List Value)
  | cell (t : Nat) (v : Option Value)
  | inst (C d : Addr)
  | dct (t : Nat) (es : List DictEntry)
  | att (t : Nat) (kvs : List (Str × Value))
  | rcd (t : Nat) (cls : String) (vs : List Value)
  | raw (o : Obj)
  | prop (t : Nat) (P : Obj → Prop)
  | locs (t : Nat) (m : Str → Option Value)

noncomputable def AO.tag : AO → Nat
  | .tup _ => 0
  | .lst t _ => t
  | .cell t _ => t
  | .inst _ _ => 0
  | .dct t _ => t
  | .att t _ => t
  | .rcd t _ _ => t
  | .raw _ => 0
  | .prop t _ => t
  | .locs t _ => t

inductive Att : List DictEntry → List (Str × Value) → Prop
  | nil : Att [] []
  | cons {x : Str} {hs : Int} {tk : Tok} {v : Value} {es : List DictEntry} {kvs : List (Str × Value)} : Att es kvs → Att (⟨hs, .str x tk, v⟩ :: es) ((x, v) :: kvs)

noncomputable def Den : AO → Obj → Prop
  | .tup xs, o => ∃ n, o = ({ cls := .type "tuple", data := .seq xs.toArray n } : Obj)
  | .lst _ xs, o => ∃ n, o = ({ cls := .type "list", data := .seq xs.toArray n } : Obj)
  | .cell _ v, o => o.data = .cell v
  | .inst C d, o => o = instObj C d
  | .dct _ es, o => ∃ n, o = ({ cls := .type "dict", data := .dict es.toArray n } : Obj)
  | .att _ kvs, o => ∃ es n, Att es kvs ∧ o = ({ cls := .type "dict", data := .dict es.toArray n } : Obj)
  | .rcd _ c vs, o => o.cls = .type c ∧ o.data = .fields vs.toArray
  | .raw p, o => o = p
  | .prop _ P, o => P o
  | .locs _ m, o => ∃ es ep, o.data = .dict es ep ∧ StrKeys es ∧ ∀ name, nsFind es name = m name

noncomputable abbrev View := Addr → Option AO
noncomputable def upd (V : View) (a : Addr) (x : AO) : View := fun b => if b = a then some x else V b
theorem upd_self {V : View} {a x} : upd V a x a = some x := if_pos rfl
theorem upd_ne {V : View} {a b x} (h : b ≠ a) : upd V a x b = V b := if_neg h
theorem upd_new {V : View} {a b x y} (hn : V a = none) (h : V b = some y) : upd V a x b = some y := by
  rw [upd_ne]; exact h
  rintro rfl; rw [hn] at h; cases h

structure Gl (b₀ : Heap) (V : View) (h : Heap) : Prop where
  keep : ∀ a o, b₀.get? a = some o → h.get? a = some o
  size : b₀.objs.size ≤ h.objs.size
  view : ∀ a x, V a = some x → b₀.objs.size ≤ a ∧ ∃ o, h.get? a = some o ∧ Den x o

noncomputable abbrev Frm := Addr → Option Obj
noncomputable def FrmIn (F : Frm) (V : View) (h : Heap) : Prop := ∀ a o, F a = some o → h.get? a = some o ∧ V a = none

structure St (b₀ : Heap) (F : Frm) (L : Addr) (V : View) (m : Str → Option Value) (h : Heap) : Prop where
  gl : Gl b₀ V h
  ns : h.Ns L m
  above : b₀.objs.size ≤ L
  off : V L = none
  frm : ∀ a o, F a = some o → h.get? a = some o ∧ V a = none ∧ a ≠ L

noncomputable abbrev Loc := Str → Option Value
noncomputable def setm (m : Loc) (x : Str) (v : Value) : Loc := fun y => if y = x then some v else m y
theorem setm_self {m : Loc} {x v} : setm m x v x = some v := if_pos rfl
theorem setm_ne {m : Loc} {x y v} {r} (h : y ≠ x) (e : m y = r) : setm m x v y = r := by rw [← e]; exact if_neg h

structure Cx where
  prog : Program
  w : World
  b₀ : Heap
  env : Env
  d : Nat
  sl : Nat

noncomputable def Cx.Ok (C : Cx) (A : Around) : Prop := A.handled = none ∧ A.depth + C.d < recursionLimit ∧ A.units + 20 * C.d + C.sl < cLine
noncomputable def Cx.up (C : Cx) : Cx := { C with sl := C.sl - 1 }

noncomputable def WP (C : Cx) {α : Type} (t : Sem α) (m : Loc) (V : View) (k : α → Loc → View → Prop) : Prop :=
  ∀ (F : Frm) (A : Around) (s : Shared) (Q : α → Shared → Prop) (E : Value → Shared → Prop), C.Ok A → St C.b₀ F C.env.locals V m s.heap →
    (∀ a m' V' h' tk', St C.b₀ F C.env.locals V' m' h' → k a m' V' → Q a { s with heap := h', toks := tk' }) →
    wpAny (model C.prog C.w) A t Q E s

variable {C : Cx} {m : Loc} {V : View} {α β : Type}

theorem WP.mono {t : Sem α} {k k' : α → Loc → View → Prop} (h : WP C t m V k) (hk : ∀ a m V, k a m V → k' a m V) : WP C t m V k' :=
  fun F A s Q E hA S q => h F A s Q E hA S fun a m' V' h' tk' S' x => q a m' V' h' tk' S' (hk _ _ _ x)
theorem WP.pure {a : α} {k : α → Loc → View → Prop} (h : k a m V) : WP C (pure a) m V k :=
  fun _ _ s _ _ _ S q => wpAny_pure (q a m V s.heap s.toks S h)
theorem WP.bind {t : Sem α} {f : α → Sem β} {k : β → Loc → View → Prop} (h : WP C t m V fun a m' V' => WP C (f a) m' V' k) : WP C (t >>= f) m V k :=
  fun F A s Q E hA S q => wpAny_bind (h F A s _ E hA S fun a m' V' h' tk' S' x => x F A { s with heap := h', toks := tk' } Q E hA S' q)
/-- a tree that leaves all as it is, and gives a -/
theorem WP.read {t : Sem α} {a : α} {k : α → Loc → View → Prop}
    (h : ∀ F A s (Q : α → Shared → Prop) E, C.Ok A → St C.b₀ F C.env.locals V m s.heap → (∀ tk, Q a { s with toks := tk }) → wpAny (model C.prog C.w) A t Q E s) (hk : k a m V) : WP C t m V k :=
  fun F A s Q E hA S q => h F A s Q E hA S fun tk => q a m V s.heap tk S hk
theorem WP.of {t u : Sem α} {k : α → Loc → View → Prop} (h : ∀ A s (Q : α → Shared → Prop) E, wpAny (model C.prog C.w) A u Q E s → wpAny (model C.prog C.w) A t Q E s) (hu : WP C u m V k) : WP C t m V k :=
  fun F A s Q E hA S q => h A s Q E (hu F A s Q E hA S q)

theorem Gl.lt {b₀ : Heap} {h : Heap} {a x} (G : Gl b₀ V h) (e : V a = some x) : a < h.objs.size := let ⟨_, o, ho, _⟩ := G.view a x e; Heap.lt_size ho
theorem Gl.fresh {b₀ : Heap} {h : Heap} (G : Gl b₀ V h) : V h.objs.size = none := by
  cases e : V h.objs.size with
  | none => rfl
  | some x => exact absurd (G.lt e) (Nat.lt_irrefl _)
theorem Gl.push {b₀ : Heap} {h : Heap} {x : AO} {o : Obj} (G : Gl b₀ V h) (hf : o.isFreed = false) (d : Den x o) : Gl b₀ (upd V h.objs.size x) (h.push o) := by
  refine ⟨fun a o' e => Heap.get?_push_of_some _ (G.keep a o' e), by rw [Heap.size_push]; exact Nat.le_succ_of_le G.size, fun a y e => ?_⟩
  by_cases ha : a = h.objs.size
  · subst ha
    rw [upd_self] at e; cases e
    exact ⟨G.size, o, Heap.get?_push_size _ hf, d⟩
  · rw [upd_ne ha] at e
    obtain ⟨h1, o', h2, h3⟩ := G.view a y e
    exact ⟨h1, o', Heap.get?_push_of_some _ h2, h3⟩
theorem Gl.set {b₀ : Heap} {h h' : Heap} {a : Addr} {x y : AO} {o : Obj} (G : Gl b₀ V h) (e : V a = some y) (hs : Heap.SameBut a h h') (ho : h'.get? a = some o) (d : Den x o) : Gl b₀ (upd V a x) h' := by
  have hb := (G.view a y e).1
  refine ⟨fun b o' q => ?_, by rw [hs.1]; exact G.size, fun b z q => ?_⟩
  · rw [hs.2 b (Nat.ne_of_lt (Nat.lt_of_lt_of_le (Heap.lt_size q) hb))]; exact G.keep b o' q
  · by_cases hba : b = a
    · subst hba; rw [upd_self] at q; cases q; exact ⟨hb, o, ho, d⟩
    · rw [upd_ne hba] at q
      obtain ⟨h1, o', h2, h3⟩ := G.view b z q
      exact ⟨h1, o', (hs.2 b hba).trans h2, h3⟩
theorem Gl.same {b₀ : Heap} {h h' : Heap} {L : Addr} (G : Gl b₀ V h) (hb : b₀.objs.size ≤ L) (hV : V L = none) (hs : Heap.SameBut L h h') : Gl b₀ V h' := by
  refine ⟨fun b o' q => ?_, by rw [hs.1]; exact G.size, fun b z q => ?_⟩
  · rw [hs.2 b (Nat.ne_of_lt (Nat.lt_of_lt_of_le (Heap.lt_size q) hb))]; exact G.keep b o' q
  · obtain ⟨h1, o', h2, h3⟩ := G.view b z q
    exact ⟨h1, o', (hs.2 b fun e => by subst e; rw [hV] at q; cases q).trans h2, h3⟩

section
variable {b₀ h h' : Heap} {F : Frm} {L : Addr}
theorem St.push {x : AO} {o : Obj} (S : St b₀ F L V m h) (hf : o.isFreed = false) (d : Den x o) : St b₀ F L (upd V h.objs.size x) m (h.push o) := by
  have hL := S.ns.lt
  refine ⟨S.gl.push hf d, S.ns.push o, S.above, ?_, fun a o' e => ?_⟩
  · rw [upd_ne (Nat.ne_of_lt hL)]; exact S.off
  · obtain ⟨h1, h2, h3⟩ := S.frm a o' e
    refine ⟨Heap.get?_push_of_some _ h1, ?_, h3⟩
    rw [upd_ne (Nat.ne_of_lt (Heap.lt_size h1))]; exact h2
theorem St.set {a : Addr} {x y : AO} {o : Obj} (S : St b₀ F L V m h) (e : V a = some y) (hs : Heap.SameBut a h h') (ho : h'.get? a = some o) (d : Den x o) : St b₀ F L (upd V a x) m h' := by
  have hLa : L ≠ a := by rintro rfl; rw [S.off] at e; cases e
  refine ⟨S.gl.set e hs ho d, S.ns.sameBut hs hLa, S.above, by rw [upd_ne hLa]; exact S.off, fun b o' q => ?_⟩
  obtain ⟨h1, h2, h3⟩ := S.frm b o' q
  have hba : b ≠ a := by rintro rfl; rw [h2] at e; cases e
  exact ⟨(hs.2 b hba).trans h1, by rw [upd_ne hba]; exact h2, h3⟩
theorem St.store {m' : Loc} (S : St b₀ F L V m h) (hn : h'.Ns L m') (hs : Heap.SameBut L h h') : St b₀ F L V m' h' :=
  ⟨S.gl.same S.above S.off hs, hn, S.above, S.off, fun b o' q => let ⟨h1, h2, h3⟩ := S.frm b o' q; ⟨(hs.2 b h3).trans h1, h2, h3⟩⟩
theorem St.fresh (S : St b₀ F L V m h) : V h.objs.size = none := S.gl.fresh
theorem St.toFr (S : St b₀ F L V m h) : Fr b₀ L h m := ⟨S.ns, S.gl.keep, S.above⟩
/-- the view may be turned, as long as it says what holds -/
theorem St.view {V' : View} (S : St b₀ F L V m h) (hv : ∀ a x, V' a = some x → ∃ y, V a = some y ∧ ∀ o, Den y o → Den x o) : St b₀ F L V' m h := by
  have none' : ∀ a, V a = none → V' a = none := fun a e => by
    cases q : V' a with
    | none => rfl
    | some x => obtain ⟨y, h1, _⟩ := hv a x q; rw [e] at h1; cases h1
  refine ⟨⟨S.gl.keep, S.gl.size, fun a x e => ?_⟩, S.ns, S.above, none' _ S.off, fun a o e => ?_⟩
  · obtain ⟨y, h1, h2⟩ := hv a x e
    obtain ⟨h3, o, h4, h5⟩ := S.gl.view a y h1
    exact ⟨h3, o, h4, h2 o h5⟩
  · obtain ⟨h1, h2, h3⟩ := S.frm a o e
    exact ⟨h1, none' _ h2, h3⟩
end

theorem WP.ghost {t : Sem α} {k : α → Loc → View → Prop} {V' : View} (hv : ∀ a x, V' a = some x → ∃ y, V a = some y ∧ ∀ o, Den y o → Den x o) (h : WP C t m V' k) : WP C t m V k :=
  fun F A s Q E hA S q => h F A s Q E hA (S.view hv) q

/-- a new object -/
theorem WP.alloc {x : AO} {o : Obj} {k : Addr → Loc → View → Prop} (hf : o.isFreed = false) (d : Den x o) (h : ∀ a, V a = none → k a m (upd V a x)) : WP C (PySem.alloc o) m V k :=
  fun _ _ s _ _ _ S q => wpAny_alloc (q _ m _ _ s.toks (S.push hf d) (h _ S.fresh))
theorem WP.newObj {T : String} {data : Data} {x : AO} {k : Value → Loc → View → Prop} (hd : sizeOk data) (hf : ({ cls := .type T, data } : Obj).isFreed = false) (d : Den x { cls := .type T, data })
    (h : ∀ a, V a = none → k (.ref a) m (upd V a x)) : WP C (PySem.newObj (.type T) data none) m V k :=
  fun _ _ s _ _ _ S q => wpAny_newObj_type (q _ m _ _ s.toks (S.push hf d) (h _ S.fresh)) hd

theorem WP.newTuple {vs : List Value} {k : Value → Loc → View → Prop} (hz : vs.length ≤ sizeLine) (h : ∀ a, V a = none → k (.ref a) m (upd V a (.tup vs))) : WP C (PySem.newTuple vs) m V k :=
  WP.newObj (x := .tup vs) (by show vs.toArray.size ≤ sizeLine; rw [List.size_toArray]; exact hz) rfl ⟨0, rfl⟩ h
theorem WP.newList (t : Nat) {vs : List Value} {k : Value → Loc → View → Prop} (hz : vs.length ≤ sizeLine) (h : ∀ a, V a = none → k (.ref a) m (upd V a (.lst t vs))) : WP C (PySem.newList vs) m V k :=
  WP.newObj (x := .lst t vs) (by show vs.toArray.size ≤ sizeLine; rw [List.size_toArray]; exact hz) rfl ⟨0, rfl⟩ h

/-- names -/
theorem WP.local {x : Str} {pos : Pos} {v : Value} {k : Value → Loc → View → Prop} (hv : m x = some v) (h : k v m V)
    (hk : C.env.scope.kind = .function := by rfl) (hl : C.env.kindOf x = some .local := by rfl) (hd : (x == ("__debug__" : Str)) = false := by decide) : WP C (eval (.Name x pos) C.env) m V k :=
  fun _ _ s _ _ _ S q => wpAny_Name (wpAny_loadName_local hk hl S.ns hv (q v m V s.heap s.toks S h)) hd
theorem WP.loadLocal {x : Str} {v : Value} {k : Value → Loc → View → Prop} (hv : m x = some v) (h : k v m V)
    (hk : C.env.scope.kind = .function := by rfl) (hl : C.env.kindOf x = some .local := by rfl) : WP C (loadName C.env x) m V k :=
  fun _ _ s _ _ _ S q => wpAny_loadName_local hk hl S.ns hv (q v m V s.heap s.toks S h)
theorem St.isCell {b₀ h : Heap} {F : Frm} {L c : Addr} {t : Nat} {v : Option Value} (S : St b₀ F L V m h) (e : V c = some (.cell t v)) : h.IsCell c v :=
  let ⟨_, o, ho, d⟩ := S.gl.view c _ e; ⟨o, ho, d⟩
theorem WP.cell {x : Str} {pos : Pos} {c : Addr} {t : Nat} {v : Value} {k : Value → Loc → View → Prop} (hc : C.env.cells.lookup x = some c) (hv : V c = some (.cell t (some v))) (h : k v m V)
    (hk : C.env.scope.kind = .function := by rfl) (hl : C.env.kindOf x = some .cell := by rfl) (hd : (x == ("__debug__" : Str)) = false := by decide) : WP C (eval (.Name x pos) C.env) m V k :=
  fun _ _ s _ _ _ S q => wpAny_Name (wpAny_loadName_cell hk hl hc (S.isCell hv) (q v m V s.heap s.toks S h)) hd
theorem WP.free {x : Str} {pos : Pos} {c : Addr} {t : Nat} {v : Value} {k : Value → Loc → View → Prop} (hc : C.env.cells.lookup x = some c) (hv : V c = some (.cell t (some v))) (h : k v m V)
    (hk : C.env.scope.kind = .function := by rfl) (hl : C.env.kindOf x = some .free := by rfl) (hd : (x == ("__debug__" : Str)) = false := by decide) (hn : (x == ("__classdict__" : Str)) = false := by decide) :
    WP C (eval (.Name x pos) C.env) m V k :=
  fun _ _ s _ _ _ S q => wpAny_Name (wpAny_loadName_free hk hl hc (S.isCell hv) (q v m V s.heap s.toks S h) hn) hd
theorem WP.glob {x : Str} {pos : Pos} {v : Value} {mg : Str → Option Value} {k : Value → Loc → View → Prop} (hg : C.b₀.Ns mainGlobals mg) (hv : mg x = some v) (h : k v m V)
    (hG : C.env.globals = mainGlobals := by rfl) (hk : C.env.scope.kind = .function := by rfl) (hx : C.env.kindOf x = some .globalImplicit := by rfl) (hd : (x == ("__debug__" : Str)) = false := by decide) :
    WP C (eval (.Name x pos) C.env) m V k :=
  fun _ _ s _ _ _ S q => Name_function_global hk hx (loadGlobal_global (by rw [hG]; exact hg.keeps S.gl.keep) hv (q v m V s.heap s.toks S h)) hd
theorem WP.builtin {x : Str} {pos : Pos} {v : Value} {mg mb : Str → Option Value} {k : Value → Loc → View → Prop} (hg : C.b₀.Ns mainGlobals mg) (hn : mg x = none) (hb : C.b₀.Ns builtinsNs mb) (hv : mb x = some v) (h : k v m V)
    (hG : C.env.globals = mainGlobals := by rfl) (hB : C.env.builtins = builtinsNs := by rfl) (hk : C.env.scope.kind = .function := by rfl) (hx : C.env.kindOf x = some .globalImplicit := by rfl) (hd : (x == ("__debug__" : Str)) = false := by decide) :
    WP C (eval (.Name x pos) C.env) m V k :=
  fun _ _ s _ _ _ S q => Name_function_global hk hx (loadGlobal_builtin (by rw [hG]; exact hg.keeps S.gl.keep) hn (by rw [hB]; exact hb.keeps S.gl.keep) hv (q v m V s.heap s.toks S h)) hd
theorem WP.store {x : Str} {v : Value} {k : Unit → Loc → View → Prop} (h : k () (setm m x v) V)
    (hk : C.env.scope.kind = .function := by rfl) (hl : C.env.kindOf x = some .local := by rfl) : WP C (storeName C.env x v) m V k :=
  fun _ _ s _ _ _ S q => wpAny_storeName_local hl S.ns (fun h' hn hs => q () _ V h' _ (S.store hn hs) h) (by rw [hk]; rfl)
theorem WP.storeCell {x : Str} {c : Addr} {t : Nat} {v₀ : Option Value} {v : Value} {k : Unit → Loc → View → Prop} (hc : C.env.cells.lookup x = some c) (hv : V c = some (.cell t v₀)) (h : k () m (upd V c (.cell t (some v))))
    (hk : C.env.scope.kind = .function := by rfl) (hl : C.env.kindOf x = some .cell := by rfl) : WP C (storeName C.env x v) m V k :=
  fun _ _ s _ _ _ S q => wpAny_storeName_cell hk hl hc (S.isCell hv) fun h' hv' hs => let ⟨_, ho, hd⟩ := hv'; q () m _ h' s.toks (S.set (x := .cell t (some v)) hv hs ho hd) h

/-- constants -/
theorem WP.int {i : Int} {c : Nat} {pos : Pos} {k : Value → Loc → View → Prop} (h : ∀ tk, k (.int i tk) m V) : WP C (eval (.Constant (.int i) c pos) C.env) m V k :=
  fun _ _ s _ _ _ S q => wpAny_Constant_int (q _ m V s.heap _ S (h _))
theorem WP.str {x : Str} {c : Nat} {pos : Pos} {k : Value → Loc → View → Prop} (h : ∀ tk, k (.str x tk) m V) : WP C (eval (.Constant (.str x) c pos) C.env) m V k :=
  fun _ _ s _ _ _ S q => wpAny_Constant_str (q _ m V s.heap _ S (h _))
theorem WP.bool {b : Bool} {c : Nat} {pos : Pos} {k : Value → Loc → View → Prop} (h : k (.bool b) m V) : WP C (eval (.Constant (.bool b) c pos) C.env) m V k :=
  fun _ _ s _ _ _ S q => wpAny_Constant_bool (q _ m V s.heap s.toks S h)
theorem WP.none {c : Nat} {pos : Pos} {k : Value → Loc → View → Prop} (h : k .none m V) : WP C (eval (.Constant .none c pos) C.env) m V k :=
  fun _ _ s _ _ _ S q => wpAny_Constant_none (q _ m V s.heap s.toks S h)

/-- expressions by their parts -/
theorem WP.items_nil {pos : Pos} {k : List Value → Loc → View → Prop} (h : k [] m V) : WP C (spliced (backTo pos (starEach [] C.env))) m V k := WP.pure h
theorem WP.items_cons {pos : Pos} {e : Expr} {rest : List Expr} {k : List Value → Loc → View → Prop}
    (h : WP C (eval e C.env) m V fun v m V => WP C (spliced (backTo pos (starEach rest C.env))) m V fun vs m V => k (v :: vs) m V)
    (he : starEach (e :: rest) C.env = (false, eval e C.env) :: starEach rest C.env := by rfl) : WP C (spliced (backTo pos (starEach (e :: rest) C.env))) m V k :=
  fun F A s Q E hA S q => wpAny_items_cons (h F A s _ E hA S fun v m' V' h' tk' S' x => x F A { s with heap := h', toks := tk' } _ E hA S' fun vs m'' V'' h'' tk'' S'' y => q (v :: vs) m'' V'' h'' tk'' S'' y) he
theorem WP.tuple {elts : List Expr} {c : Nat} {pos : Pos} {k : Value → Loc → View → Prop}
    (h : WP C (spliced (backTo pos (starEach elts C.env))) m V fun vs m V => WP C (PySem.newTuple vs) m V k) : WP C (eval (.Tuple elts c pos) C.env) m V k :=
  fun F A s Q E hA S q => Tuple_ (h F A s _ E hA S fun v m' V' h' tk' S' x => x F A { s with heap := h', toks := tk' } _ E hA S' q)
theorem WP.list {elts : List Expr} {pos : Pos} {k : Value → Loc → View → Prop}
    (h : WP C (spliced (backTo pos (starEach elts C.env))) m V fun vs m V => WP C (PySem.newList vs) m V k) : WP C (eval (.List elts pos) C.env) m V k :=
  fun F A s Q E hA S q => List_ (h F A s _ E hA S fun v m' V' h' tk' S' x => x F A { s with heap := h', toks := tk' } _ E hA S' q)
theorem WP.binop {l r : Expr} {op : Operator} {pos : Pos} {k : Value → Loc → View → Prop}
    (h : WP C (eval l C.env) m V fun a m V => WP C (eval r C.env) m V fun b m V => WP C (binaryOp op a b) m V k) : WP C (eval (.BinOp l op r pos) C.env) m V k :=
  fun F A s Q E hA S q => wpAny_BinOp (h F A s _ E hA S fun a m' V' h' tk' S' x => x F A { s with heap := h', toks := tk' } _ E hA S' fun b m'' V'' h'' tk'' S'' y => y F A { s with heap := h'', toks := tk'' } _ E hA S'' q)
theorem WP.compare {l r : Expr} {op : CmpOp} {pos : Pos} {k : Value → Loc → View → Prop}
    (h : WP C (eval l C.env) m V fun a m V => WP C (eval r C.env) m V fun b m V => WP C (compareOp op a b) m V k)
    (hm : behindInMarks op r = false := by with_unfolding_all rfl) : WP C (eval (.Compare l [op] [r] pos) C.env) m V k :=
  fun F A s Q E hA S q => wpAny_Compare1 (h F A s _ E hA S fun a m' V' h' tk' S' x => x F A { s with heap := h', toks := tk' } _ E hA S' fun b m'' V'' h'' tk'' S'' y => y F A { s with heap := h'', toks := tk'' } _ E hA S'' q) hm
theorem WP.ifexp {test body orelse : Expr} {pos : Pos} {k : Value → Loc → View → Prop}
    (h : WP C (isTrue test C.env (eval test C.env)) m V fun b m V => if b then WP C (eval body C.env) m V k else WP C (eval orelse C.env) m V k) : WP C (eval (.IfExp test body orelse pos) C.env) m V k :=
  fun F A s Q E hA S q => wpAny_IfExp (h F A s _ E hA S fun b m' V' h' tk' S' x => by
    cases b
    · exact x F A { s with heap := h', toks := tk' } _ E hA S' q
    · exact x F A { s with heap := h', toks := tk' } _ E hA S' q)

/-- tests -/
theorem WP.test_compare {l r : Expr} {op : CmpOp} {pos : Pos} {whole : Sem Value} {k : Bool → Loc → View → Prop}
    (h : WP C (eval l C.env) m V fun a m V => WP C (eval r C.env) m V fun b m V => WP C (compareOp op a b) m V fun c m V => WP C (truthy c) m V k)
    (hm : behindInMarks op r = false := by with_unfolding_all rfl) : WP C (isTrue (.Compare l [op] [r] pos) C.env whole) m V k :=
  fun F A s Q E hA S q => wpAny_isTrue_Compare1 (h F A s _ E hA S fun a m' V' h' tk' S' x => x F A { s with heap := h', toks := tk' } _ E hA S' fun b m'' V'' h'' tk'' S'' y => y F A { s with heap := h'', toks := tk'' } _ E hA S''
    fun c m3 V3 h3 tk3 S3 z => z F A { s with heap := h3, toks := tk3 } _ E hA S3 q) hm
theorem WP.test_value {e : Expr} {whole : Sem Value} {k : Bool → Loc → View → Prop} (h : WP C whole m V fun v m V => WP C (truthy v) m V k)
    (he : isTrue e C.env whole = (do let v ← whole; standAt e.pos; holding [v] (truthy v)) := by rfl) : WP C (isTrue e C.env whole) m V k :=
  fun F A s Q E hA S q => wpAny_isTrue_value (h F A s _ E hA S fun a m' V' h' tk' S' x => x F A { s with heap := h', toks := tk' } _ E hA S' q) he
theorem WP.test_bool {op : BoolOp} {values : List Expr} {pos : Pos} {whole : Sem Value} {k : Bool → Loc → View → Prop} (h : WP C (allTrue op values C.env) m V k) : WP C (isTrue (.BoolOp op values pos) C.env whole) m V k :=
  fun F A s Q E hA S q => wpAny_isTrue_BoolOp (h F A s Q E hA S q)
theorem WP.and_nil {k : Bool → Loc → View → Prop} (h : k true m V) : WP C (allTrue .And [] C.env) m V k := WP.pure h
theorem WP.or_nil {k : Bool → Loc → View → Prop} (h : k false m V) : WP C (allTrue .Or [] C.env) m V k := WP.pure h
theorem WP.and_cons {x : Expr} {rest : List Expr} {k : Bool → Loc → View → Prop} (h : WP C (isTrue x C.env (eval x C.env)) m V fun b m V => if b then WP C (allTrue .And rest C.env) m V k else k false m V) :
    WP C (allTrue .And (x :: rest) C.env) m V k :=
  fun F A s Q E hA S q => wpAny_allTrue_And_cons (h F A s _ E hA S fun b m' V' h' tk' S' x => by
    cases b
    · exact q _ _ _ _ _ S' x
    · exact x F A { s with heap := h', toks := tk' } _ E hA S' q)
theorem WP.or_cons {x : Expr} {rest : List Expr} {k : Bool → Loc → View → Prop} (h : WP C (isTrue x C.env (eval x C.env)) m V fun b m V => if b then k true m V else WP C (allTrue .Or rest C.env) m V k) :
    WP C (allTrue .Or (x :: rest) C.env) m V k :=
  fun F A s Q E hA S q => wpAny_allTrue_Or_cons (h F A s _ E hA S fun b m' V' h' tk' S' x => by
    cases b
    · exact x F A { s with heap := h', toks := tk' } _ E hA S' q
    · exact q _ _ _ _ _ S' x)
theorem WP.truthy_bool {b : Bool} {k : Bool → Loc → View → Prop} (h : k b m V) : WP C (truthy (.bool b)) m V k :=
  fun _ _ s _ _ _ S q => wpAny_truthy_bool (q b m V s.heap s.toks S h)

/-- statements -/
theorem WP.execs_nil {k : Flow → Loc → View → Prop} (h : k .next m V) : WP C (execs [] C.env) m V k := WP.pure h
noncomputable def andThen (C : Cx) (rest : List Stmt) (k : Flow → Loc → View → Prop) : Flow → Loc → View → Prop
  | .next => fun m V => WP C (execs rest C.env) m V k
  | f => k f
theorem WP.execs_cons {st : Stmt} {rest : List Stmt} {k : Flow → Loc → View → Prop} (h : WP C (exec st C.env) m V (andThen C rest k)) : WP C (execs (st :: rest) C.env) m V k :=
  fun F A s Q E hA S q => wpAny_execs_cons (h F A s _ E hA S fun f m' V' h' tk' S' x => by
    cases f
    · exact x F A { s with heap := h', toks := tk' } _ E hA S' q
    all_goals exact q _ _ _ _ _ S' x)
theorem WP.assign {x : Str} {px pos : Pos} {value : Expr} {k : Flow → Loc → View → Prop}
    (h : WP C (eval value C.env) m V fun v m V => WP C (storeName C.env x v) m V fun _ m V => k .next m V)
    (hs : swapsWith value (some (.Name x px)) pos.line C.env = Pure.pure false := by rfl) : WP C (exec (.Assign [.Name x px] value pos) C.env) m V k :=
  fun F A s Q E hA S q => wpAny_Assign_Name (h F A s _ E hA S fun v m' V' h' tk' S' x => x F A { s with heap := h', toks := tk' } _ E hA S' fun _ m'' V'' h'' tk'' S'' y => q .next m'' V'' h'' tk'' S'' y) hs
theorem WP.ifs {test : Expr} {body orelse : List Stmt} {pos : Pos} {k : Flow → Loc → View → Prop}
    (h : WP C (isTrue test C.env (eval test C.env)) m V fun b m V => if b then WP C (execs body C.env) m V k else WP C (execs orelse C.env) m V k) : WP C (exec (.If test body orelse pos) C.env) m V k :=
  fun F A s Q E hA S q => wpAny_If (h F A s _ E hA S fun b m' V' h' tk' S' x => by
    cases b
    · exact x F A { s with heap := h', toks := tk' } _ E hA S' q
    · exact x F A { s with heap := h', toks := tk' } _ E hA S' q)
theorem WP.ret {e : Expr} {pos : Pos} {k : Flow → Loc → View → Prop} (h : WP C (eval e C.env) m V fun v => k (.ret v)) : WP C (exec (.Return (some e) pos) C.env) m V k :=
  fun F A s Q E hA S q => wpAny_Return_some (h F A s _ E hA S fun v m' V' h' tk' S' x => q (.ret v) m' V' h' tk' S' x)
theorem WP.brk {pos : Pos} {k : Flow → Loc → View → Prop} (h : k .brk m V) : WP C (exec (.Break pos) C.env) m V k :=
  fun _ _ s _ _ _ S q => wpAny_Break (q _ m V s.heap s.toks S h)
theorem WP.cont {pos : Pos} {k : Flow → Loc → View → Prop} (h : k .cont m V) : WP C (exec (.Continue pos) C.env) m V k :=
  fun _ _ s _ _ _ S q => wpAny_Continue (q _ m V s.heap s.toks S h)
theorem WP.exprs {e : Expr} {pos : Pos} {k : Flow → Loc → View → Prop} (h : WP C (eval e C.env) m V fun _ m V => k .next m V)
    (hi : interactive C.env = false := by rfl) (hs : swapsWith e Option.none pos.line C.env = Pure.pure false := by rfl) : WP C (exec (.Expr e pos) C.env) m V k :=
  fun F A s Q E hA S q => wpAny_Expr_any (h F A s _ E hA S fun _ m' V' h' tk' S' x => q .next m' V' h' tk' S' x) hi hs
theorem nsub1 {n i : Nat} : n - (i + 1) = n - 1 - i := by rw [Nat.sub_sub, Nat.add_comm]
theorem nsub2 {n i : Nat} (h : i < n) : n - i = n - 1 - i + 1 := by rw [Nat.sub_right_comm, Nat.sub_add_cancel (Nat.sub_pos_of_lt h)]
theorem nsub3 {n i : Nat} (h : i < n) : n - 1 - i < n := Nat.lt_of_le_of_lt (Nat.sub_le _ _) (Nat.sub_lt (Nat.lt_of_le_of_lt (Nat.zero_le _) h) Nat.one_pos)
theorem lt63 {n : Nat} (h : n ≤ 1000000) : (n : Int) < 2 ^ 63 := by omega
theorem lt63s {n i : Nat} (h : n ≤ 1000000) : ((n - 1 - i : Nat) : Int) < 2 ^ 63 := lt63 (Nat.le_trans (Nat.sub_le _ _) (Nat.le_trans (Nat.sub_le _ _) h))
theorem toNat_pred (n : Nat) : ((n : Int) - 1).toNat = n - 1 := by
  cases n with
  | zero => rfl
  | succ k => rw [show (((k + 1 : Nat) : Int) - 1) = (k : Int) from by rw [Int.natCast_add]; exact Int.add_sub_cancel _ _]; rfl
theorem allL {α : Type} {P : α → Prop} {a : α} {l : List α} (h : P a) (t : ∀ p ∈ l, P p) : ∀ p ∈ a :: l, P p := by
  intro p hp
  rcases List.mem_cons.mp hp with rfl | hp
  · exact h
  · exact t p hp
theorem allN {α : Type} {P : α → Prop} : ∀ p ∈ ([] : List α), P p := fun _ h => nomatch h
end Mine
namespace Mine
open PySem PySem.Calls PyProof.Rows PySem.W
variable {C : Cx} {m : Loc} {V : View} {α β : Type} {prog : Program} {w : World} {b₀ : Heap}

/-- f called with args under view V comes back with post -/
noncomputable def Fn (prog : Program) (w : World) (b₀ : Heap) (d : Nat) (V : View) (f : Value) (args : List Value) (post : Value → View → Prop) : Prop :=
  ∀ (F : Frm) (A : Around) (s : Shared) (R : Result → Shared → Prop), A.handled = none → A.depth + d < recursionLimit → A.units + 20 * d < cLine →
    Gl b₀ V s.heap → FrmIn F V s.heap →
    (∀ v V' h' tk', Gl b₀ V' h' → FrmIn F V' h' → post v V' → R (.ok (.ret v)) { s with heap := h', toks := tk' }) →
    codeAny (model prog w) A (.call f ⟨args, []⟩) R s

theorem Fn.mono {d d' : Nat} {f : Value} {args : List Value} {post post' : Value → View → Prop} (h : Fn prog w b₀ d V f args post) (hd : d ≤ d') (hp : ∀ v V', post v V' → post' v V') : Fn prog w b₀ d' V f args post' :=
  fun F A s R hh h1 h2 G fr q => h F A s R hh (by omega) (by omega) G fr fun v V' h' tk' G' fr' p => q v V' h' tk' G' fr' (hp v V' p)

theorem St.toFrm {h : Heap} {F : Frm} {L : Addr} (S : St b₀ F L V m h) : FrmIn (fun a => if a = L then h.get? L else F a) V h := fun a o e => by
  dsimp only at e
  by_cases ha : a = L
  · subst ha; rw [if_pos rfl] at e; exact ⟨e, S.off⟩
  · rw [if_neg ha] at e; exact ⟨(S.frm a o e).1, (S.frm a o e).2.1⟩
theorem St.back {h h' : Heap} {F : Frm} {L : Addr} {V' : View} (S : St b₀ F L V m h) (G : Gl b₀ V' h') (fr : FrmIn (fun a => if a = L then h.get? L else F a) V' h') : St b₀ F L V' m h' := by
  obtain ⟨oL, a1, a2, hL, a3⟩ := id S.ns
  have q : h'.get? L = some oL ∧ V' L = none := fr L oL (by simp only [if_pos]; exact hL)
  refine ⟨G, ⟨oL, a1, a2, q.1, a3⟩, S.above, q.2, fun a o e => ?_⟩
  have hne := (S.frm a o e).2.2
  have z := fr a o (by simp only [if_neg hne]; exact e)
  exact ⟨z.1, z.2, hne⟩

theorem WP.call {d : Nat} {f : Value} {args : List Value} {post : Value → View → Prop} {k : Value → Loc → View → Prop} (h : Fn C.prog C.w C.b₀ d V f args post) (hd : d ≤ C.d) (hk : ∀ v V', post v V' → k v m V') : WP C (PySem.call f args) m V k :=
  fun F A s Q E hA S q => wpAny_call (h _ A s _ hA.1 (by have := hA.2.1; omega) (by have := hA.2.2; omega) S.gl S.toFrm fun v V' h' tk' G' fr' p => q v m V' h' tk' (S.back G' fr') (hk v V' p))

noncomputable def FnAt (b₀ : Heap) (f : Addr) (fd : FuncData) : Prop := (∃ o, b₀.get? f = some o ∧ o.data = .func fd) ∧ b₀.CodeRec fd.code fd.qualname

noncomputable abbrev bodyCx (prog : Program) (w : World) (b₀ : Heap) (env : Env) (d : Nat) : Cx := { prog, w, b₀, env, d, sl := 17 }
/-- W knows no more than V -/
noncomputable def Sub (W V : View) : Prop := ∀ a x, W a = some x → V a = some x
noncomputable def retVal : Flow → Value
  | .ret v => v
  | _ => .none
noncomputable def retOf (post : Value → View → Prop) : Flow → Loc → View → Prop := fun fl _ V' => ∃ W, Sub W V' ∧ post (retVal fl) W
theorem Sub.refl {V : View} : Sub V V := fun _ _ e => e
theorem Sub.trans {U V W : View} (h : Sub U V) (k : Sub V W) : Sub U W := fun a x e => k a x (h a x e)
theorem Sub.new {V : View} {a : Addr} {x : AO} (h : V a = none) : Sub V (upd V a x) := fun b y e => upd_new h e
theorem Sub.both {U V : View} {a : Addr} {x : AO} (h : Sub U V) : Sub (upd U a x) (upd V a x) := fun b y e => by
  by_cases hb : b = a
  · subst hb; rw [upd_self] at e ⊢; exact e
  · rw [upd_ne hb] at e ⊢; exact h b y e
theorem Sub.none {U V : View} {a : Addr} (h : Sub U V) (e : V a = none) : U a = none := by
  cases q : U a with
  | none => rfl
  | some x => rw [h a x q] at e; cases e
theorem Sub.gl {b₀ : Heap} {U V : View} {h : Heap} (s : Sub U V) (G : Gl b₀ V h) : Gl b₀ U h := ⟨G.keep, G.size, fun a x e => G.view a x (s a x e)⟩

theorem Fn.def {name qual : Str} {params : Arguments} {body : List Stmt} {scope : Scope} {dV kV doc pm cdv ct : Value} {an : Option Addr} {f : Addr} {d : Nat} {args : List Value} {binds : List (Str × Value)} {post : Value → View → Prop}
    (hf : FnAt b₀ f (fnOf name qual params body scope dV kV doc pm an cdv ct)) (hlim : b₀.NoLimit)
    (hbind : ∀ s : Shared, (∀ a o, b₀.get? a = some o → s.heap.get? a = some o) → BindsTo s (fnOf name qual params body scope dV kV doc pm an cdv ct) ⟨args, []⟩ binds) (hloc : ∀ y ∈ binds, scope.names.lookup y.1 = some .local)
    (hcell : ∀ x ∈ scope.names, x.2 ≠ .cell) (hco : scope.isCoroutine = false) (hgen : scope.isGenerator = false) (hk : scope.kind = .function)
    (h : ∀ L, V L = none → WP (bodyCx prog w b₀ (envX qual scope L f cdv []) d) (execs body (envX qual scope L f cdv [])) (fun x => binds.reverse.lookup x) V (retOf post)) :
    Fn prog w b₀ (d + 1) V (.ref f) args post := by
  intro F A s R hh h1 h2 G fr q
  obtain ⟨⟨o, ho, hd⟩, hcd⟩ := hf
  refine codeAny_call_function (by omega) (G.keep _ _ ho) hd hco hgen rfl (hcd.keeps G.keep) (hbind s G.keep _ _ _ _ ?_)
  refine wpAny_newFunctionEnv hcell hloc (fun h₁ hns hsb => ⟨(hlim.keeps G.keep).fresh _ hsb, codeAny_func ?_⟩) hk
  have keep₁ : ∀ b o, s.heap.get? b = some o → h₁.get? b = some o := fun b o e => hsb.extBut b o (Nat.ne_of_lt (Heap.lt_size e)) (Heap.get?_push_of_some _ e)
  have hsz : s.heap.objs.size ≤ h₁.objs.size := by have := hsb.1; rw [Heap.size_push] at this; omega
  have S₁ : St b₀ F s.heap.objs.size V (fun x => binds.reverse.lookup x) h₁ := by
    refine ⟨⟨fun a o e => keep₁ a o (G.keep a o e), Nat.le_trans G.size hsz, fun a x e => ?_⟩, hns, G.size, G.fresh, fun a o e => ?_⟩
    · obtain ⟨p1, o, p2, p3⟩ := G.view a x e
      exact ⟨p1, o, keep₁ a o p2, p3⟩
    · obtain ⟨p1, p2⟩ := fr a o e
      exact ⟨keep₁ a o p1, p2, Nat.ne_of_lt (Heap.lt_size p1)⟩
  refine h _ G.fresh F (A.deeper (envX qual scope s.heap.objs.size f cdv [])) _ _ _ ⟨hh, ?_, ?_⟩ S₁ fun fl m' V' h' tk' S' x => ?_
  · show A.depth + 1 + d < _; omega
  · show A.units + 3 + 20 * d + 17 < _; omega
  · obtain ⟨W, hs, x⟩ := x
    have z := q _ W h' tk' (hs.gl S'.gl) (fun a o e => ⟨(S'.frm a o e).1, hs.none (S'.frm a o e).2.1⟩) x
    cases fl <;> exact z

noncomputable def addCells (cm : Loc) : List (Str × Addr) → View → View
  | [], V => V
  | (n, c) :: r, V => upd (addCells cm r V) c (.cell 9 (cm n))
theorem addCells_get {cm : Loc} {V : View} {x : AO} : ∀ {cs : List (Str × Addr)} {a : Addr}, addCells cm cs V a = some x → V a = some x ∨ ∃ n, (n, a) ∈ cs ∧ x = .cell 9 (cm n)
  | [], _, e => .inl e
  | (n, c) :: r, a, e => by
    unfold addCells at e
    by_cases h : a = c
    · subst h; rw [upd_self] at e; cases e; exact .inr ⟨n, .head _, rfl⟩
    · rw [upd_ne h] at e
      rcases addCells_get e with h1 | ⟨n', h1, h2⟩
      · exact .inl h1
      · exact .inr ⟨n', .tail _ h1, h2⟩
theorem lookup_of_mem' {cs : List (Str × Addr)} (hn : (cs.map (·.1)).Nodup) {n : Str} {a : Addr} (h : (n, a) ∈ cs) : cs.lookup n = some a := by
  induction cs with
  | nil => cases h
  | cons p r ih =>
    obtain ⟨k, b⟩ := p
    rw [List.map_cons, List.nodup_cons] at hn
    rw [List.lookup_cons]
    rcases List.mem_cons.mp h with e | h2
    · cases e; simp
    · have : (n == k) = false := by
        rw [beq_eq_false_iff_ne]; intro e
        exact hn.1 (List.mem_map.mpr ⟨_, h2, e⟩)
      rw [this]; exact ih hn.2 h2
theorem cellsFrom_names : ∀ (names : List (Str × NameKind)) (n : Nat) (acc acc' : List (Str × Addr)), acc.map (·.1) = acc'.map (·.1) → ∀ n', (cellsFrom n names acc).map (·.1) = (cellsFrom n' names acc').map (·.1)
  | [], _, _, _, h, _ => h
  | (x, k) :: r, n, acc, acc', h, n' => by
    unfold cellsFrom
    by_cases hk : (k == .cell) = true
    · rw [if_pos hk, if_pos hk]; exact cellsFrom_names r _ _ _ (by simp [h]) _
    · rw [if_neg hk, if_neg hk]; exact cellsFrom_names r _ _ _ h _

theorem Fn.defC {name qual : Str} {params : Arguments} {body : List Stmt} {scope : Scope} {dV kV doc pm cdv ct : Value} {an : Option Addr} {f : Addr} {d : Nat} {args : List Value} {binds : List (Str × Value)} {post : Value → View → Prop}
    (hf : FnAt b₀ f (fnOf name qual params body scope dV kV doc pm an cdv ct)) (hlim : b₀.NoLimit)
    (hbind : bindArgs (fnOf name qual params body scope dV kV doc pm an cdv ct) ⟨args, []⟩ = pure binds)
    (hkind : (binds.all fun y => scope.names.lookup y.1 == some .local || scope.names.lookup y.1 == some .cell) = true)
    (hnd : ((cellsFrom 0 scope.names []).map (·.1)).Nodup) (hco : scope.isCoroutine = false) (hgen : scope.isGenerator = false) (hk : scope.kind = .function)
    (h : ∀ L, V L = none → (∀ n c, (n, c) ∈ cellsFrom (L + 1) scope.names [] → V c = none ∧ c ≠ L) → ((cellsFrom (L + 1) scope.names []).Pairwise fun x y => x.2 ≠ y.2) →
      WP (bodyCx prog w b₀ (envX qual scope L f cdv (cellsFrom (L + 1) scope.names [])) d) (execs body (envX qual scope L f cdv (cellsFrom (L + 1) scope.names [])))
        (bindL (fun x => scope.names.lookup x) binds fun _ => none) (addCells (bindC (fun x => scope.names.lookup x) binds fun _ => none) (cellsFrom (L + 1) scope.names []) V) (retOf post)) :
    Fn prog w b₀ (d + 1) V (.ref f) args post := by
  intro F A s R hh h1 h2 G fr q
  obtain ⟨⟨o, ho, hd⟩, hcd⟩ := hf
  refine codeAny_call_cells (by omega) (G.keep _ _ ho) hd (hlim.keeps G.keep) (hcd.keeps G.keep) rfl hbind rfl (kindsX hkind _) (fun s₁ X => ?_) hco hgen hk
  obtain ⟨⟨⟨h₁, tk, rfl⟩, hns, keep₁, hfr⟩, cell, apart, above⟩ := X
  have hL : (callEnvC (fnOf name qual params body scope dV kV doc pm an cdv ct) s.heap.objs.size f).locals = s.heap.objs.size := rfl
  have he : callEnvC (fnOf name qual params body scope dV kV doc pm an cdv ct) s.heap.objs.size f = envX qual scope s.heap.objs.size f cdv (cellsFrom (s.heap.objs.size + 1) scope.names []) := rfl
  rw [he] at *
  dsimp only at hns keep₁ hfr cell apart above hL ⊢
  have hnd' : ((cellsFrom (s.heap.objs.size + 1) scope.names []).map (·.1)).Nodup := by
    rw [cellsFrom_names scope.names (s.heap.objs.size + 1) [] [] rfl 0]; exact hnd
  have cellFresh : ∀ n c, (n, c) ∈ cellsFrom (s.heap.objs.size + 1) scope.names [] → V c = none ∧ c ≠ s.heap.objs.size := fun n c hm => by
    have hlt := above n c hm
    refine ⟨?_, Nat.ne_of_gt hlt⟩
    cases e : V c with
    | none => rfl
    | some x => exact absurd (Nat.lt_trans (G.lt e) hlt) (Nat.lt_irrefl _)
  have S₁ : St b₀ F s.heap.objs.size (addCells (bindC (fun x => scope.names.lookup x) binds fun _ => none) (cellsFrom (s.heap.objs.size + 1) scope.names []) V) (bindL (fun x => scope.names.lookup x) binds fun _ => none) h₁ := by
    have hlt := hns.lt
    have noCell : ∀ a, a ≤ s.heap.objs.size → V a = none → addCells (bindC (fun x => scope.names.lookup x) binds fun _ => none) (cellsFrom (s.heap.objs.size + 1) scope.names []) V a = none := fun a ha hv => by
      cases e : addCells (bindC (fun x => scope.names.lookup x) binds fun _ => none) (cellsFrom (s.heap.objs.size + 1) scope.names []) V a with
      | none => rfl
      | some x =>
        rcases addCells_get e with e1 | ⟨n, hm, _⟩
        · rw [hv] at e1; cases e1
        · exact absurd (Nat.lt_of_lt_of_le (above n a hm) ha) (Nat.lt_irrefl _)
    refine ⟨⟨fun a o e => keep₁ a o (G.keep a o e), Nat.le_trans G.size (Nat.le_of_lt hlt), fun a x e => ?_⟩, hns, G.size, noCell _ (Nat.le_refl _) G.fresh, fun a o e => ?_⟩
    · rcases addCells_get e with e1 | ⟨n, hm, rfl⟩
      · obtain ⟨p1, o, p2, p3⟩ := G.view a x e1
        exact ⟨p1, o, keep₁ a o p2, p3⟩
      · obtain ⟨o, p1, p2⟩ := cell n a (lookup_of_mem' hnd' hm)
        exact ⟨Nat.le_of_lt (Nat.lt_of_le_of_lt G.size (above n a hm)), o, p1, p2⟩
    · obtain ⟨p1, p2⟩ := fr a o e
      exact ⟨keep₁ a o p1, noCell a (Nat.le_of_lt (Heap.lt_size p1)) p2, Nat.ne_of_lt (Heap.lt_size p1)⟩
  refine h _ G.fresh cellFresh apart F (A.deeper (envX qual scope s.heap.objs.size f cdv (cellsFrom (s.heap.objs.size + 1) scope.names []))) _ _ _ ⟨hh, ?_, ?_⟩ S₁ fun fl m' V' h' tk' S' x => ?_
  · show A.depth + 1 + d < _; omega
  · show A.units + 3 + 20 * d + 17 < _; omega
  · obtain ⟨W, hs, x⟩ := x
    have z := q _ W h' tk' (hs.gl S'.gl) (fun a o e => ⟨(S'.frm a o e).1, hs.none (S'.frm a o e).2.1⟩) x
    cases fl <;> exact z

theorem looksFn {b₀ : Heap} {f : Addr} {fd : FuncData} (hf : FnAt b₀ f fd) (M : Model) (h : Heap) (hk : ∀ a o, b₀.get? a = some o → h.get? a = some o) : ∃ k, (k = Keeper.frame ∨ k = Keeper.machine ∨ k = Keeper.boundFrame) ∧ Looks M h (keeperOf (.ref f)) k := by
  obtain ⟨⟨o, ho, hd⟩, _⟩ := hf
  refine ⟨.frame, .inl rfl, (Looks.ld (part := none) (hk _ _ ho)).andThen ?_⟩
  rw [hd]; exact .now

noncomputable def KeepsF (C : Cx) (f : Value) : Prop := ∀ h : Heap, (∀ a o, C.b₀.get? a = some o → h.get? a = some o) → ∃ k, (k = Keeper.frame ∨ k = Keeper.machine ∨ k = Keeper.boundFrame) ∧ Looks (model C.prog C.w) h (keeperOf f) k
theorem KeepsF.fn {f : Addr} {fd : FuncData} (hf : FnAt C.b₀ f fd) : KeepsF C (.ref f) := fun h hk => looksFn hf _ h hk
theorem KeepsF.cls {K : Frag} {f : Value} (X : K.In C.b₀) (hk : keepIn K f = true) : KeepsF C f := fun h hb => by
  obtain ⟨k, a, b⟩ := looks_keep (M := model C.prog C.w) hk (X.keeps hb)
  exact ⟨k, a.elim .inl (fun e => .inr (.inl e)), b⟩

theorem WP.callWith_ref {pos : Pos} {f : Value} {first : List Value} {args : List Expr} {k : Value → Loc → View → Prop} (hf : KeepsF C f)
    (h : WP C (spliced (backTo pos (starEach args C.env))) m V fun vs m V => WP C (PySem.call f (first ++ vs)) m V k)
    (hp : (backTo pos (starEach args C.env)).any (·.1) = false := by rfl) :
    WP C (callWith pos f first (backTo pos (starEach args C.env)) []) m V k := by
  intro F A s Q E hA S q
  refine callWith_of (P := fun h => ∀ a o, C.b₀.get? a = some o → h.get? a = some o) (by rw [hp]; rfl) hf ?_
  cases hse : backTo pos (starEach args C.env) with
  | nil =>
    rw [hse] at h
    refine evalArgs_nil3 ⟨S.gl.keep, ?_⟩
    have z' := h F A s (fun vs s' => wpAny (model C.prog C.w) A (PySem.call f (first ++ vs)) Q E s') E hA S fun vs m' V' h' tk' S' x => x F A { s with heap := h', toks := tk' } Q E hA S' q
    exact fun Γ p hΓ => z' Γ p hΓ Γ p hΓ
  | cons t ts =>
    obtain ⟨b, t⟩ := t
    rw [hse] at h hp
    have hb : b = false := by
      rw [List.any_cons, Bool.or_eq_false_iff] at hp; exact hp.1
    subst hb
    exact evalArgs_plain (h F A s _ E hA S fun vs m' V' h' tk' S' x => ⟨S'.gl.keep, x F A { s with heap := h', toks := tk' } Q E hA S' q⟩)

theorem WP.callName {x : Str} {np pos : Pos} {args : List Expr} {k : Value → Loc → View → Prop}
    (h : WP C (eval (.Name x np) C.env) m V fun f m V => WP C (callWith pos f [] (backTo pos (starEach args C.env)) []) m V k) : WP C (eval (.Call (.Name x np) args [] pos) C.env) m V k :=
  fun F A s Q E hA S q => wpAny_Call_NameR (h F A s _ E hA S fun f m' V' h' tk' S' x => x F A { s with heap := h', toks := tk' } Q E hA S' q)
theorem WP.callWith_bi {pos : Pos} {id : String} {first : List Value} {args : List Expr} {k : Value → Loc → View → Prop}
    (h : WP C (spliced (backTo pos (starEach args C.env))) m V fun vs m V => WP C (PySem.call (.builtin id) (first ++ vs)) m V k)
    (hp : (backTo pos (starEach args C.env)).any (·.1) = false := by rfl) : WP C (callWith pos (.builtin id) first (backTo pos (starEach args C.env)) []) m V k := by
  intro F A s Q E hA S q
  refine callWith_builtin hp ?_
  cases hse : backTo pos (starEach args C.env) with
  | nil =>
    rw [hse] at h
    have z' := h F A s (fun vs s' => wpAny (model C.prog C.w) A (PySem.call (.builtin id) (first ++ vs)) Q E s') E hA S fun vs m' V' h' tk' S' x => x F A { s with heap := h', toks := tk' } Q E hA S' q
    exact PySem.evalArgs_none fun Γ p hΓ => z' Γ p hΓ Γ p hΓ
  | cons t ts =>
    obtain ⟨b, t⟩ := t
    rw [hse] at h hp
    have hb : b = false := by
      rw [List.any_cons, Bool.or_eq_false_iff] at hp; exact hp.1
    subst hb
    exact evalArgs_plain (h F A s _ E hA S fun vs m' V' h' tk' S' x => x F A { s with heap := h', toks := tk' } Q E hA S' q)
theorem WP.callWith_ty {pos : Pos} {T : String} {first : List Value} {args : List Expr} {k : Value → Loc → View → Prop}
    (h : WP C (spliced (backTo pos (starEach args C.env))) m V fun vs m V => WP C (PySem.call (.type T) (first ++ vs)) m V k)
    (hp : (backTo pos (starEach args C.env)).any (·.1) = false := by rfl) : WP C (callWith pos (.type T) first (backTo pos (starEach args C.env)) []) m V k := by
  intro F A s Q E hA S q
  refine PyProof.Rows.callWith_type hp ?_
  cases hse : backTo pos (starEach args C.env) with
  | nil =>
    rw [hse] at h
    have z' := h F A s (fun vs s' => wpAny (model C.prog C.w) A (PySem.call (.type T) (first ++ vs)) Q E s') E hA S fun vs m' V' h' tk' S' x => x F A { s with heap := h', toks := tk' } Q E hA S' q
    exact PySem.evalArgs_none fun Γ p hΓ => z' Γ p hΓ Γ p hΓ
  | cons t ts =>
    obtain ⟨b, t⟩ := t
    rw [hse] at h hp
    have hb : b = false := by
      rw [List.any_cons, Bool.or_eq_false_iff] at hp; exact hp.1
    subst hb
    exact evalArgs_plain (h F A s _ E hA S fun vs m' V' h' tk' S' x => x F A { s with heap := h', toks := tk' } Q E hA S' q)
/-- o.name(args) -/
theorem WP.method {o : Expr} {name : Str} {apos pos : Pos} {args : List Expr} {pl : Sem Bool} {k : Value → Loc → View → Prop}
    (h : WP C (eval o C.env) m V fun ov m V => WP C (getMethod ov name pl) m V fun fx m V => WP C (callWith pos fx.1 fx.2 (backTo pos (starEach args C.env)) []) m V k)
    (he : eval (.Call (.Attribute o name apos) args [] pos) C.env = (do
      let ov ← eval o C.env
      standAt apos.atName
      let (f, first) ← holding [ov] (getMethod ov name pl)
      callWith pos f first (backTo pos (starEach args C.env)) []) := by rfl) : WP C (eval (.Call (.Attribute o name apos) args [] pos) C.env) m V k :=
  fun F A s Q E hA S q => PyProof.Rows.MethodCall_ (h F A s _ E hA S fun ov m' V' h' tk' S' x => x F A { s with heap := h', toks := tk' } _ E hA S' fun fx m'' V'' h'' tk'' S'' y => y F A { s with heap := h'', toks := tk'' } Q E hA S'' q) he
end Mine
namespace Mine
open PySem PySem.Calls PyProof.Rows PySem.W
variable {C : Cx} {m : Loc} {V : View} {α β : Type} {prog : Program} {w : World} {b₀ : Heap}

section
variable {h : Heap} {F : Frm} {L : Addr}
theorem St.isL {l : Addr} {t : Nat} {xs : List Value} (S : St b₀ F L V m h) (e : V l = some (.lst t xs)) : ∃ n, IsL h l xs.toArray n := by
  obtain ⟨_, o, ho, n, rfl⟩ := S.gl.view l _ e
  exact ⟨n, ho⟩
theorem St.isT {l : Addr} {xs : List Value} (S : St b₀ F L V m h) (e : V l = some (.tup xs)) : ∃ n, IsT h l xs.toArray n := by
  obtain ⟨_, o, ho, n, rfl⟩ := S.gl.view l _ e
  exact ⟨n, ho⟩
theorem St.setL {l : Addr} {t t' : Nat} {xs ys : List Value} {n : Nat} (S : St b₀ F L V m h) (e : V l = some (.lst t xs)) (i : IsL h l xs.toArray n) (f : Array Value → Array Value) (hf : f xs.toArray = ys.toArray) :
    St b₀ F L (upd V l (.lst t' ys)) m (h.update l (Obj.mapSeq f)) := by
  have u := IsL.update i f
  rw [hf] at u
  exact S.set e (Heap.SameBut.update ..) u ⟨_, rfl⟩
end

theorem WP.getMethod_list {l : Addr} {t : Nat} {xs : List Value} {name : Str} {id : String} {pl : Sem Bool} {k : Value × List Value → Loc → View → Prop} (slot : Slot "list" name id) (hty : typeOf (.builtin id) = Pure.pure (.type "method_descriptor"))
    (e : V l = some (.lst t xs)) (h : k (.builtin id, [.ref l]) m V) : WP C (getMethod (.ref l) name pl) m V k :=
  fun F A s Q E hA S q => by
    obtain ⟨n, i⟩ := S.isL e
    exact getMethod_builtin ⟨_, i, rfl⟩ PySem.F.plainAttrs_list slot hty (fun a ea => by cases ea; exact ⟨_, i, rfl⟩) (q _ m V s.heap s.toks S h)
theorem WP.append {l : Addr} {t : Nat} {xs : List Value} {x : Value} {k : Value → Loc → View → Prop} (e : V l = some (.lst t xs)) (hz : xs.length ≤ sizeLine) (h : k Value.none m (upd V l (.lst t (xs ++ [x])))) :
    WP C (PySem.call (.builtin "list.append") [.ref l, x]) m V k :=
  fun F A s Q E hA S q => by
    obtain ⟨n, i⟩ := S.isL e
    refine call_meets PySem.F.slot_list_append ⟨_, i, rfl⟩ PySem.F.entry_list_append (PySem.F.args_list_append_2 _ _) (PySem.list_append l _ n x (by rw [List.size_toArray]; exact hz)) ⟨i, q _ m _ _ s.toks (S.setL e i _ ?_) h⟩
    simp
theorem WP.pop {l : Addr} {t : Nat} {p : List Value} {y : Value} {k : Value → Loc → View → Prop} (e : V l = some (.lst t (p ++ [y]))) (hz : p.length < sizeLine) (h : k y m (upd V l (.lst t p))) :
    WP C (PySem.call (.builtin "list.pop") [.ref l]) m V k :=
  fun F A s Q E hA S q => by
    obtain ⟨n, i⟩ := S.isL e
    have hk : (p ++ [y]).toArray.size - 1 = p.length := by rw [List.size_toArray, List.length_append]; rfl
    have hy : (p ++ [y]).toArray[(p ++ [y]).toArray.size - 1]? = some y := by rw [hk]; simp
    refine call_meets PySem.F.slot_list_pop ⟨_, i, rfl⟩ PySem.F.entry_list_pop (PySem.F.args_list_pop_1 _) (PySem.MeetsSeq.list_pop_last l _ n y hy (by rw [List.size_toArray, List.length_append]; exact hz)) ⟨i, q _ m _ _ s.toks (S.setL e i _ ?_) h⟩
    show (p ++ [y]).toArray.eraseIdxIfInBounds ((p ++ [y]).toArray.size - 1) = p.toArray
    rw [hk, kl_erase, List.append_nil]
theorem WP.reverse {l : Addr} {t : Nat} {xs : List Value} {k : Value → Loc → View → Prop} (e : V l = some (.lst t xs)) (hz : xs.length ≤ sizeLine) (h : k Value.none m (upd V l (.lst t xs.reverse))) :
    WP C (PySem.call (.builtin "list.reverse") [.ref l]) m V k :=
  fun F A s Q E hA S q => by
    obtain ⟨n, i⟩ := S.isL e
    refine call_meets PySem.F.slot_list_reverse ⟨_, i, rfl⟩ PySem.F.entry_list_reverse (PySem.F.args_list_reverse_1 _) (PySem.AutoSeq1.list_reverse_list_0 l _ n (by rw [List.size_toArray]; exact hz)) ⟨i, q _ m _ _ s.toks (S.setL e i _ ?_) h⟩
    simp
theorem WP.len_list {l : Addr} {t : Nat} {xs : List Value} {k : Value → Loc → View → Prop} (e : V l = some (.lst t xs)) (hz : (xs.length : Int) < 2 ^ 63) (h : ∀ tk, k (.int xs.length tk) m V) : WP C (PySem.call (.builtin "len") [.ref l]) m V k :=
  fun F A s Q E hA S q => by
    obtain ⟨n, i⟩ := S.isL e
    refine Calls.call_len_list i.isList (by rw [List.size_toArray]; exact hz) ?_
    have := q _ m V s.heap (s.toks + 1 + 1) S (h (s.toks + 1))
    rw [List.size_toArray]; exact this
theorem WP.len_tuple {l : Addr} {xs : List Value} {k : Value → Loc → View → Prop} (e : V l = some (.tup xs)) (hz : (xs.length : Int) < 2 ^ 63) (h : ∀ tk, k (.int xs.length tk) m V) : WP C (PySem.call (.builtin "len") [.ref l]) m V k :=
  fun F A s Q E hA S q => by
    obtain ⟨n, i⟩ := S.isT e
    refine PySem.P.len_tuple i (by rw [List.size_toArray]; omega) ?_
    have := q _ m V s.heap (s.toks + 1 + 1) S (h (s.toks + 1))
    rw [List.size_toArray]; exact this
theorem WP.truthy_list {l : Addr} {t : Nat} {xs : List Value} {k : Bool → Loc → View → Prop} (e : V l = some (.lst t xs)) (hz : (xs.length : Int) < 2 ^ 63) (h : k (!xs.isEmpty) m V) : WP C (truthy (.ref l)) m V k :=
  fun F A s Q E hA S q => by
    obtain ⟨n, i⟩ := S.isL e
    refine wpAny_truthy_list i.isList (by rw [List.size_toArray]; exact hz) ?_
    have := q _ m V s.heap (s.toks + 1 + 1) S h
    simpa using this
theorem WP.add_list {l b : Addr} {t t' : Nat} (u : Nat) {xs ys : List Value} {k : Value → Loc → View → Prop} (e : V l = some (.lst t xs)) (e' : V b = some (.lst t' ys)) (hz : xs.length + ys.length ≤ sizeLine)
    (h : ∀ a, V a = Option.none → k (.ref a) m (upd V a (.lst u (xs ++ ys)))) : WP C (binaryOp .Add (.ref l) (.ref b)) m V k :=
  fun F A s Q E hA S q => by
    obtain ⟨n, i⟩ := S.isL e
    obtain ⟨n', i'⟩ := S.isL e'
    refine PySem.P.add_list i i' ?_ (by rw [List.size_toArray, List.size_toArray]; exact hz)
    exact q _ m _ _ s.toks (S.push (x := .lst u (xs ++ ys)) rfl ⟨0, by simp⟩) (h _ S.fresh)
theorem WP.add_tuple {l b : Addr} {xs ys : List Value} {k : Value → Loc → View → Prop} (e : V l = some (.tup xs)) (e' : V b = some (.tup ys)) (hx : xs ≠ []) (hy : ys ≠ []) (hz : xs.length + ys.length ≤ sizeLine)
    (h : ∀ a, V a = Option.none → k (.ref a) m (upd V a (.tup (xs ++ ys)))) : WP C (binaryOp .Add (.ref l) (.ref b)) m V k :=
  fun F A s Q E hA S q => by
    obtain ⟨n, i⟩ := S.isT e
    obtain ⟨n', i'⟩ := S.isT e'
    refine PySem.P.add_tuple i i' (by simpa using hx) (by simpa using hy) ?_ (by rw [List.size_toArray, List.size_toArray]; exact hz)
    exact q _ m _ _ s.toks (S.push (x := .tup (xs ++ ys)) rfl ⟨0, by simp⟩) (h _ S.fresh)

theorem WP.add_int {a b : Int} {t u : Tok} {k : Value → Loc → View → Prop} (h : ∀ tk, k (.int (a + b) tk) m V) : WP C (binaryOp .Add (.int a t) (.int b u)) m V k :=
  fun F A s Q E hA S q => PyProof.Rows.add_int (q _ m V s.heap _ S (h _))
theorem WP.sub_int {a b : Int} {t u : Tok} {k : Value → Loc → View → Prop} (h : ∀ tk, k (.int (a - b) tk) m V) : WP C (binaryOp .Sub (.int a t) (.int b u)) m V k :=
  fun F A s Q E hA S q => PyProof.Rows.sub_int (q _ m V s.heap _ S (h _))
theorem WP.mod_int {a b : Int} {t u : Tok} {k : Value → Loc → View → Prop} (hb : b ≠ 0) (h : ∀ tk, k (.int (a.fmod b) tk) m V) : WP C (binaryOp .Mod (.int a t) (.int b u)) m V k :=
  fun F A s Q E hA S q => PyProof.Rows.mod_int hb (q _ m V s.heap _ S (h _))
theorem WP.floordiv_int {a b : Int} {t u : Tok} {k : Value → Loc → View → Prop} (hb : b ≠ 0) (hp : Builtin.divisionGoesByPylong a b = false) (h : ∀ tk, k (.int (a.fdiv b) tk) m V) : WP C (binaryOp .FloorDiv (.int a t) (.int b u)) m V k :=
  fun F A s Q E hA S q => PyProof.Rows.floordiv_int hb (q _ m V s.heap _ S (h _)) (.inl hp)
theorem WP.eq_int {a b : Int} {t u : Tok} {k : Value → Loc → View → Prop} (h : k (.bool (a == b)) m V) : WP C (compareOp .Eq (.int a t) (.int b u)) m V k :=
  fun F A s Q E hA S q => PyProof.Rows.eq_int (q _ m V s.heap s.toks S h)
theorem WP.lt_int {a b : Int} {t u : Tok} {k : Value → Loc → View → Prop} (h : k (.bool (decide (a < b))) m V) : WP C (compareOp .Lt (.int a t) (.int b u)) m V k :=
  fun F A s Q E hA S q => PyProof.Rows.lt_int (q _ m V s.heap s.toks S h)
theorem WP.gt_int {a b : Int} {t u : Tok} {k : Value → Loc → View → Prop} (h : k (.bool (decide (b < a))) m V) : WP C (compareOp .Gt (.int a t) (.int b u)) m V k :=
  fun F A s Q E hA S q => PyProof.Rows.gt_int (q _ m V s.heap s.toks S h)
theorem WP.ge_int {a b : Int} {t u : Tok} {k : Value → Loc → View → Prop} (h : k (.bool (decide (b ≤ a))) m V) : WP C (compareOp .GtE (.int a t) (.int b u)) m V k :=
  fun F A s Q E hA S q => PyProof.Rows.ge_int (q _ m V s.heap s.toks S h)
theorem WP.eq_str {a b : Str} {t u : Tok} {k : Value → Loc → View → Prop} (h : k (.bool (a == b)) m V) : WP C (compareOp .Eq (.str a t) (.str b u)) m V k :=
  fun F A s Q E hA S q => PyProof.Rows.eq_str (q _ m V s.heap s.toks S h)
theorem WP.is_none {v : Value} {k : Value → Loc → View → Prop} (h : k (.bool (v == .none)) m V) : WP C (compareOp .Is v .none) m V k :=
  fun F A s Q E hA S q => PySem.is_none (q _ m V s.heap s.toks S h)
theorem WP.abs_int {a : Int} {t : Tok} {k : Value → Loc → View → Prop} (h : ∀ tk, k (.int (if a < 0 then -a else a) tk) m V) : WP C (PySem.call (.builtin "abs") [.int a t]) m V k :=
  fun F A s Q E hA S q => PyProof.Rows.call_abs_int fun u tk => q _ m V s.heap tk S (h u)

theorem WP.subscript {value slice : Expr} {pos : Pos} {k : Value → Loc → View → Prop}
    (h : WP C (eval value C.env) m V fun o m V => WP C (eval slice C.env) m V fun i m V => WP C (subscriptTail value slice o i) m V k) : WP C (eval (.Subscript value slice pos) C.env) m V k :=
  fun F A s Q E hA S q => Subscript_ (h F A s _ E hA S fun a m' V' h' tk' S' x => x F A { s with heap := h', toks := tk' } _ E hA S' fun b m'' V'' h'' tk'' S'' y => y F A { s with heap := h'', toks := tk'' } _ E hA S'' q)
theorem WP.item_tuple {value slice : Expr} {t : Addr} {xs : List Value} {i : Int} {u : Tok} {x : Value} {k : Value → Loc → View → Prop} (e : V t = some (.tup xs)) (h0 : 0 ≤ i) (hi : i < 2 ^ 63) (hx : xs[i.toNat]? = some x) (h : k x m V)
    (hs : subscripted slice false (.ref t) (.int i u) = operate [.ref t, .int i u] (getItem (.ref t) (.int i u)) := by with_unfolding_all rfl) : WP C (subscriptTail value slice (.ref t) (.int i u)) m V k :=
  fun F A s Q E hA S q => by
    obtain ⟨n, it⟩ := S.isT e
    have hlt : i.toNat < xs.length := (List.getElem?_eq_some_iff.mp hx).1
    have h3 : i < xs.length := by omega
    have hj : seqIndex? i xs.length = some i.toNat := by unfold seqIndex?; rw [if_neg (Int.not_lt.mpr h0)]; simp [h0, h3]
    exact item_tupleT ⟨_, it, rfl, n, rfl⟩ (by omega) hi hj hx (q _ m V s.heap s.toks S h) hs
theorem WP.item_list {value slice : Expr} {l : Addr} {t : Nat} {xs : List Value} {i : Int} {u : Tok} {x : Value} {k : Value → Loc → View → Prop} (e : V l = some (.lst t xs)) (h0 : 0 ≤ i) (hi : i < 2 ^ 63) (hx : xs[i.toNat]? = some x) (h : k x m V)
    (hs : subscripted slice false (.ref l) (.int i u) = operate [.ref l, .int i u] (getItem (.ref l) (.int i u)) := by with_unfolding_all rfl) : WP C (subscriptTail value slice (.ref l) (.int i u)) m V k :=
  fun F A s Q E hA S q => by
    obtain ⟨n, it⟩ := S.isL e
    exact tail_any it.isList.typeIs slot_list_getitem.lookup (wpAny_getItem_list it.isList h0 hi (by simpa using hx) (q _ m V s.heap s.toks S h)) hs
theorem WP.get_list {l : Addr} {t : Nat} {xs : List Value} {i : Int} {u : Tok} {x : Value} {k : Value → Loc → View → Prop} (e : V l = some (.lst t xs)) (h0 : 0 ≤ i) (hi : i < 2 ^ 63) (hx : xs[i.toNat]? = some x) (h : k x m V) : WP C (getItem (.ref l) (.int i u)) m V k :=
  fun F A s Q E hA S q => by
    obtain ⟨n, it⟩ := S.isL e
    exact wpAny_getItem_list it.isList h0 hi (by simpa using hx) (q _ m V s.heap s.toks S h)
theorem WP.set_list {l : Addr} {t : Nat} {xs : List Value} {i : Int} {u : Tok} {x : Value} {k : Unit → Loc → View → Prop} (e : V l = some (.lst t xs)) (h0 : 0 ≤ i) (hi : i < 2 ^ 63) (hx : i < xs.length) (h : k () m (upd V l (.lst t (xs.set i.toNat x)))) :
    WP C (setItem (.ref l) (.int i u) x) m V k :=
  fun F A s Q E hA S q => by
    obtain ⟨n, it⟩ := S.isL e
    refine ki_setAt it h0 hi (by rw [List.size_toArray]; exact hx) (q () m _ _ s.toks (S.setL e it _ ?_) h)
    apply Array.toList_inj.mp
    simp
theorem WP.assign_sub {o i value : Expr} {p' pos : Pos} {k : Flow → Loc → View → Prop}
    (h : WP C (eval value C.env) m V fun v m V => WP C (eval o C.env) m V fun ov m V => WP C (eval i C.env) m V fun iv m V => WP C (setItem ov iv v) m V fun _ => k .next)
    (hs : swapsWith value (some (.Subscript o i p')) pos.line C.env = Pure.pure false := by rfl) : WP C (exec (.Assign [.Subscript o i p'] value pos) C.env) m V k :=
  fun F A s Q E hA S q => wpAny_Assign_Subscript (h F A s _ E hA S fun a m' V' h' tk' S' x => x F A { s with heap := h', toks := tk' } _ E hA S' fun b m'' V'' h'' tk'' S'' y => y F A { s with heap := h'', toks := tk'' } _ E hA S''
    fun c m3 V3 h3 tk3 S3 z => z F A { s with heap := h3, toks := tk3 } _ E hA S3 fun _ m4 V4 h4 tk4 S4 r => q .next m4 V4 h4 tk4 S4 r) hs
theorem WP.aug_sub {o i value : Expr} {op : Operator} {p' pos : Pos} {k : Flow → Loc → View → Prop}
    (h : WP C (eval o C.env) m V fun ov m V => WP C (eval i C.env) m V fun iv m V => WP C (getItem ov iv) m V fun old m V => WP C (eval value C.env) m V fun v m V => WP C (inplaceOp op old v) m V fun new m V => WP C (setItem ov iv new) m V fun _ => k .next)
    (ha : ∀ ov iv new, augStore i ov iv new = (do holding [new, ov, iv] (setItem ov iv new); release [new, ov, iv] []; Pure.pure .next) := by intro _ _ _; rfl) :
    WP C (exec (.AugAssign (.Subscript o i p') op value pos) C.env) m V k :=
  fun F A s Q E hA S q => wpAny_AugAssign_Subscript_any (h F A s _ E hA S fun a m' V' h' tk' S' x => x F A { s with heap := h', toks := tk' } _ E hA S' fun b m'' V'' h'' tk'' S'' y => y F A { s with heap := h'', toks := tk'' } _ E hA S''
    fun c m3 V3 h3 tk3 S3 z => z F A { s with heap := h3, toks := tk3 } _ E hA S3 fun d m4 V4 h4 tk4 S4 r => r F A { s with heap := h4, toks := tk4 } _ E hA S4 fun e m5 V5 h5 tk5 S5 r5 => r5 F A { s with heap := h5, toks := tk5 } _ E hA S5 fun _ m6 V6 h6 tk6 S6 r6 => q .next m6 V6 h6 tk6 S6 r6) ha
end Mine
namespace Mine
open PySem PySem.Calls PyProof.Rows PySem.W
variable {C : Cx} {m : Loc} {V : View} {α β : Type} {prog : Program} {w : World} {b₀ : Heap} {K : Frag}

structure AttrOk (K : Frag) (Cl : Addr) (name : Str) : Prop where
  get : plainGet K Cl name = true
  dict : hasDictIn K Cl = true
  find : findIn K (.ref Cl) name = some none
  set : findIn K (.ref Cl) "__setattr__" = some (some (.builtin "object.__setattr__"))
  over : plainOver K Cl = true
structure MethOk (K : Frag) (Cl : Addr) (name : Str) (f : Addr) : Prop where
  get : plainGet K Cl name = true
  find : findIn K (.ref Cl) name = some (some (.ref f))
  fn : isFn K (.ref f) = true
structure ClsOk (K : Frag) (Cl fI : Addr) : Prop where
  makes : makesIn K Cl = true
  init : findIn K (.ref Cl) "__init__" = some (some (.ref fI))
  fn : typeIn K (.ref fI) = some (.type "function")
  keep : keepIn K (.ref Cl) = true

noncomputable def putA (name : Str) (v : Value) : List (Str × Value) → List (Str × Value)
  | [] => [(name, v)]
  | (x, u) :: r => if x == name then (x, v) :: r else (x, u) :: putA name v r
theorem Att.put {name : Str} {hs : Int} {tk : Tok} {v : Value} {es : List DictEntry} {kvs : List (Str × Value)} (a : Att es kvs) : Att (putL name hs (.str name tk) v es) (putA name v kvs) := by
  induction a with
  | nil => exact .cons .nil
  | @cons x h' tk' u es kvs _ ih =>
    unfold putL putA
    show Att (if (x == name) = true then _ else _) (if (x == name) = true then _ else _)
    split
    · exact .cons (by assumption)
    · exact .cons ih
theorem Att.length {es : List DictEntry} {kvs : List (Str × Value)} (a : Att es kvs) : es.length = kvs.length := by
  induction a with
  | nil => rfl
  | cons _ ih => simp [ih]
theorem Att.noRef {es : List DictEntry} {kvs : List (Str × Value)} (a : Att es kvs) : es.any (·.refKey) = false := by
  induction a with
  | nil => rfl
  | cons _ ih => rw [List.any_cons, ih]; rfl
theorem Att.getL {name : Str} {es : List DictEntry} {kvs : List (Str × Value)} (a : Att es kvs) : PySem.W.getL name es = some (kvs.lookup name) := by
  have key : (es.find? (·.key.isStr name)).map (·.val) = kvs.lookup name := by
    induction a with
    | nil => rfl
    | @cons x h' tk' u es kvs _ ih =>
      rw [List.find?_cons, List.lookup_cons]
      have e : Value.isStr (.str x tk') name = (x == name) := rfl
      simp only [e]
      by_cases hx : x = name
      · subst hx; simp
      · have h1 : (x == name) = false := beq_eq_false_iff_ne.mpr hx
        have h2 : (name == x) = false := beq_eq_false_iff_ne.mpr (Ne.symm hx)
        simp only [h1, h2]; exact ih
  unfold PySem.W.getL
  cases h : es.find? (·.key.isStr name) with
  | none => rw [h] at key; dsimp only; rw [if_neg (by rw [a.noRef]; exact Bool.false_ne_true), ← key]; rfl
  | some e => rw [h] at key; dsimp only; rw [← key]; rfl

section
variable {h : Heap} {F : Frm} {L : Addr}
theorem St.inst {x d Cl : Addr} {t : Nat} {kvs : List (Str × Value)} (S : St b₀ F L V m h) (e : V x = some (.inst Cl d)) (ed : V d = some (.att t kvs)) :
    ∃ es n, Att es kvs ∧ h.get? d = some (dictOf es n) ∧ PySem.W.InstAt h x (instObj Cl d) Cl (some (dictOf es n)) := by
  obtain ⟨_, o, ho, rfl⟩ := S.gl.view x _ e
  obtain ⟨_, o', ho', es, n, a, rfl⟩ := S.gl.view d _ ed
  exact ⟨es, n, a, ho', ⟨ho, rfl, rfl, ho'⟩⟩

noncomputable def othersOf (b₀ : Heap) (L d : Addr) (h : Heap) : List (Addr × Obj) := (List.range h.objs.size).filterMap fun a => if a = d ∨ a = L ∨ (b₀.get? a).isSome = true then none else (h.get? a).map fun o => (a, o)
theorem others_mem {L d : Addr} {a : Addr} {o : Obj} : (a, o) ∈ othersOf b₀ L d h ↔ h.get? a = some o ∧ a ≠ d ∧ a ≠ L ∧ b₀.get? a = none := by
  unfold othersOf
  rw [List.mem_filterMap]
  constructor
  · rintro ⟨b, hb, e⟩
    split at e
    · cases e
    · rename_i hn
      obtain ⟨o', h1, h2⟩ := Option.map_eq_some_iff.mp e
      cases h2
      simp only [not_or] at hn
      exact ⟨h1, hn.1, hn.2.1, by simpa using hn.2.2⟩
  · rintro ⟨h1, h2, h3, h4⟩
    refine ⟨a, List.mem_range.mpr (Heap.lt_size h1), ?_⟩
    rw [if_neg (by simp [h2, h3, h4]), h1]; rfl
theorem St.others {d : Addr} {o : Obj} {y : AO} (S : St b₀ F L V m h) (e : V d = some y) (ho : h.get? d = some o) : News b₀ L h (othersOf b₀ L d h ++ [(d, o)]) := by
  intro p hp
  rcases List.mem_append.mp hp with hp | hp
  · obtain ⟨a, q⟩ := p
    obtain ⟨h1, h2, h3, h4⟩ := others_mem.mp hp
    exact ⟨h1, h3, h4⟩
  · rw [List.mem_singleton.mp hp]
    refine ⟨ho, fun q => ?_, ?_⟩
    · have q' : d = L := q
      subst q'; rw [S.off] at e; cases e
    · cases q : b₀.get? d with
      | none => rfl
      | some o' => exact absurd (Nat.lt_of_lt_of_le (Heap.lt_size q) (S.gl.view d y e).1) (Nat.lt_irrefl _)
theorem St.after {d : Addr} {o' : Obj} {x y : AO} {h' : Heap} {m' : Loc} (S : St b₀ F L V m h) (e : V d = some y) (F' : Fr b₀ L h' m') (N' : News b₀ L h' (othersOf b₀ L d h ++ [(d, o')])) (D : Den x o') : St b₀ F L (upd V d x) m' h' := by
  have hd : h'.get? d = some o' := (N' (d, o') (by simp)).1
  have keep : ∀ a ob, a ≠ d → a ≠ L → h.get? a = some ob → h'.get? a = some ob := fun a ob h1 h2 h3 => by
    cases q : b₀.get? a with
    | none => exact (N' (a, ob) (List.mem_append.mpr (.inl (others_mem.mpr ⟨h3, h1, h2, q⟩)))).1
    | some o2 => have z := (S.gl.keep a o2 q).symm.trans h3; cases z; exact F'.keep a _ q
  have hb := (S.gl.view d y e).1
  have hLd : L ≠ d := by rintro rfl; rw [S.off] at e; cases e
  refine ⟨⟨F'.keep, Nat.le_trans F'.above (Nat.le_of_lt F'.ns.lt), fun a z q => ?_⟩, F'.ns, F'.above, by rw [upd_ne hLd]; exact S.off, fun a ob q => ?_⟩
  · by_cases ha : a = d
    · subst ha; rw [upd_self] at q; cases q; exact ⟨hb, o', hd, D⟩
    · rw [upd_ne ha] at q
      obtain ⟨p1, ob, p2, p3⟩ := S.gl.view a z q
      exact ⟨p1, ob, keep a ob ha (fun e' => by subst e'; rw [S.off] at q; cases q) p2, p3⟩
  · obtain ⟨p1, p2, p3⟩ := S.frm a ob q
    have ha : a ≠ d := by rintro rfl; rw [p2] at e; cases e
    exact ⟨keep a ob ha p3 p1, by rw [upd_ne ha]; exact p2, p3⟩
end

theorem WP.attr {value : Expr} {attr : Str} {pos : Pos} {k : Value → Loc → View → Prop}
    (h : WP C (eval value C.env) m V fun o m V => WP C (getAttr o attr true) m V k)
    (he : eval (.Attribute value attr pos) C.env = (do
      let o ← eval value C.env
      standAt pos.atName
      let r ← holding [o] (getAttr o attr true)
      letTemporaryGo value o r
      Pure.pure r) := by with_unfolding_all rfl) : WP C (eval (.Attribute value attr pos) C.env) m V k :=
  fun F A s Q E hA S q => Attribute_any_ (h F A s _ E hA S fun a m' V' h' tk' S' x => x F A { s with heap := h', toks := tk' } Q E hA S' q) he
theorem WP.getAttr {x d Cl : Addr} {t : Nat} {kvs : List (Str × Value)} {attr : Str} {v : Value} {b : Bool} {k : Value → Loc → View → Prop} (X : K.In C.b₀) (O : AttrOk K Cl attr) (e : V x = some (.inst Cl d)) (ed : V d = some (.att t kvs)) (hv : kvs.lookup attr = some v) (hh : handedIn v = true)
    (h : k v m V) : WP C (PySem.getAttr (.ref x) attr b) m V k :=
  fun F A s Q E hA S q => by
    obtain ⟨es, n, a, hd, I⟩ := S.inst e ed
    exact get_own S.toFr X I O.get O.dict O.find rfl (by rw [a.getL, hv]) hh (q _ m V s.heap _ S h)
theorem WP.setAttr {x d Cl : Addr} {t : Nat} {kvs : List (Str × Value)} {attr : Str} {v : Value} {k : Unit → Loc → View → Prop} (X : K.In C.b₀) (O : AttrOk K Cl attr) (e : V x = some (.inst Cl d)) (ed : V d = some (.att t kvs))
    (hz : (putA attr v kvs).length ≤ 1000) (h : k () m (upd V d (.att t (putA attr v kvs)))) : WP C (PySem.setAttr (.ref x) attr v) m V k :=
  fun F A s Q E hA S q => by
    obtain ⟨es, n, a, hd, I⟩ := S.inst e ed
    refine PySem.W.set_dict S.toFr X (S.others ed hd) I rfl O.set O.over (by unfold takerIn; rw [O.find]; rfl) O.dict (by rw [a.getL]; rfl) rfl (n' := putN attr es n) (es' := putL attr (PyData.keyHash C.w.params attr) (.str attr (s.toks + 1)) v es)
      (news' := othersOf C.b₀ C.env.locals d s.heap ++ [(d, dictOf (putL attr (PyData.keyHash C.w.params attr) (.str attr (s.toks + 1)) v es) (putN attr es n))]) ?_ ?_ fun h' F' N' => ?_
    · have off : ∀ p ∈ othersOf C.b₀ C.env.locals d s.heap, p.1 ≠ d := fun p hp => (others_mem (a := p.1) (o := p.2).mp hp).2.1
      revert off
      generalize othersOf C.b₀ C.env.locals d s.heap = l
      intro off
      induction l with
      | nil => exact .head fun p hp => nomatch hp
      | cons p r ih => exact .tail (off p (.head _)) (ih fun q hq => off q (.tail _ hq))
    · rw [(a.put (hs := PyData.keyHash C.w.params attr) (tk := s.toks + 1)).length]; exact hz
    · exact q () m _ h' _ (S.after (x := .att t (putA attr v kvs)) ed F' N' ⟨_, _, a.put, rfl⟩) h
theorem WP.assign_attr {o value : Expr} {attr : Str} {p' pos : Pos} {k : Flow → Loc → View → Prop}
    (h : WP C (eval value C.env) m V fun v m V => WP C (eval o C.env) m V fun ov m V => WP C (PySem.setAttr ov attr v) m V fun _ => k .next)
    (hs : swapsWith value (some (.Attribute o attr p')) pos.line C.env = Pure.pure false := by rfl) : WP C (exec (.Assign [.Attribute o attr p'] value pos) C.env) m V k :=
  fun F A s Q E hA S q => plainObj_wpAny_Assign_Attribute (h F A s _ E hA S fun a m' V' h' tk' S' x => x F A { s with heap := h', toks := tk' } _ E hA S' fun b m'' V'' h'' tk'' S'' y => y F A { s with heap := h'', toks := tk'' } _ E hA S'' fun _ m3 V3 h3 tk3 S3 z => q .next m3 V3 h3 tk3 S3 z) hs
theorem WP.getMethod_inst {x d Cl f : Addr} {t : Nat} {kvs : List (Str × Value)} {name : Str} {pl : Sem Bool} {k : Value × List Value → Loc → View → Prop} (X : K.In C.b₀) (O : MethOk K Cl name f) (e : V x = some (.inst Cl d)) (ed : V d = some (.att t kvs)) (hv : kvs.lookup name = Option.none)
    (h : k (.ref f, [.ref x]) m V) : WP C (getMethod (.ref x) name pl) m V k :=
  fun F A s Q E hA S q => by
    obtain ⟨es, n, a, hd, I⟩ := S.inst e ed
    exact method_inst S.toFr X I O.get O.find O.fn (by rw [a.getL, hv]) (q _ m V s.heap s.toks S h)

/-- an object of an own class -/
theorem WP.callCls {Cl fI : Addr} {d : Nat} {args : List Value} (t : Nat) {post : Addr → View → Prop} {k : Value → Loc → View → Prop} (X : K.In C.b₀) (O : ClsOk K Cl fI)
    (h : ∀ x dx, V x = Option.none → V dx = Option.none → x ≠ dx → Fn C.prog C.w C.b₀ d (upd (upd V dx (.att t [])) x (.inst Cl dx)) (.ref fI) (.ref x :: args) fun v V' => v = .none ∧ post x V')
    (hd : d + 1 ≤ C.d) (hk : ∀ x V', post x V' → k (.ref x) m V') : WP C (PySem.call (.ref Cl) args) m V k := by
  intro F A s Q E hA S q
  refine wpAny_call ?_
  obtain ⟨hh, g, dr, tk, os⟩ := s
  refine make_core (makes_of (X.keeps S.gl.keep) O.makes) (looks_findIn (X.keeps S.gl.keep) O.init) (fun self => bind_fn (X.keeps S.gl.keep) self O.fn) (.inl rfl) ?_
  have S1 : St C.b₀ F C.env.locals (upd V hh.objs.size (.att t [])) m (hh.push emptyDict) := S.push (x := .att t []) (o := emptyDict) rfl ⟨[], 0, .nil, rfl⟩
  have hsz : (hh.push emptyDict).objs.size = hh.objs.size + 1 := Heap.size_push ..
  have S2 : St C.b₀ F C.env.locals (upd (upd V hh.objs.size (.att t [])) (hh.objs.size + 1) (.inst Cl hh.objs.size)) m ((hh.push emptyDict).push (instObj Cl hh.objs.size)) := by
    have := S1.push (x := .inst Cl hh.objs.size) (o := instObj Cl hh.objs.size) rfl rfl
    rwa [hsz] at this
  have n1 : V hh.objs.size = Option.none := S.fresh
  have n2 : V (hh.objs.size + 1) = Option.none := by
    cases e : V (hh.objs.size + 1) with
    | none => rfl
    | some y => exact absurd (S.gl.lt e) (by show ¬ hh.objs.size + 1 < hh.objs.size; omega)
  have hw : (Code.builtin "type.__call__" ⟨.ref Cl :: args, []⟩).weight = 1 := rfl
  have hu : (Code.builtin "type.__call__" ⟨.ref Cl :: args, []⟩).cUnits ≤ 10 := by show (1 : Nat) ≤ 10 ; decide
  refine h (hh.objs.size + 1) hh.objs.size n2 n1 (Nat.succ_ne_self _) _ _ _ _ ?_ ?_ ?_ S2.gl S2.toFrm fun v V' h' tk' G' fr' p => ?_
  · exact hA.1
  · show A.depth + (Code.builtin "type.__call__" ⟨.ref Cl :: args, []⟩).weight + d < _
    rw [hw]; have := hA.2.1; omega
  · show A.units + (Code.builtin "type.__call__" ⟨.ref Cl :: args, []⟩).cUnits + 20 * d < _
    have := hA.2.2; omega
  · obtain ⟨rfl, p⟩ := p
    exact ⟨rfl, q _ m V' h' tk' (S2.back G' fr') (hk _ V' p)⟩
end Mine
namespace Mine
open PySem PySem.Calls PyProof.Rows PySem.W
variable {C : Cx} {m : Loc} {V : View} {α β : Type} {prog : Program} {w : World} {b₀ : Heap} {K : Frag}

theorem WP.while {test : Expr} {body orelse : List Stmt} {pos : Pos} {k : Flow → Loc → View → Prop} (I : Nat → Loc → View → Prop) (n : Nat) (h0 : I n m V)
    (turn : ∀ n m V, I n m V → WP C (isTrue test C.env (eval test C.env)) m V fun b m V => if b then WP C (execs body C.env) m V (fun f m V => match f with
      | .next => ∃ n', n' < n ∧ I n' m V
      | .cont => ∃ n', n' < n ∧ I n' m V
      | .brk => k .next m V
      | .ret v => k (.ret v) m V) else WP C (execs orelse C.env) m V k) : WP C (exec (.While test body orelse pos) C.env) m V k := by
  intro F A s Q E hA S q
  refine wpAny_While (codeAny_whileLoop (fun n s' => ∃ h tk m V, s' = { s with heap := h, toks := tk } ∧ St C.b₀ F C.env.locals V m h ∧ I n m V) ?_ n ⟨s.heap, s.toks, m, V, rfl, S, h0⟩)
  rintro n _ ⟨h, tk, m, V, rfl, S, hI⟩
  refine turn n m V hI F A _ _ _ hA S fun b m' V' h' tk' S' x => ?_
  cases b with
  | false => exact x F A { s with heap := h', toks := tk' } _ _ hA S' fun f m'' V'' h'' tk'' S'' y => q f m'' V'' h'' tk'' S'' y
  | true =>
    refine x F A { s with heap := h', toks := tk' } _ _ hA S' fun f m'' V'' h'' tk'' S'' y => ?_
    cases f with
    | next => obtain ⟨n', hn, hI'⟩ := y; exact ⟨n', hn, h'', tk'', m'', V'', rfl, S'', hI'⟩
    | cont => obtain ⟨n', hn, hI'⟩ := y; exact ⟨n', hn, h'', tk'', m'', V'', rfl, S'', hI'⟩
    | brk => exact q .next m'' V'' h'' tk'' S'' y
    | ret v => exact q (.ret v) m'' V'' h'' tk'' S'' y

theorem St.extBut {h h' : Heap} {F : Frm} {L I : Addr} (S : St b₀ F L V m h) (he : Heap.ExtBut I h h') (FI : F I = none) (bI : b₀.objs.size ≤ I) (LI : L ≠ I) (VI : V I = none) : St b₀ F L V m h' := by
  have hns : h'.Ns L m := S.ns.extBut he LI
  refine ⟨⟨fun a o e => he a o (Nat.ne_of_lt (Nat.lt_of_lt_of_le (Heap.lt_size e) bI)) (S.gl.keep a o e), Nat.le_trans S.above (Nat.le_of_lt hns.lt), fun a x e => ?_⟩, hns, S.above, S.off, fun a o e => ?_⟩
  · obtain ⟨p1, o, p2, p3⟩ := S.gl.view a x e
    exact ⟨p1, o, he a o (fun q => by subst q; rw [VI] at e; cases e) p2, p3⟩
  · obtain ⟨p1, p2, p3⟩ := S.frm a o e
    exact ⟨he a o (fun q => by subst q; rw [FI] at e; cases e) p1, p2, p3⟩
/-- hide an object that the view does not know in the frame -/
theorem St.hide {h : Heap} {F : Frm} {L I : Addr} {o : Obj} (S : St b₀ F L V m h) (LI : L ≠ I) (VI : V I = none) (ho : h.get? I = some o) : St b₀ (fun a => if a = I then some o else F a) L V m h :=
  ⟨S.gl, S.ns, S.above, S.off, fun a o' e => by
    by_cases ha : a = I
    · subst ha; rw [if_pos rfl] at e; cases e; exact ⟨ho, VI, Ne.symm LI⟩
    · rw [if_neg ha] at e; exact S.frm a o' e⟩
theorem St.unhide {h : Heap} {F : Frm} {L I : Addr} {o : Obj} (S : St b₀ (fun a => if a = I then some o else F a) L V m h) (FI : F I = none) : St b₀ F L V m h ∧ h.get? I = some o ∧ V I = none := by
  have z := S.frm I o (by simp)
  refine ⟨⟨S.gl, S.ns, S.above, S.off, fun a o' e => S.frm a o' ?_⟩, z.1, z.2.1⟩
  rw [if_neg (fun q => by subst q; rw [FI] at e; cases e)]; exact e

noncomputable def endFor (J : Loc → View → Prop) (k : Flow → Loc → View → Prop) : Flow → Loc → View → Prop
  | .next => J
  | .cont => J
  | .brk => k .next
  | .ret v => k (.ret v)

theorem for_core {F : Frm} {A : Around} {s : Shared} {Q : Flow → Shared → Prop} {E : Value → Shared → Prop} {I : Addr} {n : Nat} {At : Nat → Obj → Prop} {item : Nat → Value → Prop} {G : View → Prop} {J : Nat → Loc → View → Prop}
    {k : Flow → Loc → View → Prop} {x : Str} {px : Pos} {body : List Stmt} {o : Obj} (hA : C.Ok A) (FI : F I = none) (bI : C.b₀.objs.size ≤ I) (LI : C.env.locals ≠ I)
    (S : St C.b₀ F C.env.locals V m s.heap) (VI : V I = none) (ho : s.heap.get? I = some o) (hat : At 0 o) (hJ : J 0 m V) (hG : ∀ i m V, J i m V → G V)
    (nx : ∀ i (s : Shared) (Q : Option Value → Shared → Prop) (E : Value → Shared → Prop) o V m, St C.b₀ F C.env.locals V m s.heap → G V → s.heap.get? I = some o → At i o → i < n →
      (∀ v h' tk o', item i v → h'.get? I = some o' → At (i + 1) o' → Heap.SameBut I s.heap h' → Q (some v) { s with heap := h', toks := tk }) → wpAny (model C.prog C.w) A (pyNext (.ref I)) Q E s)
    (dn : ∀ (s : Shared) (Q : Option Value → Shared → Prop) (E : Value → Shared → Prop) o V m, St C.b₀ F C.env.locals V m s.heap → G V → s.heap.get? I = some o → At n o →
      (∀ h' tk, Heap.ExtBut I s.heap h' → Q none { s with heap := h', toks := tk }) → wpAny (model C.prog C.w) A (pyNext (.ref I)) Q E s)
    (turn : ∀ i v m V, i < n → item i v → J i m V → WP C (storeName C.env x v) m V fun _ m V => WP C (execs body C.env) m V (endFor (J (i + 1)) k))
    (fin : ∀ m V, J n m V → k .next m V)
    (q : ∀ a m' V' h' tk', St C.b₀ F C.env.locals V' m' h' → k a m' V' → Q a { s with heap := h', toks := tk' }) :
    codeAny (model C.prog C.w) A (.forLoop (.Name x px) (.ref I) body [] C.env) (fun r s' => match r with | .ok f => Q f s' | .error e => cameBackBy (model C.prog C.w) A C.env E e s') s := by
  refine codeAny_forLoop (fun r s' => ∃ i h tk m V o, s' = { s with heap := h, toks := tk } ∧ St C.b₀ F C.env.locals V m h ∧ V I = none ∧ h.get? I = some o ∧ At i o ∧ J i m V ∧ i ≤ n ∧ r = n - i) ?_ n
    ⟨0, s.heap, s.toks, m, V, o, rfl, S, VI, ho, hat, hJ, Nat.zero_le _, rfl⟩
  rintro r _ ⟨i, h, tk, m, V, o, rfl, S, VI, ho, hat, hJ, hi, rfl⟩
  by_cases hlt : i < n
  · refine nx i _ _ _ o V m S (hG _ _ _ hJ) ho hat hlt fun v h' tk' o' hv ho' hat' hs => ?_
    have S' : St C.b₀ F C.env.locals V m h' := S.extBut hs.extBut FI bI LI VI
    refine wpAny_bind (m := standAt px) (wpAny_standAt (wpAny_bindName ?_))
    refine turn i v m V hlt hv hJ (fun a => if a = I then some o' else F a) A { s with heap := h', toks := tk' } _ _ hA (S'.hide LI VI ho') fun _ m1 V1 h1 tk1 S1 x1 => ?_
    refine x1 (fun a => if a = I then some o' else F a) A { s with heap := h1, toks := tk1 } _ _ hA S1 fun f m2 V2 h2 tk2 S2 x2 => ?_
    obtain ⟨S3, ho3, VI3⟩ := S2.unhide FI
    cases f with
    | next => exact ⟨n - (i + 1), by omega, i + 1, h2, tk2, m2, V2, o', rfl, S3, VI3, ho3, hat', x2, hlt, rfl⟩
    | cont => exact ⟨n - (i + 1), by omega, i + 1, h2, tk2, m2, V2, o', rfl, S3, VI3, ho3, hat', x2, hlt, rfl⟩
    | brk => exact q .next m2 V2 h2 tk2 S3 x2
    | ret v => exact q (.ret v) m2 V2 h2 tk2 S3 x2
  · have hin : i = n := by omega
    subst hin
    refine dn _ _ _ o V m S (hG _ _ _ hJ) ho hat fun h' tk' he => ?_
    exact wpAny_execs_nil (q .next m V h' tk' (S.extBut he FI bI LI VI) (fin m V hJ))

theorem St.newI {h : Heap} {F : Frm} {L : Addr} (S : St b₀ F L V m h) : F h.objs.size = none ∧ b₀.objs.size ≤ h.objs.size ∧ L ≠ h.objs.size ∧ V h.objs.size = none := by
  refine ⟨?_, S.gl.size, Nat.ne_of_lt S.ns.lt, S.fresh⟩
  cases e : F h.objs.size with
  | none => rfl
  | some o => exact absurd (Heap.lt_size (S.frm _ o e).1) (Nat.lt_irrefl _)
theorem St.pushHid {h : Heap} {F : Frm} {L : Addr} (S : St b₀ F L V m h) (o : Obj) : St b₀ F L V m (h.push o) := by
  refine ⟨⟨fun a o' e => Heap.get?_push_of_some _ (S.gl.keep a o' e), by rw [Heap.size_push]; exact Nat.le_succ_of_le S.gl.size, fun a x e => ?_⟩, S.ns.push o, S.above, S.off, fun a o' e => ?_⟩
  · obtain ⟨p1, o', p2, p3⟩ := S.gl.view a x e
    exact ⟨p1, o', Heap.get?_push_of_some _ p2, p3⟩
  · obtain ⟨p1, p2, p3⟩ := S.frm a o' e
    exact ⟨Heap.get?_push_of_some _ p1, p2, p3⟩

theorem WP.for_list {x : Str} {px pos : Pos} {iter : Expr} {body : List Stmt} {k : Flow → Loc → View → Prop}
    (h : WP C (eval iter C.env) m V fun v m V => ∃ l t xs, v = .ref l ∧ ∃ J : Nat → Loc → View → Prop, J 0 m V ∧ (∀ i m V, J i m V → V l = some (.lst t xs)) ∧
      (∀ i v m V, xs[i]? = some v → J i m V → WP C (storeName C.env x v) m V fun _ m V => WP C (execs body C.env) m V (endFor (J (i + 1)) k)) ∧ (∀ m V, J xs.length m V → k .next m V))
    (hs : ∀ y, foldedSetIterable iter C.env y = Pure.pure y := by intro _; rfl) : WP C (exec (.For (.Name x px) iter body [] pos) C.env) m V k := by
  intro F A s Q E hA S q
  refine wpAny_For (h F A s _ E hA S ?_) hs
  rintro v m V h tk S ⟨l, t, xs, rfl, J, hJ, hG, turn, fin⟩
  obtain ⟨nn, i⟩ := S.isL (hG _ _ _ hJ)
  refine wpAny_pyIter_list i.isList ?_
  obtain ⟨FI, bI, LI, VI⟩ := S.newI
  refine for_core (n := xs.length) (item := fun i v => xs[i]? = some v) (At := fun i o => o.cls = .type "list_iterator" ∧ o.data = .fields #[.ref l, .int i 0]) (G := fun V => V l = some (.lst t xs))
    hA FI bI LI (S.pushHid _) VI (Heap.get?_push_size _ rfl) ⟨rfl, rfl⟩ hJ hG ?_ ?_ (fun i v m V _ hv hJ => turn i v m V hv hJ) fin fun a m' V' h' tk' S' x => q a m' V' h' tk' S' x
  · intro i s Q E o V m S hl ho hat hlt hQ
    obtain ⟨nn, il⟩ := S.isL hl
    refine wpAny_pyNext_list_item (x := xs[i]) (l := l) ⟨o, ho, hat⟩ il.isList (by simp [hlt]) fun h' hit hs => ?_
    obtain ⟨o', ho', hat'⟩ := hit
    exact hQ _ h' s.toks o' (by simp [hlt]) ho' hat' hs
  · intro s Q E o V m S hl ho hat hQ
    obtain ⟨nn, il⟩ := S.isL hl
    exact wpAny_pyNext_list_end (l := l) hA.1 ⟨o, ho, hat⟩ il.isList (by simp) fun h' he => hQ h' s.toks he

theorem WP.for_tuple {x : Str} {px pos : Pos} {iter : Expr} {body : List Stmt} {k : Flow → Loc → View → Prop}
    (h : WP C (eval iter C.env) m V fun v m V => ∃ l xs, v = .ref l ∧ ∃ J : Nat → Loc → View → Prop, J 0 m V ∧ (∀ i m V, J i m V → V l = some (.tup xs)) ∧
      (∀ i v m V, xs[i]? = some v → J i m V → WP C (storeName C.env x v) m V fun _ m V => WP C (execs body C.env) m V (endFor (J (i + 1)) k)) ∧ (∀ m V, J xs.length m V → k .next m V))
    (hs : ∀ y, foldedSetIterable iter C.env y = Pure.pure y := by intro _; rfl) : WP C (exec (.For (.Name x px) iter body [] pos) C.env) m V k := by
  intro F A s Q E hA S q
  refine wpAny_For (h F A s _ E hA S ?_) hs
  rintro v m V h tk S ⟨l, xs, rfl, J, hJ, hG, turn, fin⟩
  obtain ⟨nn, i⟩ := S.isT (hG _ _ _ hJ)
  refine wpAny_pyIter_tuple (items := xs.toArray) ⟨_, i, rfl, nn, rfl⟩ ?_
  obtain ⟨FI, bI, LI, VI⟩ := S.newI
  refine for_core (n := xs.length) (item := fun i v => xs[i]? = some v) (At := fun i o => o.cls = .type "tuple_iterator" ∧ o.data = .fields #[.ref l, .int i 0]) (G := fun V => V l = some (.tup xs))
    hA FI bI LI (S.pushHid _) VI (Heap.get?_push_size _ rfl) ⟨rfl, rfl⟩ hJ hG ?_ ?_ (fun i v m V _ hv hJ => turn i v m V hv hJ) fin fun a m' V' h' tk' S' x => q a m' V' h' tk' S' x
  · intro i s Q E o V m S hl ho hat hlt hQ
    obtain ⟨nn, il⟩ := S.isT hl
    refine wpAny_pyNext_tuple_item (x := xs[i]) (t := l) (items := xs.toArray) ⟨o, ho, hat⟩ ⟨_, il, rfl, nn, rfl⟩ (by simp [hlt]) fun h' hit hs => ?_
    obtain ⟨o', ho', hat'⟩ := hit
    exact hQ _ h' s.toks o' (by simp [hlt]) ho' hat' hs
  · intro s Q E o V m S hl ho hat hQ
    obtain ⟨nn, il⟩ := S.isT hl
    exact wpAny_pyNext_tuple_end (t := l) (items := xs.toArray) hA.1 ⟨o, ho, hat⟩ ⟨_, il, rfl, nn, rfl⟩ (by simp) fun h' he => hQ h' s.toks he

/-- a range of step c, its object lies in the view -/
noncomputable def rangeLen (a b c : Int) : Nat := (Builtin.Range.rangeSize a b c).toNat
theorem WP.for_range {x : Str} {px pos : Pos} {iter : Expr} {body : List Stmt} {k : Flow → Loc → View → Prop}
    (h : WP C (eval iter C.env) m V fun v m V => ∃ r t a b c t1 t2 t3, v = .ref r ∧ V r = some (.raw { cls := .type "range", data := .fields #[.int a t1, .int b t2, .int c t3] }) ∧ Builtin.Range.small a b c = true ∧ 0 ≤ Builtin.Range.rangeSize a b c ∧
      ∃ J : Nat → Loc → View → Prop, J 0 m V ∧
      (∀ i tk m V, i < rangeLen a b c → J i m V → WP C (storeName C.env x (.int (a + i * c) tk)) m V fun _ m V => WP C (execs body C.env) m V (endFor (J (i + 1)) k)) ∧ (∀ m V, J (rangeLen a b c) m V → k .next m V) ∧ t = 0)
    (hs : ∀ y, foldedSetIterable iter C.env y = Pure.pure y := by intro _; rfl) : WP C (exec (.For (.Name x px) iter body [] pos) C.env) m V k := by
  intro F A s Q E hA S q
  refine wpAny_For (h F A s _ E hA S ?_) hs
  rintro v m V h tk S ⟨r, _, a, b, c, t1, t2, t3, rfl, hr, hsm, h0, J, hJ, turn, fin, _⟩
  obtain ⟨_, ro, hro, rfl⟩ := S.gl.view r _ hr
  refine wpAny_pyIter_range (t := t1) (u := t2) (v := t3) hro hsm ?_
  obtain ⟨FI, bI, LI, VI⟩ := S.newI
  have hn : ((rangeLen a b c : Nat) : Int) = Builtin.Range.rangeSize a b c := Int.toNat_of_nonneg h0
  refine for_core (n := rangeLen a b c) (item := fun i v => ∃ tk, v = .int (a + i * c) tk)
    (At := fun i o => o = { cls := .type "range_iterator", data := .fields #[rawInt (a + i * c), rawInt (Builtin.Range.rangeSize a b c - i), rawInt c] }) (G := fun _ => True)
    hA FI bI LI (S.pushHid _) VI (Heap.get?_push_size _ rfl) ?_ hJ (fun _ _ _ _ => trivial) ?_ ?_ ?_ fin fun a m' V' h' tk' S' x => q a m' V' h' tk' S' x
  · simp
  · rintro i s Q E _ V m S - ho rfl hlt hQ
    refine wpAny_pyNext_range_item ho (by omega) fun h' hit hs => ?_
    refine hQ _ h' _ _ ⟨_, rfl⟩ hit ?_ hs
    have e1 : a + (i : Int) * c + c = a + ((i + 1 : Nat) : Int) * c := by rw [Int.natCast_add, Int.add_mul]; omega
    have e2 : Builtin.Range.rangeSize a b c - (i : Int) - 1 = Builtin.Range.rangeSize a b c - ((i + 1 : Nat) : Int) := by omega
    rw [e1, e2]
  · rintro s Q E _ V m S - ho rfl hQ
    exact wpAny_pyNext_range_end hA.1 ho (by omega) fun h' he => hQ h' s.toks he
  · rintro i v m V hlt ⟨tk, rfl⟩ hJ
    exact turn i tk m V hlt hJ
end Mine
namespace Mine
open PySem PySem.Calls PyProof.Rows PySem.W
variable {C : Cx} {m : Loc} {V : View} {α β : Type} {prog : Program} {w : World} {b₀ : Heap} {K : Frag}

theorem leN {a b : Nat} (h : a ≤ b) : a ≤ b := h
theorem St.setHid {h h' : Heap} {F : Frm} {L a : Addr} {o o' : Obj} (S : St b₀ F L V m h) (Fa : F a = some o) (ba : b₀.objs.size ≤ a) (hs : Heap.SameBut a h h') (ho : h'.get? a = some o') :
    St b₀ (fun b => if b = a then some o' else F b) L V m h' := by
  obtain ⟨p1, p2, p3⟩ := S.frm a o Fa
  refine ⟨S.gl.same ba p2 hs, S.ns.sameBut hs (Ne.symm p3), S.above, S.off, fun b ob e => ?_⟩
  by_cases hb : b = a
  · subst hb; rw [if_pos rfl] at e; cases e; exact ⟨ho, p2, p3⟩
  · rw [if_neg hb] at e
    obtain ⟨q1, q2, q3⟩ := S.frm b ob e
    exact ⟨(hs.2 b hb).trans q1, q2, q3⟩

/-- the comprehension's own Cx: its frame is the new dict Cc -/
noncomputable abbrev Cx.comp (C : Cx) (scope : Scope) (cl : List (Str × Addr)) (Cc : Addr) : Cx := { C with env := compEnvC scope cl Cc C.env }

structure CompEnd (C : Cx) (F : Frm) (m : Loc) (V : View) (D Cc : Addr) (z : AO) (mc : Loc) (h : Heap) : Prop where
  st : St C.b₀ F C.env.locals (upd V D z) m h
  ns : h.Ns Cc mc
  vd : V D = none
  vc : upd V D z Cc = none
  fc : F Cc = none
  bc : C.b₀.objs.size ≤ Cc
  lc : C.env.locals ≠ Cc
/-- what stays so from a comprehension's start to its end -/
structure CompOut (C : Cx) (F : Frm) (m : Loc) (I D Cc : Addr) (oL : Obj) : Prop where
  FI : F I = none
  FD : F D = none
  FC : F Cc = none
  FL : F C.env.locals = none
  bI : C.b₀.objs.size ≤ I
  bD : C.b₀.objs.size ≤ D
  bC : C.b₀.objs.size ≤ Cc
  bL : C.b₀.objs.size ≤ C.env.locals
  DI : D ≠ I
  CD : Cc ≠ D
  CI : Cc ≠ I
  LI : C.env.locals ≠ I
  LD : C.env.locals ≠ D
  LC : C.env.locals ≠ Cc
  nsL : ∀ h : Heap, h.get? C.env.locals = some oL → h.Ns C.env.locals m
theorem hid_none {F : Frm} {a I : Addr} {o : Obj} (h : (if a = I then some o else F a) = none) : a ≠ I ∧ F a = none := by
  by_cases q : a = I
  · rw [if_pos q] at h; cases h
  · rw [if_neg q] at h; exact ⟨q, h⟩
theorem St.swap {h : Heap} {F : Frm} {L Cc : Addr} {N : Loc} {oL : Obj} (S : St b₀ F L V m h) (hL : h.get? L = some oL) (hn : h.Ns Cc N) (FC : F Cc = none) (VC : V Cc = none) (LC : L ≠ Cc) (bC : b₀.objs.size ≤ Cc) :
    St b₀ (fun a => if a = L then some oL else F a) Cc V N h := ⟨S.gl, hn, bC, VC, fun a o e => by
  by_cases ha : a = L
  · rw [if_pos ha] at e; cases e; exact ha ▸ ⟨hL, S.off, LC⟩
  · rw [if_neg ha] at e
    exact ⟨(S.frm a o e).1, (S.frm a o e).2.1, fun q => by rw [q, FC] at e; cases e⟩⟩
structure CompSt (C : Cx) (F : Frm) (m : Loc) (V : View) (I l D Cc : Addr) (o0 : Obj) (N : Loc) (h₁ : Heap) (oI oL : Obj) (FF : Frm) : Prop where
  out : CompOut C F m I D Cc oL
  st : St C.b₀ FF Cc V N h₁
  fI : FF I = some oI
  fD : FF D = some o0
  fL : FF C.env.locals = some oL
  fF : ∀ a o, F a = some o → FF a = some o
  ci : oI.cls = .type "list_iterator"
  di : oI.data = .fields #[.ref l, .int 0 0]
theorem comp_start {F : Frm} {H : Heap} {I l : Nat} {o0 oN : Obj} {N : Loc} {h₁ : Heap} (FI : F I = none) (bI : C.b₀.objs.size ≤ I) (LI : C.env.locals ≠ I) (S : St C.b₀ F C.env.locals V m H) (VI : V I = none) (hit : H.IsListIter I l 0)
    (hf : o0.isFreed = false) (hns : h₁.Ns (H.push o0).objs.size N) (hsb : Heap.SameBut (H.push o0).objs.size ((H.push o0).push oN) h₁) : ∃ oI oL FF, CompSt C F m V I l H.objs.size (H.push o0).objs.size o0 N h₁ oI oL FF := by
  obtain ⟨oI, hoI, ci, di⟩ := hit
  obtain ⟨oL, es, ep, hL, r⟩ := id S.ns
  have S1 := S.hide LI VI hoI
  obtain ⟨f1, b1, l1, v1⟩ := S1.newI
  have S2 := (S1.pushHid o0).hide l1 v1 (Heap.get?_push_size _ hf)
  obtain ⟨f2, b2, l2, v2⟩ := S2.newI
  have hL2 : h₁.get? C.env.locals = some oL := (hsb.2 _ l2).trans (Heap.get?_push_of_some _ (Heap.get?_push_of_some _ hL))
  have S3 := ((S2.pushHid oN).extBut hsb.extBut f2 b2 l2 v2).swap hL2 hns f2 v2 l2 b2
  have g1 := hid_none f1
  have g2 := hid_none (F := fun a => if a = I then some oI else F a) f2
  have g3 := hid_none (F := F) g2.2
  have FL : F C.env.locals = none := by
    cases e : F C.env.locals with
    | none => rfl
    | some o => exact absurd rfl (S.frm _ o e).2.2
  refine ⟨oI, oL, _, ⟨FI, g1.2, g3.2, FL, bI, b1, b2, S.above, g1.1, g2.1, g3.1, LI, l1, l2, fun h e => ⟨oL, es, ep, e, r⟩⟩, S3, ?_, ?_, if_pos rfl, fun a o e => ?_, ci, di⟩
  · show (if _ = _ then _ else if _ = _ then _ else if _ = _ then _ else _) = _
    rw [if_neg (Ne.symm LI), if_neg (Ne.symm g1.1), if_pos rfl]
  · show (if _ = _ then _ else if _ = _ then _ else if _ = _ then _ else _) = _
    rw [if_neg (Ne.symm l1), if_pos rfl]
  · show (if _ = _ then _ else if _ = _ then _ else if _ = _ then _ else _) = _
    rw [if_neg (fun q => by rw [q, FL] at e; cases e), if_neg (fun q => by rw [q, g1.2] at e; cases e), if_neg (fun q => by rw [q, FI] at e; cases e)]; exact e
theorem comp_end {F FF : Frm} {oI oD oL : Obj} {z : AO} {I D Cc : Nat} {h h2 : Heap} {mc : Loc} (O : CompOut C F m I D Cc oL) (S : St C.b₀ FF Cc V mc h) (fI : FF I = some oI) (fD : FF D = some oD) (fL : FF C.env.locals = some oL) (fF : ∀ a o, F a = some o → FF a = some o)
    (he : Heap.ExtBut I h h2) (d : Den z oD) : CompEnd C F m V D Cc z mc h2 := by
  have vI := (S.frm _ _ fI).2.1
  have S2 : St C.b₀ (fun a => if a = I then none else FF a) Cc V mc h2 := St.extBut ⟨S.gl, S.ns, S.above, S.off, fun a o e => S.frm a o (by
    by_cases q : a = I
    · rw [if_pos q] at e; cases e
    · rw [if_neg q] at e; exact e)⟩ he (if_pos rfl) O.bI O.CI vI
  have qD := S2.frm D oD ((if_neg O.DI).trans fD)
  have qL := S2.frm _ oL ((if_neg O.LI).trans fL)
  refine ⟨⟨⟨S2.gl.keep, S2.gl.size, fun a x e => ?_⟩, O.nsL _ qL.1, O.bL, by rw [upd_ne O.LD]; exact qL.2.1, fun a o e => ?_⟩, S2.ns, qD.2.1, by rw [upd_ne O.CD]; exact S2.off, O.FC, O.bC, O.LC⟩
  · by_cases ha : a = D
    · subst ha; rw [upd_self] at e; cases e; exact ⟨O.bD, oD, qD.1, d⟩
    · rw [upd_ne ha] at e; exact S2.gl.view a x e
  · have p := S2.frm a o ((if_neg (fun q => by rw [q, O.FI] at e; cases e)).trans (fF a o e))
    exact ⟨p.1, by rw [upd_ne (fun q => by rw [q, O.FD] at e; cases e)]; exact p.2.1, fun q => by rw [q, O.FL] at e; cases e⟩

theorem comp_core {F : Frm} {A : Around} {s : Shared} {E : Value → Shared → Prop} {RR : Value → Addr → Result → Shared → Prop} {I l : Nat} {tl : Nat} {xs : List Value} {J : Nat → List Value → View → Prop} {elt iter : Expr} {x : Str} {px pos : Pos} {scope : Scope} {cl : List (Str × Addr)} (t : Nat)
    (hcell : ∀ y ∈ scope.names, y.2 ≠ .cell) (hkind : scope.kind = .function) (hx : scope.names.lookup x = some .local)
    (hA : C.Ok A) (FI : F I = none) (bI : C.b₀.objs.size ≤ I) (LI : C.env.locals ≠ I) (S : St C.b₀ F C.env.locals V m s.heap) (VI : V I = none) (hit : s.heap.IsListIter I l 0) (hJ : J 0 [] V) (hG : ∀ i ys V, J i ys V → V l = some (.lst tl xs)) (hz : xs.length ≤ sizeLine)
    (turn : ∀ i v ys V Cc mc, xs[i]? = some v → J i ys V → mc x = some v → WP (C.comp scope cl Cc) (eval elt (compEnvC scope cl Cc C.env)) mc V fun y _ V' => J (i + 1) (ys ++ [y]) V')
    (fin : ∀ D Cc ys V h' tk mc, J xs.length ys V → CompEnd C F m V D Cc (.lst t ys) mc h' → RR (.ref D) Cc (.ok .next) { s with heap := h', toks := tk }) :
    wpAny (model C.prog C.w) A (PySem.newList []) (fun acc s₃ => wpAny (model C.prog C.w) A (newFunctionEnv scope C.env.globals cl [] C.env.qual none .none (some C.env)) (fun cenv s₄ =>
      codeAny (model C.prog C.w) A (.compStart (.ListComp elt [⟨.Name x px, iter, [], 0⟩] scope pos) 0 (.ref I) acc { cenv with scope := relabel scope C.env }) (RR acc cenv.locals) s₄) E s₃) E s := by
  refine wpAny_newObj_type (wpAny_newFunctionEnv hcell (by intro y hy; simp at hy) (fun h₁ hns₁ hsb₁ => ?_) hkind)
  dsimp only at hns₁ hsb₁ ⊢
  obtain ⟨oI, oL, FF, st⟩ := comp_start FI bI LI S VI hit rfl hns₁ hsb₁
  generalize s.heap.objs.size = D at *
  generalize (s.heap.push _).objs.size = Cc at *
  let Inv : Nat → Shared → Prop := fun r s' => ∃ (i : Nat) (h : Heap) (tk : Nat) (mc : Loc) (V : View) (oI : Obj) (n : Nat) (ys : List Value) (FF : Frm), s' = { s with heap := h, toks := tk } ∧ St C.b₀ FF Cc V mc h ∧ FF I = some oI ∧ FF D = some { cls := .type "list", data := .seq (List.toArray ys) n } ∧ FF C.env.locals = some oL ∧
    (∀ a o, F a = some o → FF a = some o) ∧ oI.cls = .type "list_iterator" ∧ oI.data = .fields #[.ref l, .int i 0] ∧ J i ys V ∧ ys.length = i ∧ i ≤ xs.length ∧ r = xs.length - i
  have start : Inv xs.length { s with heap := h₁, toks := s.toks + ([] : List (Str × Value)).length } :=
    ⟨0, h₁, _, _, V, oI, 0, [], FF, rfl, st.st, st.fI, st.fD, st.fL, st.fF, st.ci, st.di, hJ, rfl, Nat.zero_le _, rfl⟩
  have O := st.out
  have hoI := (st.st.frm _ _ st.fI).1
  have loop : codeAny (model C.prog C.w) A (.compLoop (.ListComp elt [⟨.Name x px, iter, [], 0⟩] scope pos) 0 (.ref I) (.ref D) (compEnvC scope cl Cc C.env)) (RR (.ref D) Cc) { s with heap := h₁, toks := s.toks + ([] : List (Str × Value)).length } := by
    refine codeAny_compLoop_tests Inv ?_ _ start
    clear start
    intro r _; refine xe9 fun i h tk mc V oI n ys FF => an12 ?_; rintro rfl S' fI fD fL fF ci di hJ hys hi rfl
    obtain ⟨nl, il⟩ := S'.isL (hG _ _ _ hJ)
    by_cases hlt : i < xs.length
    · refine wpAny_pyNext_list_item (x := xs[i]) (l := l) ⟨oI, (S'.frm _ _ fI).1, ci, di⟩ il.isList (by simp [hlt]) fun h2 hit2 hs2 => ?_
      revert hit2; refine xe1 fun oI' => an3 ?_; rintro hoI' ci' di'
      have S2 := S'.setHid fI bI hs2 hoI'
      refine wpAny_assign_Name (wpAny_storeName_local (lookup_relabel_local hx) S2.ns (fun h3 hn3 hs3 => ?_) (by simp [compEnvC, relabel, hkind]))
      have S3 := S2.store hn3 hs3
      simp only [List.forIn_nil]
      refine wpAny_pure ?_
      simp only [if_true]
      refine turn i xs[i] ys V Cc _ (by simp [hlt]) hJ (by simp) _ A { s with heap := h3, toks := tk + 1 } _ _ hA S3 fun y mc4 V4 h4 tk4 S4 hJ4 => ?_
      have fD4 : (fun b => if b = I then some oI' else FF b) D = some { cls := .type "list", data := .seq (List.toArray ys) n } := (if_neg O.DI).trans fD
      have iD : IsL h4 D (List.toArray ys) n := (S4.frm _ _ fD4).1
      refine call_meets PySem.F.slot_list_append ⟨_, iD, rfl⟩ PySem.F.entry_list_append (PySem.F.args_list_append_2 _ _) (PySem.list_append D _ n y (by rw [List.size_toArray, hys]; exact Nat.le_of_lt (Nat.lt_of_lt_of_le hlt hz))) ⟨iD, ?_⟩
      have u := IsL.update iD (·.push y)
      have e5 : (List.toArray ys).push y = List.toArray (ys ++ [y]) := by simp
      rw [e5] at u
      have S5 := S4.setHid fD4 O.bD (Heap.SameBut.update ..) u
      refine ⟨xs.length - (i + 1), by omega, i + 1, _, _, mc4, V4, oI', _, ys ++ [y], _, rfl, S5, (if_neg (Ne.symm O.DI)).trans (if_pos rfl), if_pos rfl, (if_neg O.LD).trans ((if_neg O.LI).trans fL), fun a o e => ?_, ci', di', hJ4, by rw [List.length_append, hys]; rfl, hlt, rfl⟩
      exact (if_neg (fun q => by rw [q, O.FD] at e; cases e)).trans ((if_neg (fun q => by rw [q, FI] at e; cases e)).trans (fF a o e))
    · have hin : i = xs.length := by omega
      subst hin
      exact wpAny_pyNext_list_end (l := l) hA.1 ⟨oI, (S'.frm _ _ fI).1, ci, di⟩ il.isList (by simp) fun h2 he2 => fin D Cc ys V h2 tk mc hJ (comp_end O S' fI fD fL fF he2 ⟨n, rfl⟩)
  exact codeAny_compStart_list loop (wpAny_pyIter_listiter (l := l) (i := 0) ⟨oI, hoI, st.ci, st.di⟩ loop)

theorem WP.listcomp {elt iter : Expr} {x : Str} {px pos : Pos} {scope : Scope} {cl : List (Str × Addr)} {k : Value → Loc → View → Prop} (t : Nat)
    (hclos : closureFor scope C.env = Pure.pure cl) (hcell : ∀ y ∈ scope.names, y.2 ≠ .cell) (hkind : scope.kind = .function)
    (hnames : ∀ y ∈ scope.names, y.2 = .local → scope.names.lookup y.1 = some .local) (hx : scope.names.lookup x = some .local)
    (h : WP C (eval iter C.env) m V fun v m V => ∃ l tl xs, v = .ref l ∧ xs.length ≤ sizeLine ∧ ∃ J : Nat → List Value → View → Prop, J 0 [] V ∧ (∀ i ys V, J i ys V → V l = some (.lst tl xs)) ∧
      (∀ i v ys V Cc mc, xs[i]? = some v → J i ys V → mc x = some v → WP (C.comp scope cl Cc) (eval elt (compEnvC scope cl Cc C.env)) mc V fun y _ V' => J (i + 1) (ys ++ [y]) V') ∧
      (∀ ys V D, J xs.length ys V → V D = Option.none → k (.ref D) m (upd V D (.lst t ys))))
    (hs : ∀ x, foldedSetIterable iter C.env x = Pure.pure x := by intro _; rfl) : WP C (eval (.ListComp elt [⟨.Name x px, iter, [], 0⟩] scope pos) C.env) m V k := by
  intro F A s Q E hA S q
  rw [eval_ListComp]
  refine wpAny_comprehension_free (use := Option.none) rfl hs hclos hkind hnames (h F A s _ E hA S ?_)
  rintro v m V h tk S ⟨l, tl, xs, rfl, hz, J, hJ, hG, turn, fin⟩
  obtain ⟨nn, i⟩ := S.isL (hG _ _ _ hJ)
  refine wpAny_pyIter_list i.isList ?_
  obtain ⟨FI, bI, LI, VI⟩ := S.newI
  refine comp_core (m := m) t hcell hkind hx hA FI bI LI (S.pushHid _) VI ⟨_, Heap.get?_push_size _ rfl, rfl, rfl⟩ hJ hG hz turn fun D Cc ys V' h' tk' mc hJ' ce => ?_
  refine ⟨mc, ce.ns, fun h'' hs'' => ?_⟩
  exact q _ m _ h'' tk' (ce.st.extBut hs''.extBut ce.fc ce.bc ce.lc ce.vc) (fin ys V' D hJ' ce.vd)

set_option maxHeartbeats 1000000 in
theorem WP.assign_listcomp {elt iter : Expr} {x y : Str} {px py pos spos : Pos} {scope : Scope} {cl : List (Str × Addr)} {k : Flow → Loc → View → Prop} (t : Nat)
    (hsw : swapsWith (.ListComp elt [⟨.Name x px, iter, [], 0⟩] scope pos) (some (.Name y py)) spos.line C.env = Pure.pure true)
    (hclos : closureFor scope C.env = Pure.pure cl) (hcell : ∀ y ∈ scope.names, y.2 ≠ .cell) (hkind : scope.kind = .function)
    (hnames : ∀ y ∈ scope.names, y.2 = .local → scope.names.lookup y.1 = some .local) (hx : scope.names.lookup x = some .local)
    (h : WP C (eval iter C.env) m V fun v m V => ∃ l tl xs, v = .ref l ∧ xs.length ≤ sizeLine ∧ ∃ J : Nat → List Value → View → Prop, J 0 [] V ∧ (∀ i ys V, J i ys V → V l = some (.lst tl xs)) ∧
      (∀ i v ys V Cc mc, xs[i]? = some v → J i ys V → mc x = some v → WP (C.comp scope cl Cc) (eval elt (compEnvC scope cl Cc C.env)) mc V fun y _ V' => J (i + 1) (ys ++ [y]) V') ∧
      (∀ ys V D, J xs.length ys V → V D = Option.none → k .next (setm m y (.ref D)) (upd V D (.lst t ys))))
    (hk : C.env.scope.kind = .function := by rfl) (hy : C.env.kindOf y = some .local := by rfl)
    (hs : ∀ x, foldedSetIterable iter C.env x = Pure.pure x := by intro _; rfl) : WP C (exec (.Assign [.Name y py] (.ListComp elt [⟨.Name x px, iter, [], 0⟩] scope pos) spos) C.env) m V k := by
  intro F A s Q E hA S q
  rw [exec_Assign_Name_used _ _ _ _ hsw]
  refine wpAny_bind (wpAny_standAt (wpAny_bind ?_))
  show wpAny _ A (do let _ ← comprehension (.ListComp elt [⟨.Name x px, iter, [], 0⟩] scope pos) scope C.env _ (PySem.newList []) false (eval iter C.env) (some (PySem.assign (PySem.Expr.Name y py) C.env))) _ _ s
  refine wpAny_bind (wpAny_mono (wpAny_comprehension_free (use := some (PySem.assign (PySem.Expr.Name y py) C.env)) (Q := fun _ s' => Q .next s') rfl hs hclos hkind hnames (h F A s _ E hA S ?_)) (fun _ s' hq => wpAny_pure (wpAny_pure hq)) fun _ _ e => e)
  rintro v m V h tk S ⟨l, tl, xs, rfl, hz, J, hJ, hG, turn, fin⟩
  obtain ⟨nn, i⟩ := S.isL (hG _ _ _ hJ)
  refine wpAny_pyIter_list i.isList ?_
  obtain ⟨FI, bI, LI, VI⟩ := S.newI
  refine comp_core (m := m) t hcell hkind hx hA FI bI LI (S.pushHid _) VI ⟨_, Heap.get?_push_size _ rfl, rfl, rfl⟩ hJ hG hz turn fun D Cc ys V' h' tk' mc hJ' ce => ?_
  show wpAny _ A (PySem.assign (PySem.Expr.Name y py) C.env (.ref D)) _ _ _
  refine wpAny_assign_Name (wpAny_storeName_local hy ce.st.ns (fun h2 hn2 hs2 => ?_) (by rw [hk]; rfl))
  refine ⟨mc, ce.ns.sameBut hs2 (Ne.symm ce.lc), fun h'' hs'' => ?_⟩
  exact q _ _ _ h'' _ ((ce.st.store hn2 hs2).extBut hs''.extBut ce.fc ce.bc ce.lc ce.vc) (fin ys V' D hJ' ce.vd)
end Mine
namespace Mine
open PySem PySem.Calls PyProof.Rows PySem.W
variable {C : Cx} {m : Loc} {V : View} {α β : Type} {prog : Program} {w : World} {b₀ : Heap} {K : Frag}

theorem WP.range1 {n : Int} {t : Tok} {k : Value → Loc → View → Prop} (h : ∀ a t1 t2, V a = Option.none → k (.ref a) m (upd V a (.raw { cls := .type "range", data := .fields #[.int 0 t1, .int n t, .int 1 t2] }))) : WP C (PySem.call (.type "range") [.int n t]) m V k :=
  fun F A s Q E hA S q => call_range_1 (q _ m _ _ _ (S.push (x := .raw _) rfl rfl) (h _ _ _ S.fresh))
theorem WP.range3 {a b c : Int} {t u v : Tok} {k : Value → Loc → View → Prop} (hc : c ≠ 0) (hp : Builtin.divisionGoesByPylong (b - a) c = false) (h : ∀ r, V r = Option.none → k (.ref r) m (upd V r (.raw { cls := .type "range", data := .fields #[.int a t, .int b u, .int c v] }))) :
    WP C (PySem.call (.type "range") [.int a t, .int b u, .int c v]) m V k :=
  fun F A s Q E hA S q => call_range_3 hc (q _ m _ _ _ (S.push (x := .raw _) rfl rfl) (h _ S.fresh)) (.inl hp)
theorem WP.tuple_same {a : Addr} {xs : List Value} {k : Value → Loc → View → Prop} (e : V a = some (.tup xs)) (h : k (.ref a) m V) : WP C (PySem.call (.type "tuple") [.ref a]) m V k :=
  fun F A s Q E hA S q => by
    obtain ⟨n, i⟩ := S.isT e
    exact PyProof.Rows.call_tuple_tup (items := xs.toArray) ⟨_, i, rfl, n, rfl⟩ (q _ m V s.heap s.toks S h)
theorem St.grow {h h' : Heap} {F : Frm} {L : Addr} (S : St b₀ F L V m h) (hk : ∀ a o, h.get? a = some o → h'.get? a = some o) : St b₀ F L V m h' := by
  refine ⟨⟨fun a o e => hk a o (S.gl.keep a o e), Nat.le_trans S.above (Nat.le_of_lt (S.ns.keeps hk).lt), fun a x e => ?_⟩, S.ns.keeps hk, S.above, S.off, fun a o e => ?_⟩
  · obtain ⟨p1, o, p2, p3⟩ := S.gl.view a x e; exact ⟨p1, o, hk a o p2, p3⟩
  · obtain ⟨p1, p2, p3⟩ := S.frm a o e; exact ⟨hk a o p1, p2, p3⟩
theorem WP.tuple_list {l : Addr} {t : Nat} {xs : List Value} {k : Value → Loc → View → Prop} (e : V l = some (.lst t xs)) (hz : xs.length ≤ sizeLine) (h : ∀ a, V a = Option.none → k (.ref a) m (upd V a (.tup xs))) : WP C (PySem.call (.type "tuple") [.ref l]) m V k :=
  fun F A s Q E hA S q => by
    obtain ⟨n, i⟩ := S.isL e
    refine call_tuple_list i.isList (fun h' hk => ?_) (by rw [List.size_toArray]; exact hz)
    have S' := S.grow hk
    exact q _ m _ _ s.toks (S'.push (x := .tup xs) rfl ⟨0, rfl⟩) (h _ S'.fresh)
theorem WP.reversed {l : Addr} {t : Nat} {xs : List Value} {k : Value → Loc → View → Prop} (e : V l = some (.lst t xs)) (h : ∀ a, V a = Option.none → k (.ref a) m (upd V a (.raw (revObj l ((xs.length : Int) - 1))))) : WP C (PySem.call (.type "reversed") [.ref l]) m V k :=
  fun F A s Q E hA S q => by
    obtain ⟨n, i⟩ := S.isL e
    refine call_reversed_list i.isList ?_
    rw [List.size_toArray]
    exact q _ m _ _ s.toks (S.push (x := .raw _) rfl rfl) (h _ S.fresh)
theorem WP.for_rev {x : Str} {px pos : Pos} {iter : Expr} {body : List Stmt} {k : Flow → Loc → View → Prop}
    (h : WP C (eval iter C.env) m V fun v m V' => ∃ r l t xs V, v = .ref r ∧ V' = upd V r (.raw (revObj l ((xs.length : Int) - 1))) ∧ V r = Option.none ∧ ∃ J : Nat → Loc → View → Prop, J 0 m V ∧ (∀ i m V, J i m V → V l = some (.lst t xs)) ∧
      (∀ i v m V, i < xs.length → xs[xs.length - 1 - i]? = some v → J i m V → WP C (storeName C.env x v) m V fun _ m V => WP C (execs body C.env) m V (endFor (J (i + 1)) k)) ∧ (∀ m V, J xs.length m V → k .next m V))
    (hs : ∀ y, foldedSetIterable iter C.env y = Pure.pure y := by intro _; rfl) : WP C (exec (.For (.Name x px) iter body [] pos) C.env) m V k := by
  intro F A s Q E hA S q
  refine wpAny_For (h F A s _ E hA S ?_) hs
  rintro v m V' h tk S ⟨I, l, t, xs, V, rfl, rfl, VI, J, hJ, hG, turn, fin⟩
  obtain ⟨bI, o, ho, rfl⟩ := S.gl.view I _ upd_self
  have FI : F I = Option.none := by
    cases e : F I with
    | none => rfl
    | some o => have := (S.frm I o e).2.1; rw [upd_self] at this; cases this
  have LI : C.env.locals ≠ I := by
    intro e; have := S.off; rw [e, upd_self] at this; cases this
  have S' : St C.b₀ F C.env.locals V m h := S.view fun a x e => ⟨x, by rw [upd_ne (fun q => by subst q; rw [VI] at e; cases e)]; exact e, fun _ d => d⟩
  refine wpAny_pyIter_revIter (l := l) (i := (xs.length : Int) - 1) ⟨_, ho, rfl, rfl⟩ ?_
  refine for_core (n := xs.length) (item := fun i v => xs[xs.length - 1 - i]? = some v) (At := fun i o => o.cls = .type "list_reverseiterator" ∧ o.data = .fields #[.ref l, rawInt ((xs.length : Int) - 1 - i)]) (G := fun V => V l = some (.lst t xs))
    hA FI bI LI S' VI ho ⟨rfl, ?_⟩ hJ hG ?_ ?_ (fun i v m V hlt hv hJ => turn i v m V hlt hv hJ) fin fun a m' V' h' tk' S' x => q a m' V' h' tk' S' x
  · show Data.fields _ = _; simp [revObj]
  · intro i s Q E o V m S hl ho hat hlt hQ
    obtain ⟨nn, il⟩ := S.isL hl
    have e1 : (xs.length : Int) - 1 - i = ((xs.length - 1 - i : Nat) : Int) := by omega
    rw [e1] at hat
    refine wpAny_pyNext_rev_item (x := xs[xs.length - 1 - i]'(by omega)) (l := l) (i := xs.length - 1 - i) ⟨o, ho, hat⟩ il.isList (by simp) fun h' hit hs => ?_
    obtain ⟨o', ho', hat'⟩ := hit
    refine hQ _ h' s.toks o' (by simp) ho' ?_ hs
    have e2 : ((xs.length - 1 - i : Nat) : Int) - 1 = (xs.length : Int) - 1 - ((i + 1 : Nat) : Int) := by omega
    rw [e2] at hat'; exact hat'
  · intro s Q E o V m S hl ho hat hQ
    have e1 : (xs.length : Int) - 1 - (xs.length : Nat) = -1 := by omega
    rw [e1] at hat
    exact wpAny_pyNext_rev_end (l := l) hA.1 ⟨o, ho, hat⟩ fun h' he => hQ h' s.toks he

theorem WP.in_ints {l : Addr} {xs : List Value} {ns : List Int} {i : Int} {u : Tok} {k : Value → Loc → View → Prop} (e : V l = some (.tup xs)) (hi : IntsAre xs ns) (h : k (.bool (ns.contains i)) m V) : WP C (compareOp .In (.int i u) (.ref l)) m V k :=
  fun F A s Q E hA S q => by
    obtain ⟨n, it⟩ := S.isT e
    refine SeqAt.in_tupleAt (items := xs.toArray) (fun v => match v with | .int a _ => a == i | _ => false) ⟨_, it, rfl, n, rfl⟩ (fun y hy => ?_) ?_
    · obtain ⟨a, t, rfl⟩ : ∃ a t, y = .int a t := by
        have hy' : y ∈ xs := by simpa using hy
        clear h e it hy q
        induction hi with
        | nil => cases hy'
        | cons a t _ ih => rcases List.mem_cons.mp hy' with rfl | hm; exact ⟨_, _, rfl⟩; exact ih hm
      exact (MeetsSeq.EqGives.int a i t u).at _ _
    · have : xs.toArray.any (fun v => match v with | .int a _ => a == i | _ => false) = ns.contains i := by
        rw [List.any_toArray]
        clear h e it q
        induction hi with
        | nil => rfl
        | cons a t _ ih => 
          rw [List.any_cons, List.contains_cons, ih]
          show (a == i || _) = (i == a || _)
          rw [BEq.comm (a := a)]
      rw [this]; exact q _ m V s.heap s.toks S h
theorem WP.in_list {l : Addr} {t : Nat} {xs : List Value} {ns : List Int} {i : Int} {u : Tok} {k : Value → Loc → View → Prop} (e : V l = some (.lst t xs)) (hi : IntsAre xs ns) (h : k (.bool (ns.contains i)) m V) : WP C (compareOp .In (.int i u) (.ref l)) m V k :=
  fun F A s Q E hA S q => by
    obtain ⟨n, it⟩ := S.isL e
    refine SeqAt.in_listAt (items := xs.toArray) (fun v => match v with | .int a _ => a == i | _ => false) it.isList (fun y hy => ?_) ?_
    · obtain ⟨a, t, rfl⟩ : ∃ a t, y = .int a t := by
        have hy' : y ∈ xs := by simpa using hy
        clear h e it hy q
        induction hi with
        | nil => cases hy'
        | cons a t _ ih => rcases List.mem_cons.mp hy' with rfl | hm; exact ⟨_, _, rfl⟩; exact ih hm
      exact (MeetsSeq.EqGives.int a i t u).at _ _
    · have : xs.toArray.any (fun v => match v with | .int a _ => a == i | _ => false) = ns.contains i := by
        rw [List.any_toArray]
        clear h e it q
        induction hi with
        | nil => rfl
        | cons a t _ ih => 
          rw [List.any_cons, List.contains_cons, ih]
          show (a == i || _) = (i == a || _)
          rw [BEq.comm (a := a)]
      rw [this]; exact q _ m V s.heap s.toks S h
theorem WP.ne_nil {l b : Addr} {t t' : Nat} {xs : List Value} {k : Value → Loc → View → Prop} (hsl : C.sl ≠ 0) (e : V l = some (.lst t xs)) (e' : V b = some (.lst t' [])) (h : k (.bool (!xs.isEmpty)) m V) : WP C (compareOp .NotEq (.ref l) (.ref b)) m V k :=
  fun F A s Q E hA S q => by
    obtain ⟨n, i⟩ := S.isL e
    obtain ⟨n', i'⟩ := S.isL e'
    have hu : A.units < cLine := by have := hA.2.2; omega
    refine cmp_ofNotEq ?_
    cases xs with
    | nil => exact SeqAt.RcNeAt.lists (e := fun _ => true) i.isList i'.isList rfl hu (fun j h1 => by simp at h1) _ _ _ _ (q _ m V s.heap s.toks S h)
    | cons x r => exact SeqAt.RcNeAt.lists_lengths i.isList i'.isList (by simp) hu _ _ _ _ (q _ m V s.heap s.toks S h)

noncomputable def IsD {K : Type} [DecidableEq K] (knd : KeyKind prog w K) (t : Nat) (kvs : List (K × Value)) : AO := .prop t fun o => o.IsDictOf knd kvs
section
variable {KT : Type} [DecidableEq KT] {knd : KeyKind C.prog C.w KT} {d : Addr} {t : Nat} {kvs : List (KT × Value)} {kk : KT} {key : Value}
theorem St.dictOf {h : Heap} {F : Frm} {L : Addr} (S : St C.b₀ F L V m h) (e : V d = some (IsD knd t kvs)) : h.DictOf knd d kvs := by
  obtain ⟨_, o, ho, dd⟩ := S.gl.view d _ e
  exact Heap.dictOf_iff.mpr ⟨o, ho, dd⟩
theorem St.noSys {h : Heap} {F : Frm} {L : Addr} {x : AO} (S : St C.b₀ F L V m h) (e : V d = some x) (hb : sysModules < C.b₀.objs.size) : (d == sysModules) = false := by
  have := (S.gl.view d _ e).1
  exact beq_eq_false_iff_ne.mpr (Nat.ne_of_gt (Nat.lt_of_lt_of_le hb this))
theorem WP.dict_get (hkey : knd.is kk key = true) {dflt : Value} {k : Value → Loc → View → Prop} (hb : sysModules < C.b₀.objs.size) (e : V d = some (IsD knd t kvs)) (h : k ((valueAt kvs kk).getD dflt) m V) : WP C (PySem.call (.builtin "dict.get") [.ref d, key, dflt]) m V k :=
  fun F A s Q E hA S q => by
    have D := S.dictOf e
    refine call_meetsIn PySem.F.slot_dict_get D.typeIs PySem.F.entry_dict_get (PySem.F.args_dict_get_3 _ _ _) (meets_dict_get_default knd d hkey (S.noSys e hb) dflt) ⟨valueAt kvs, D.mapOf, q _ m V s.heap _ S h⟩
theorem WP.dict_set (hkey : knd.is kk key = true) {v : Value} {k : Unit → Loc → View → Prop} (e : V d = some (IsD knd t kvs)) (hz : kvs.length ≤ sizeLine) (h : k () m (upd V d (IsD knd t (stored kvs kk v)))) : WP C (setItem (.ref d) key v) m V k :=
  fun F A s Q E hA S q => by
    have D := S.dictOf e
    refine wpAny_setItem_pairs (hsz := hz) hkey D fun h' D' hs => ?_
    obtain ⟨o', ho', dd⟩ := Heap.dictOf_iff.mp D'
    exact q () m _ h' _ (S.set (x := IsD knd t (stored kvs kk v)) e hs ho' dd) h
theorem WP.dict_item {value slice : Expr} (hkey : knd.is kk key = true) {v : Value} {k : Value → Loc → View → Prop} (e : V d = some (IsD knd t kvs)) (hv : valueAt kvs kk = some v) (h : k v m V)
    (hs : subscripted slice false (.ref d) key = operate [.ref d, key] (getItem (.ref d) key) := by with_unfolding_all rfl) : WP C (subscriptTail value slice (.ref d) key) m V k :=
  fun F A s Q E hA S q => by
    have D := S.dictOf e
    exact tail_any D.typeIs slot_dict_getitem.lookup (wpAny_getItem_of hkey D.mapOf hv (q _ m V s.heap _ S h)) hs
theorem WP.dict_notIn (hkey : knd.is kk key = true) {k : Value → Loc → View → Prop} (hb : sysModules < C.b₀.objs.size) (e : V d = some (IsD knd t kvs)) (h : k (.bool (!(valueAt kvs kk).isSome)) m V) : WP C (compareOp .NotIn key (.ref d)) m V k :=
  fun F A s Q E hA S q => by
    have D := S.dictOf e
    exact wpAny_notIn_of hkey (S.noSys e hb) D.mapOf (q _ m V s.heap _ S h)
theorem WP.getMethod_dict {name : Str} {id : String} {pl : Sem Bool} {k : Value × List Value → Loc → View → Prop} (slot : Slot "dict" name id) (hty : typeOf (.builtin id) = Pure.pure (.type "method_descriptor"))
    (e : V d = some (IsD knd t kvs)) (h : k (.builtin id, [.ref d]) m V) : WP C (getMethod (.ref d) name pl) m V k :=
  fun F A s Q E hA S q => by
    have D := S.dictOf e
    exact getMethod_builtin D.typeIs PySem.F.plainAttrs_dict slot hty D.mapOf.noDict (q _ m V s.heap s.toks S h)
end

noncomputable abbrev tk (prog : Program) (w : World) : HeapKind prog w (List Int) := tupleKind (intKind prog w)
noncomputable def KeyTup (V : View) (a : Addr) (ks : List Int) : Prop := ∃ vs, V a = some (.tup vs) ∧ IntsAre vs ks
theorem itemsAre_of {prog : Program} {w : World} {vs : List Value} {ks : List Int} (h : IntsAre vs ks) : ItemsAre (intKind prog w) ks vs := by
  induction h with
  | nil => exact .nil
  | cons a t _ ih => exact .cons (by show Value.isInt a (.int a t) = true; simp [Value.isInt]) ih
noncomputable def TDict (prog : Program) (w : World) (V : View) (d : Addr) (t : Nat) (xs : List (List Int × Addr × Value)) : Prop :=
  V d = some (.dct t (xs.map (entryOfKey (tk prog w)))) ∧ (∀ x ∈ xs, KeyTup V x.2.1 x.1) ∧ (xs.map (·.1)).Nodup
section
variable {d a : Addr} {t : Nat} {xs : List (List Int × Addr × Value)} {ks : List Int}
theorem St.key {h : Heap} {F : Frm} {L : Addr} (S : St b₀ F L V m h) (e : KeyTup V a ks) : IsTupleKey (intKind prog w) h ks a := by
  obtain ⟨vs, hv, hi⟩ := e
  obtain ⟨n, i⟩ := S.isT hv
  exact ⟨_, vs.toArray, n, i, rfl, rfl, itemsAre_of hi⟩
theorem St.tdict {h : Heap} {F : Frm} {L : Addr} (S : St b₀ F L V m h) (e : TDict prog w V d t xs) : h.DictOfH (tk prog w) d xs := by
  obtain ⟨e1, e2, e3⟩ := e
  obtain ⟨_, o, ho, n, rfl⟩ := S.gl.view d _ e1
  exact ⟨_, _, n, ho, ⟨rfl, rfl, rfl⟩, rfl, rfl, fun x hx => S.key (e2 x hx), e3⟩
theorem WP.tdict_get {dflt : Value} {k : Value → Loc → View → Prop} (hb : sysModules < C.b₀.objs.size) (hsl : C.sl ≠ 0) (e : TDict C.prog C.w V d t xs) (ea : KeyTup V a ks) (h : k (((atKey xs ks).map (·.2)).getD dflt) m V) :
    WP C (PySem.call (.builtin "dict.get") [.ref d, .ref a, dflt]) m V k :=
  fun F A s Q E hA S q => by
    have D := S.tdict e
    have hu : A.units + 1 < cLine := by have := hA.2.2; omega
    exact call_meetsIn PySem.F.slot_dict_get D.typeIs PySem.F.entry_dict_get (PySem.F.args_dict_get_3 _ _ _) (meetsH_dict_get_default (tk C.prog C.w) d a (S.noSys e.1 hb) dflt) ⟨hu, ks, xs, S.key ea, D, q _ m V s.heap _ S h⟩
theorem WP.tdict_set {v : Value} {k : Unit → Loc → View → Prop} (hsl : C.sl ≠ 0) (e : TDict C.prog C.w V d t xs) (ea : KeyTup V a ks) (hn : atKey xs ks = Option.none) (hz : xs.length ≤ sizeLine)
    (h : k () m (upd V d (.dct t ((xs ++ [(ks, a, v)]).map (entryOfKey (tk C.prog C.w)))))) : WP C (setItem (.ref d) (.ref a) v) m V k :=
  fun F A s Q E hA S q => by
    have D := S.tdict e
    have hu : A.units + 1 < cLine := by have := hA.2.2; omega
    refine wpAny_setItem_heap (hsz := hz) (knd := tk C.prog C.w) hu (S.key ea) D fun h' D' hs => ?_
    rw [storedH_new hn] at D'
    obtain ⟨o', es, ep, ho', hx, hd, he, -, -⟩ := D'
    refine q () m _ h' _ (S.set (x := .dct t ((xs ++ [(ks, a, v)]).map (entryOfKey (tk C.prog C.w)))) e.1 hs ho' ⟨ep, ?_⟩) h
    obtain ⟨c, dd, da, sl⟩ := o'
    obtain ⟨x1, x2, x3⟩ := hx
    simp only at x1 x2 x3 hd
    subst x1 x2 x3 hd
    rw [← he, Array.toArray_toList]
theorem WP.getMethod_tdict {es : List DictEntry} {name : Str} {id : String} {pl : Sem Bool} {k : Value × List Value → Loc → View → Prop} (slot : Slot "dict" name id) (hty : typeOf (.builtin id) = Pure.pure (.type "method_descriptor"))
    (e : V d = some (.dct t es)) (h : k (.builtin id, [.ref d]) m V) : WP C (getMethod (.ref d) name pl) m V k :=
  fun F A s Q E hA S q => by
    obtain ⟨_, o, ho, n, rfl⟩ := S.gl.view d _ e
    exact getMethod_builtin ⟨_, ho, rfl⟩ PySem.F.plainAttrs_dict slot hty (fun a ea => by cases ea; exact ⟨_, ho, rfl⟩) (q _ m V s.heap s.toks S h)
end

theorem slice_to {xs : List Value} {n : Int} (h0 : 0 ≤ n) : slicePick xs.toArray Option.none (some n) Option.none = (xs.take n.toNat).toArray := by
  obtain ⟨k, rfl⟩ := Int.eq_ofNat_of_zero_le h0
  have e : sliceBounds Option.none (some (k : Int)) Option.none xs.toArray.size = (((0 : Nat) : Int), ((min k xs.length : Nat) : Int), 1) := by
    unfold sliceBounds
    simp only [Option.getD_none, List.size_toArray]
    rw [if_neg (Int.not_lt.mpr h0)]
    simp
    rw [Int.max_eq_right (Int.le_min.mpr ⟨Int.natCast_nonneg _, Int.natCast_nonneg _⟩)]
    first | exact (Int.natCast_min _ _).symm | exact (Int.ofNat_min _ _).symm | rfl | omega
  rw [kmk_pick_nat _ e]
  simp only [List.drop_zero, Nat.sub_zero, Int.toNat_natCast]
  congr 1
  rw [List.take_eq_take_iff]
  simp
theorem slice_from {xs : List Value} {n : Int} (h0 : 0 ≤ n) : slicePick xs.toArray (some n) Option.none Option.none = (xs.drop n.toNat).toArray := by
  have e : sliceBounds (some n) Option.none Option.none xs.toArray.size = (((min n.toNat xs.length : Nat) : Int), ((xs.length : Nat) : Int), 1) := by
    unfold sliceBounds
    simp only [Option.getD_none, List.size_toArray]
    rw [if_neg (by omega : ¬ n < 0)]
    simp
    omega
  rw [kmk_pick_nat _ e]
  congr 1
  by_cases h : n.toNat ≤ xs.length
  · rw [Nat.min_eq_left h, List.take_of_length_le (by simp)]
  · rw [Nat.min_eq_right (by omega), List.drop_of_length_le (Nat.le_refl _), List.drop_of_length_le (by omega)]; simp
theorem St.push2 {h : Heap} {F : Frm} {L : Addr} {x : AO} {o o' : Obj} (S : St b₀ F L V m h) (hf : o'.isFreed = false) (D : Den x o') : V (h.objs.size + 1) = none ∧ St b₀ F L (upd V (h.objs.size + 1) x) m ((h.push o).push o') := by
  have z := (S.pushHid o).push hf D
  have z' := (S.pushHid o).fresh
  rw [Heap.size_push] at z z'
  exact ⟨z', z⟩
theorem WP.slice_to {value upper : Expr} {p pos : Pos} {k : Value → Loc → View → Prop} (u : Nat)
    (h : WP C (eval value C.env) m V fun o m V => WP C (eval upper C.env) m V fun b m V => ∃ l t xs n tk, o = .ref l ∧ V l = some (.lst t xs) ∧ xs.length ≤ sizeLine ∧ b = .int n tk ∧ 0 ≤ n ∧ ∀ a, V a = Option.none → k (.ref a) m (upd V a (.lst u (xs.take n.toNat))))
    (ht : ∀ o r, letTemporaryGo value o r = Pure.pure () := by intro _ _; rfl) :
    WP C (eval (.Subscript value (.Slice Option.none (some upper) Option.none p) pos) C.env) m V k := by
  intro F A s Q E hA S q
  refine wpAny_Subscript_list_slice (h F A s _ E hA S fun o m V h1 tk1 S1 x1 => ?_) ht
  rw [evalPart_none, evalPart_some]
  refine wpAny_pure (x1 F A { s with heap := h1, toks := tk1 } _ E hA S1 ?_)
  rintro b m V h2 tk2 S2 ⟨l, t, xs, n, tk, rfl, e, hz, rfl, h0, hk⟩
  obtain ⟨nn, i⟩ := S2.isL e
  refine ⟨l, xs.toArray, Option.none, some n, rfl, i.isList, by rw [List.size_toArray]; exact hz, .none, .int n tk, ?_⟩
  rw [Mine.slice_to h0]
  obtain ⟨z1, z2⟩ := S2.push2 (o := { cls := .type "slice", data := .fields #[.none, .int n tk, .none] }) (x := .lst u (xs.take n.toNat)) (o' := { cls := .type "list", data := .seq (xs.take n.toNat).toArray }) rfl ⟨0, rfl⟩
  exact q _ m _ _ tk2 z2 (hk _ z1)
theorem WP.slice_from {value lower : Expr} {p pos : Pos} {k : Value → Loc → View → Prop} (u : Nat)
    (h : WP C (eval value C.env) m V fun o m V => WP C (eval lower C.env) m V fun b m V => ∃ l t xs n tk, o = .ref l ∧ V l = some (.lst t xs) ∧ xs.length ≤ sizeLine ∧ b = .int n tk ∧ 0 ≤ n ∧ ∀ a, V a = Option.none → k (.ref a) m (upd V a (.lst u (xs.drop n.toNat))))
    (ht : ∀ o r, letTemporaryGo value o r = Pure.pure () := by intro _ _; rfl) :
    WP C (eval (.Subscript value (.Slice (some lower) Option.none Option.none p) pos) C.env) m V k := by
  intro F A s Q E hA S q
  refine wpAny_Subscript_list_slice (h F A s _ E hA S fun o m V h1 tk1 S1 x1 => ?_) ht
  rw [evalPart_none, evalPart_some]
  refine x1 F A { s with heap := h1, toks := tk1 } _ E hA S1 ?_
  rintro b m V h2 tk2 S2 ⟨l, t, xs, n, tk, rfl, e, hz, rfl, h0, hk⟩
  obtain ⟨nn, i⟩ := S2.isL e
  refine wpAny_pure ⟨l, xs.toArray, some n, Option.none, rfl, i.isList, by rw [List.size_toArray]; exact hz, .int n tk, .none, ?_⟩
  rw [Mine.slice_from h0]
  obtain ⟨z1, z2⟩ := S2.push2 (o := { cls := .type "slice", data := .fields #[.int n tk, .none, .none] }) (x := .lst u (xs.drop n.toNat)) (o' := { cls := .type "list", data := .seq (xs.drop n.toNat).toArray }) rfl ⟨0, rfl⟩
  exact q _ m _ _ tk2 z2 (hk _ z1)

/-- names stored in a row -/
noncomputable def storeAll (C : Cx) : List (Value → Sem Unit) → List Value → Loc → View → (Loc → View → Prop) → Prop
  | t :: ts, x :: xs, m, V, k => WP C (t x) m V fun _ m V => storeAll C ts xs m V k
  | _, _, m, V, k => k m V
theorem WP.inOrder : ∀ {ts : List (Value → Sem Unit)} {xs : List Value} {m : Loc} {V : View} {k : Unit → Loc → View → Prop}, storeAll C ts xs m V (k ()) → WP C (assignInOrder ts xs) m V k
  | [], _, _, _, _, h => WP.pure h
  | _ :: _, [], _, _, _, h => WP.pure h
  | t :: ts, x :: xs, m, V, k, h => fun F A s Q E hA S q => wpAny_assignInOrder_more (h F A s _ E hA S fun _ m' V' h' tk' S' y => WP.inOrder y F A { s with heap := h', toks := tk' } Q E hA S' q)
theorem WP.assign_tuple {elts : List Expr} {c : Nat} {tpos pos : Pos} {value : Expr} {k : Flow → Loc → View → Prop}
    (h : WP C (eval value C.env) m V fun v m V => ∃ a xs, v = .ref a ∧ V a = some (.tup xs) ∧ (assignEach elts C.env).length = xs.length ∧ storeAll C ((assignEach elts C.env).map (·.2)) xs m V (k .next))
    (hstar : (assignEach elts C.env).findIdx? (·.1) = Option.none := by rfl)
    (hs : swapsWithSole [.Tuple elts c tpos] value pos.line C.env = Pure.pure false := by rfl)
    (hw : swappedStores [.Tuple elts c tpos] value C.env = Pure.pure Option.none := by rfl) : WP C (exec (.Assign [.Tuple elts c tpos] value pos) C.env) m V k := by
  intro F A s Q E hA S q
  refine PyProof.Rows.Assign_Tuple (h F A s _ E hA S ?_) hs hw
  rintro v m V h1 tk1 S1 ⟨a, xs, rfl, e, hl, x1⟩
  obtain ⟨n, i⟩ := S1.isT e
  refine PyProof.Rows.assign_Tuple_tuple (items := xs.toArray) hA.1 ⟨_, i, rfl, n, rfl⟩ (by rw [List.size_toArray]; exact hl) hstar fun h' he => ?_
  obtain ⟨FI, bI, LI, VI⟩ := S1.newI
  exact WP.inOrder (k := fun _ => k .next) x1 F A { s with heap := h', toks := tk1 } _ E hA (S1.extBut he FI bI LI VI) fun _ m' V' h'' tk' S' y => q .next m' V' h'' tk' S' y
/-- [x] * n -/
theorem foldl_rep (x : Value) : ∀ (n : Nat) (acc : Array Value), (List.replicate n #[x]).foldl (fun x1 x2 => x1 ++ x2) acc = acc ++ (List.replicate n x).toArray
  | 0, acc => by simp
  | n + 1, acc => by
    rw [List.replicate_succ, List.foldl_cons, foldl_rep x n, List.replicate_succ]
    apply Array.toList_inj.mp
    simp
theorem WP.mul_list {l : Addr} {t : Nat} (t' : Nat) {x : Value} {n : Int} {u : Tok} {k : Value → Loc → View → Prop} (e : V l = some (.lst t [x])) (h0 : 0 ≤ n) (hn : n ≤ 2 ^ 24) (h : ∀ a, V a = Option.none → k (.ref a) m (upd V a (.lst t' (List.replicate n.toNat x)))) :
    WP C (binaryOp .Mult (.ref l) (.int n u)) m V k := by
  intro F A s Q E hA S q
  obtain ⟨nn, hl⟩ := S.isL e
  have hz : ([x] : List Value).toArray.size * n.toNat ≤ 2 ^ 24 := by simp; omega
  refine wpAny_binaryOp_repeat_ref (T := "list") (U := "int") (by decide) ⟨_, hl, rfl⟩ (fun s' => typeIs_int s' n u) noFill_list_mul PySem.F.fills_int_mul PySem.F.slot_int_rmul repeat_list PySem.F.slot_int_index.lookup
    (call_meets PySem.F.slot_int_rmul (typeIs_int s n u) PySem.F.entry_int_rmul (PySem.F.args_int_rmul_2 _ _) (int___rmul___int_list n u l _ nn)
      ⟨hl, rfl, ⟨_, hl, rfl⟩, call_meets PySem.F.slot_list_mul ⟨_, hl, rfl⟩ PySem.F.entry_list_mul (PySem.F.args_list_mul_2 _ _)
        (AutoListH.list___mul___list_int_3 l _ nn n u (by simp [Builtin.List.listFitsIndex]; omega) (by omega) (by simp [Builtin.List.listTooLong, sizeLine]; omega)) ⟨hl, ?_⟩⟩)
  have e1 : List.foldl (fun x1 x2 => x1 ++ x2) #[] (List.replicate (if ([x] : List Value).toArray.isEmpty = true then 0 else n.toNat) ([x] : List Value).toArray) = (List.replicate n.toNat x).toArray := by
    rw [if_neg (by simp)]
    have := foldl_rep x n.toNat #[]
    simpa using this
  rw [e1]
  exact q _ m _ _ s.toks (S.push (x := .lst t' (List.replicate n.toNat x)) rfl ⟨0, rfl⟩) (h _ S.fresh)
end Mine
namespace Mine
open PySem PySem.Calls PyProof.Rows PySem.W
variable {C : Cx} {m : Loc} {V : View} {α β : Type} {prog : Program} {w : World} {b₀ : Heap} {K : Frag}

theorem WP.unary {op : UnaryOp} {x : Expr} {pos : Pos} {k : Value → Loc → View → Prop} (h : WP C (eval x C.env) m V fun v m V => WP C (unaryOp op v) m V k) : WP C (eval (.UnaryOp op x pos) C.env) m V k :=
  fun F A s Q E hA S q => wpAny_UnaryOp (h F A s _ E hA S fun a m' V' h' tk' S' x => x F A { s with heap := h', toks := tk' } Q E hA S' q)
theorem WP.neg_int {a : Int} {t : Tok} {k : Value → Loc → View → Prop} (h : ∀ tk, k (.int (-a) tk) m V) : WP C (unaryOp .USub (.int a t)) m V k :=
  fun F A s Q E hA S q => PyProof.Rows.neg_int (q _ m V s.heap _ S (h _))
theorem WP.isub_int {a b : Int} {t u : Tok} {k : Value → Loc → View → Prop} (h : ∀ tk, k (.int (a - b) tk) m V) : WP C (inplaceOp .Sub (.int a t) (.int b u)) m V k :=
  fun F A s Q E hA S q => PyProof.Rows.isub_int (q _ m V s.heap _ S (h _))
/-- a slice of a list that stood before -/
theorem WP.slice_base {value upper : Expr} {p pos : Pos} {k : Value → Loc → View → Prop} (u : Nat)
    (h : WP C (eval value C.env) m V fun o m V => WP C (eval upper C.env) m V fun b m V => ∃ l, ∃ xs : List Value, ∃ n tk, o = .ref l ∧ C.b₀.IsList l xs.toArray ∧ xs.length ≤ sizeLine ∧ b = .int n tk ∧ 0 ≤ n ∧ ∀ a, V a = Option.none → k (.ref a) m (upd V a (.lst u (xs.take n.toNat))))
    (ht : ∀ o r, letTemporaryGo value o r = Pure.pure () := by intro _ _; rfl) :
    WP C (eval (.Subscript value (.Slice Option.none (some upper) Option.none p) pos) C.env) m V k := by
  intro F A s Q E hA S q
  refine wpAny_Subscript_list_slice (h F A s _ E hA S fun o m V h1 tk1 S1 x1 => ?_) ht
  rw [evalPart_none, evalPart_some]
  refine wpAny_pure (x1 F A { s with heap := h1, toks := tk1 } _ E hA S1 ?_)
  rintro b m V h2 tk2 S2 ⟨l, xs, n, tk, rfl, e, hz, rfl, h0, hk⟩
  refine ⟨l, xs.toArray, Option.none, some n, rfl, e.at fun o eo => S2.gl.keep l o eo, by rw [List.size_toArray]; exact hz, .none, .int n tk, ?_⟩
  rw [Mine.slice_to h0]
  obtain ⟨z1, z2⟩ := S2.push2 (o := { cls := .type "slice", data := .fields #[.none, .int n tk, .none] }) (x := .lst u (xs.take n.toNat)) (o' := { cls := .type "list", data := .seq (xs.take n.toNat).toArray }) rfl ⟨0, rfl⟩
  exact q _ m _ _ tk2 z2 (hk _ z1)

noncomputable def fnParams : Stmt → Arguments
  | .FunctionDef _ a .. => a
  | _ => ⟨[], [], .none, [], [], .none, []⟩
noncomputable def fnBody : Stmt → List Stmt
  | .FunctionDef _ _ b .. => b
  | _ => []
noncomputable def fnScope : Stmt → Scope
  | .FunctionDef _ _ _ _ _ _ s .. => s
  | _ => default
noncomputable def clsBody : Stmt → List Stmt
  | .ClassDef _ _ _ b .. => b
  | _ => []
noncomputable def topAt (i : Nat) : Stmt := (Challenge.pw_rh0077_01.main.body[i]?).getD (.Pass default)
noncomputable def methAt (i j : Nat) : Stmt := ((clsBody (topAt i))[j]?).getD (.Pass default)

noncomputable def FnFact (K : Frag) (a : Addr) (q : Str) (st : Stmt) (dV : Value := .none) : Prop := ∃ oc od name kV doc pm an cdv ct osl,
  K.lookup a = some ⟨oc, od, .func (fnOf name q (fnParams st) (fnBody st) (fnScope st) dV kV doc pm an cdv ct), osl⟩ ∧ codeIn K cdv q = true

theorem mkFn {K : Frag} {a : Addr} {q : Str} {st : Stmt} {dV : Value} {oc od name kV doc pm an cdv ct osl}
    (h : K.lookup a = some ⟨oc, od, .func (fnOf name q (fnParams st) (fnBody st) (fnScope st) dV kV doc pm an cdv ct), osl⟩) (h2 : codeIn K cdv q = true) : FnFact K a q st dV := ⟨_, _, _, _, _, _, _, _, _, _, h, h2⟩

structure GC (prog : Program) (w : World) (b₀ : Heap) (K : Frag) (mg mb : Str → Option Value) : Prop where
  X : K.In b₀
  hg : b₀.Ns mainGlobals mg
  hb : b₀.Ns builtinsNs mb
  lim : b₀.NoLimit
  sys : sysModules < b₀.objs.size
  bi : ∀ x : Str, x ≠ "__name__" → mb x = bootBuiltins x
variable {mg mb : Str → Option Value}

theorem GC.fnAt (G : GC prog w b₀ K mg mb) {a : Addr} {q : Str} {st : Stmt} {dV : Value} (h : FnFact K a q st dV) : ∃ name kV doc pm an cdv ct, FnAt b₀ a (fnOf name q (fnParams st) (fnBody st) (fnScope st) dV kV doc pm an cdv ct) := by
  obtain ⟨oc, od, name, kV, doc, pm, an, cdv, ct, osl, h1, h2⟩ := h
  exact ⟨name, kV, doc, pm, an, cdv, ct, ⟨_, G.X _ _ h1, rfl⟩, codeRec_of G.X h2⟩
theorem GC.keeps (G : GC C.prog C.w C.b₀ K mg mb) {a : Addr} {q : Str} {st : Stmt} {dV : Value} (h : FnFact K a q st dV) : KeepsF C (.ref a) := by
  obtain ⟨name, kV, doc, pm, an, cdv, ct, f⟩ := G.fnAt h
  exact .fn f
theorem GC.name (G : GC C.prog C.w C.b₀ K mg mb) {x : Str} {pos : Pos} {v : Value} {k : Value → Loc → View → Prop} (e : nsIn K mainGlobals x = some (some v)) (h : k v m V)
    (hG : C.env.globals = mainGlobals := by rfl) (hk : C.env.scope.kind = .function := by rfl) (hx : C.env.kindOf x = some .globalImplicit := by rfl) (hd : (x == ("__debug__" : Str)) = false := by decide) :
    WP C (eval (.Name x pos) C.env) m V k := WP.glob G.hg (mg_of G.X G.hg e) h hG hk hx hd
theorem GC.bname (G : GC C.prog C.w C.b₀ K mg mb) {x : Str} {pos : Pos} {v : Value} {k : Value → Loc → View → Prop} (e : nsIn K mainGlobals x = some none) (hv : bootBuiltins x = some v) (h : k v m V) (hn : x ≠ "__name__" := by decide)
    (hG : C.env.globals = mainGlobals := by rfl) (hB : C.env.builtins = builtinsNs := by rfl) (hk : C.env.scope.kind = .function := by rfl) (hx : C.env.kindOf x = some .globalImplicit := by rfl) (hd : (x == ("__debug__" : Str)) = false := by decide) :
    WP C (eval (.Name x pos) C.env) m V k := WP.builtin G.hg (mg_none_of G.X G.hg e) G.hb ((G.bi x hn).trans hv) h hG hB hk hx hd

/-- the names a def's call binds -/
noncomputable def bindsOf (st : Stmt) (args : List Value) : List (Str × Value) := ((fnParams st).args.map (·.arg)).zip args
noncomputable def loc0 (st : Stmt) (args : List Value) : Loc := fun x => (bindsOf st args).reverse.lookup x
/-- a def of the program, its cells none -/
theorem GC.fn (G : GC prog w b₀ K mg mb) {a : Addr} {q : Str} {st : Stmt} (f : FnFact K a q st) {d : Nat} {args : List Value} {post : Value → View → Prop}
    (h : ∀ L cdv, V L = none → WP (bodyCx prog w b₀ (envX q (fnScope st) L a cdv []) d) (execs (fnBody st) (envX q (fnScope st) L a cdv [])) (loc0 st args) V (retOf post))
    (hbind : ∀ name kV doc pm an cdv ct, bindArgs (fnOf name q (fnParams st) (fnBody st) (fnScope st) .none kV doc pm an cdv ct) ⟨args, []⟩ = pure (bindsOf st args) := by intro _ _ _ _ _ _ _; rfl)
    (hloc : ((bindsOf st args).all fun x => decide ((fnScope st).names.lookup x.1 = some .local)) = true := by rfl)
    (hcell : ∀ x ∈ (fnScope st).names, x.2 ≠ .cell := by decide) (hco : (fnScope st).isCoroutine = false := by rfl) (hgen : (fnScope st).isGenerator = false := by rfl) (hk : (fnScope st).kind = .function := by rfl) :
    Fn prog w b₀ (d + 1) V (.ref a) args post := by
  obtain ⟨name, kV, doc, pm, an, cdv, ct, hf⟩ := G.fnAt f
  exact Fn.def hf G.lim (fun s _ => BindsTo.of_eq (hbind _ _ _ _ _ _ _)) (locs hloc) hcell hco hgen hk fun L hL => h L cdv hL
/-- a def of the program with one default -/
theorem GC.fnD (G : GC prog w b₀ K mg mb) {a : Addr} {q : Str} {st : Stmt} {T : Addr} {dv : Value} (f : FnFact K a q st (.ref T)) (ht : ∃ n, K.lookup T = some { cls := .type "tuple", data := .seq #[dv] n }) {d : Nat} {args : List Value} {post : Value → View → Prop}
    (h : ∀ L cdv, V L = none → WP (bodyCx prog w b₀ (envX q (fnScope st) L a cdv []) d) (execs (fnBody st) (envX q (fnScope st) L a cdv [])) (loc0 st args) V (retOf post))
    (hbind : ∀ s name kV doc pm an cdv ct n, s.heap.get? T = some ({ cls := .type "tuple", data := .seq #[dv] n } : Obj) → BindsTo s (fnOf name q (fnParams st) (fnBody st) (fnScope st) (.ref T) kV doc pm an cdv ct) ⟨args, []⟩ (bindsOf st args) := by intro _ _ _ _ _ _ _ _ _ hT; exact BindsTo.of_defaults rfl hT rfl rfl rfl)
    (hloc : ((bindsOf st args).all fun x => decide ((fnScope st).names.lookup x.1 = some .local)) = true := by rfl)
    (hcell : ∀ x ∈ (fnScope st).names, x.2 ≠ .cell := by decide) (hco : (fnScope st).isCoroutine = false := by rfl) (hgen : (fnScope st).isGenerator = false := by rfl) (hk : (fnScope st).kind = .function := by rfl) :
    Fn prog w b₀ (d + 1) V (.ref a) args post := by
  obtain ⟨name, kV, doc, pm, an, cdv, ct, hf⟩ := G.fnAt f
  obtain ⟨n, ht⟩ := ht
  exact Fn.def hf G.lim (fun s hs => hbind s _ _ _ _ _ _ _ n (hs _ _ (G.X _ _ ht))) (locs hloc) hcell hco hgen hk fun L hL => h L cdv hL
/-- a def of the program, with cells -/
theorem GC.fnC (G : GC prog w b₀ K mg mb) {a : Addr} {q : Str} {st : Stmt} (f : FnFact K a q st) {d : Nat} {args : List Value} {post : Value → View → Prop}
    (h : ∀ L cdv, V L = none → (∀ n c, (n, c) ∈ cellsFrom (L + 1) (fnScope st).names [] → V c = none ∧ c ≠ L) → ((cellsFrom (L + 1) (fnScope st).names []).Pairwise fun x y => x.2 ≠ y.2) →
      WP (bodyCx prog w b₀ (envX q (fnScope st) L a cdv (cellsFrom (L + 1) (fnScope st).names [])) d) (execs (fnBody st) (envX q (fnScope st) L a cdv (cellsFrom (L + 1) (fnScope st).names [])))
        (bindL (fun x => (fnScope st).names.lookup x) (bindsOf st args) fun _ => none) (addCells (bindC (fun x => (fnScope st).names.lookup x) (bindsOf st args) fun _ => none) (cellsFrom (L + 1) (fnScope st).names []) V) (retOf post))
    (hbind : ∀ name kV doc pm an cdv ct, bindArgs (fnOf name q (fnParams st) (fnBody st) (fnScope st) .none kV doc pm an cdv ct) ⟨args, []⟩ = pure (bindsOf st args) := by intro _ _ _ _ _ _ _; rfl)
    (hkind : ((bindsOf st args).all fun y => (fnScope st).names.lookup y.1 == some .local || (fnScope st).names.lookup y.1 == some .cell) = true := by rfl)
    (hnd : ((cellsFrom 0 (fnScope st).names []).map (·.1)).Nodup := by decide) (hco : (fnScope st).isCoroutine = false := by rfl) (hgen : (fnScope st).isGenerator = false := by rfl) (hk : (fnScope st).kind = .function := by rfl) :
    Fn prog w b₀ (d + 1) V (.ref a) args post := by
  obtain ⟨name, kV, doc, pm, an, cdv, ct, hf⟩ := G.fnAt f
  exact Fn.defC hf G.lim (hbind _ _ _ _ _ _ _) hkind hnd hco hgen hk fun L => h L cdv
end Mine
namespace Mine
open PySem PySem.Calls PyProof.Rows PySem.W
variable {C : Cx} {m : Loc} {V : View} {α β : Type} {prog : Program} {w : World} {b₀ : Heap} {K : Frag} {mg mb : Str → Option Value}

noncomputable def globList : List (Str × Value) := [(("A_NIL" : Str), Value.int 0 241), (("A_BAR" : Str), Value.int 8 243), (("A_CUT" : Str), Value.int 15 245), (("A_TRUE" : Str), Value.int 16 247), (("F_DOT" : Str), Value.int 0 251), (("F_COMMA" : Str), Value.int 1 253), (("F_SEMI" : Str), Value.int 2 255), (("F_ARROW" : Str), Value.int 3 257), (("F_NOT" : Str), Value.int 4 259), (("F_CURLY" : Str), Value.int 9 261), (("F_EQUAL" : Str), Value.int 10 263), (("fixed_atoms" : Str), Value.ref 60), (("fixed_functors" : Str), Value.ref 67), (("var" : Str), Value.ref 166), (("atom" : Str), Value.ref 173), (("struct" : Str), Value.ref 180), (("list_term" : Str), Value.ref 188), (("list_items" : Str), Value.ref 195), (("functor_in" : Str), Value.ref 202), (("arguments" : Str), Value.ref 209), (("conjunction" : Str), Value.ref 216), (("right_spine" : Str), Value.ref 280), (("nonterminal" : Str), Value.ref 315), (("terminals" : Str), Value.ref 322), (("grammar_body" : Str), Value.ref 362), (("grammar_part" : Str), Value.ref 367), (("plain_goal" : Str), Value.ref 374), (("_law_coins" : Str), Value.ref 381), (("_law_coin" : Str), Value.ref 388), (("_law_leaf" : Str), Value.ref 395), (("_law_row" : Str), Value.ref 402), (("_law_written" : Str), Value.ref 407), (("_law_line" : Str), Value.ref 414), (("Symbols" : Str), Value.ref 154), (("Fresh" : Str), Value.ref 269), (("GrammarVariables" : Str), Value.ref 304), (("GrammarTree" : Str), Value.ref 351)]
noncomputable def biList : List (Str × Value) := [(("len" : Str), Value.builtin "len"), (("abs" : Str), Value.builtin "abs"), (("range" : Str), Value.type "range"), (("tuple" : Str), Value.type "tuple"), (("reversed" : Str), Value.type "reversed")]
noncomputable def attrList : List (Addr × Str) := [(154, ("texts" : Str)), (154, ("atom_numbers" : Str)), (154, ("functors" : Str)), (154, ("functor_numbers" : Str)), (269, ("next" : Str)), (304, ("fresh" : Str)), (304, ("used" : Str)), (351, ("nodes" : Str)), (351, ("waiting" : Str))]
noncomputable def methList : List (Addr × Str × Addr) := [(154, ("atom" : Str), 88), (154, ("functor" : Str), 102), (154, ("func" : Str), 109), (154, ("name" : Str), 116), (269, ("number" : Str), 266), (304, ("variable" : Str), 301), (351, ("hold" : Str), 343), (351, ("goal" : Str), 348)]
noncomputable def methAddr (Cl : Addr) (name : Str) : Option Addr := (methList.find? fun p => p.1 == Cl && p.2.1 == name).map (·.2.2)
noncomputable def keepAddrs : List Addr := [60, 67, 166, 173, 180, 188, 195, 202, 209, 216, 280, 315, 322, 362, 367, 374, 381, 388, 395, 402, 407, 414, 81, 88, 102, 109, 116, 259, 266, 294, 301, 336, 343, 348, 154, 269, 304, 351]
structure Fx (K : Frag) : Prop where
  gl : ∀ p ∈ globList, nsIn K mainGlobals p.1 = some (some p.2)
  al : ∀ p ∈ attrList, AttrOk K p.1 p.2
  ml : ∀ p ∈ methList, MethOk K p.1 p.2.1 p.2.2
  bl : ∀ p ∈ biList, nsIn K mainGlobals p.1 = some none
  f_fixed_atoms : FnFact K 60 "fixed_atoms" (topAt 17)
  f_fixed_functors : FnFact K 67 "fixed_functors" (topAt 18)
  f_var : FnFact K 166 "var" (topAt 22)
  f_atom : FnFact K 173 "atom" (topAt 23)
  f_struct : FnFact K 180 "struct" (topAt 24)
  f_list_term : FnFact K 188 "list_term" (topAt 25) (Value.ref 181)
  f_list_items : FnFact K 195 "list_items" (topAt 26)
  f_functor_in : FnFact K 202 "functor_in" (topAt 27)
  f_arguments : FnFact K 209 "arguments" (topAt 28)
  f_conjunction : FnFact K 216 "conjunction" (topAt 29)
  f_right_spine : FnFact K 280 "right_spine" (topAt 36)
  f_nonterminal : FnFact K 315 "nonterminal" (topAt 39)
  f_terminals : FnFact K 322 "terminals" (topAt 40)
  f_grammar_body : FnFact K 362 "grammar_body" (topAt 42)
  f_grammar_part : FnFact K 367 "grammar_part" (topAt 43)
  f_plain_goal : FnFact K 374 "plain_goal" (topAt 44)
  f__law_coins : FnFact K 381 "_law_coins" (topAt 46)
  f__law_coin : FnFact K 388 "_law_coin" (topAt 47)
  f__law_leaf : FnFact K 395 "_law_leaf" (topAt 48)
  f__law_row : FnFact K 402 "_law_row" (topAt 49)
  f__law_written : FnFact K 407 "_law_written" (topAt 50)
  f__law_line : FnFact K 414 "_law_line" (topAt 51)
  c_Symbols : ClsOk K 154 81
  f_Symbols___init__ : FnFact K 81 "Symbols.__init__" (methAt 19 0)
  f_Symbols_atom : FnFact K 88 "Symbols.atom" (methAt 19 1)
  f_Symbols_functor : FnFact K 102 "Symbols.functor" (methAt 19 3)
  f_Symbols_func : FnFact K 109 "Symbols.func" (methAt 19 4)
  f_Symbols_name : FnFact K 116 "Symbols.name" (methAt 19 5)
  c_Fresh : ClsOk K 269 259
  f_Fresh___init__ : FnFact K 259 "Fresh.__init__" (methAt 35 0) (Value.ref 252)
  f_Fresh_number : FnFact K 266 "Fresh.number" (methAt 35 1)
  c_GrammarVariables : ClsOk K 304 294
  f_GrammarVariables___init__ : FnFact K 294 "GrammarVariables.__init__" (methAt 38 0)
  f_GrammarVariables_variable : FnFact K 301 "GrammarVariables.variable" (methAt 38 1)
  c_GrammarTree : ClsOk K 351 336
  f_GrammarTree___init__ : FnFact K 336 "GrammarTree.__init__" (methAt 41 0)
  f_GrammarTree_hold : FnFact K 343 "GrammarTree.hold" (methAt 41 1)
  f_GrammarTree_goal : FnFact K 348 "GrammarTree.goal" (methAt 41 2)
  d_list_term : ∃ n, K.lookup 181 = some { cls := .type "tuple", data := .seq #[.none] n }
  d_Fresh : ∃ n, K.lookup 252 = some { cls := .type "tuple", data := .seq #[.int 0 515] n }

structure GX (prog : Program) (w : World) (b₀ : Heap) (K : Frag) (mg mb : Str → Option Value) : Prop extends GC prog w b₀ K mg mb, Fx K

theorem mem_of_lookup {x : Str} {v : Value} : ∀ {l : List (Str × Value)}, l.lookup x = some v → (x, v) ∈ l
  | [], h => nomatch h
  | (y, u) :: r, h => by
    rw [List.lookup_cons] at h
    by_cases e : x = y
    · subst e; simp at h; subst h; exact .head _
    · have : (x == y) = false := beq_eq_false_iff_ne.mpr e
      rw [this] at h; exact .tail _ (mem_of_lookup h)
theorem GX.name (G : GX C.prog C.w C.b₀ K mg mb) {x : Str} {pos : Pos} {v : Value} {k : Value → Loc → View → Prop} (e : globList.lookup x = some v) (h : k v m V)
    (hG : C.env.globals = mainGlobals := by rfl) (hk : C.env.scope.kind = .function := by rfl) (hx : C.env.kindOf x = some .globalImplicit := by rfl) (hd : (x == ("__debug__" : Str)) = false := by decide) :
    WP C (eval (.Name x pos) C.env) m V k := G.toGC.name (G.gl _ (mem_of_lookup e)) h hG hk hx hd
theorem GX.bname (G : GX C.prog C.w C.b₀ K mg mb) {x : Str} {pos : Pos} {v : Value} {k : Value → Loc → View → Prop} (e : biList.lookup x = some v) (hv : bootBuiltins x = some v) (h : k v m V) (hn : x ≠ "__name__" := by decide)
    (hG : C.env.globals = mainGlobals := by rfl) (hB : C.env.builtins = builtinsNs := by rfl) (hk : C.env.scope.kind = .function := by rfl) (hx : C.env.kindOf x = some .globalImplicit := by rfl) (hd : (x == ("__debug__" : Str)) = false := by decide) :
    WP C (eval (.Name x pos) C.env) m V k := G.toGC.bname (G.bl _ (mem_of_lookup e)) hv h hn hG hB hk hx hd

theorem GX.kf (G : GX C.prog C.w C.b₀ K mg mb) {f : Addr} (h : keepAddrs.contains f = true) : KeepsF C (.ref f) := by
  refine (?_ : ∀ f ∈ keepAddrs, KeepsF C (.ref f)) f (List.contains_iff_mem.mp h)
  refine allL (G.keeps G.f_fixed_atoms) ?_
  refine allL (G.keeps G.f_fixed_functors) ?_
  refine allL (G.keeps G.f_var) ?_
  refine allL (G.keeps G.f_atom) ?_
  refine allL (G.keeps G.f_struct) ?_
  refine allL (G.keeps G.f_list_term) ?_
  refine allL (G.keeps G.f_list_items) ?_
  refine allL (G.keeps G.f_functor_in) ?_
  refine allL (G.keeps G.f_arguments) ?_
  refine allL (G.keeps G.f_conjunction) ?_
  refine allL (G.keeps G.f_right_spine) ?_
  refine allL (G.keeps G.f_nonterminal) ?_
  refine allL (G.keeps G.f_terminals) ?_
  refine allL (G.keeps G.f_grammar_body) ?_
  refine allL (G.keeps G.f_grammar_part) ?_
  refine allL (G.keeps G.f_plain_goal) ?_
  refine allL (G.keeps G.f__law_coins) ?_
  refine allL (G.keeps G.f__law_coin) ?_
  refine allL (G.keeps G.f__law_leaf) ?_
  refine allL (G.keeps G.f__law_row) ?_
  refine allL (G.keeps G.f__law_written) ?_
  refine allL (G.keeps G.f__law_line) ?_
  refine allL (G.keeps G.f_Symbols___init__) ?_
  refine allL (G.keeps G.f_Symbols_atom) ?_
  refine allL (G.keeps G.f_Symbols_functor) ?_
  refine allL (G.keeps G.f_Symbols_func) ?_
  refine allL (G.keeps G.f_Symbols_name) ?_
  refine allL (G.keeps G.f_Fresh___init__) ?_
  refine allL (G.keeps G.f_Fresh_number) ?_
  refine allL (G.keeps G.f_GrammarVariables___init__) ?_
  refine allL (G.keeps G.f_GrammarVariables_variable) ?_
  refine allL (G.keeps G.f_GrammarTree___init__) ?_
  refine allL (G.keeps G.f_GrammarTree_hold) ?_
  refine allL (G.keeps G.f_GrammarTree_goal) ?_
  refine allL (KeepsF.cls G.X G.c_Symbols.keep) ?_
  refine allL (KeepsF.cls G.X G.c_Fresh.keep) ?_
  refine allL (KeepsF.cls G.X G.c_GrammarVariables.keep) ?_
  refine allL (KeepsF.cls G.X G.c_GrammarTree.keep) ?_
  exact allN


theorem GX.attr (G : GX prog w b₀ K mg mb) {Cl : Addr} {x : Str} (h : (attrList.any fun p => p.1 == Cl && p.2 == x) = true) : AttrOk K Cl x := by
  obtain ⟨p, hp, q⟩ := List.any_eq_true.mp h
  simp only [Bool.and_eq_true, beq_iff_eq] at q
  obtain ⟨rfl, rfl⟩ := q
  exact G.al p hp
theorem GX.meth (G : GX prog w b₀ K mg mb) {Cl f : Addr} {x : Str} (h : methAddr Cl x = some f) : MethOk K Cl x f := by
  unfold methAddr at h
  obtain ⟨p, hp, rfl⟩ := Option.map_eq_some_iff.mp h
  have q := List.find?_some hp
  simp only [Bool.and_eq_true, beq_iff_eq] at q
  obtain ⟨rfl, rfl⟩ := q
  exact G.ml p (List.mem_of_find?_eq_some hp)

noncomputable def Kp (T : List Nat) (V V' : View) : Prop := ∀ a x, V a = some x → T.contains x.tag = false → V' a = some x
theorem Kp.refl {T V} : Kp T V V := fun _ _ e _ => e
theorem Kp.trans {T U V W} (h : Kp T U V) (k : Kp T V W) : Kp T U W := fun a x e ht => k a x (h a x e ht) ht
theorem Kp.weak {T T' : List Nat} {U V} (h : Kp T U V) (s : (T.all fun t => T'.contains t) = true := by rfl) : Kp T' U V := fun a x e ht => h a x e (by
  cases q : T.contains x.tag with
  | false => rfl
  | true =>
    have := List.all_eq_true.mp s _ (List.contains_iff_mem.mp q)
    rw [this] at ht; cases ht)
theorem Kp.new {T U V a x} (h : Kp T U V) (n : V a = none) : Kp T U (upd V a x) := fun b y e ht => upd_new n (h b y e ht)
theorem Kp.set {T U V a x y} (h : Kp T U V) (e : V a = some y) (s : T.contains y.tag = true := by rfl) : Kp T U (upd V a x) := fun b z q ht => by
  have r := h b z q ht
  by_cases hb : b = a
  · subst hb; rw [r] at e; cases e; rw [s] at ht; cases ht
  · rw [upd_ne hb]; exact r
theorem Kp.get {T V V' a x} (h : Kp T V V') (e : V a = some x) (s : T.contains x.tag = false := by rfl) : V' a = some x := h a x e s
/-- frozen things stay -/
noncomputable def Fz (V V' : View) : Prop := ∀ a x, V a = some x → x.tag = 0 → V' a = some x
theorem Fz.refl {V} : Fz V V := fun _ _ e _ => e
theorem Fz.trans {U V W} (h : Fz U V) (k : Fz V W) : Fz U W := fun a x e ht => k a x (h a x e ht) ht
theorem Kp.fz {T V V'} (h : Kp T V V') (s : T.contains 0 = false := by rfl) : Fz V V' := fun a x e ht => h a x e (by rw [ht]; exact s)
theorem Fz.new {U V a x} (h : Fz U V) (n : V a = none) : Fz U (upd V a x) := fun b y e ht => upd_new n (h b y e ht)
theorem Fz.tup {V V' a xs} (h : Fz V V') (e : V a = some (.tup xs)) : V' a = some (.tup xs) := h a _ e rfl
theorem Fz.inst {V V' a c d} (h : Fz V V') (e : V a = some (.inst c d)) : V' a = some (.inst c d) := h a _ e rfl

theorem Fz.set {U V a x y} (h : Fz U V) (e : V a = some y) (s : y.tag ≠ 0) : Fz U (upd V a x) := fun b z q ht => by
  have r := h b z q ht
  by_cases hb : b = a
  · subst hb; rw [r] at e; cases e; exact absurd ht s
  · rw [upd_ne hb]; exact r
theorem sz {n : Nat} (h : n ≤ 1000000) : n ≤ sizeLine := Nat.le_trans h (by decide)
theorem sz' {n : Nat} (h : n ≤ 1000000) : n < sizeLine := Nat.lt_of_le_of_lt h (by decide)
theorem ifT {c : Prop} [Decidable c] {P Q : Prop} (h : c) (p : P) : if c then P else Q := by rw [if_pos h]; exact p
theorem ifF {c : Prop} [Decidable c] {P Q : Prop} (h : ¬ c) (p : Q) : if c then P else Q := by rw [if_neg h]; exact p
theorem andRet {k : Flow → Loc → View → Prop} {rest : List Stmt} {v : Value} (h : k (.ret v) m V) : andThen C rest k (.ret v) m V := h
theorem andNext {k : Flow → Loc → View → Prop} {rest : List Stmt} (h : WP C (execs rest C.env) m V k) : andThen C rest k .next m V := h
theorem andBrk {k : Flow → Loc → View → Prop} {rest : List Stmt} (h : k .brk m V) : andThen C rest k .brk m V := h
theorem andCont {k : Flow → Loc → View → Prop} {rest : List Stmt} (h : k .cont m V) : andThen C rest k .cont m V := h
section
variable {k : Value → Loc → View → Prop} {k0 : Unit → Loc → View → Prop}
theorem nTuple {vs : List Value} (h : ∀ a V', Kp [] V V' → V' a = some (.tup vs) → k (.ref a) m V') (hz : vs.length ≤ sizeLine := by first | exact sz (by decide) | exact sz (by simp)) : WP C (PySem.newTuple vs) m V k := WP.newTuple hz fun a ha => h a _ (Kp.refl.new ha) upd_self
theorem nList (t : Nat) {vs : List Value} (h : ∀ a V', Kp [] V V' → V' a = some (.lst t vs) → k (.ref a) m V') (hz : vs.length ≤ sizeLine := by first | exact sz (by decide) | exact sz (by simp)) : WP C (PySem.newList vs) m V k := WP.newList t hz fun a ha => h a _ (Kp.refl.new ha) upd_self
theorem nAppend {l : Addr} {t : Nat} {xs : List Value} {x : Value} (e : V l = some (.lst t xs)) (hz : xs.length ≤ 1000000) (h : ∀ V', Kp [t] V V' → V' l = some (.lst t (xs ++ [x])) → k Value.none m V') : WP C (PySem.call (.builtin "list.append") [.ref l, x]) m V k :=
  WP.append e (sz hz) (h _ (Kp.refl.set e (by simp [AO.tag])) upd_self)
theorem nPop {l : Addr} {t : Nat} {p : List Value} {y : Value} (e : V l = some (.lst t (p ++ [y]))) (hz : p.length ≤ 1000000) (h : ∀ V', Kp [t] V V' → V' l = some (.lst t p) → k y m V') : WP C (PySem.call (.builtin "list.pop") [.ref l]) m V k :=
  WP.pop e (sz' hz) (h _ (Kp.refl.set e (by simp [AO.tag])) upd_self)
theorem nReverse {l : Addr} {t : Nat} {xs : List Value} (e : V l = some (.lst t xs)) (hz : xs.length ≤ 1000000) (h : ∀ V', Kp [t] V V' → V' l = some (.lst t xs.reverse) → k Value.none m V') : WP C (PySem.call (.builtin "list.reverse") [.ref l]) m V k :=
  WP.reverse e (sz hz) (h _ (Kp.refl.set e (by simp [AO.tag])) upd_self)
theorem nAddList {l b : Addr} {t t' : Nat} (u : Nat) {xs ys : List Value} (e : V l = some (.lst t xs)) (e' : V b = some (.lst t' ys)) (hz : xs.length + ys.length ≤ 1000000) (h : ∀ a V', Kp [] V V' → V' a = some (.lst u (xs ++ ys)) → k (.ref a) m V') : WP C (binaryOp .Add (.ref l) (.ref b)) m V k :=
  WP.add_list u e e' (sz hz) fun a ha => h a _ (Kp.refl.new ha) upd_self
theorem nAddTuple {l b : Addr} {xs ys : List Value} (e : V l = some (.tup xs)) (e' : V b = some (.tup ys)) (hx : xs ≠ []) (hy : ys ≠ []) (hz : xs.length + ys.length ≤ 1000000) (h : ∀ a V', Kp [] V V' → V' a = some (.tup (xs ++ ys)) → k (.ref a) m V') : WP C (binaryOp .Add (.ref l) (.ref b)) m V k :=
  WP.add_tuple e e' hx hy (sz hz) fun a ha => h a _ (Kp.refl.new ha) upd_self
theorem nSetList {l : Addr} {t : Nat} {xs : List Value} {i : Int} {u : Tok} {x : Value} (e : V l = some (.lst t xs)) (h0 : 0 ≤ i) (hi : i < 2 ^ 63) (hx : i < xs.length) (h : ∀ V', Kp [t] V V' → V' l = some (.lst t (xs.set i.toNat x)) → k0 () m V') : WP C (setItem (.ref l) (.int i u) x) m V k0 :=
  WP.set_list e h0 hi hx (h _ (Kp.refl.set e (by simp [AO.tag])) upd_self)
theorem nSetAttr (G : GX C.prog C.w C.b₀ K mg mb) {x d Cl : Addr} {t : Nat} {kvs : List (Str × Value)} {attr : Str} {v : Value} (O : (attrList.any fun p => p.1 == Cl && p.2 == attr) = true) (e : V x = some (.inst Cl d)) (ed : V d = some (.att t kvs)) (hz : (putA attr v kvs).length ≤ 1000)
    (h : ∀ V', Kp [t] V V' → V' d = some (.att t (putA attr v kvs)) → k0 () m V') : WP C (PySem.setAttr (.ref x) attr v) m V k0 :=
  WP.setAttr G.X (G.attr O) e ed hz (h _ (Kp.refl.set ed (by simp [AO.tag])) upd_self)
theorem nGetAttr (G : GX C.prog C.w C.b₀ K mg mb) {x d Cl : Addr} {t : Nat} {kvs : List (Str × Value)} {attr : Str} {v : Value} {b : Bool} (e : V x = some (.inst Cl d)) (ed : V d = some (.att t kvs)) (O : (attrList.any fun p => p.1 == Cl && p.2 == attr) = true) (hv : kvs.lookup attr = some v) (hh : handedIn v = true)
    (h : k v m V) : WP C (PySem.getAttr (.ref x) attr b) m V k :=
  WP.getAttr G.X (G.attr O) e ed hv hh h
theorem nGetMeth (G : GX C.prog C.w C.b₀ K mg mb) {x d Cl f : Addr} {t : Nat} {kvs : List (Str × Value)} {name : Str} {pl : Sem Bool} {k : Value × List Value → Loc → View → Prop} (e : V x = some (.inst Cl d)) (ed : V d = some (.att t kvs)) (O : methAddr Cl name = some f) (hv : kvs.lookup name = Option.none)
    (h : k (.ref f, [.ref x]) m V) : WP C (getMethod (.ref x) name pl) m V k :=
  WP.getMethod_inst G.X (G.meth O) e ed hv h
theorem nTupleList {l : Addr} {t : Nat} {xs : List Value} (e : V l = some (.lst t xs)) (hz : xs.length ≤ 1000000) (h : ∀ a V', Kp [] V V' → V' a = some (.tup xs) → k (.ref a) m V') : WP C (PySem.call (.type "tuple") [.ref l]) m V k :=
  WP.tuple_list e (sz hz) fun a ha => h a _ (Kp.refl.new ha) upd_self
theorem nMulList {l : Addr} {t : Nat} (t' : Nat) {x : Value} {n : Int} {u : Tok} (e : V l = some (.lst t [x])) (h0 : 0 ≤ n) (hn : n ≤ 2 ^ 24) (h : ∀ a V', Kp [] V V' → V' a = some (.lst t' (List.replicate n.toNat x)) → k (.ref a) m V') : WP C (binaryOp .Mult (.ref l) (.int n u)) m V k :=
  WP.mul_list t' e h0 hn fun a ha => h a _ (Kp.refl.new ha) upd_self
theorem nDictSet {KT : Type} [DecidableEq KT] {knd : KeyKind C.prog C.w KT} {d : Addr} {t : Nat} {kvs : List (KT × Value)} {kk : KT} {key v : Value} (hkey : knd.is kk key = true) (e : V d = some (IsD knd t kvs)) (hz : kvs.length ≤ 1000000)
    (h : ∀ V', Kp [t] V V' → V' d = some (IsD knd t (stored kvs kk v)) → k0 () m V') : WP C (setItem (.ref d) key v) m V k0 :=
  WP.dict_set hkey e (sz hz) (h _ (Kp.refl.set e (by simp [IsD, AO.tag])) upd_self)
theorem nTDictSet {d a : Addr} {t : Nat} {xs : List (List Int × Addr × Value)} {ks : List Int} {v : Value} (hsl : C.sl ≠ 0) (e : TDict C.prog C.w V d t xs) (ea : KeyTup V a ks) (hn : atKey xs ks = Option.none) (hz : xs.length ≤ 1000000) (ht : t ≠ 0)
    (h : ∀ V', Kp [t] V V' → TDict C.prog C.w V' d t (xs ++ [(ks, a, v)]) → k0 () m V') : WP C (setItem (.ref d) (.ref a) v) m V k0 := by
  refine WP.tdict_set hsl e ea hn (sz hz) (h _ (Kp.refl.set e.1 (by simp [AO.tag])) ⟨upd_self, fun x hx => ?_, ?_⟩)
  · have hk : KeyTup V x.2.1 x.1 := by
      rcases List.mem_append.mp hx with hx | hx
      · exact e.2.1 x hx
      · rw [List.mem_singleton.mp hx]; exact ea
    obtain ⟨vs, q, r⟩ := hk
    refine ⟨vs, ?_, r⟩
    exact Kp.get (Kp.refl.set (T := [t]) e.1 (by simp [AO.tag])) q (by simp [AO.tag]; omega)
  · rw [List.map_append, List.nodup_append]
    refine ⟨e.2.2, by simp, fun y hy z hz => ?_⟩
    simp only [List.map_cons, List.map_nil, List.mem_singleton] at hz
    subst hz
    rintro rfl
    obtain ⟨p, hp, q⟩ := List.mem_map.mp hy
    unfold atKey at hn
    have := List.find?_eq_none.mp (Option.map_eq_none_iff.mp hn) p hp
    simp [q] at this
end

inductive T where
  | v (n : Int) | a (n : Int) | s1 (f : Int) (p : T) | s2 (f : Int) (p q : T) | s3 (f : Int) (p q r : T)
noncomputable def D (V : View) : T → Value → Prop
  | .v n, u => ∃ x t1 t2, u = .ref x ∧ V x = some (.tup [.str "v" t1, .int n t2])
  | .a n, u => ∃ x t1 t2, u = .ref x ∧ V x = some (.tup [.str "a" t1, .int n t2])
  | .s1 f p, u => ∃ x y t1 t2 v1, u = .ref x ∧ V x = some (.tup [.str "s" t1, .int f t2, .ref y]) ∧ V y = some (.tup [v1]) ∧ D V p v1 ∧ f ≠ 1
  | .s2 f p q, u => ∃ x y t1 t2 v1 v2, u = .ref x ∧ V x = some (.tup [.str "s" t1, .int f t2, .ref y]) ∧ V y = some (.tup [v1, v2]) ∧ D V p v1 ∧ D V q v2
  | .s3 f p q r, u => ∃ x y t1 t2 v1 v2 v3, u = .ref x ∧ V x = some (.tup [.str "s" t1, .int f t2, .ref y]) ∧ V y = some (.tup [v1, v2, v3]) ∧ D V p v1 ∧ D V q v2 ∧ D V r v3 ∧ f ≠ 1
theorem D.ref {V : View} : ∀ {t : T} {u : Value}, D V t u → ∃ x, u = .ref x
  | .v _, _, hh0 => by obtain ⟨x, _, _, e, _⟩ := hh0; exact ⟨x, e⟩
  | .a _, _, hh0 => by obtain ⟨x, _, _, e, _⟩ := hh0; exact ⟨x, e⟩
  | .s1 .., _, hh0 => by obtain ⟨x, _, _, _, _, e, _⟩ := hh0; exact ⟨x, e⟩
  | .s2 .., _, hh0 => by obtain ⟨x, _, _, _, _, _, e, _⟩ := hh0; exact ⟨x, e⟩
  | .s3 .., _, hh0 => by obtain ⟨x, _, _, _, _, _, _, e, _⟩ := hh0; exact ⟨x, e⟩
theorem D.mono {V V' : View} (h : Fz V V') : ∀ {t : T} {u : Value}, D V t u → D V' t u
  | .v n, u, hh0 => by obtain ⟨x, t1, t2, e, q⟩ := hh0; exact ⟨x, t1, t2, e, h.tup q⟩
  | .a n, u, hh0 => by obtain ⟨x, t1, t2, e, q⟩ := hh0; exact ⟨x, t1, t2, e, h.tup q⟩
  | .s1 f p, u, hh0 => by obtain ⟨x, y, t1, t2, v1, e, q, r, d1, c⟩ := hh0; exact ⟨x, y, t1, t2, v1, e, h.tup q, h.tup r, d1.mono h, c⟩
  | .s2 f p q, u, hh0 => by obtain ⟨x, y, t1, t2, v1, v2, e, q', r, d1, d2⟩ := hh0; exact ⟨x, y, t1, t2, v1, v2, e, h.tup q', h.tup r, d1.mono h, d2.mono h⟩
  | .s3 f p q r, u, hh0 => by obtain ⟨x, y, t1, t2, v1, v2, v3, e, q', r', d1, d2, d3, c⟩ := hh0; exact ⟨x, y, t1, t2, v1, v2, v3, e, h.tup q', h.tup r', d1.mono h, d2.mono h, d3.mono h, c⟩
theorem D.kp {T V V'} {t : Mine.T} {u : Value} (k : Kp T V V') (d : D V t u) (s : T.contains 0 = false := by rfl) : D V' t u := d.mono (k.fz s)

-- AUTO
-- END AUTO
/-- two lists, item by item -/
inductive All2 {α β : Type} (R : α → β → Prop) : List α → List β → Prop
  | nil : All2 R [] []
  | cons {a b as bs} : R a b → All2 R as bs → All2 R (a :: as) (b :: bs)
section
variable {R R' : α → β → Prop} {as as' : List α} {bs bs' : List β}
theorem All2.imp (h : ∀ a b, R a b → R' a b) (x : All2 R as bs) : All2 R' as bs := by
  induction x with
  | nil => exact .nil
  | cons a _ ih => exact .cons (h _ _ a) ih
theorem All2.length (x : All2 R as bs) : as.length = bs.length := by
  induction x with
  | nil => rfl
  | cons _ _ ih => simp [ih]
theorem All2.append (x : All2 R as bs) (y : All2 R as' bs') : All2 R (as ++ as') (bs ++ bs') := by
  induction x with
  | nil => exact y
  | cons a _ ih => exact .cons a ih
theorem All2.one {a : α} {b : β} (h : R a b) : All2 R [a] [b] := .cons h .nil
theorem All2.inv {a : α} {as : List α} {l : List β} (h : All2 R (a :: as) l) : ∃ b bs, l = b :: bs ∧ R a b ∧ All2 R as bs := by
  cases h with | cons h1 h2 => exact ⟨_, _, rfl, h1, h2⟩
theorem All2.in1 {a : α} {l : List β} (h : All2 R [a] l) : ∃ b, l = [b] ∧ R a b := by
  obtain ⟨b, bs, rfl, h1, h2⟩ := h.inv; cases h2; exact ⟨_, rfl, h1⟩
theorem All2.in2 {a a' : α} {l : List β} (h : All2 R [a, a'] l) : ∃ b b', l = [b, b'] ∧ R a b ∧ R a' b' := by
  obtain ⟨b, bs, rfl, h1, h2⟩ := h.inv; obtain ⟨b', rfl, h3⟩ := h2.in1; exact ⟨_, _, rfl, h1, h3⟩
theorem All2.ni1 {b : β} {l : List α} (h : All2 R l [b]) : ∃ a, l = [a] ∧ R a b := by
  cases h with | cons h1 h2 => cases h2; exact ⟨_, rfl, h1⟩
theorem All2.ni2 {b b' : β} {l : List α} (h : All2 R l [b, b']) : ∃ a a', l = [a, a'] ∧ R a b ∧ R a' b' := by
  cases h with | cons h1 h2 => obtain ⟨a', rfl, h3⟩ := h2.ni1; exact ⟨_, _, rfl, h1, h3⟩
theorem len1 {α : Type} {l : List α} (h : l.length = 1) : ∃ a, l = [a] := by
  cases l with | nil => simp at h | cons a r => cases r with | nil => exact ⟨_, rfl⟩ | cons b r => simp at h
theorem len2 {α : Type} {l : List α} (h : l.length = 2) : ∃ a b, l = [a, b] := by
  cases l with | nil => simp at h | cons a r => obtain ⟨b, rfl⟩ := len1 (by simpa using h : r.length = 1); exact ⟨_, _, rfl⟩
theorem All2.getR (x : All2 R as bs) : ∀ {i : Nat} {b : β}, bs[i]? = some b → ∃ a, as[i]? = some a ∧ R a b := by
  induction x with
  | nil => intro i b h; simp at h
  | cons h _ ih =>
    intro i b hb
    cases i with
    | zero => simp at hb; subst hb; exact ⟨_, rfl, h⟩
    | succ n => simp at hb; simpa using ih hb
theorem All2.getL (x : All2 R as bs) : ∀ {i : Nat} {a : α}, as[i]? = some a → ∃ b, bs[i]? = some b ∧ R a b := by
  induction x with
  | nil => intro i b h; simp at h
  | cons h _ ih =>
    intro i b hb
    cases i with
    | zero => simp at hb; subst hb; exact ⟨_, rfl, h⟩
    | succ n => simp at hb; simpa using ih hb
theorem All2.take (x : All2 R as bs) : ∀ n, All2 R (as.take n) (bs.take n) := by
  induction x with
  | nil => intro n; simp; exact .nil
  | cons h _ ih => intro n; cases n with | zero => exact .nil | succ n => exact .cons h (ih n)
theorem All2.drop (x : All2 R as bs) : ∀ n, All2 R (as.drop n) (bs.drop n) := by
  induction x with
  | nil => intro n; simp; exact .nil
  | cons h t ih => intro n; cases n with | zero => exact .cons h t | succ n => exact ih n
theorem All2.reverse (x : All2 R as bs) : All2 R as.reverse bs.reverse := by
  induction x with
  | nil => exact .nil
  | cons h _ ih => rw [List.reverse_cons, List.reverse_cons]; exact ih.append (.one h)
theorem All2.set (x : All2 R as bs) {a : α} {b : β} (h : R a b) : ∀ n, All2 R (as.set n a) (bs.set n b) := by
  induction x with
  | nil => intro n; exact .nil
  | cons h' t ih => intro n; cases n with | zero => exact .cons h t | succ n => exact .cons h' (ih n)
end
theorem Ds.mono {V V'} (h : Fz V V') {ts : List T} {us : List Value} (d : All2 (D V) ts us) : All2 (D V') ts us := d.imp fun _ _ x => x.mono h
theorem Ds.kp {T V V'} {ts : List Mine.T} {us : List Value} (k : Kp T V V') (d : All2 (D V) ts us) (s : T.contains 0 = false := by rfl) : All2 (D V') ts us := Ds.mono (k.fz s) d

theorem nRange1 {n : Int} {t : Tok} {k : Value → Loc → View → Prop} (h : ∀ a V' t1 t2, Kp [] V V' → V' a = some (.raw { cls := .type "range", data := .fields #[.int 0 t1, .int n t, .int 1 t2] }) → k (.ref a) m V') : WP C (PySem.call (.type "range") [.int n t]) m V k :=
  WP.range1 fun a t1 t2 ha => h a _ t1 t2 (Kp.refl.new ha) upd_self
theorem nRange3 {a b c : Int} {t u v : Tok} {k : Value → Loc → View → Prop} (hc : c ≠ 0) (hp : c.natAbs < 1073741824) (h : ∀ r V', Kp [] V V' → V' r = some (.raw { cls := .type "range", data := .fields #[.int a t, .int b u, .int c v] }) → k (.ref r) m V') : WP C (PySem.call (.type "range") [.int a t, .int b u, .int c v]) m V k :=
  WP.range3 hc (PyProof.noPylong_small hp) fun r hr => h r _ (Kp.refl.new hr) upd_self
theorem small_up {n : Int} (h0 : 0 ≤ n) (h : n ≤ 2 ^ 40) : Builtin.Range.small 0 n 1 = true := by
  simp [Builtin.Range.small, Builtin.Range.rangeFitsLong, Builtin.Range.rangeSize]
  split <;> omega
theorem forUp {x : Str} {px pos : Pos} {iter : Expr} {body : List Stmt} {k : Flow → Loc → View → Prop}
    (h : WP C (eval iter C.env) m V fun v m V => ∃ r, ∃ n : Nat, ∃ t1 t2 t3, v = .ref r ∧ V r = some (.raw { cls := .type "range", data := .fields #[.int 0 t1, .int n t2, .int 1 t3] }) ∧ n ≤ 1000000 ∧ ∃ J : Nat → Loc → View → Prop, J 0 m V ∧
      (∀ i tk m V, i < n → J i m V → WP C (storeName C.env x (.int (i : Nat) tk)) m V fun _ m V => WP C (execs body C.env) m V (endFor (J (i + 1)) k)) ∧ (∀ m V, J n m V → k .next m V))
    (hs : ∀ y, foldedSetIterable iter C.env y = Pure.pure y := by intro _; rfl) : WP C (exec (.For (.Name x px) iter body [] pos) C.env) m V k := by
  refine WP.for_range (h.mono ?_) hs
  rintro v m V ⟨r, n, t1, t2, t3, rfl, hr, hn, J, h0, hb, hk⟩
  have e : Builtin.Range.rangeSize 0 n 1 = n := by
    simp [Builtin.Range.rangeSize]
    omega
  have e' : rangeLen 0 n 1 = n := by unfold rangeLen; rw [e]; rfl
  refine ⟨r, 0, 0, n, 1, t1, t2, t3, rfl, hr, small_up (by omega) (by omega), by rw [e]; omega, J, h0, fun i tk m V hi hJ => ?_, fun m V hJ => hk m V (by rw [e'] at hJ; exact hJ), rfl⟩
  rw [e'] at hi
  have := hb i tk m V hi hJ
  simpa using this
theorem forDown {x : Str} {px pos : Pos} {iter : Expr} {body : List Stmt} {k : Flow → Loc → View → Prop}
    (h : WP C (eval iter C.env) m V fun v m V => ∃ r, ∃ n : Nat, ∃ a t1 t2 t3, v = .ref r ∧ V r = some (.raw { cls := .type "range", data := .fields #[.int a t1, .int (-1) t2, .int (-1) t3] }) ∧ a = (n : Int) - 1 ∧ n ≤ 1000000 ∧ ∃ J : Nat → Loc → View → Prop, J 0 m V ∧
      (∀ i tk m V, i < n → J i m V → WP C (storeName C.env x (.int ((n - 1 - i : Nat) : Int) tk)) m V fun _ m V => WP C (execs body C.env) m V (endFor (J (i + 1)) k)) ∧ (∀ m V, J n m V → k .next m V))
    (hs : ∀ y, foldedSetIterable iter C.env y = Pure.pure y := by intro _; rfl) : WP C (exec (.For (.Name x px) iter body [] pos) C.env) m V k := by
  refine WP.for_range (h.mono ?_) hs
  rintro v m V ⟨r, n, a, t1, t2, t3, rfl, hr, rfl, hn, J, h0, hb, hk⟩
  have e : Builtin.Range.rangeSize ((n : Int) - 1) (-1) (-1) = n := by
    simp [Builtin.Range.rangeSize]
    omega
  have e' : rangeLen ((n : Int) - 1) (-1) (-1) = n := by unfold rangeLen; rw [e]; rfl
  refine ⟨r, 0, (n : Int) - 1, -1, -1, t1, t2, t3, rfl, hr, ?_, by rw [e]; omega, J, h0, fun i tk m V hi hJ => ?_, fun m V hJ => hk m V (by rw [e'] at hJ; exact hJ), rfl⟩
  · have : Builtin.Range.rangeSize ((n : Int) - 1) (-1) (-1) ≤ 2 ^ 40 := by rw [e]; omega
    have h2 : 0 ≤ Builtin.Range.rangeSize ((n : Int) - 1) (-1) (-1) := by rw [e]; omega
    simp only [Builtin.Range.small, Builtin.Range.rangeFitsLong, e]
    simp
    omega
  · rw [e'] at hi
    have := hb i tk m V hi hJ
    have e2 : (n : Int) - 1 + i * -1 = ((n - 1 - i : Nat) : Int) := by omega
    rw [e2]; exact this
end Mine
namespace Mine
open PySem PySem.Calls PyProof.Rows PySem.W
variable {C : Cx} {m : Loc} {V : View} {α β : Type} {prog : Program} {w : World} {b₀ : Heap} {K : Frag} {mg mb : Str → Option Value}

theorem WP.gen {t : Sem α} {k : α → Loc → View → Prop} (h : ∀ Q : α → Loc → View → Prop, (∀ a m V, k a m V → Q a m V) → WP C t m V Q) : WP C t m V k := h k fun _ _ _ x => x
theorem WP.s_assign {x : Str} {px pos : Pos} {value : Expr} {rest : List Stmt} {k : Flow → Loc → View → Prop}
    (h : WP C (eval value C.env) m V fun v m V => WP C (execs rest C.env) (setm m x v) V k)
    (hs : swapsWith value (some (.Name x px)) pos.line C.env = Pure.pure false := by rfl) (hk : C.env.scope.kind = .function := by rfl) (hl : C.env.kindOf x = some .local := by rfl) :
    WP C (execs (.Assign [.Name x px] value pos :: rest) C.env) m V k :=
  WP.execs_cons (WP.assign (h.mono fun _ _ _ h => WP.store h hk hl) hs)
theorem WP.s_expr {e : Expr} {pos : Pos} {rest : List Stmt} {k : Flow → Loc → View → Prop} (h : WP C (eval e C.env) m V fun _ m V => WP C (execs rest C.env) m V k)
    (hi : interactive C.env = false := by rfl) (hs : swapsWith e Option.none pos.line C.env = Pure.pure false := by rfl) : WP C (execs (.Expr e pos :: rest) C.env) m V k :=
  WP.execs_cons (WP.exprs (h.mono fun _ _ _ h => h) hi hs)
theorem WP.s_ret {e : Expr} {pos : Pos} {rest : List Stmt} {k : Flow → Loc → View → Prop} (h : WP C (eval e C.env) m V fun v => k (.ret v)) : WP C (execs (.Return (some e) pos :: rest) C.env) m V k :=
  WP.execs_cons (WP.ret (h.mono fun _ _ _ h => h))
theorem WP.s_ifret {test e : Expr} {p pos : Pos} {rest : List Stmt} {k : Flow → Loc → View → Prop}
    (h : WP C (isTrue test C.env (eval test C.env)) m V fun b m V => if b then WP C (eval e C.env) m V (fun v => k (.ret v)) else WP C (execs rest C.env) m V k) : WP C (execs (.If test [.Return (some e) p] [] pos :: rest) C.env) m V k :=
  WP.execs_cons (WP.ifs (h.mono fun b _ _ h => by
    cases b
    · exact WP.execs_nil h
    · exact WP.s_ret (h.mono fun _ _ _ h => h)))
theorem WP.s_if {test : Expr} {body : List Stmt} {pos : Pos} {rest : List Stmt} {k : Flow → Loc → View → Prop}
    (h : WP C (isTrue test C.env (eval test C.env)) m V fun b m V => if b then WP C (execs body C.env) m V (andThen C rest k) else WP C (execs rest C.env) m V k) : WP C (execs (.If test body [] pos :: rest) C.env) m V k :=
  WP.execs_cons (WP.ifs (h.mono fun b _ _ h => by
    cases b
    · exact WP.execs_nil h
    · exact h))

theorem WP.args1 {pos : Pos} {e : Expr} {k : List Value → Loc → View → Prop} (h : WP C (eval e C.env) m V fun v => k [v])
    (he : starEach [e] C.env = [(false, eval e C.env)] := by rfl) : WP C (spliced (backTo pos (starEach [e] C.env))) m V k :=
  WP.items_cons (h.mono fun _ _ _ h => WP.items_nil h) (by rw [he]; rfl)
theorem WP.args2 {pos : Pos} {e f : Expr} {k : List Value → Loc → View → Prop} (h : WP C (eval e C.env) m V fun v m V => WP C (eval f C.env) m V fun u => k [v, u])
    (he : starEach [e, f] C.env = (false, eval e C.env) :: starEach [f] C.env := by rfl) (hf : starEach [f] C.env = [(false, eval f C.env)] := by rfl) : WP C (spliced (backTo pos (starEach [e, f] C.env))) m V k :=
  WP.items_cons (h.mono fun _ _ _ h => WP.args1 h hf) he
theorem WP.args3 {pos : Pos} {e f g : Expr} {k : List Value → Loc → View → Prop} (h : WP C (eval e C.env) m V fun v m V => WP C (eval f C.env) m V fun u m V => WP C (eval g C.env) m V fun t => k [v, u, t])
    (he : starEach [e, f, g] C.env = (false, eval e C.env) :: starEach [f, g] C.env := by rfl) (hf : starEach [f, g] C.env = (false, eval f C.env) :: starEach [g] C.env := by rfl) (hg : starEach [g] C.env = [(false, eval g C.env)] := by rfl) : WP C (spliced (backTo pos (starEach [e, f, g] C.env))) m V k :=
  WP.items_cons (h.mono fun _ _ _ h => WP.args2 h hf hg) he

/-- x[i], x a local that holds a tuple, i written -/
theorem WP.subN {x : Str} {px pi ps : Pos} {c : Nat} {i : Int} {t : Addr} {xs : List Value} {v : Value} {k : Value → Loc → View → Prop} (hx : m x = some (.ref t)) (e : V t = some (.tup xs)) (hi : (decide (0 ≤ i) && decide (i < 2 ^ 63)) = true) (hv : xs[i.toNat]? = some v) (h : k v m V)
    (hk : C.env.scope.kind = .function := by rfl) (hl : C.env.kindOf x = some .local := by rfl) (hd : (x == ("__debug__" : Str)) = false := by rfl) : WP C (eval (.Subscript (.Name x px) (.Constant (.int i) c pi) ps) C.env) m V k := by
  rw [Bool.and_eq_true, decide_eq_true_iff, decide_eq_true_iff] at hi
  exact WP.subscript (WP.local hx (WP.int fun tk => WP.item_tuple e hi.1 hi.2 hv h) hk hl hd)
theorem WP.test_eqS {l : Expr} {s : Str} {p pos : Pos} {c : Nat} {whole : Sem Value} {k : Bool → Loc → View → Prop}
    (h : WP C (eval l C.env) m V fun v m V => ∃ a tk, v = .str a tk ∧ k (a == s) m V) : WP C (isTrue (.Compare l [.Eq] [.Constant (.str s) c p] pos) C.env whole) m V k :=
  WP.test_compare (h.mono fun v m V h => by
    obtain ⟨a, tk, rfl, h⟩ := h
    exact WP.str fun _ => WP.eq_str (WP.truthy_bool h)) rfl
/-- x[i] == 'text' -/
theorem WP.test_tag {x s : Str} {px pi ps p pos : Pos} {c c' : Nat} {i : Int} {t : Addr} {xs : List Value} {a : Str} {tk : Tok} {whole : Sem Value} {k : Bool → Loc → View → Prop} (hx : m x = some (.ref t)) (e : V t = some (.tup xs)) (hi : (decide (0 ≤ i) && decide (i < 2 ^ 63)) = true) (hv : xs[i.toNat]? = some (.str a tk)) (h : k (a == s) m V)
    (hk : C.env.scope.kind = .function := by rfl) (hl : C.env.kindOf x = some .local := by rfl) (hd : (x == ("__debug__" : Str)) = false := by rfl) : WP C (isTrue (.Compare (.Subscript (.Name x px) (.Constant (.int i) c pi) ps) [.Eq] [.Constant (.str s) c' p] pos) C.env whole) m V k :=
  WP.test_eqS (WP.subN hx e hi hv ⟨a, tk, rfl, h⟩ hk hl hd)
theorem WP.test_eqG (G : GX C.prog C.w C.b₀ K mg mb) {l : Expr} {y : Str} {p pos : Pos} {n : Int} {tg : Tok} {whole : Sem Value} {k : Bool → Loc → View → Prop}
    (hg : globList.lookup y = some (.int n tg)) (h : WP C (eval l C.env) m V fun v m V => ∃ a tk, v = .int a tk ∧ k (a == n) m V)
    (hG : C.env.globals = mainGlobals := by rfl) (hk : C.env.scope.kind = .function := by rfl) (hy : C.env.kindOf y = some .globalImplicit := by rfl) (hd : (y == ("__debug__" : Str)) = false := by rfl) : WP C (isTrue (.Compare l [.Eq] [.Name y p] pos) C.env whole) m V k :=
  WP.test_compare (h.mono fun v m V h => by
    obtain ⟨a, tk, rfl, h⟩ := h
    exact GX.name G hg (WP.eq_int (WP.truthy_bool h)) hG hk hy hd) rfl
/-- x[i] == NAME -/
theorem WP.test_num (G : GX C.prog C.w C.b₀ K mg mb) {x y : Str} {px pi ps p pos : Pos} {c : Nat} {i : Int} {t : Addr} {xs : List Value} {a n : Int} {tk tg : Tok} {whole : Sem Value} {k : Bool → Loc → View → Prop} (hx : m x = some (.ref t)) (e : V t = some (.tup xs)) (hi : (decide (0 ≤ i) && decide (i < 2 ^ 63)) = true) (hv : xs[i.toNat]? = some (.int a tk))
    (hg : globList.lookup y = some (.int n tg)) (h : k (a == n) m V)
    (hG : C.env.globals = mainGlobals := by rfl) (hk : C.env.scope.kind = .function := by rfl) (hl : C.env.kindOf x = some .local := by rfl) (hd : (x == ("__debug__" : Str)) = false := by rfl) (hy : C.env.kindOf y = some .globalImplicit := by rfl) (hd' : (y == ("__debug__" : Str)) = false := by rfl) :
    WP C (isTrue (.Compare (.Subscript (.Name x px) (.Constant (.int i) c pi) ps) [.Eq] [.Name y p] pos) C.env whole) m V k :=
  WP.test_eqG G hg (WP.subN hx e hi hv ⟨a, tk, rfl, h⟩ hk hl hd) hG hk hy hd'
/-- x == NAME, x a local -/
theorem WP.test_loc (G : GX C.prog C.w C.b₀ K mg mb) {x y : Str} {px p pos : Pos} {a n : Int} {tk tg : Tok} {whole : Sem Value} {k : Bool → Loc → View → Prop} (hx : m x = some (.int a tk)) (hg : globList.lookup y = some (.int n tg)) (h : k (a == n) m V)
    (hG : C.env.globals = mainGlobals := by rfl) (hk : C.env.scope.kind = .function := by rfl) (hl : C.env.kindOf x = some .local := by rfl) (hd : (x == ("__debug__" : Str)) = false := by rfl) (hy : C.env.kindOf y = some .globalImplicit := by rfl) (hd' : (y == ("__debug__" : Str)) = false := by rfl) :
    WP C (isTrue (.Compare (.Name x px) [.Eq] [.Name y p] pos) C.env whole) m V k :=
  WP.test_eqG G hg (WP.local hx ⟨a, tk, rfl, h⟩ hk hl hd) hG hk hy hd'
/-- x == 'text', x a local -/
theorem WP.test_str {x s : Str} {px p pos : Pos} {c : Nat} {a : Str} {tk : Tok} {whole : Sem Value} {k : Bool → Loc → View → Prop} (hx : m x = some (.str a tk)) (h : k (a == s) m V)
    (hk : C.env.scope.kind = .function := by rfl) (hl : C.env.kindOf x = some .local := by rfl) (hd : (x == ("__debug__" : Str)) = false := by rfl) : WP C (isTrue (.Compare (.Name x px) [.Eq] [.Constant (.str s) c p] pos) C.env whole) m V k :=
  WP.test_eqS (WP.local hx ⟨a, tk, rfl, h⟩ hk hl hd)

/-- f(..), f a def or a class of the program -/
theorem WP.callG (G : GX C.prog C.w C.b₀ K mg mb) {x : Str} {np pos : Pos} {args : List Expr} {a : Addr} {k : Value → Loc → View → Prop} (hg : globList.lookup x = some (.ref a)) (hf : keepAddrs.contains a = true)
    (h : WP C (spliced (backTo pos (starEach args C.env))) m V fun vs m V => WP C (PySem.call (.ref a) vs) m V k)
    (hG : C.env.globals = mainGlobals := by rfl) (hk : C.env.scope.kind = .function := by rfl) (hx : C.env.kindOf x = some .globalImplicit := by rfl) (hd : (x == ("__debug__" : Str)) = false := by rfl) (hp : (backTo pos (starEach args C.env)).any (·.1) = false := by rfl) :
    WP C (eval (.Call (.Name x np) args [] pos) C.env) m V k :=
  WP.callName (GX.name G hg (WP.callWith_ref (G.kf hf) h hp) hG hk hx hd)
/-- f(..), f built in -/
theorem WP.callB (G : GX C.prog C.w C.b₀ K mg mb) {x : Str} {np pos : Pos} {args : List Expr} {id : String} {k : Value → Loc → View → Prop} (hg : biList.lookup x = some (.builtin id)) (hv : bootBuiltins x = some (.builtin id))
    (h : WP C (spliced (backTo pos (starEach args C.env))) m V fun vs m V => WP C (PySem.call (.builtin id) vs) m V k) (hn : x ≠ "__name__" := by decide)
    (hG : C.env.globals = mainGlobals := by rfl) (hB : C.env.builtins = builtinsNs := by rfl) (hk : C.env.scope.kind = .function := by rfl) (hx : C.env.kindOf x = some .globalImplicit := by rfl) (hd : (x == ("__debug__" : Str)) = false := by rfl) (hp : (backTo pos (starEach args C.env)).any (·.1) = false := by rfl) :
    WP C (eval (.Call (.Name x np) args [] pos) C.env) m V k :=
  WP.callName (GX.bname G hg hv (WP.callWith_bi h hp) hn hG hB hk hx hd)
theorem WP.callT (G : GX C.prog C.w C.b₀ K mg mb) {x : Str} {np pos : Pos} {args : List Expr} {id : String} {k : Value → Loc → View → Prop} (hg : biList.lookup x = some (.type id)) (hv : bootBuiltins x = some (.type id))
    (h : WP C (spliced (backTo pos (starEach args C.env))) m V fun vs m V => WP C (PySem.call (.type id) vs) m V k) (hn : x ≠ "__name__" := by decide)
    (hG : C.env.globals = mainGlobals := by rfl) (hB : C.env.builtins = builtinsNs := by rfl) (hk : C.env.scope.kind = .function := by rfl) (hx : C.env.kindOf x = some .globalImplicit := by rfl) (hd : (x == ("__debug__" : Str)) = false := by rfl) (hp : (backTo pos (starEach args C.env)).any (·.1) = false := by rfl) :
    WP C (eval (.Call (.Name x np) args [] pos) C.env) m V k :=
  WP.callName (GX.bname G hg hv (WP.callWith_ty h hp) hn hG hB hk hx hd)
/-- x.a, x a local that holds an object -/
theorem WP.attrN (G : GX C.prog C.w C.b₀ K mg mb) {x attr : Str} {px pos : Pos} {a d Cl : Addr} {t : Nat} {kvs : List (Str × Value)} {v : Value} {k : Value → Loc → View → Prop} (hx : m x = some (.ref a)) (e : V a = some (.inst Cl d)) (ed : V d = some (.att t kvs))
    (O : (attrList.any fun p => p.1 == Cl && p.2 == attr) = true) (hv : kvs.lookup attr = some v) (hh : handedIn v = true) (h : k v m V)
    (he : eval (.Attribute (.Name x px) attr pos) C.env = (do
      let o ← eval (.Name x px) C.env
      standAt pos.atName
      let r ← holding [o] (PySem.getAttr o attr true)
      letTemporaryGo (.Name x px) o r
      Pure.pure r) := by with_unfolding_all rfl)
    (hk : C.env.scope.kind = .function := by rfl) (hl : C.env.kindOf x = some .local := by rfl) (hd : (x == ("__debug__" : Str)) = false := by rfl) : WP C (eval (.Attribute (.Name x px) attr pos) C.env) m V k :=
  WP.attr (WP.local hx (nGetAttr G e ed O hv hh h) hk hl hd) he
/-- x.f(..), x a local that holds an object, f a def of its class -/
theorem WP.methN (G : GX C.prog C.w C.b₀ K mg mb) {x name : Str} {px apos pos : Pos} {args : List Expr} {pl : Sem Bool} {a d Cl f : Addr} {t : Nat} {kvs : List (Str × Value)} {k : Value → Loc → View → Prop} (hx : m x = some (.ref a)) (e : V a = some (.inst Cl d)) (ed : V d = some (.att t kvs))
    (O : methAddr Cl name = some f) (hv : kvs.lookup name = Option.none) (hf : keepAddrs.contains f = true)
    (h : WP C (spliced (backTo pos (starEach args C.env))) m V fun vs m V => WP C (PySem.call (.ref f) (.ref a :: vs)) m V k)
    (he : eval (.Call (.Attribute (.Name x px) name apos) args [] pos) C.env = (do
      let ov ← eval (.Name x px) C.env
      standAt apos.atName
      let (f, first) ← holding [ov] (getMethod ov name pl)
      callWith pos f first (backTo pos (starEach args C.env)) []) := by rfl)
    (hk : C.env.scope.kind = .function := by rfl) (hl : C.env.kindOf x = some .local := by rfl) (hd : (x == ("__debug__" : Str)) = false := by rfl) (hp : (backTo pos (starEach args C.env)).any (·.1) = false := by rfl) :
    WP C (eval (.Call (.Attribute (.Name x px) name apos) args [] pos) C.env) m V k :=
  WP.method (WP.local hx (nGetMeth G e ed O hv (WP.callWith_ref (G.kf hf) h hp)) hk hl hd) he
/-- x.append(..), x a local that holds a list -/
theorem WP.appN {x : Str} {px apos pos : Pos} {args : List Expr} {pl : Sem Bool} {l : Addr} {t : Nat} {xs : List Value} {k : Value → Loc → View → Prop} (hx : m x = some (.ref l)) (e : V l = some (.lst t xs))
    (h : WP C (spliced (backTo pos (starEach args C.env))) m V fun vs m V => WP C (PySem.call (.builtin "list.append") (.ref l :: vs)) m V k)
    (he : eval (.Call (.Attribute (.Name x px) "append" apos) args [] pos) C.env = (do
      let ov ← eval (.Name x px) C.env
      standAt apos.atName
      let (f, first) ← holding [ov] (getMethod ov "append" pl)
      callWith pos f first (backTo pos (starEach args C.env)) []) := by rfl)
    (hk : C.env.scope.kind = .function := by rfl) (hl : C.env.kindOf x = some .local := by rfl) (hd : (x == ("__debug__" : Str)) = false := by rfl) (hp : (backTo pos (starEach args C.env)).any (·.1) = false := by rfl) :
    WP C (eval (.Call (.Attribute (.Name x px) "append" apos) args [] pos) C.env) m V k :=
  WP.method (WP.local hx (WP.getMethod_list PySem.F.slot_list_append rfl e (WP.callWith_bi h hp)) hk hl hd) he
theorem GC.fnQ (G : GC prog w b₀ K mg mb) {a : Addr} {q : Str} {st : Stmt} (f : FnFact K a q st) {d : Nat} {args : List Value} {post : Value → View → Prop}
    (h : ∀ L cdv, V L = none → let C := bodyCx prog w b₀ (envX q (fnScope st) L a cdv []) d; ∀ Q : Flow → Loc → View → Prop, (∀ v m' V', retOf post v m' V' → Q v m' V') → WP C (execs (fnBody st) C.env) (loc0 st args) V Q)
    (hbind : ∀ name kV doc pm an cdv ct, bindArgs (fnOf name q (fnParams st) (fnBody st) (fnScope st) .none kV doc pm an cdv ct) ⟨args, []⟩ = pure (bindsOf st args) := by intro _ _ _ _ _ _ _; rfl)
    (hloc : ((bindsOf st args).all fun x => decide ((fnScope st).names.lookup x.1 = some .local)) = true := by rfl)
    (hcell : ∀ x ∈ (fnScope st).names, x.2 ≠ .cell := by decide) (hco : (fnScope st).isCoroutine = false := by rfl) (hgen : (fnScope st).isGenerator = false := by rfl) (hk : (fnScope st).kind = .function := by rfl) :
    Fn prog w b₀ (d + 1) V (.ref a) args post := G.fn f (fun L cdv hL => WP.gen (h L cdv hL)) hbind hloc hcell hco hgen hk
theorem GC.fnDQ (G : GC prog w b₀ K mg mb) {a : Addr} {q : Str} {st : Stmt} {T : Addr} {dv : Value} (f : FnFact K a q st (.ref T)) (ht : ∃ n, K.lookup T = some { cls := .type "tuple", data := .seq #[dv] n }) {d : Nat} {args : List Value} {post : Value → View → Prop}
    (h : ∀ L cdv, V L = none → let C := bodyCx prog w b₀ (envX q (fnScope st) L a cdv []) d; ∀ Q : Flow → Loc → View → Prop, (∀ v m' V', retOf post v m' V' → Q v m' V') → WP C (execs (fnBody st) C.env) (loc0 st args) V Q)
    (hbind : ∀ s name kV doc pm an cdv ct n, s.heap.get? T = some ({ cls := .type "tuple", data := .seq #[dv] n } : Obj) → BindsTo s (fnOf name q (fnParams st) (fnBody st) (fnScope st) (.ref T) kV doc pm an cdv ct) ⟨args, []⟩ (bindsOf st args) := by intro _ _ _ _ _ _ _ _ _ hT; exact BindsTo.of_defaults rfl hT rfl rfl rfl)
    (hloc : ((bindsOf st args).all fun x => decide ((fnScope st).names.lookup x.1 = some .local)) = true := by rfl)
    (hcell : ∀ x ∈ (fnScope st).names, x.2 ≠ .cell := by decide) (hco : (fnScope st).isCoroutine = false := by rfl) (hgen : (fnScope st).isGenerator = false := by rfl) (hk : (fnScope st).kind = .function := by rfl) :
    Fn prog w b₀ (d + 1) V (.ref a) args post := G.fnD f ht (fun L cdv hL => WP.gen (h L cdv hL)) hbind hloc hcell hco hgen hk
end Mine
namespace Mine
open PySem PySem.Calls PyProof.Rows PySem.W
variable {C : Cx} {m : Loc} {V : View} {α β : Type} {prog : Program} {w : World} {b₀ : Heap} {K : Frag} {mg mb : Str → Option Value}
local macro_rules | `(tactic| walk_at "om") => `(tactic| first | omega | (simp; done) | (simp; omega) | (simp at *; omega))
local macro_rules | `(tactic| walk_at "vw") => `(tactic| first | assumption | (refine Kp.get (by assumption) ?_ ?_; walk_at "vw"; rfl))
local macro_rules | `(tactic| walk_at "lk") => `(tactic| first | assumption | exact setm_self | rfl | (refine setm_ne (by decide) ?_; walk_at "lk"))
local macro_rules | `(tactic| walk_at "ex") => `(tactic| first
  | with_reducible refine WP.ret ?_
  | with_reducible refine WP.ifs ?_
  | (with_reducible show WP _ (exec (.Assign [.Name _ _] _ _) _) _ _ _); refine WP.assign ?_
  | (with_reducible show WP _ (exec (.Assign [.Attribute _ _ _] _ _) _) _ _ _); refine WP.assign_attr ?_
  | (with_reducible show WP _ (exec (.Assign [.Subscript _ _ _] _ _) _) _ _ _); refine WP.assign_sub ?_
  | (with_reducible show WP _ (exec (.Expr _ _) _) _ _ _); refine WP.exprs ?_
  | (with_reducible show WP _ (exec (.AugAssign (.Subscript _ _ _) _ _ _) _) _ _ _); refine WP.aug_sub ?_
  | with_reducible refine WP.brk ?_
  | with_reducible refine WP.cont ?_)
local macro_rules | `(tactic| walk_at "name") => `(tactic| first | refine WP.local (by walk_at "lk") ?_ | refine GX.name (by assumption) (by rfl) ?_ | refine WP.cell (by rfl) (by walk_at "vw") ?_ | refine GX.bname (by assumption) (by rfl) (by rfl) ?_)
local macro_rules | `(tactic| walk_at "exs") => `(tactic| first
  | with_reducible refine WP.execs_nil ?_
  | (with_reducible show WP _ (execs (.Assign [.Name _ _] _ _ :: _) _) _ _ _); refine WP.s_assign ?_
  | (with_reducible show WP _ (execs (.Expr _ _ :: _) _) _ _ _); refine WP.s_expr ?_
  | with_reducible refine WP.s_ret ?_
  | with_reducible refine WP.s_ifret ?_
  | with_reducible refine WP.s_if ?_
  | with_reducible refine WP.execs_cons ?_
  | show WP _ (execs (_ :: _) _) _ _ _)
local macro_rules | `(tactic| walk_at "arg") => `(tactic| first
  | with_reducible refine WP.items_nil ?_
  | (with_reducible show WP _ (spliced (backTo _ (starEach [_] _))) _ _ _); refine WP.args1 ?_
  | (with_reducible show WP _ (spliced (backTo _ (starEach [_, _] _))) _ _ _); refine WP.args2 ?_
  | (with_reducible show WP _ (spliced (backTo _ (starEach [_, _, _] _))) _ _ _); refine WP.args3 ?_
  | (with_reducible show WP _ (spliced _) _ _ _); refine WP.items_cons ?_)
local macro_rules | `(tactic| walk_at "tst") => `(tactic| first
  | (with_reducible show WP _ (isTrue (.Compare (.Subscript (.Name _ _) (.Constant (.int _) _ _) _) [.Eq] [.Constant (.str _) _ _] _) _ _) _ _ _); refine WP.test_tag (by walk_at "lk") (by walk_at "vw") (by rfl) (by rfl) ?_
  | (with_reducible show WP _ (isTrue (.Compare (.Subscript (.Name _ _) (.Constant (.int _) _ _) _) [.Eq] [.Name _ _] _) _ _) _ _ _); refine WP.test_num (by assumption) (by walk_at "lk") (by walk_at "vw") (by rfl) (by rfl) (by rfl) ?_
  | (with_reducible show WP _ (isTrue (.Compare (.Name _ _) [.Eq] [.Constant (.str _) _ _] _) _ _) _ _ _); refine WP.test_str (by walk_at "lk") ?_
  | (with_reducible show WP _ (isTrue (.Compare (.Name _ _) [.Eq] [.Name _ _] _) _ _) _ _ _); refine WP.test_loc (by assumption) (by walk_at "lk") (by rfl) ?_
  | (with_reducible show WP _ (isTrue (.Compare _ _ _ _) _ _) _ _ _); refine WP.test_compare ?_
  | with_reducible refine WP.test_bool ?_
  | (with_reducible show WP _ (isTrue _ _ _) _ _ _); refine WP.test_value ?_)
local macro_rules | `(tactic| walk_at "ev") => `(tactic| first
  | (with_reducible show WP _ (eval (.Name _ _) _) _ _ _); walk_at "name"
  | (with_reducible refine WP.int ?_); intro _
  | (with_reducible refine WP.str ?_); intro _
  | with_reducible refine WP.bool ?_
  | with_reducible refine WP.none ?_
  | (with_reducible show WP _ (eval (.Call (.Name _ _) _ _ _) _) _ _ _); first | refine WP.callG (by assumption) (by rfl) (by rfl) ?_ | refine WP.callB (by assumption) (by rfl) (by rfl) ?_ | refine WP.callT (by assumption) (by rfl) (by rfl) ?_ | refine WP.callName ?_
  | (with_reducible show WP _ (eval (.Call (.Attribute (.Name _ _) "append" _) _ _ _) _) _ _ _); refine WP.appN (by walk_at "lk") (by walk_at "vw") ?_
  | (with_reducible show WP _ (eval (.Call (.Attribute (.Name _ _) _ _) _ _ _) _) _ _ _); refine WP.methN (by assumption) (by walk_at "lk") (by walk_at "vw") (by walk_at "vw") (by rfl) (by rfl) (by rfl) ?_
  | (with_reducible show WP _ (eval (.Call (.Attribute _ _ _) _ _ _) _) _ _ _); refine WP.method ?_
  | (with_reducible show WP _ (eval (.Attribute (.Name _ _) _ _) _) _ _ _); refine WP.attrN (by assumption) (by walk_at "lk") (by walk_at "vw") (by walk_at "vw") (by rfl) (by rfl) (by rfl) ?_
  | (with_reducible show WP _ (eval (.Attribute _ _ _) _) _ _ _); refine WP.attr ?_
  | (with_reducible show WP _ (eval (.Subscript (.Name _ _) (.Constant (.int _) _ _) _) _) _ _ _); refine WP.subN (by walk_at "lk") (by walk_at "vw") (by rfl) (by rfl) ?_
  | (with_reducible show WP _ (eval (.Subscript _ _ _) _) _ _ _); (fail_if_success (with_reducible show WP _ (eval (.Subscript _ (.Slice _ _ _ _) _) _) _ _ _)); refine WP.subscript ?_
  | with_reducible refine WP.binop ?_
  | (with_reducible show WP _ (eval (.Compare _ _ _ _) _) _ _ _); refine WP.compare ?_
  | with_reducible refine WP.ifexp ?_
  | with_reducible refine WP.unary ?_
  | with_reducible refine WP.tuple ?_
  | with_reducible refine WP.list ?_)
local macro_rules | `(tactic| walk_at "op") => `(tactic| first
  | (with_reducible refine WP.add_int ?_); intro _
  | (with_reducible refine WP.sub_int ?_); intro _
  | (with_reducible refine WP.neg_int ?_); intro _
  | with_reducible refine WP.eq_int ?_
  | with_reducible refine WP.lt_int ?_
  | with_reducible refine WP.gt_int ?_
  | with_reducible refine WP.ge_int ?_
  | with_reducible refine WP.eq_str ?_
  | with_reducible refine WP.is_none ?_)
local macro_rules | `(tactic| walk_at "w") => `(tactic| first
  | (with_reducible show WP _ (eval _ _) _ _ _); walk_at "ev"
  | (with_reducible show WP _ (exec _ _) _ _ _); walk_at "ex"
  | (with_reducible show WP _ (execs _ _) _ _ _); walk_at "exs"
  | with_reducible refine andNext ?_ | with_reducible refine andRet ?_ | with_reducible refine andBrk ?_ | with_reducible refine andCont ?_
  | (with_reducible show WP _ (spliced _) _ _ _); walk_at "arg"
  | (with_reducible show WP _ (isTrue _ _ _) _ _ _); walk_at "tst"
  | with_reducible refine WP.and_nil ?_
  | with_reducible refine WP.or_nil ?_
  | with_reducible refine WP.and_cons ?_
  | with_reducible refine WP.or_cons ?_
  | with_reducible refine WP.truthy_bool ?_
  | (with_reducible show WP _ (getMethod (.ref _) "append" _) _ _ _); refine WP.getMethod_list PySem.F.slot_list_append (by rfl) (by walk_at "vw") ?_
  | (with_reducible show WP _ (getMethod (.ref _) "pop" _) _ _ _); refine WP.getMethod_list PySem.F.slot_list_pop (by rfl) (by walk_at "vw") ?_
  | (with_reducible show WP _ (subscriptTail _ _ (.ref _) (.int _ _)) _ _ _); refine WP.item_tuple (by walk_at "vw") (by decide) (by decide) (by rfl) ?_
  | (with_reducible show WP _ (storeName _ _ _) _ _ _); refine WP.store ?_
  | (with_reducible show WP _ (callWith _ (.builtin _) _ _ _) _ _ _); refine WP.callWith_bi ?_
  | (with_reducible show WP _ (callWith _ (.type _) _ _ _) _ _ _); refine WP.callWith_ty ?_
  | (with_reducible show WP _ (PySem.getAttr (.ref _) _ _) _ _ _); refine nGetAttr (by assumption) (by walk_at "vw") (by walk_at "vw") (by rfl) (by rfl) (by rfl) ?_
  | (with_reducible show WP _ (getMethod (.ref _) _ _) _ _ _); refine nGetMeth (by assumption) (by walk_at "vw") (by walk_at "vw") (by rfl) (by rfl) ?_
  | (with_reducible show WP _ (callWith _ (.ref _) _ _ _) _ _ _); refine WP.callWith_ref (GX.kf (by assumption) (by rfl)) ?_
  | (with_reducible show WP _ (PySem.newTuple _) _ _ _); refine nTuple ?_; intro _ _ _ _
  | (with_reducible show WP _ (PySem.call (.builtin "len") _) _ _ _); first | (refine WP.len_list (by walk_at "vw") (by walk_at "om") ?_; intro _) | (refine WP.len_tuple (by walk_at "vw") (by walk_at "om") ?_; intro _)
  | (with_reducible show WP _ (PySem.call (.type "range") _) _ _ _); first | (refine nRange1 ?_; intro _ _ _ _ _ _) | (refine nRange3 (by decide) (by decide) ?_; intro _ _ _ _)
  | walk_at "op")
local macro_rules | `(tactic| walk_at "dd") => `(tactic| first | assumption | (refine D.kp (by assumption) ?_ (by rfl); walk_at "dd"))
local macro_rules | `(tactic| walk_at "kp") => `(tactic| first | exact Kp.refl | exact Kp.weak (by assumption) (by rfl) | (refine Kp.trans ?_ (Kp.weak (by assumption) (by rfl)); walk_at "kp"))
local macro_rules | `(tactic| walk_at "da") => `(tactic| first | assumption | (refine Ds.kp (by assumption) ?_ (by rfl); walk_at "da"))
local macro_rules | `(tactic| walk_at "dp") => `(tactic| first | exact Nat.le_of_ble_eq_true rfl | (dsimp only [bodyCx]; omega) | (dsimp +zetaDelta only [bodyCx]; omega))
local macro_rules | `(tactic| walk_at "o") => `(tactic| first | with_reducible exact Int.natCast_nonneg _ | with_reducible exact lt63 (by assumption) | with_reducible exact lt63s (by assumption) | with_reducible exact nsub3 (by assumption) | omega)

noncomputable def Coins (V : View) (c : Addr) : Prop := ∃ xs, V c = some (.lst 1 xs) ∧ (∀ v ∈ xs, ∃ i tk, v = .int i tk) ∧ xs.length ≤ 200
theorem Coins.kp {T V V' c} (k : Kp T V V') (h : Coins V c) (s : T.contains 1 = false := by rfl) : Coins V' c := by obtain ⟨xs, a, b⟩ := id h; exact ⟨xs, k.get a s, b⟩
theorem coin_fn (G : GX prog w b₀ K mg mb) {c : Addr} {sd : Int} {tk : Tok} (hc : Coins V c) (hs : 0 < sd) :
   Fn prog w b₀ 1 V (.ref 388) [.ref c, .int sd tk] fun v V' => ∃ i tk', v = .int i tk' ∧ 0 ≤ i ∧ i < sd ∧ Kp [1] V V' ∧ Coins V' c := by
  revert hc; refine xe1 fun xs => an3 ?_; rintro hc hi hz
  refine G.fnQ G.f__law_coin (d := 0) fun L cdv hL => ?_
  intro C Q hQ
  repeat walk_at "w"
  refine nList 5 fun a V1 k1 h1 => ?_
  refine WP.ne_nil (by show (17 : Nat) ≠ 0; decide) (k1.get hc) h1 ?_
  refine WP.truthy_bool ?_
  rcases List.eq_nil_or_concat xs with rfl | ⟨p, y, rfl⟩
  · rw [if_neg (by simp)]
    walk_at "w"
    exact hQ _ _ _ ⟨_, .refl, 0, _, rfl, Int.le_refl _, hs, by walk_at "kp", _, by walk_at "vw", hi, hz⟩
  · rw [if_pos (by simp)]
    simp only [List.concat_eq_append] at *
    refine fl0 (hi y (by simp)) (xe2 fun i tk => ?_); rintro rfl
    repeat walk_at "w"
    refine nPop (k1.get hc) (by simp at hz; omega) fun V2 k2 h2 => ?_
    repeat walk_at "w"
    refine WP.mod_int (by walk_at "o") fun tk' => ?_
    exact hQ _ _ _ ⟨_, .refl, _, _, rfl, Int.fmod_nonneg_of_pos _ hs, Int.fmod_lt_of_pos _ hs, by walk_at "kp", p, h2, fun v hv => hi v (by simp [hv]), by simp at hz; omega⟩

theorem var_fn (G : GX prog w b₀ K mg mb) {n : Int} {tk : Tok} : Fn prog w b₀ 1 V (.ref 166) [.int n tk] fun v V' => Kp [] V V' ∧ D V' (.v n) v := by
  refine G.fnQ G.f_var (d := 0) fun L cdv hL => ?_
  intro C Q hQ
  repeat walk_at "w"
  rename_i a V1 k1 h1
  exact hQ _ _ _ ⟨_, .refl, k1, a, _, _, rfl, h1⟩
theorem atom_fn (G : GX prog w b₀ K mg mb) {n : Int} {tk : Tok} : Fn prog w b₀ 1 V (.ref 173) [.int n tk] fun v V' => Kp [] V V' ∧ ∃ a t1 t2, v = .ref a ∧ V' a = some (.tup [.str "a" t1, .int n t2]) := by
  refine G.fnQ G.f_atom (d := 0) fun L cdv hL => ?_
  intro C Q hQ
  repeat walk_at "w"
  rename_i a V1 k1 h1
  exact hQ _ _ _ ⟨_, .refl, k1, a, _, _, rfl, h1⟩
theorem struct_fn (G : GX prog w b₀ K mg mb) {f : Int} {tk : Tok} {y : Addr} {xs : List Value} (hy : V y = some (.tup xs)) :
    Fn prog w b₀ 1 V (.ref 180) [.int f tk, .ref y] fun v V' => Kp [] V V' ∧ ∃ x t1 t2, v = .ref x ∧ V' x = some (.tup [.str "s" t1, .int f t2, .ref y]) := by
  refine G.fnQ G.f_struct (d := 0) fun L cdv hL => ?_
  intro C Q hQ
  repeat walk_at "w"
  refine WP.tuple_same hy ?_
  repeat walk_at "w"
  rename_i a V1 k1 h1
  exact hQ _ _ _ ⟨_, .refl, k1, a, _, _, rfl, h1⟩
noncomputable def consT (x y : T) : T := .s2 0 x y
theorem list_term_fn (G : GX prog w b₀ K mg mb) {l : Addr} {t : Nat} {xs : List Value} {ts : List T} {tl : Value} {u : T} (hl : V l = some (.lst t xs)) (hx : All2 (D V) ts xs) (hu : D V u tl) :
    Fn prog w b₀ 1 V (.ref 188) [.ref l, tl] fun v V' => Kp [] V V' ∧ D V' (ts.foldr consT u) v := by
  obtain ⟨tr, rfl⟩ := hu.ref
  refine G.fnDQ G.f_list_term G.d_list_term (d := 0) fun L cdv hL => ?_
  intro C Q hQ
  repeat walk_at "w"
  refine ifF (by exact Bool.false_ne_true) ?_
  repeat walk_at "w"
  refine WP.for_rev ?_
  repeat walk_at "w"
  refine WP.reversed hl fun r hr => ⟨r, l, t, xs, _, rfl, rfl, hr, fun i m V' => Kp [] V V' ∧ ∃ u', m "result" = some u' ∧ D V' ((ts.drop (xs.length - i)).foldr consT u) u', ⟨.refl, _, setm_self, ?_⟩, fun i m V' h => h.1.get hl, ?_, ?_⟩
  · rw [List.drop_of_length_le (by rw [hx.length]; omega)]; exact hu
  · rintro i v m V1 hi hv ⟨k1, u', hm, hd⟩
    repeat walk_at "w"
    rename_i a V2 k2 h2 b V3 k3 h3
    obtain ⟨z, hz, dz⟩ := hx.getR hv
    refine ⟨by walk_at "kp", _, setm_self, ?_⟩
    have e : ts.drop (xs.length - (i + 1)) = z :: ts.drop (xs.length - i) := by
      have h1 : xs.length - 1 - i < ts.length := (List.getElem?_eq_some_iff.mp hz).1
      have h2 : xs.length - (i + 1) = xs.length - 1 - i := nsub1
      have h3 : xs.length - i = xs.length - 1 - i + 1 := by first | exact nsub2 (by assumption) | omega
      rw [h2, h3, List.drop_eq_getElem_cons h1, (List.getElem?_eq_some_iff.mp hz).2]
    rw [e]
    exact ⟨b, a, _, _, _, _, rfl, h3, k3.get h2, dz.mono ((k1.fz).trans ((k2.fz).trans k3.fz)), hd.mono ((k2.fz).trans k3.fz)⟩
  · rintro m V1 ⟨k1, u', hm, hd⟩
    rw [Nat.sub_self, List.drop_zero] at hd
    repeat walk_at "w"
    exact hQ _ _ _ ⟨_, .refl, k1, hd⟩
theorem arguments_fn (G : GX prog w b₀ K mg mb) {x y : Addr} {t1 t2 : Tok} {f : Int} (hx : V x = some (.tup [.str "s" t1, .int f t2, .ref y])) :
    Fn prog w b₀ 1 V (.ref 209) [.ref x] fun v V' => Kp [] V V' ∧ v = .ref y := by
  refine G.fnQ G.f_arguments (d := 0) fun L cdv hL => ?_
  intro C Q hQ
  repeat walk_at "w"
  refine ifT (by decide) ?_
  repeat walk_at "w"
  exact hQ _ _ _ ⟨_, .refl, .refl, rfl⟩
theorem arguments0_fn (G : GX prog w b₀ K mg mb) {x : Addr} {t1 t2 : Tok} {n : Int} (hx : V x = some (.tup [.str "a" t1, .int n t2])) :
    Fn prog w b₀ 1 V (.ref 209) [.ref x] fun v V' => Kp [] V V' ∧ ∃ y, v = .ref y ∧ V' y = some (.tup []) := by
  refine G.fnQ G.f_arguments (d := 0) fun L cdv hL => ?_
  intro C Q hQ
  repeat walk_at "w"
  refine ifF (by decide) ?_
  repeat walk_at "w"
  rename_i a V1 k1 h1
  exact hQ _ _ _ ⟨_, .refl, k1, a, rfl, h1⟩

theorem list_items_fn (G : GX prog w b₀ K mg mb) {ts : List T} {n : Int} {tv : Value} (hd : D V (ts.foldr consT (.a n)) tv) (hz : ts.length ≤ 1000) :
    Fn prog w b₀ 1 V (.ref 195) [tv] fun v V' => Kp [20] V V' ∧ ∃ r l xs tlv, v = .ref r ∧ V' r = some (.tup [.ref l, tlv]) ∧ V' l = some (.lst 20 xs) ∧ All2 (D V') ts xs ∧ D V' (.a n) tlv := by
  refine G.fnQ G.f_list_items (d := 0) fun L cdv hL => ?_
  intro C Q hQ
  repeat walk_at "w"
  refine nList 20 fun l V1 k1 h1 => ?_
  repeat walk_at "w"
  refine WP.while (fun k m V' => Kp [20] V V' ∧ m "items" = some (.ref l) ∧ ∃ done rest xs tv', k = rest.length ∧ ts = done ++ rest ∧ m "term" = some tv' ∧ D V' (rest.foldr consT (.a n)) tv' ∧ V' l = some (.lst 20 xs) ∧ All2 (D V') done xs) ts.length
    ⟨by walk_at "kp", by walk_at "lk", [], ts, [], tv, rfl, rfl, by walk_at "lk", hd.kp k1, h1, .nil⟩ ?_
  rintro k m V2 ⟨k2, hm, done, rest, xs, tv', rfl, rfl, hm', hd2, hl, ha⟩
  cases rest with
  | nil =>
    refine fl0 (id hd2) (xe3 fun x t1 t2 => an2 ?_); rintro rfl hx
    repeat walk_at "w"
    refine ifF (by decide) (ifF (by decide) ?_)
    repeat walk_at "w"
    rename_i r V3 k3 h3
    refine hQ _ _ _ ?_
    rw [List.append_nil]
    exact ⟨_, .refl, by walk_at "kp", r, l, xs, _, rfl, h3, by walk_at "vw", Ds.kp k3 ha, by walk_at "dd"⟩
  | cons z zs =>
    have hd3 : D V2 (.s2 0 z (zs.foldr consT (.a n))) tv' := hd2
    revert hd3; refine xe6 fun x y t1 t2 v1 v2 => an5 ?_; rintro rfl hx hy d1 d2
    repeat walk_at "w"
    refine ifT (by decide) ?_
    repeat walk_at "w"
    refine ifT (by decide) ?_
    repeat walk_at "w"
    refine ifT (by decide) ?_
    repeat walk_at "w"
    have hlen := ha.length
    simp at hz
    refine nAppend (by walk_at "vw") (by walk_at "o") fun V3 k3 h3 => ?_
    repeat walk_at "w"
    exact ⟨zs.length, by simp, by walk_at "kp", by walk_at "lk", done ++ [z], zs, _, _, rfl, by simp, by walk_at "lk", by walk_at "dd", h3, (Ds.kp k3 ha).append (.one (by walk_at "dd"))⟩
/-- what right_spine gives: a term's right spine along functors of fs -/
noncomputable def spineT (fs : List Int) : T → List T
  | .s2 f p q => if fs.contains f then p :: spineT fs q else [.s2 f p q]
  | t => [t]
theorem spine_ne (fs : List Int) (t : T) : spineT fs t ≠ [] := by
  cases t <;> simp [spineT]
  split <;> simp
noncomputable def htT : T → Nat
  | .v _ => 0 | .a _ => 0 | .s1 _ p => htT p + 1 | .s2 _ p q => max (htT p) (htT q) + 1 | .s3 _ p q r => max (max (htT p) (htT q)) (htT r) + 1
noncomputable def okSp (fs : List Int) : T → Prop
  | .s1 f _ => fs.contains f = false
  | .s2 _ _ q => okSp fs q
  | .s3 .. => False
  | _ => True
theorem right_spine_fn (G : GX prog w b₀ K mg mb) {t : T} {tv : Value} {fa : Addr} {fvs : List Value} {fs : List Int} (hd : D V t tv) (hf : V fa = some (.tup fvs)) (hi : IntsAre fvs fs) (hz : htT t ≤ 1000)
    (ho : okSp fs t) : 
    Fn prog w b₀ 1 V (.ref 280) [tv, .ref fa] fun v V' => Kp [20] V V' ∧ ∃ l xs, v = .ref l ∧ V' l = some (.lst 20 xs) ∧ All2 (D V') (spineT fs t) xs := by
  refine G.fnQ G.f_right_spine (d := 0) fun L cdv hL => ?_
  intro C Q hQ
  repeat walk_at "w"
  refine nList 20 fun l V1 k1 h1 => ?_
  repeat walk_at "w"
  refine WP.while (fun k m V' => Kp [20] V V' ∧ m "parts" = some (.ref l) ∧ m "functors" = some (.ref fa) ∧ ∃ done rest xs tv', k = htT rest ∧ spineT fs t = done ++ spineT fs rest ∧ done.length + htT rest ≤ 1000 ∧ okSp fs rest ∧ m "term" = some tv' ∧ D V' rest tv' ∧ V' l = some (.lst 20 xs) ∧ All2 (D V') done xs) (htT t)
    ⟨by walk_at "kp", by walk_at "lk", by walk_at "lk", [], t, [], tv, rfl, rfl, by simpa using hz, ho, by walk_at "lk", hd.kp k1, h1, .nil⟩ ?_
  rintro k m V2 ⟨k2, hm, hmf, done, rest, xs, tv', rfl, hs, hb, ho', hm', hd2, hl, ha⟩
  have hlen := ha.length
  have hf2 : V2 fa = some (.tup fvs) := k2.get hf
  have fin : spineT fs rest = [rest] → ∀ {tv'}, m "term" = some tv' → D V2 rest tv' → WP C (execs [] C.env) m V2 (andThen C ((fnBody (topAt 36)).drop 2) Q) := by
    intro he tv' hm' hd2
    walk_at "w"
    refine andNext ?_
    refine WP.execs_cons ?_
    repeat walk_at "w"
    refine nAppend (by walk_at "vw") (by walk_at "o") fun V3 k3 h3 => ?_
    repeat walk_at "w"
    refine hQ _ _ _ ⟨_, .refl, by walk_at "kp", l, _, rfl, h3, ?_⟩
    rw [hs, he]
    exact (Ds.kp k3 ha).append (.one (by walk_at "dd"))
  repeat walk_at "w"
  cases rest with
  | v n =>
    refine fl0 (id hd2) (xe3 fun x t1 t2 => an2 ?_); rintro rfl hx
    repeat walk_at "w"
    exact ifF (by decide) (ifF (by decide) (fin rfl hm' hd2))
  | a n =>
    refine fl0 (id hd2) (xe3 fun x t1 t2 => an2 ?_); rintro rfl hx
    repeat walk_at "w"
    exact ifF (by decide) (ifF (by decide) (fin rfl hm' hd2))
  | s1 f p =>
    refine fl0 (id hd2) (xe5 fun x y t1 t2 v1 => an5 ?_); rintro rfl hx hy d1 hf1
    repeat walk_at "w"
    refine ifT (by decide) ?_
    repeat walk_at "w"
    refine WP.in_ints (by walk_at "vw") hi ?_
    repeat walk_at "w"
    have ho'' : fs.contains f = false := ho'
    rw [ho'']
    exact ifF (by decide) (ifF (by decide) (fin rfl hm' hd2))
  | s3 f p q r => exact ho'.elim
  | s2 f p q =>
    refine fl0 (id hd2) (xe6 fun x y t1 t2 v1 v2 => an5 ?_); rintro rfl hx hy d1 d2
    repeat walk_at "w"
    refine ifT (by decide) ?_
    repeat walk_at "w"
    refine WP.in_ints (by walk_at "vw") hi ?_
    repeat walk_at "w"
    cases hc : fs.contains f with
    | false => exact ifF (by decide) (ifF (by decide) (fin (by simp only [spineT, hc]; rfl) hm' hd2))
    | true =>
      refine ifT rfl ?_
      repeat walk_at "w"
      refine ifT rfl ?_
      repeat walk_at "w"
      have hh : htT (.s2 f p q) = max (htT p) (htT q) + 1 := rfl
      refine nAppend (by walk_at "vw") (by walk_at "o") fun V3 k3 h3 => ?_
      repeat walk_at "w"
      exact ⟨htT q, by omega, by walk_at "kp", by walk_at "lk", by walk_at "lk", done ++ [p], q, _, _, rfl, by rw [hs]; simp only [spineT, hc]; simp, by simp; omega, ho', by walk_at "lk", by walk_at "dd", h3, (Ds.kp k3 ha).append (.one (by walk_at "dd"))⟩
/-- goals joined by commas -/
noncomputable def conjT : List T → T
  | [] => .a 16
  | [t] => t
  | t :: r => .s2 1 t (conjT r)
theorem conj_cons {t : T} {r : List T} (h : r ≠ []) : conjT (t :: r) = .s2 1 t (conjT r) := by
  cases r with
  | nil => exact absurd rfl h
  | cons _ _ => rfl
theorem conjunction_fn (G : GX prog w b₀ K mg mb) {l : Addr} {tg : Nat} {ts : List T} {xs : List Value} (hl : V l = some (.lst tg xs)) (ha : All2 (D V) ts xs) (hn : ts ≠ []) (hz : ts.length ≤ 1000) :
    Fn prog w b₀ 1 V (.ref 216) [.ref l] fun v V' => Kp [] V V' ∧ D V' (conjT ts) v := by
  refine G.fnQ G.f_conjunction (d := 0) fun L cdv hL => ?_
  intro C Q hQ
  have hlen := ha.length
  have h0 : 0 < ts.length := List.length_pos_iff.mpr hn
  have hx : xs ≠ [] := by rintro rfl; simp at hlen; exact hn hlen
  repeat walk_at "w"
  refine ifF (by simpa using hx) ?_
  repeat walk_at "w"
  have hp : 0 < xs.length := by omega
  obtain ⟨v, hv⟩ : ∃ v, xs[xs.length - 1]? = some v := ⟨_, List.getElem?_eq_getElem (by walk_at "o")⟩
  refine WP.item_list (by walk_at "vw") (by walk_at "o") (by walk_at "o") (x := v) (by rw [toNat_pred xs.length]; exact hv) ?_
  repeat walk_at "w"
  refine forDown ?_
  repeat walk_at "w"
  refine ⟨_, xs.length - 1, _, _, _, _, rfl, by assumption, by omega, by omega, fun i m V' => Kp [] V V' ∧ m "goals" = some (.ref l) ∧ ∃ r, m "result" = some r ∧ D V' (conjT (ts.drop (xs.length - 1 - i))) r, ⟨by walk_at "kp", by walk_at "lk", v, by walk_at "lk", ?_⟩, ?_, ?_⟩
  · refine fl0 (ha.getR hv) (xe1 fun z => an2 ?_); rintro hz1 hz2
    have h1 : xs.length - 1 < ts.length := by omega
    rw [Nat.sub_zero, List.drop_eq_getElem_cons h1, List.drop_of_length_le (by walk_at "o"), (List.getElem?_eq_some_iff.mp hz1).2]
    show D _ z v
    walk_at "dd"
  · rintro i tk m V1 hi ⟨k1, hm, r, hr, hd⟩
    obtain ⟨v', hv'⟩ : ∃ v, xs[xs.length - 1 - 1 - i]? = some v := ⟨_, List.getElem?_eq_getElem (by walk_at "o")⟩
    obtain ⟨z, hz1, hz2⟩ := ha.getR hv'
    repeat walk_at "w"
    refine WP.item_list (by walk_at "vw") (by walk_at "o") (by walk_at "o") (x := v') hv' ?_
    repeat walk_at "w"
    refine ⟨by walk_at "kp", by walk_at "lk", _, by walk_at "lk", ?_⟩
    have e : ts.drop (xs.length - 1 - (i + 1)) = z :: ts.drop (xs.length - 1 - i) := by
      have h1 : xs.length - 1 - 1 - i < ts.length := (List.getElem?_eq_some_iff.mp hz1).1
      have h2 : xs.length - 1 - (i + 1) = xs.length - 1 - 1 - i := nsub1
      have h3 : xs.length - 1 - i = xs.length - 1 - 1 - i + 1 := by first | exact nsub2 (by assumption) | omega
      rw [h2, h3, List.drop_eq_getElem_cons h1, (List.getElem?_eq_some_iff.mp hz1).2]
    rw [e, conj_cons (by intro q; have := congrArg List.length q; simp at this; omega)]
    exact ⟨_, _, _, _, _, _, rfl, by walk_at "vw", by walk_at "vw", by walk_at "dd", by walk_at "dd"⟩
  · rintro m V1 ⟨k1, hm, r, hr, hd⟩
    rw [Nat.sub_self, List.drop_zero] at hd
    repeat walk_at "w"
    exact hQ _ _ _ ⟨_, .refl, k1, hd⟩

noncomputable def Idx {κ : Type} (ks : List κ) (kvs : List (κ × Value)) : Prop := kvs.map (·.1) = ks ∧ ∀ (i : Nat) p, kvs[i]? = some p → ∃ tk, p.2 = Value.int i tk
theorem Idx.length {κ : Type} {ks : List κ} {kvs : List (κ × Value)} (h : Idx ks kvs) : kvs.length = ks.length := by rw [← h.1, List.length_map]
theorem Idx.find {κ : Type} [DecidableEq κ] {ks : List κ} {kvs : List (κ × Value)} (h : Idx ks kvs) (hn : ks.Nodup) (k : κ) : (k ∉ ks ∧ valueAt kvs k = none) ∨ ∃ (i : Nat) (tk : Tok), ks[i]? = some k ∧ valueAt kvs k = some (.int i tk) := by
  by_cases hk : k ∈ ks
  · obtain ⟨i, hi, e⟩ := List.getElem_of_mem hk
    have hi' : i < kvs.length := by rw [h.length]; exact hi
    obtain ⟨tk, e2⟩ := h.2 i kvs[i] (List.getElem?_eq_getElem hi')
    have e1 : kvs[i].1 = k := by
      have : (kvs.map (·.1))[i]? = ks[i]? := by rw [h.1]
      rw [List.getElem?_map, List.getElem?_eq_getElem hi', List.getElem?_eq_getElem hi, e] at this
      simpa using this
    refine .inr ⟨i, tk, by rw [List.getElem?_eq_getElem hi, e], valueAt_of_get (by rw [h.1]; exact hn) (i := i) ?_⟩
    rw [List.getElem?_eq_getElem hi', ← e1, ← e2]
  · exact .inl ⟨hk, valueAt_none_of_not_mem (by rw [h.1]; exact hk)⟩
theorem Idx.snoc {κ : Type} [DecidableEq κ] {ks : List κ} {kvs : List (κ × Value)} (h : Idx ks kvs) {k : κ} (hk : k ∉ ks) {tk : Tok} : Idx (ks ++ [k]) (stored kvs k (.int ks.length tk)) := by
  rw [stored_absent (valueAt_none_of_not_mem (by rw [h.1]; exact hk))]
  refine ⟨by simp [h.1], fun i p hp => ?_⟩
  by_cases hi : i < kvs.length
  · rw [List.getElem?_append_left hi] at hp; exact h.2 i p hp
  · rw [List.getElem?_append_right (by walk_at "o")] at hp
    have : i - kvs.length = 0 := by
      have := (List.getElem?_eq_some_iff.mp hp).1
      simp at this; omega
    rw [this] at hp
    simp at hp; subst hp
    exact ⟨tk, by rw [← h.length]; show Value.int _ _ = Value.int _ _; congr 2; omega⟩
theorem nodup_le {κ : Type} [DecidableEq κ] : ∀ {l l' : List κ}, l.Nodup → (∀ x ∈ l, x ∈ l') → l.length ≤ l'.length
  | [], _, _, _ => Nat.zero_le _
  | x :: l, l', hn, hs => by
    rw [List.nodup_cons] at hn
    have hx := hs x (.head _)
    have := nodup_le (l := l) (l' := l'.erase x) hn.2 fun y hy => (List.mem_erase_of_ne (by rintro rfl; exact hn.1 hy)).mpr (hs y (.tail _ hy))
    rw [List.length_erase_of_mem hx] at this
    have : 0 < l'.length := List.length_pos_of_mem hx
    rw [List.length_cons]; omega
theorem nodup_at {κ : Type} {l : List κ} (hn : l.Nodup) {i j : Nat} {x : κ} (hi : l[i]? = some x) (hj : l[j]? = some x) : i = j := by
  obtain ⟨h1, e1⟩ := List.getElem?_eq_some_iff.mp hi
  obtain ⟨h2, e2⟩ := List.getElem?_eq_some_iff.mp hj
  have P := List.pairwise_iff_getElem.mp hn
  rcases Nat.lt_trichotomy i j with h | h | h
  · exact absurd (e1.trans e2.symm) (P i j h1 h2 h)
  · exact h
  · exact absurd (e2.trans e1.symm) (P j i h2 h1 h)

structure Sy where
  texts : List Str
  fns : List (Int × Int)
noncomputable def Sy.addT (y : Sy) (t : Str) : Sy := if t ∈ y.texts then y else { y with texts := y.texts ++ [t] }
noncomputable def Sy.addF (y : Sy) (p : Int × Int) : Sy := if p ∈ y.fns then y else { y with fns := y.fns ++ [p] }
noncomputable def Sy.numT (y : Sy) (t : Str) : Nat := (y.addT t).texts.idxOf t
noncomputable def Sy.addN (y : Sy) (t : Str) (n : Int) : Sy := (y.addT t).addF (y.numT t, n)
noncomputable def Sy.le (y z : Sy) : Prop := (∃ r, z.texts = y.texts ++ r) ∧ ∃ r, z.fns = y.fns ++ r
theorem Sy.le.refl {y : Sy} : y.le y := ⟨⟨[], by simp⟩, [], by simp⟩
theorem Sy.le.trans {x y z : Sy} (h : x.le y) (k : y.le z) : x.le z := by
  obtain ⟨⟨a, ha⟩, b, hb⟩ := h
  obtain ⟨⟨c, hc⟩, d, hd⟩ := k
  exact ⟨⟨a ++ c, by rw [hc, ha, List.append_assoc]⟩, b ++ d, by rw [hd, hb, List.append_assoc]⟩
theorem Sy.le_addT {y : Sy} {t : Str} : y.le (y.addT t) := by
  unfold Sy.addT; split
  · exact .refl
  · exact ⟨⟨[t], rfl⟩, [], by simp⟩
theorem Sy.le_addF {y : Sy} {p : Int × Int} : y.le (y.addF p) := by
  unfold Sy.addF; split
  · exact .refl
  · exact ⟨⟨[], by simp⟩, [p], rfl⟩
theorem Sy.le.t {y z : Sy} (h : y.le z) {i : Nat} {x : Str} (e : y.texts[i]? = some x) : z.texts[i]? = some x := by
  obtain ⟨⟨r, hr⟩, _⟩ := h
  rw [hr, List.getElem?_append_left (List.getElem?_eq_some_iff.mp e).1]; exact e
theorem Sy.le.f {y z : Sy} (h : y.le z) {i : Nat} {x : Int × Int} (e : y.fns[i]? = some x) : z.fns[i]? = some x := by
  obtain ⟨_, r, hr⟩ := h
  rw [hr, List.getElem?_append_left (List.getElem?_eq_some_iff.mp e).1]; exact e
theorem Sy.addT_fns {y : Sy} {t : Str} : (y.addT t).fns = y.fns := by unfold Sy.addT; split <;> rfl
theorem Sy.addF_texts {y : Sy} {p : Int × Int} : (y.addF p).texts = y.texts := by unfold Sy.addF; split <;> rfl

noncomputable def fixT : List Str := ["[]", ".", "{}", "-", "+", "*", "/", ",", "|", ";", "->", "\\+", ":-", "?-", "-->", "!", "true", "fail", "false", "call", "=", "^", "error", "", "end_of_file", "system", "$VAR", "catch", "throw"]
noncomputable def allT : List Str := fixT ++ (["n", "t", "g", "p", "phrase"] : List Str)
noncomputable def okF (p : Int × Int) : Prop := 0 ≤ p.1 ∧ p.1 < 40 ∧ 0 ≤ p.2 ∧ p.2 ≤ 8
noncomputable def allF : List (Int × Int) := (List.range 40).flatMap fun (a : Nat) => (List.range 9).map fun (n : Nat) => ((a : Int), (n : Int))
theorem okF.mem {p : Int × Int} (h : okF p) : p ∈ allF := by
  obtain ⟨a, n⟩ := p
  obtain ⟨h1, h2, h3, h4⟩ := h
  simp only at h1 h2 h3 h4
  refine List.mem_flatMap.mpr ⟨a.toNat, List.mem_range.mpr (by walk_at "o"), List.mem_map.mpr ⟨n.toNat, List.mem_range.mpr (by walk_at "o"), ?_⟩⟩
  show ((a.toNat : Int), (n.toNat : Int)) = (a, n)
  rw [Int.toNat_of_nonneg h1, Int.toNat_of_nonneg h3]
structure Sy.Ok (y : Sy) : Prop where
  nt : y.texts.Nodup
  nf : y.fns.Nodup
  at' : ∀ t ∈ y.texts, t ∈ allT
  af : ∀ p ∈ y.fns, okF p
theorem Sy.Ok.lt {y : Sy} (h : y.Ok) : y.texts.length ≤ 40 := Nat.le_trans (nodup_le h.nt h.at') (by decide)
theorem Sy.Ok.lf {y : Sy} (h : y.Ok) : y.fns.length ≤ 400 := Nat.le_trans (nodup_le h.nf fun p hp => (h.af p hp).mem) (by decide)
theorem Sy.Ok.addT {y : Sy} (h : y.Ok) {t : Str} (ht : t ∈ allT) : (y.addT t).Ok := by
  unfold Sy.addT; split
  · exact h
  · rename_i hn
    refine ⟨?_, h.nf, fun x hx => ?_, h.af⟩
    · show (y.texts ++ [t]).Nodup
      rw [List.nodup_append]; exact ⟨h.nt, by simp, fun a ha b hb => by simp at hb; subst hb; rintro rfl; exact hn ha⟩
    · rcases List.mem_append.mp hx with hx | hx
      · exact h.at' x hx
      · simp at hx; subst hx; exact ht
theorem Sy.Ok.addF {y : Sy} (h : y.Ok) {p : Int × Int} (hp : okF p) : (y.addF p).Ok := by
  unfold Sy.addF; split
  · exact h
  · rename_i hn
    refine ⟨h.nt, ?_, h.at', fun x hx => ?_⟩
    · show (y.fns ++ [p]).Nodup
      rw [List.nodup_append]; exact ⟨h.nf, by simp, fun a ha b hb => by simp at hb; subst hb; rintro rfl; exact hn ha⟩
    · rcases List.mem_append.mp hx with hx | hx
      · exact h.af x hx
      · simp at hx; subst hx; exact hp
noncomputable def keyOf (p : Int × Int) : List Int := [p.1, p.2]
/-- the object of symbols s, with its four parts -/
noncomputable def Sg (prog : Program) (w : World) (V : View) (s : Addr) (y : Sy) : Prop := ∃ d tx an fs fn tvs kvs fvs xs,
  V s = some (.inst 154 d) ∧ V d = some (.att 25 [("texts", .ref tx), ("atom_numbers", .ref an), ("functors", .ref fs), ("functor_numbers", .ref fn)]) ∧
  V tx = some (.lst 21 tvs) ∧ All2 (fun t v => ∃ tk, v = Value.str t tk) y.texts tvs ∧ V an = some (IsD (strKind prog w) 22 kvs) ∧ Idx y.texts kvs ∧
  V fs = some (.lst 23 fvs) ∧ All2 (fun p v => ∃ a, v = Value.ref a ∧ KeyTup V a (keyOf p)) y.fns fvs ∧ TDict prog w V fn 24 xs ∧ Idx (y.fns.map keyOf) (xs.map fun x => (x.1, x.2.2)) ∧ y.Ok
theorem KeyTup.kp {T V V' a ks} (k : Kp T V V') (h : KeyTup V a ks) (s : T.contains 0 = false := by rfl) : KeyTup V' a ks := by obtain ⟨vs, a, b⟩ := id h; exact ⟨vs, k.get a s, b⟩
theorem TDict.kp {T V V' d t xs} (k : Kp T V V') (h : TDict prog w V d t xs) (s : T.contains 0 = false := by rfl) (s' : T.contains t = false := by rfl) : TDict prog w V' d t xs :=
  ⟨k.get h.1 s', fun x hx => (h.2.1 x hx).kp k s, h.2.2⟩
theorem Sg.kp {T V V' s y} (k : Kp T V V') (h : Sg prog w V s y) (hT : (T.contains 0 || T.contains 21 || T.contains 22 || T.contains 23 || T.contains 24 || T.contains 25) = false := by rfl) : Sg prog w V' s y := by
  simp only [Bool.or_eq_false_iff] at hT
  obtain ⟨⟨⟨⟨⟨t0, t1⟩, t2⟩, t3⟩, t4⟩, t5⟩ := hT
  revert h; refine xe9 fun d tx an fs fn tvs kvs fvs xs => an11 ?_; rintro h1 h2 h3 h4 h5 h6 h7 h8 h9 h10 h11
  exact ⟨d, tx, an, fs, fn, tvs, kvs, fvs, xs, k.get h1 t0, k.get h2 t5, k.get h3 t1, h4, k.get h5 t2, h6, k.get h7 t3, h8.imp fun p v ⟨a, e, q⟩ => ⟨a, e, q.kp k t0⟩, h9.kp k t0 t4, h10, h11⟩

theorem atom_m (G : GX prog w b₀ K mg mb) {s : Addr} {y : Sy} {t : Str} {tk : Tok} (hs : Sg prog w V s y) (ht : t ∈ allT) :
    Fn prog w b₀ 1 V (.ref 88) [.ref s, .str t tk] fun v V' => ∃ i : Nat, ∃ tk', v = .int i tk' ∧ (y.addT t).texts[i]? = some t ∧ Sg prog w V' s (y.addT t) ∧ Kp [21, 22] V V' := by
  refine fl0 (id hs) (xe9 fun d tx an fs fn tvs kvs fvs xs => an11 ?_); rintro h1 h2 h3 h4 h5 h6 h7 h8 h9 h10 h11
  refine G.fnQ G.f_Symbols_atom (d := 0) fun L cdv hL => ?_
  intro C Q hQ
  repeat walk_at "w"
  refine WP.getMethod_dict PySem.F.slot_dict_get (by rfl) h5 ?_
  repeat walk_at "w"
  refine WP.dict_get (kk := t) (by simp [PySem.strKind, Value.isStrOf]) G.sys h5 ?_
  repeat walk_at "w"
  rcases h6.find h11.nt t with ⟨hn, hv⟩ | ⟨i, tk', hi, hv⟩
  · rw [hv]
    simp only [Option.getD_none]
    repeat walk_at "w"
    have hl := h4.length
    have := h11.lt
    refine ifF (by decide) ?_
    repeat walk_at "w"
    have e : y.addT t = ⟨y.texts ++ [t], y.fns⟩ := if_neg hn
    have ok := h11.addT ht
    refine nAppend (by walk_at "vw") (by walk_at "o") fun V1 k1 q1 => ?_
    repeat walk_at "w"
    have h5' : V1 an = some (IsD (PySem.strKind prog w) 22 kvs) := k1.get h5
    refine nDictSet (kk := t) (by simp [PySem.strKind, Value.isStrOf]) h5' (by rw [h6.length]; omega) fun V2 k2 q2 => ?_
    repeat walk_at "w"
    have k12 : Kp [21, 22] V V2 := by walk_at "kp"
    refine hQ _ _ _ ?_
    rw [e] at ok ⊢
    refine ⟨_, .refl, tvs.length, _, rfl, by simp [← hl], ⟨d, tx, an, fs, fn, _, _, fvs, xs, k12.get h1, k12.get h2, k2.get q1, h4.append (.one ⟨_, rfl⟩), q2, ?_, k12.get h7, h8.imp fun p v ⟨a, e, q⟩ => ⟨a, e, q.kp k12⟩, h9.kp k12, h10, ok⟩, k12⟩
    rw [← hl]
    exact h6.snoc hn
  · rw [hv]
    simp only [Option.getD_some]
    repeat walk_at "w"
    refine ifT (by simp) ?_
    repeat walk_at "w"
    have e : y.addT t = y := if_pos (List.mem_of_getElem? hi)
    refine hQ _ _ _ ?_
    rw [e]
    exact ⟨_, .refl, i, _, rfl, hi, hs, .refl⟩
theorem functor_m (G : GX prog w b₀ K mg mb) {s : Addr} {y : Sy} {a n : Int} {tk tk2 : Tok} (hs : Sg prog w V s y) (hp : okF (a, n)) :
    Fn prog w b₀ 1 V (.ref 102) [.ref s, .int a tk, .int n tk2] fun v V' => ∃ i : Nat, ∃ tk', v = .int i tk' ∧ (y.addF (a, n)).fns[i]? = some (a, n) ∧ Sg prog w V' s (y.addF (a, n)) ∧ Kp [23, 24] V V' := by
  refine fl0 (id hs) (xe9 fun d tx an fs fn tvs kvs fvs xs => an11 ?_); rintro h1 h2 h3 h4 h5 h6 h7 h8 h9 h10 h11
  refine G.fnQ G.f_Symbols_functor (d := 0) fun L cdv hL => ?_
  intro C Q hQ
  repeat walk_at "w"
  rename_i ka V0 k0 hk
  have hkt : KeyTup V0 ka (keyOf (a, n)) := ⟨_, hk, .cons _ _ (.cons _ _ .nil)⟩
  have h9' := h9.kp k0
  refine WP.getMethod_tdict PySem.F.slot_dict_get (by rfl) h9'.1 ?_
  repeat walk_at "w"
  refine WP.tdict_get G.sys (by show (17 : Nat) ≠ 0; decide) h9' hkt ?_
  rw [← valueAt_kvsOf]
  have nk : (y.fns.map keyOf).Nodup := by
    rw [List.Nodup, List.pairwise_map]
    refine h11.nf.imp ?_
    intro p q hpq e
    simp [keyOf] at e
    exact hpq (Prod.ext e.1 e.2)
  rcases h10.find nk (keyOf (a, n)) with ⟨hn, hv⟩ | ⟨i, tk', hi, hv⟩
  · have hv' : valueAt (kvsOf xs) (keyOf (a, n)) = none := hv
    rw [hv']
    simp only [Option.getD_none]
    repeat walk_at "w"
    have hl := h8.length
    have hlx := h10.length
    simp only [List.length_map] at hlx
    have := h11.lf
    refine ifF (by decide) ?_
    repeat walk_at "w"
    rename_i tkk
    have hn' : (a, n) ∉ y.fns := fun q => hn (List.mem_map.mpr ⟨_, q, rfl⟩)
    have e : y.addF (a, n) = ⟨y.texts, y.fns ++ [(a, n)]⟩ := if_neg hn'
    have ok := h11.addF hp
    refine nAppend (by walk_at "vw") (by walk_at "o") fun V1 k1 q1 => ?_
    repeat walk_at "w"
    have hat : atKey xs (keyOf (a, n)) = none := by
      rw [valueAt_kvsOf] at hv'
      exact Option.map_eq_none_iff.mp hv'
    refine nTDictSet (by show (17 : Nat) ≠ 0; decide) (h9'.kp k1) (hkt.kp k1) hat (by walk_at "o") (by decide) fun V2 k2 q2 => ?_
    repeat walk_at "w"
    have k12 : Kp [23, 24] V V2 := by walk_at "kp"
    refine hQ _ _ _ ?_
    rw [e] at ok ⊢
    refine ⟨_, .refl, fvs.length, _, rfl, by simp [← hl], ⟨d, tx, an, fs, fn, tvs, kvs, _, _, k12.get h1, k12.get h2, k12.get h3, h4, k12.get h5, h6, k2.get q1, (h8.imp fun p v ⟨a, e, q⟩ => ⟨a, e, q.kp k12⟩).append (.one ⟨ka, rfl, (hkt.kp k1).kp k2⟩), q2, ?_, ok⟩, k12⟩
    have := h10.snoc (k := keyOf (a, n)) hn (tk := tkk)
    rw [stored_absent hv, List.length_map, hl] at this
    simpa using this
  · have hv' : valueAt (kvsOf xs) (keyOf (a, n)) = some (.int i tk') := hv
    rw [hv']
    simp only [Option.getD_some]
    repeat walk_at "w"
    refine ifT (by simp) ?_
    repeat walk_at "w"
    rw [List.getElem?_map] at hi
    refine fl0 (Option.map_eq_some_iff.mp hi) (xe1 fun p => an2 ?_); rintro hp1 hp2
    simp [keyOf] at hp2
    obtain rfl : p = (a, n) := Prod.ext hp2.1 hp2.2
    have e : y.addF (a, n) = y := if_pos (List.mem_of_getElem? hp1)
    refine hQ _ _ _ ?_
    rw [e]
    exact ⟨_, .refl, i, _, rfl, hp1, Sg.kp (by assumption) hs, by walk_at "kp"⟩
theorem name_m (G : GX prog w b₀ K mg mb) {s : Addr} {y : Sy} {a n : Int} {i : Nat} {tk : Tok} (hs : Sg prog w V s y) (hi : y.fns[i]? = some (a, n)) :
    Fn prog w b₀ 1 V (.ref 116) [.ref s, .int i tk] fun v V' => ∃ tk', v = .int a tk' ∧ Kp [] V V' := by
  refine fl0 (id hs) (xe9 fun d tx an fs fn tvs kvs fvs xs => an11 ?_); rintro h1 h2 h3 h4 h5 h6 h7 h8 h9 h10 h11
  refine G.fnQ G.f_Symbols_name (d := 0) fun L cdv hL => ?_
  intro C Q hQ
  obtain ⟨u, hu, ka, rfl, vs, hk1, hk2⟩ := h8.getL hi
  have := (List.getElem?_eq_some_iff.mp hu).1
  have := h8.length
  have := h11.lf
  cases hk2 with
  | cons _ t1 hk3 =>
    repeat walk_at "w"
    refine WP.item_list (by walk_at "vw") (by walk_at "o") (by walk_at "o") (x := .ref ka) (by simpa using hu) ?_
    repeat walk_at "w"
    exact hQ _ _ _ ⟨_, .refl, _, rfl, .refl⟩
theorem func_m (G : GX prog w b₀ K mg mb) {s : Addr} {y : Sy} {t : Str} {n : Int} {tk tk2 : Tok} (hs : Sg prog w V s y) (ht : t ∈ allT) (hn : 0 ≤ n ∧ n ≤ 8) :
    Fn prog w b₀ 2 V (.ref 109) [.ref s, .str t tk, .int n tk2] fun v V' => ∃ i : Nat, ∃ tk', ∃ a : Nat, v = .int i tk' ∧ (y.addT t).texts[a]? = some t ∧ ((y.addT t).addF (a, n)).fns[i]? = some ((a : Int), n) ∧ Sg prog w V' s ((y.addT t).addF (a, n)) ∧ Kp [21, 22, 23, 24] V V' := by
  refine fl0 (id hs) (xe9 fun d tx an fs fn tvs kvs fvs xs => an11 ?_); rintro h1 h2 h3 h4 h5 h6 h7 h8 h9 h10 h11
  refine G.fnQ G.f_Symbols_func (d := 1) fun L cdv hL => ?_
  intro C Q hQ
  repeat walk_at "w"
  refine WP.call (atom_m G hs ht) (by walk_at "dp") ?_
  intro v V1; refine xe2 fun i tk' => an4 ?_; rintro rfl hi hs1 k1
  repeat walk_at "w"
  have hlt : i < 40 := Nat.lt_of_lt_of_le (List.getElem?_eq_some_iff.mp hi).1 ((h11.addT ht).lt)
  refine WP.call (functor_m G hs1 ⟨by simp, by simp; omega, hn.1, hn.2⟩) (by walk_at "dp") ?_
  intro v V2; refine xe2 fun j tk2' => an4 ?_; rintro rfl hj hs2 k2
  repeat walk_at "w"
  exact hQ _ _ _ ⟨_, .refl, j, _, i, rfl, hi, hj, hs2, by walk_at "kp"⟩

theorem nDictEmpty (x : AO) {pos : Pos} {k : Value → Loc → View → Prop} (d : Den x { cls := .type "dict", data := .dict #[] }) (h : ∀ a V', Kp [] V V' → V' a = some x → k (.ref a) m V') : WP C (eval (.Dict [] [] pos) C.env) m V k :=
  fun F A s Q E hA S q => wpAny_Dict_empty (q _ m _ _ s.toks (S.push rfl d) (h _ _ (Kp.refl.new S.fresh) upd_self))
theorem isD_empty {KT : Type} [DecidableEq KT] (knd : KeyKind prog w KT) (t : Nat) : Den (IsD knd t []) { cls := .type "dict", data := .dict #[] } := by
  show Obj.IsDictOf knd _ []
  unfold Obj.IsDictOf
  exact ⟨#[], 0, ⟨rfl, rfl, rfl⟩, rfl, fun e he => by simp at he, Pairs.nil, List.nodup_nil⟩
theorem Sg.at {s : Addr} {y : Sy} (h : Sg prog w V s y) : ∃ d tx an fs fn, V s = some (.inst 154 d) ∧ V d = some (.att 25 [("texts", .ref tx), ("atom_numbers", .ref an), ("functors", .ref fs), ("functor_numbers", .ref fn)]) := by
  exact xe9 (fun d tx an fs fn _ _ _ _ q => ⟨d, tx, an, fs, fn, q.1, q.2.1⟩) h
theorem Sg.ok {s : Addr} {y : Sy} (h : Sg prog w V s y) : y.Ok := xe9 (fun _ _ _ _ _ _ _ _ _ q => q.2.2.2.2.2.2.2.2.2.2) h
noncomputable def StrIs (t : Str) (v : Value) : Prop := ∃ tk, v = .str t tk
theorem strs_step {pos : Pos} {es : List Expr} {ts : List Str} (h : All2 (fun e t => ∃ c p, e = .Constant (.str t) c p) es ts) : ∀ {m : Loc} {V : View} {k : List Value → Loc → View → Prop}, (∀ vs, All2 StrIs ts vs → k vs m V) → WP C (spliced (backTo pos (starEach es C.env))) m V k := by
  induction h with
  | nil => intro m V k q; exact WP.items_nil (q _ .nil)
  | cons a _ ih =>
    intro m V k q
    obtain ⟨c, p, rfl⟩ := a
    exact WP.items_cons (WP.str fun tk => ih fun vs r => q _ (.cons ⟨tk, rfl⟩ r))
theorem fixed_atoms_fn (G : GX prog w b₀ K mg mb) : Fn prog w b₀ 1 V (.ref 60) [] fun v V' => Kp [] V V' ∧ ∃ a vs, v = .ref a ∧ V' a = some (.tup vs) ∧ All2 StrIs fixT vs := by
  refine G.fnQ G.f_fixed_atoms (d := 0) fun L cdv hL => ?_
  intro C Q hQ
  show WP _ (execs (_ :: _) _) _ _ _
  refine WP.s_ret ?_
  refine WP.tuple ?_
  refine strs_step (ts := fixT) ?_ ?_
  rotate_left
  · intro vs r
    refine nTuple (fun a V1 k q => ?_) (by rw [← r.length]; exact sz (Nat.le_of_ble_eq_true rfl))
    exact hQ _ _ _ ⟨_, .refl, k, _, _, rfl, q, r⟩
  unfold fixT
  repeat (first | exact .nil | refine .cons ⟨_, _, rfl⟩ ?_)
noncomputable def fixP : List (Str × Int) := [(".", 2), (",", 2), (";", 2), ("->", 2), ("\\+", 1), (":-", 2), (":-", 1), ("?-", 1), ("-->", 2), ("{}", 1), ("=", 2), ("^", 2), ("-", 1), ("-", 2), ("+", 2), ("/", 2), ("error", 2), ("$VAR", 1), ("catch", 3), ("throw", 1), ("!", 0), ("true", 0), ("fail", 0), ("false", 0), ("call", 1), ("call", 2), ("call", 3), ("call", 4), ("call", 5), ("call", 6), ("call", 7), ("call", 8)]
noncomputable def RowIs (V : View) (p : Str × Int) (v : Value) : Prop := ∃ a t1 t2, v = .ref a ∧ V a = some (.tup [.str p.1 t1, .int p.2 t2])
inductive RowE : Expr → Str × Int → Prop
  | mk {a : Str} {b : Int} {c1 c2 c3 : Nat} {p1 p2 p3 : Pos} : RowE (.Tuple [.Constant (.str a) c1 p1, .Constant (.int b) c2 p2] c3 p3) (a, b)
theorem rows_step {pos : Pos} {es : List Expr} {ps : List (Str × Int)} (h : All2 RowE es ps) : ∀ {m : Loc} {V : View} {k : List Value → Loc → View → Prop}, (∀ vs V', Kp [] V V' → All2 (RowIs V') ps vs → k vs m V') → WP C (spliced (backTo pos (starEach es C.env))) m V k := by
  induction h with
  | nil => intro m V k q; exact WP.items_nil (q _ _ .refl .nil)
  | cons a _ ih =>
    intro m V k q
    obtain ⟨⟩ := a
    exact WP.items_cons (WP.tuple (WP.args2 (WP.str fun t1 => WP.int fun t2 => nTuple fun b V1 k1 q1 => ih fun vs V2 k2 r => q _ _ (k1.trans k2) (.cons ⟨_, t1, t2, rfl, k2.get q1⟩ r))))
theorem fixed_functors_fn (G : GX prog w b₀ K mg mb) : Fn prog w b₀ 1 V (.ref 67) [] fun v V' => Kp [] V V' ∧ ∃ a vs, v = .ref a ∧ V' a = some (.tup vs) ∧ All2 (RowIs V') fixP vs := by
  refine G.fnQ G.f_fixed_functors (d := 0) fun L cdv hL => ?_
  intro C Q hQ
  show WP _ (execs (_ :: _) _) _ _ _
  refine WP.s_ret ?_
  refine WP.tuple ?_
  refine rows_step (ps := fixP) ?_ ?_
  rotate_left
  · intro vs V1 k1 r
    refine nTuple (fun a V' k q => ?_) (by rw [← r.length]; exact sz (Nat.le_of_ble_eq_true rfl))
    exact hQ _ _ _ ⟨_, .refl, k1.trans k, _, _, rfl, q, r.imp fun _ _ h => by obtain ⟨b, t1, t2, rfl, hb⟩ := h; exact ⟨b, t1, t2, rfl, k.get hb⟩⟩
  unfold fixP
  repeat (first | exact .nil | refine .cons .mk ?_)

noncomputable def syT (n : Nat) : Sy := (fixT.take n).foldl Sy.addT ⟨[], []⟩
noncomputable def syF (n : Nat) : Sy := (fixP.take n).foldl (fun y p => y.addN p.1 p.2) (syT fixT.length)
noncomputable def sy0 : Sy := syF fixP.length
theorem take_snoc {l : List α} {i : Nat} {x : α} (h : l[i]? = some x) : l.take (i + 1) = l.take i ++ [x] := by
  obtain ⟨h1, h2⟩ := List.getElem?_eq_some_iff.mp h
  rw [List.take_add_one, h]; rfl
theorem syT_succ {i : Nat} {x : Str} (h : fixT[i]? = some x) : syT (i + 1) = (syT i).addT x := by
  unfold syT; rw [take_snoc h, List.foldl_append]; rfl
theorem syF_succ {i : Nat} {x : Str × Int} (h : fixP[i]? = some x) : syF (i + 1) = (syF i).addN x.1 x.2 := by
  unfold syF; rw [take_snoc h, List.foldl_append]; rfl
theorem idx_eq {l : List Str} (hn : l.Nodup) {i : Nat} {x : Str} (h : l[i]? = some x) : l.idxOf x = i := by
  have hm := List.mem_of_getElem? h
  have hlt := List.idxOf_lt_length_iff.mpr hm
  refine nodup_at hn (x := x) ?_ h
  rw [List.getElem?_eq_getElem hlt]; simp
theorem fixP_ok : ∀ p ∈ fixP, p.1 ∈ allT ∧ 0 ≤ p.2 ∧ p.2 ≤ 8 := by decide
theorem syOk0 : (syT 0).Ok := ⟨List.nodup_nil, List.nodup_nil, (fun _ h => nomatch h), (fun _ h => nomatch h)⟩
theorem init_m (G : GX prog w b₀ K mg mb) {s dx : Addr} (hs : V s = some (.inst 154 dx)) (hd : V dx = some (.att 25 [])) :
    Fn prog w b₀ 3 V (.ref 81) [.ref s] fun v V' => v = .none ∧ Sg prog w V' s sy0 ∧ Kp [21, 22, 23, 24, 25] V V' := by
  refine G.fnQ G.f_Symbols___init__ (d := 2) fun L cdv hL => ?_
  intro C Q hQ
  repeat walk_at "w"
  refine nList 21 fun tx V1 k1 q1 => ?_
  repeat walk_at "w"
  refine nSetAttr G rfl (k1.get hs) (k1.get hd) (Nat.le_of_ble_eq_true rfl) fun V2 k2 q2 => ?_
  repeat walk_at "w"
  refine nDictEmpty _ (isD_empty (PySem.strKind prog w) 22) fun an V3 k3 q3 => ?_
  repeat walk_at "w"
  refine nSetAttr G rfl (by walk_at "vw") (k3.get q2) (Nat.le_of_ble_eq_true rfl) fun V4 k4 q4 => ?_
  repeat walk_at "w"
  refine nList 23 fun fs V5 k5 q5 => ?_
  repeat walk_at "w"
  refine nSetAttr G rfl (by walk_at "vw") (k5.get q4) (Nat.le_of_ble_eq_true rfl) fun V6 k6 q6 => ?_
  repeat walk_at "w"
  refine nDictEmpty (.dct 24 []) ⟨_, rfl⟩ fun fn V7 k7 q7 => ?_
  repeat walk_at "w"
  refine nSetAttr G rfl (by walk_at "vw") (k7.get q6) (Nat.le_of_ble_eq_true rfl) fun V8 k8 q8 => ?_
  repeat walk_at "w"
  have q3' : V8 an = some (IsD (PySem.strKind prog w) 22 []) := by
    have a : V4 an = some (IsD (PySem.strKind prog w) 22 []) := k4.get q3
    have b : V6 an = some (IsD (PySem.strKind prog w) 22 []) := k6.get (k5.get a)
    exact k8.get (k7.get b)
  have S0 : Sg prog w V8 s (syT 0) := ⟨dx, tx, an, fs, fn, [], [], [], [], by walk_at "vw", q8, by walk_at "vw", .nil, q3', ⟨rfl, fun i p h => by simp at h⟩, by walk_at "vw", .nil, ⟨by walk_at "vw", fun x hx => by simp at hx, List.nodup_nil⟩, ⟨rfl, fun i p h => by simp at h⟩, syOk0⟩
  have k08 : Kp [21, 22, 23, 24, 25] V V8 := by walk_at "kp"
  refine WP.for_tuple ?_
  repeat walk_at "w"
  refine WP.call (fixed_atoms_fn G) (by walk_at "dp") ?_
  rintro v V9 ⟨k9, a, vs, rfl, ha, hvs⟩
  refine ⟨a, vs, rfl, fun i m V' => Kp [21, 22] V9 V' ∧ m "self" = some (.ref s) ∧ Sg prog w V' s (syT i), ⟨.refl, by walk_at "lk", S0.kp k9⟩, fun i m V' h => h.1.get ha, ?_, ?_⟩
  · intro i v m V1 hv; refine an3 ?_; rintro k1 hm hS
    obtain ⟨t, ht, tk, rfl⟩ := hvs.getR hv
    refine fl0 (hS.at) (xe5 fun _ _ _ _ _ => an2 ?_); rintro q1 q2
    repeat walk_at "w"
    refine WP.call (atom_m G hS (List.mem_append.mpr (.inl (List.mem_of_getElem? ht)))) (by walk_at "dp") ?_
    intro v V2; refine xe2 fun _ _ => an4 ?_; rintro rfl _ hS2 k2
    repeat walk_at "w"
    exact ⟨by walk_at "kp", by walk_at "lk", by rw [syT_succ ht]; exact hS2⟩
  intro m V10; refine an3 ?_; rintro k10 hm hS
  repeat walk_at "w"
  refine WP.for_tuple ?_
  repeat walk_at "w"
  refine WP.call (fixed_functors_fn G) (by walk_at "dp") ?_
  rintro v V11 ⟨k11, a', vs', rfl, ha', hvs'⟩
  have hS' : Sg prog w V11 s (syF 0) := by
    have := hS.kp k11
    rw [← hvs.length] at this
    exact this
  refine ⟨a', vs', rfl, fun i m V' => Kp [21, 22, 23, 24] V11 V' ∧ m "self" = some (.ref s) ∧ Sg prog w V' s (syF i), ⟨.refl, by walk_at "lk", hS'⟩, fun i m V' h => h.1.get ha', ?_, ?_⟩
  · intro i v m V1 hv; refine an3 ?_; rintro k1 hm hS
    obtain ⟨t, ht, x, t1, t2, rfl, hx⟩ := hvs'.getR hv
    refine fl0 (hS.at) (xe5 fun _ _ _ _ _ => an2 ?_); rintro q1 q2
    repeat walk_at "w"
    have ok := fixP_ok t (List.mem_of_getElem? ht)
    have hok : (syF i).Ok := hS.ok
    refine WP.call (func_m G hS ok.1 ok.2) (by walk_at "dp") ?_
    intro v V2; refine xe3 fun _ _ a => an5 ?_; rintro rfl hta _ hS2 k2
    repeat walk_at "w"
    refine ⟨by walk_at "kp", by walk_at "lk", ?_⟩
    rw [syF_succ ht]
    unfold Sy.addN Sy.numT
    rw [idx_eq (hok.addT ok.1).nt hta]
    exact hS2
  intro m V12; refine an3 ?_; rintro k12 hm hS
  repeat walk_at "w"
  rw [← hvs'.length] at hS
  exact hQ _ _ _ ⟨_, .refl, rfl, hS, by walk_at "kp"⟩

theorem nAddTuple0 {l b : Addr} {ys : List Value} {k : Value → Loc → View → Prop} (e : V l = some (.tup [])) (e' : V b = some (.tup ys)) (h : k (.ref b) m V) : WP C (binaryOp .Add (.ref l) (.ref b)) m V k :=
  fun F A s Q E hA S q => by
    obtain ⟨n, i⟩ := S.isT e
    obtain ⟨n', i'⟩ := S.isT e'
    exact PySem.concat_meets ⟨_, i, rfl⟩ ⟨_, i', rfl⟩ PySem.noFill_tuple_add PySem.seq_tuple_add PySem.F.slot_tuple_add PySem.F.entry_tuple_add (PySem.F.args_tuple_add_2 _ _) (PySem.AutoSeq1.tuple___add___tuple_tuple_0 l _ n b _ n' rfl) ⟨i, i', q _ m V s.heap s.toks S h⟩
theorem nNeSame {l b : Addr} {x : Str} {i : Int} {t1 t2 u1 u2 : Tok} {k : Value → Loc → View → Prop} (hsl : C.sl ≠ 0) (e : V l = some (.tup [.str x t1, .int i t2])) (e' : V b = some (.tup [.str x u1, .int i u2])) (h : k (.bool false) m V) : WP C (compareOp .NotEq (.ref l) (.ref b)) m V k :=
  fun F A s Q E hA S q => by
    obtain ⟨n, it⟩ := S.isT e
    obtain ⟨n', it'⟩ := S.isT e'
    have hu : A.units < cLine := by have := hA.2.2; omega
    refine cmp_ofNotEq (SeqAt.RcNeAt.tuples (e := fun _ => true) ⟨_, it, rfl, _, rfl⟩ ⟨_, it', rfl, _, rfl⟩ hu (fun j h1 h2 => ?_) _ _ _ _ (q _ m V s.heap s.toks S h))
    match j with
    | 0 => have := SeqAt.EqAt.str_str (A := A.in1) (s := s) x t1 x u1; simpa using this
    | 1 => have := SeqAt.EqAt.int_int (A := A.in1) (s := s) i t2 i u2; simpa using this
    | n + 2 => simp at h1; omega

inductive Lf where
  | nt0 (n : Int) | lst (k t : Int) | cut | curly (f k : Int) | var (k : Int) | nil | nt1 (f p k : Int)
inductive B where
  | lf (l : Lf) | sq (a b : B) | or (f : Int) (a b : B) | th (a b : B) | nt (a : B)
noncomputable def Lf.enc : Lf → T
  | nt0 n => .a n
  | lst k t => consT (.v k) (consT (.a t) (.a 0))
  | cut => .a 15
  | curly f k => .s1 9 (.s1 f (.v k))
  | var k => .v k
  | nil => .a 0
  | nt1 f _ k => .s1 f (.v k)
noncomputable def B.enc : B → T
  | lf l => l.enc
  | sq a b => .s2 1 a.enc b.enc
  | or f a b => .s2 f a.enc b.enc
  | th a b => .s2 3 a.enc b.enc
  | nt a => .s1 4 a.enc
noncomputable def Sy.has (y : Sy) (f : Int) (p : Int × Int) : Prop := ∃ i : Nat, f = i ∧ y.fns[i]? = some p
noncomputable def Sy.hasP (y : Sy) (f : Int) : Prop := ∃ a : Nat, y.texts[a]? = some "phrase" ∧ y.has f (a, 3)
theorem Sy.has.mono {y z : Sy} (h : y.le z) {f : Int} {p : Int × Int} (x : y.has f p) : z.has f p := by obtain ⟨i, a, b⟩ := id x; exact ⟨i, a, h.f b⟩
theorem Sy.hasP.mono {y z : Sy} (h : y.le z) {f : Int} (x : y.hasP f) : z.hasP f := by obtain ⟨i, a, b⟩ := id x; exact ⟨i, h.t a, b.mono h⟩
noncomputable def Lf.Wf (y : Sy) : Lf → Prop
  | nt0 n => 29 ≤ n ∧ n < 40
  | lst k t => 0 ≤ k ∧ k < 4
  | cut => True
  | curly f k => 0 ≤ k ∧ k < 4
  | var k => 0 ≤ k ∧ k < 4
  | nil => True
  | nt1 f p k => 29 ≤ p ∧ p < 40 ∧ 0 ≤ k ∧ k < 4 ∧ y.has f (p, 1)
theorem Lf.Wf.mono {y z : Sy} (h : y.le z) : ∀ {l : Lf}, l.Wf y → l.Wf z
  | nt0 n, x => x | lst k t, x => x | cut, x => x | curly f k, x => x | var k, x => x | nil, x => x
  | nt1 f p k, x => ⟨x.1, x.2.1, x.2.2.1, x.2.2.2.1, x.2.2.2.2.mono h⟩
noncomputable def eqT (x y : Int) : T := .s2 10 (.v x) (.v y)
noncomputable def TrL (y : Sy) : Lf → Int → Int → T → Prop
  | .nt0 n, a, b, g => ∃ f, y.has f (n, 2) ∧ g = .s2 f (.v a) (.v b)
  | .lst k t, a, b, g => g = .s2 10 (.v a) (consT (.v k) (consT (.a t) (.v b)))
  | .cut, a, b, g => g = .s2 1 (.a 15) (eqT a b)
  | .curly f k, a, b, g => g = .s2 1 (.s1 f (.v k)) (eqT a b)
  | .var k, a, b, g => ∃ f, y.hasP f ∧ g = .s3 f (.v k) (.v a) (.v b)
  | .nil, a, b, g => g = eqT a b
  | .nt1 f p k, a, b, g => ∃ f', y.has f' (p, 3) ∧ g = .s3 f' (.v k) (.v a) (.v b)
theorem sy0_fns : sy0.fns[1]? = some (7, 2) ∧ sy0.fns[2]? = some (9, 2) ∧ sy0.fns[3]? = some (10, 2) ∧ sy0.fns[4]? = some (11, 1) ∧ sy0.fns[0]? = some (1, 2) ∧ sy0.fns[9]? = some (2, 1) ∧ sy0.fns[10]? = some (20, 2) := by decide +kernel
/-- a functor with this key is no fixed one with another key -/
theorem Sy.has.ne {y : Sy} (h : sy0.le y) {f : Int} {p q : Int × Int} (x : y.has f p) {j : Nat} (hj : sy0.fns[j]? = some q) (hpq : p ≠ q) : f ≠ j := by
  revert x; refine xe1 fun i => an2 ?_; rintro rfl hi
  intro e
  obtain rfl : i = j := by omega
  rw [h.f hj] at hi; cases hi; exact hpq rfl

theorem WP.assignName {x : Str} {px : Pos} {v : Value} {k : Unit → Loc → View → Prop} (h : WP C (storeName C.env x v) m V k) : WP C (PySem.assign (.Name x px) C.env v) m V k :=
  fun F A s Q E hA S q => wpAny_assign_Name (h F A s Q E hA S q)
theorem store2 {x y : Str} {px py : Pos} {v1 v2 : Value} {k : Loc → View → Prop} (h : k (setm (setm m x v1) y v2) V) (hk : C.env.scope.kind = .function := by rfl) (hx : C.env.kindOf x = some .local := by rfl) (hy : C.env.kindOf y = some .local := by rfl) :
    storeAll C ((assignEach [.Name x px, .Name y py] C.env).map (·.2)) [v1, v2] m V k := by
  refine WP.assignName (WP.store ?_ hk hx)
  exact WP.assignName (WP.store h hk hy)
theorem functor_in0_fn (G : GX prog w b₀ K mg mb) {s x : Addr} {y : Sy} {n : Int} {t1 t2 : Tok} (hs : Sg prog w V s y) (hx : V x = some (.tup [.str "a" t1, .int n t2])) (hn : okF (n, 0)) :
    Fn prog w b₀ 2 V (.ref 202) [.ref s, .ref x] fun v V' => ∃ i : Nat, ∃ tk', v = .int i tk' ∧ (y.addF (n, 0)).fns[i]? = some (n, 0) ∧ Sg prog w V' s (y.addF (n, 0)) ∧ Kp [23, 24] V V' := by
  refine fl0 (hs.at) (xe5 fun d tx an fs fn => an2 ?_); rintro q1 q2
  refine G.fnQ G.f_functor_in (d := 1) fun L cdv hL => ?_
  intro C Q hQ
  repeat walk_at "w"
  refine ifT (by decide) ?_
  repeat walk_at "w"
  refine WP.call (functor_m G hs hn) (by walk_at "dp") ?_
  intro v V1; refine xe2 fun i tk' => an4 ?_; rintro rfl h1 h2 k1
  repeat walk_at "w"
  exact hQ _ _ _ ⟨_, .refl, i, _, rfl, h1, h2, k1⟩
theorem functor_in1_fn (G : GX prog w b₀ K mg mb) {s x z : Addr} {f : Int} {t1 t2 : Tok} (hx : V x = some (.tup [.str "s" t1, .int f t2, .ref z])) :
    Fn prog w b₀ 2 V (.ref 202) [.ref s, .ref x] fun v V' => v = .int f t2 ∧ Kp [] V V' := by
  refine G.fnQ G.f_functor_in (d := 1) fun L cdv hL => ?_
  intro C Q hQ
  repeat walk_at "w"
  refine ifF (by decide) ?_
  repeat walk_at "w"
  exact hQ _ _ _ ⟨_, .refl, rfl, .refl⟩
theorem nonterminal0_fn (G : GX prog w b₀ K mg mb) {s x : Addr} {y : Sy} {n a b : Int} {t1 t2 : Tok} {fv lv : Value} (hs : Sg prog w V s y) (hx : V x = some (.tup [.str "a" t1, .int n t2])) (hn : 29 ≤ n ∧ n < 40) (hf : D V (.v a) fv) (hl : D V (.v b) lv) :
    Fn prog w b₀ 4 V (.ref 315) [.ref s, .ref x, fv, lv] fun v V' => ∃ f y', y.le y' ∧ y'.has f (n, 2) ∧ Sg prog w V' s y' ∧ D V' (.s2 f (.v a) (.v b)) v ∧ Kp [23, 24] V V' := by
  refine fl0 (hs.at) (xe5 fun d tx an fs fn => an2 ?_); rintro q1 q2
  refine G.fnQ G.f_nonterminal (d := 3) fun L cdv hL => ?_
  intro C Q hQ
  repeat walk_at "w"
  refine WP.call (functor_in0_fn G hs hx ⟨by simp; omega, by simp; omega, by simp, by simp⟩) (by walk_at "dp") ?_
  intro v V1; refine xe2 fun i tk' => an4 ?_; rintro rfl h1 h2 k1
  repeat walk_at "w"
  refine WP.call (arguments0_fn G (k1.get hx)) (by walk_at "dp") ?_
  rintro v V2 ⟨k2, z, rfl, hz⟩
  repeat walk_at "w"
  rename_i c V3 k3 hc
  refine nAddTuple0 (by walk_at "vw") hc ?_
  repeat walk_at "w"
  refine WP.call (name_m G ((h2.kp k2).kp k3) h1) (by walk_at "dp") ?_
  intro v V4; refine xe1 fun tk => an2 ?_; rintro rfl k4
  repeat walk_at "w"
  refine WP.call (functor_m G (((h2.kp k2).kp k3).kp k4) (n := 2) ⟨by simp; omega, by simp; omega, by simp, by simp⟩) (by walk_at "dp") ?_
  intro v V5; refine xe2 fun j tk5 => an4 ?_; rintro rfl hj h5 k5
  repeat walk_at "w"
  refine WP.call (struct_fn G (xs := [fv, lv]) (by walk_at "vw")) (by walk_at "dp") ?_
  rintro v V6 ⟨k6, z', t1', t2', rfl, hz'⟩
  repeat walk_at "w"
  exact hQ _ _ _ ⟨_, .refl, j, _, Sy.le.trans Sy.le_addF Sy.le_addF, ⟨j, rfl, hj⟩, h5.kp k6, ⟨z', c, _, _, fv, lv, rfl, hz', by walk_at "vw", by walk_at "dd", by walk_at "dd"⟩, by walk_at "kp"⟩
theorem nonterminal1_fn (G : GX prog w b₀ K mg mb) {s : Addr} {y : Sy} {f p k a b : Int} {tv fv lv : Value} (hs : Sg prog w V s y) (h0 : sy0.le y) (hx : D V (.s1 f (.v k)) tv) (hh : y.has f (p, 1)) (hn : 29 ≤ p ∧ p < 40) (hf : D V (.v a) fv) (hl : D V (.v b) lv) :
    Fn prog w b₀ 4 V (.ref 315) [.ref s, tv, fv, lv] fun v V' => ∃ f y', y.le y' ∧ y'.has f (p, 3) ∧ Sg prog w V' s y' ∧ D V' (.s3 f (.v k) (.v a) (.v b)) v ∧ Kp [23, 24] V V' := by
  refine fl0 (hs.at) (xe5 fun d tx an fs fn => an2 ?_); rintro q1 q2
  revert hx; refine xe5 fun x z t1 t2 kv => an5 ?_; rintro rfl hx1 hx2 hk hne
  revert hh; refine xe1 fun i => an2 ?_; rintro rfl hi
  refine G.fnQ G.f_nonterminal (d := 3) fun L cdv hL => ?_
  intro C Q hQ
  repeat walk_at "w"
  refine WP.call (functor_in1_fn G hx1) (by walk_at "dp") ?_
  rintro v V1 ⟨rfl, k1⟩
  repeat walk_at "w"
  refine WP.call (arguments_fn G (k1.get hx1)) (by walk_at "dp") ?_
  rintro v V2 ⟨k2, rfl⟩
  repeat walk_at "w"
  rename_i c V3 k3 hc
  refine nAddTuple (xs := [kv]) (ys := [fv, lv]) (by walk_at "vw") (by walk_at "vw") (by simp) (by simp) (by simp) fun e V3' k3' he => ?_
  repeat walk_at "w"
  refine WP.call (name_m G ((((hs.kp k1).kp k2).kp k3).kp k3') hi) (by walk_at "dp") ?_
  intro v V4; refine xe1 fun tk => an2 ?_; rintro rfl k4
  repeat walk_at "w"
  refine WP.call (functor_m G (((((hs.kp k1).kp k2).kp k3).kp k3').kp k4) (n := 3) ⟨by simp; omega, by simp; omega, by simp, by simp⟩) (by walk_at "dp") ?_
  intro v V5; refine xe2 fun j tk5 => an4 ?_; rintro rfl hj h5 k5
  repeat walk_at "w"
  refine WP.call (struct_fn G (xs := [kv] ++ [fv, lv]) (by walk_at "vw")) (by walk_at "dp") ?_
  rintro v V6 ⟨k6, z', t1', t2', rfl, hz'⟩
  repeat walk_at "w"
  have hj' : (y.addF (p, 3)).has j (p, 3) := ⟨j, rfl, hj⟩
  exact hQ _ _ _ ⟨_, .refl, j, _, Sy.le_addF, hj', h5.kp k6, ⟨z', e, _, _, kv, fv, lv, rfl, hz', by walk_at "vw", by walk_at "dd", by walk_at "dd", by walk_at "dd", hj'.ne (h0.trans Sy.le_addF) sy0_fns.1 (by simp)⟩, by walk_at "kp"⟩
theorem terminals_fn (G : GX prog w b₀ K mg mb) {s : Addr} {k t a b : Int} {tv fv lv : Value} (hx : D V (consT (.v k) (consT (.a t) (.a 0))) tv) (hf : D V (.v a) fv) (hl : D V (.v b) lv) :
    Fn prog w b₀ 4 V (.ref 322) [.ref s, tv, fv, lv] fun v V' => D V' (.s2 10 (.v a) (consT (.v k) (consT (.a t) (.v b)))) v ∧ Kp [20] V V' := by
  refine G.fnQ G.f_terminals (d := 3) fun L cdv hL => ?_
  intro C Q hQ
  refine WP.execs_cons ?_
  refine WP.assign_tuple ?_
  repeat walk_at "w"
  refine WP.call (list_items_fn G (ts := [.v k, .a t]) (n := 0) hx (by simp)) (by walk_at "dp") ?_
  rintro v V1 ⟨k1, r, l, xs, tlv, rfl, hr, hl1, hxs, htl⟩
  refine ⟨r, _, rfl, hr, rfl, ?_⟩
  refine store2 ?_
  revert htl; refine xe3 fun z t1 t2 => an2 ?_; rintro rfl hz
  repeat walk_at "w"
  refine ifF (by decide) ?_
  repeat walk_at "w"
  refine WP.call (atom_fn G) (by walk_at "dp") ?_
  rintro v V2 ⟨k2, z', t1', t2', rfl, hz'⟩
  refine nNeSame (by show (17 : Nat) ≠ 0; decide) (by walk_at "vw") hz' ?_
  repeat walk_at "w"
  refine ifF (by decide) ?_
  repeat walk_at "w"
  refine WP.call (list_term_fn G (t := 20) (xs := xs) (by walk_at "vw") (Ds.kp k2 hxs) (u := .v b) (by walk_at "dd")) (by walk_at "dp") ?_
  rintro v V3 ⟨k3, hd3⟩
  repeat walk_at "w"
  rename_i c V4 k4 hc
  refine WP.call (struct_fn G (xs := [fv, v]) (by walk_at "vw")) (by walk_at "dp") ?_
  rintro v V6 ⟨k6, z', t1', t2', rfl, hz'⟩
  repeat walk_at "w"
  exact hQ _ _ _ ⟨_, .refl, ⟨z', c, _, _, fv, _, rfl, hz', by walk_at "vw", by walk_at "dd", by walk_at "dd"⟩, by walk_at "kp"⟩
theorem plain_goal_fn (G : GX prog w b₀ K mg mb) {s : Addr} {y : Sy} {l : Lf} {a b : Int} {tv fv lv : Value} (hs : Sg prog w V s y) (h0 : sy0.le y) (hx : D V l.enc tv) (hw : l.Wf y) (hf : D V (.v a) fv) (hl : D V (.v b) lv) :
    Fn prog w b₀ 5 V (.ref 374) [.ref s, tv, fv, lv] fun v V' => ∃ g y', y.le y' ∧ Sg prog w V' s y' ∧ D V' g v ∧ TrL y' l a b g ∧ Kp [20, 21, 22, 23, 24] V V' := by
  refine fl0 (hs.at) (xe5 fun d tx an fs fn => an2 ?_); rintro q1 q2
  refine G.fnQ G.f_plain_goal (d := 4) fun L cdv hL => ?_
  intro C Q hQ
  repeat walk_at "w"
  rename_i c V1 k1 hc
  refine WP.call (struct_fn G (xs := [fv, lv]) (by walk_at "vw")) (by walk_at "dp") ?_
  rintro v V2 ⟨k2, z', t1', t2', rfl, hz'⟩
  have hsame : D V2 (eqT a b) (.ref z') := ⟨z', c, _, _, fv, _, rfl, hz', by walk_at "vw", by walk_at "dd", by walk_at "dd"⟩
  repeat walk_at "w"
  cases l with
  | var k =>
    refine fl0 (id hx) (xe3 fun x t1 t2 => an2 ?_); rintro rfl hx1
    repeat walk_at "w"
    refine ifT (by decide) ?_
    repeat walk_at "w"
    refine WP.call (func_m G ((hs.kp k1).kp k2) (t := "phrase") (by decide) (n := 3) (by decide)) (by walk_at "dp") ?_
    intro v V3; refine xe3 fun i tk' ai => an5 ?_; rintro rfl ha hi hs3 k3
    repeat walk_at "w"
    rename_i c' V4 k4 hc'
    refine WP.call (struct_fn G (xs := [.ref x, fv, lv]) (by walk_at "vw")) (by walk_at "dp") ?_
    rintro v V5 ⟨k5, z, t1'', t2'', rfl, hz⟩
    repeat walk_at "w"
    have hle := Sy.le.trans (Sy.le_addT (y := y) (t := "phrase")) (Sy.le_addF (p := ((ai : Int), 3)))
    have hh : ((y.addT "phrase").addF ((ai : Int), 3)).has i (ai, 3) := ⟨i, rfl, hi⟩
    refine hQ _ _ _ ⟨_, .refl, .s3 i (.v k) (.v a) (.v b), _, hle, (hs3.kp k4).kp k5, ⟨z, c', _, _, _, fv, lv, rfl, hz, by walk_at "vw", by walk_at "dd", by walk_at "dd", by walk_at "dd", hh.ne (h0.trans hle) sy0_fns.1 (by simp)⟩, ⟨i, ⟨ai, ?_, hh⟩, rfl⟩, by walk_at "kp"⟩
    exact (Sy.le_addF).t ha
  | nt0 n =>
    refine fl0 (id hx) (xe3 fun x t1 t2 => an2 ?_); rintro rfl hx1
    repeat walk_at "w"
    refine ifF (by decide) ?_
    repeat walk_at "w"
    refine ifF (by decide) ?_
    repeat walk_at "w"
    refine ifT (by decide) ?_
    repeat walk_at "w"
    refine ifF (by have := hw.1; simp; omega) ?_
    repeat walk_at "w"
    refine ifF (by have := hw.1; simp; omega) ?_
    repeat walk_at "w"
    refine WP.call (nonterminal0_fn G ((hs.kp k1).kp k2) (by walk_at "vw") hw (a := a) (b := b) (by walk_at "dd") (by walk_at "dd")) (by walk_at "dp") ?_
    intro v V3; refine xe2 fun f y' => an5 ?_; rintro hle hh hs3 hd3 k3
    repeat walk_at "w"
    exact hQ _ _ _ ⟨_, .refl, _, _, hle, hs3, hd3, ⟨f, hh, rfl⟩, by walk_at "kp"⟩
  | cut =>
    refine fl0 (id hx) (xe3 fun x t1 t2 => an2 ?_); rintro rfl hx1
    repeat walk_at "w"
    refine ifF (by decide) ?_
    repeat walk_at "w"
    refine ifF (by decide) ?_
    repeat walk_at "w"
    refine ifT (by decide) ?_
    repeat walk_at "w"
    refine ifF (by decide) ?_
    repeat walk_at "w"
    refine ifT (by decide) ?_
    repeat walk_at "w"
    refine nList 20 fun l V3 k3 hl3 => ?_
    repeat walk_at "w"
    refine WP.call (conjunction_fn G (ts := [.a 15, eqT a b]) hl3 (.cons (by walk_at "dd") (.cons (by walk_at "dd") .nil)) (by simp) (by simp)) (by walk_at "dp") ?_
    rintro v V4 ⟨k4, hd4⟩
    repeat walk_at "w"
    exact hQ _ _ _ ⟨_, .refl, _, _, .refl, (((hs.kp k1).kp k2).kp k3).kp k4, hd4, rfl, by walk_at "kp"⟩
  | nil =>
    refine fl0 (id hx) (xe3 fun x t1 t2 => an2 ?_); rintro rfl hx1
    repeat walk_at "w"
    refine ifF (by decide) ?_
    repeat walk_at "w"
    refine ifF (by decide) ?_
    repeat walk_at "w"
    refine ifT (by decide) ?_
    repeat walk_at "w"
    refine ifT (by decide) ?_
    repeat walk_at "w"
    exact hQ _ _ _ ⟨_, .refl, _, _, .refl, (hs.kp k1).kp k2, hsame, rfl, by walk_at "kp"⟩
  | lst k t =>
    refine fl0 (id hx) (xe6 fun x xa t1 t2 v1 v2 => an5 ?_); rintro rfl hx1 hx2 d1 d2
    repeat walk_at "w"
    refine ifF (by decide) ?_
    repeat walk_at "w"
    refine ifF (by decide) ?_
    repeat walk_at "w"
    refine ifF (by decide) ?_
    repeat walk_at "w"
    refine ifT (by decide) ?_
    repeat walk_at "w"
    refine WP.call (terminals_fn G (a := a) (b := b) (show D V2 (consT (.v k) (consT (.a t) (.a 0))) _ by walk_at "dd") (by walk_at "dd") (by walk_at "dd")) (by walk_at "dp") ?_
    rintro v V3 ⟨hd3, k3⟩
    repeat walk_at "w"
    exact hQ _ _ _ ⟨_, .refl, _, _, .refl, ((hs.kp k1).kp k2).kp k3, hd3, rfl, by walk_at "kp"⟩
  | curly f k =>
    refine fl0 (id hx) (xe5 fun x xa t1 t2 v1 => an5 ?_); rintro rfl hx1 hx2 d1 d2
    repeat walk_at "w"
    refine ifF (by decide) ?_
    repeat walk_at "w"
    refine ifF (by decide) ?_
    repeat walk_at "w"
    refine ifF (by decide) ?_
    repeat walk_at "w"
    refine ifF (by decide) ?_
    repeat walk_at "w"
    refine ifT (by decide) ?_
    repeat walk_at "w"
    refine nList 20 fun l V3 k3 hl3 => ?_
    repeat walk_at "w"
    refine WP.call (conjunction_fn G (ts := [.s1 f (.v k), eqT a b]) hl3 (.cons (by walk_at "dd") (.cons (by walk_at "dd") .nil)) (by simp) (by simp)) (by walk_at "dp") ?_
    rintro v V4 ⟨k4, hd4⟩
    repeat walk_at "w"
    exact hQ _ _ _ ⟨_, .refl, _, _, .refl, (((hs.kp k1).kp k2).kp k3).kp k4, hd4, rfl, by walk_at "kp"⟩
  | nt1 f p k =>
    refine fl0 (id hx) (xe5 fun x xa t1 t2 v1 => an5 ?_); rintro rfl hx1 hx2 d1 d2
    obtain ⟨w1, w2, w3, w4, w5⟩ := id hw
    have n0 := w5.ne h0 sy0_fns.2.2.2.2.1 (by simp)
    have n9 := w5.ne h0 sy0_fns.2.2.2.2.2.1 (by simp; omega)
    repeat walk_at "w"
    refine ifF (by decide) ?_
    repeat walk_at "w"
    refine ifF (by decide) ?_
    repeat walk_at "w"
    refine ifF (by decide) ?_
    repeat walk_at "w"
    refine ifF (by simpa using n0) ?_
    repeat walk_at "w"
    refine ifF (by simpa using n9) ?_
    repeat walk_at "w"
    refine WP.call (nonterminal1_fn G ((hs.kp k1).kp k2) h0 (show D V2 (.s1 f (.v k)) _ by walk_at "dd") w5 ⟨w1, w2⟩ (a := a) (b := b) (by walk_at "dd") (by walk_at "dd")) (by walk_at "dp") ?_
    intro v V3; refine xe2 fun f' y' => an5 ?_; rintro hle hh hs3 hd3 k3
    repeat walk_at "w"
    exact hQ _ _ _ ⟨_, .refl, _, _, hle, hs3, hd3, ⟨f', hh, rfl⟩, by walk_at "kp"⟩

noncomputable def FrS (V : View) (r : Addr) (z : Int) : Prop := ∃ d tk, V r = some (.inst 269 d) ∧ V d = some (.att 26 [("next", .int z tk)])
theorem FrS.kp {T V V' r z} (k : Kp T V V') (h : FrS V r z) (s : T.contains 0 = false := by rfl) (s' : T.contains 26 = false := by rfl) : FrS V' r z := by obtain ⟨d, tk, a, b⟩ := id h; exact ⟨d, tk, k.get a s, k.get b s'⟩
theorem fresh_init_m (G : GX prog w b₀ K mg mb) {s dx : Addr} {z : Int} {tk : Tok} (hs : V s = some (.inst 269 dx)) (hd : V dx = some (.att 26 [])) :
    Fn prog w b₀ 1 V (.ref 259) [.ref s, .int z tk] fun v V' => v = .none ∧ FrS V' s z ∧ Kp [26] V V' := by
  refine G.fnDQ G.f_Fresh___init__ G.d_Fresh (d := 0) fun L cdv hL => ?_
  intro C Q hQ
  repeat walk_at "w"
  refine nSetAttr G rfl hs hd (Nat.le_of_ble_eq_true rfl) fun V2 k2 q2 => ?_
  repeat walk_at "w"
  exact hQ _ _ _ ⟨_, .refl, rfl, ⟨dx, _, by walk_at "vw", q2⟩, k2⟩
theorem number_m (G : GX prog w b₀ K mg mb) {r : Addr} {z : Int} (hr : FrS V r z) :
    Fn prog w b₀ 1 V (.ref 266) [.ref r] fun v V' => ∃ tk, v = .int z tk ∧ FrS V' r (z + 1) ∧ Kp [26] V V' := by
  revert hr; refine xe2 fun d tk => an2 ?_; rintro h1 h2
  refine G.fnQ G.f_Fresh_number (d := 0) fun L cdv hL => ?_
  intro C Q hQ
  repeat walk_at "w"
  refine nSetAttr G rfl h1 h2 (Nat.le_of_ble_eq_true rfl) fun V2 k2 q2 => ?_
  repeat walk_at "w"
  exact hQ _ _ _ ⟨_, .refl, _, rfl, ⟨d, _, by walk_at "vw", q2⟩, k2⟩
noncomputable def usedL : List Int := [0, 1, 2, 3, 900, 901]
noncomputable def skip (z : Int) : Int := if z ≤ 3 then 4 else if z = 900 ∨ z = 901 then 902 else z
noncomputable def GV (V : View) (g : Addr) (z : Int) : Prop := ∃ d r u us, V g = some (.inst 304 d) ∧ V d = some (.att 27 [("fresh", .ref r), ("used", .ref u)]) ∧ FrS V r z ∧ V u = some (.lst 4 us) ∧ IntsAre us usedL
theorem GV.kp {T V V' g z} (k : Kp T V V') (h : GV V g z) (s : (T.contains 0 || T.contains 26 || T.contains 27 || T.contains 4) = false := by rfl) : GV V' g z := by
  simp only [Bool.or_eq_false_iff] at s
  obtain ⟨⟨⟨s0, s1⟩, s2⟩, s3⟩ := s
  revert h; refine xe4 fun d r u us => an5 ?_; rintro a b c e f
  exact ⟨d, r, u, us, k.get a s0, k.get b s2, c.kp k s0 s1, k.get e s3, f⟩
theorem gv_init_m (G : GX prog w b₀ K mg mb) {s dx r u : Addr} {z : Int} {us : List Value} (hs : V s = some (.inst 304 dx)) (hd : V dx = some (.att 27 [])) (hr : FrS V r z) (hu : V u = some (.lst 4 us)) (hi : IntsAre us usedL) :
    Fn prog w b₀ 1 V (.ref 294) [.ref s, .ref r, .ref u] fun v V' => v = .none ∧ GV V' s z ∧ Kp [27] V V' := by
  refine G.fnQ G.f_GrammarVariables___init__ (d := 0) fun L cdv hL => ?_
  intro C Q hQ
  repeat walk_at "w"
  refine nSetAttr G rfl hs hd (Nat.le_of_ble_eq_true rfl) fun V2 k2 q2 => ?_
  repeat walk_at "w"
  refine nSetAttr G rfl (by walk_at "vw") q2 (Nat.le_of_ble_eq_true rfl) fun V3 k3 q3 => ?_
  repeat walk_at "w"
  exact hQ _ _ _ ⟨_, .refl, rfl, ⟨dx, r, u, us, by walk_at "vw", q3, (hr.kp k2).kp k3, by walk_at "vw", hi⟩, by walk_at "kp"⟩
theorem skip_in {k : Int} (h0 : 0 ≤ k) (h : usedL.contains k = true) : skip (k + 1) = skip k ∧ k ≤ 901 := by
  have : k = 0 ∨ k = 1 ∨ k = 2 ∨ k = 3 ∨ k = 900 ∨ k = 901 := by simpa [usedL] using h
  rcases this with rfl | rfl | rfl | rfl | rfl | rfl <;> decide
theorem skip_out {k : Int} (h0 : 0 ≤ k) (h : usedL.contains k = false) : skip k = k := by
  have : ¬ (k = 0 ∨ k = 1 ∨ k = 2 ∨ k = 3 ∨ k = 900 ∨ k = 901) := by
    intro q; have : usedL.contains k = true := by simpa [usedL] using q
    rw [this] at h; cases h
  unfold skip
  rw [if_neg (by walk_at "o"), if_neg (by walk_at "o")]
theorem variable_m (G : GX prog w b₀ K mg mb) {g : Addr} {z : Int} (hg : GV V g z) (h0 : 0 ≤ z) :
    Fn prog w b₀ 2 V (.ref 301) [.ref g] fun v V' => D V' (.v (skip z)) v ∧ GV V' g (skip z + 1) ∧ Kp [26] V V' := by
  revert hg; refine xe4 fun d r u us => an5 ?_; rintro h1 h2 h3 h4 h5
  refine fl0 (id h3) (xe2 fun rd rtk => an2 ?_); rintro r1 r2
  refine G.fnQ G.f_GrammarVariables_variable (d := 1) fun L cdv hL => ?_
  intro C Q hQ
  repeat walk_at "w"
  refine WP.call (number_m G h3) (by walk_at "dp") ?_
  intro v V1; refine xe1 fun tk => an3 ?_; rintro rfl hr1 k1
  repeat walk_at "w"
  refine WP.while (fun n m V' => Kp [26] V V' ∧ m "self" = some (.ref g) ∧ ∃ k tk, m "k" = some (.int k tk) ∧ FrS V' r (k + 1) ∧ skip k = skip z ∧ 0 ≤ k ∧ n = (1000 - k).toNat) _
    ⟨by walk_at "kp", by walk_at "lk", z, _, by walk_at "lk", hr1, rfl, h0, rfl⟩ ?_
  rintro n m V2 ⟨k2, hm, k, tk, hmk, hr2, hk, hk0, rfl⟩
  refine fl0 (id hr2) (xe2 fun rd' rtk' => an2 ?_); rintro r1' r2'
  repeat walk_at "w"
  refine WP.in_list (by walk_at "vw") h5 ?_
  repeat walk_at "w"
  cases hc : usedL.contains k with
  | true =>
    refine ifT rfl ?_
    repeat walk_at "w"
    refine WP.call (number_m G hr2) (by walk_at "dp") ?_
    intro v V3; refine xe1 fun tk => an3 ?_; rintro rfl hr3 k3
    repeat walk_at "w"
    have := skip_in hk0 hc
    exact ⟨_, by omega, by walk_at "kp", by walk_at "lk", k + 1, _, by walk_at "lk", hr3, by omega, by omega, rfl⟩
  | false =>
    refine ifF Bool.false_ne_true ?_
    repeat walk_at "w"
    refine WP.call (var_fn G) (by walk_at "dp") ?_
    rintro v V3 ⟨k3, hd⟩
    repeat walk_at "w"
    have e := skip_out hk0 hc
    refine hQ _ _ _ ?_
    rw [← hk, e]
    exact ⟨_, .refl, hd, ⟨d, r, u, us, by walk_at "vw", by walk_at "vw", hr2.kp k3, by walk_at "vw", h5⟩, by walk_at "kp"⟩
noncomputable def TS (V : View) (t : Addr) (nds wts : List Value) : Prop := ∃ d nl wl, V t = some (.inst 351 d) ∧ V d = some (.att 28 [("nodes", .ref nl), ("waiting", .ref wl)]) ∧ V nl = some (.lst 5 nds) ∧ V wl = some (.lst 10 wts)
theorem TS.kp {T V V' t a b} (k : Kp T V V') (h : TS V t a b) (s : (T.contains 0 || T.contains 28 || T.contains 5 || T.contains 10) = false := by rfl) : TS V' t a b := by
  simp only [Bool.or_eq_false_iff] at s
  obtain ⟨⟨⟨s0, s1⟩, s2⟩, s3⟩ := s
  revert h; refine xe3 fun d nl wl => an4 ?_; rintro h1 h2 h3 h4
  exact ⟨d, nl, wl, k.get h1 s0, k.get h2 s1, k.get h3 s2, k.get h4 s3⟩
noncomputable def WaitIs (V : View) (p : Nat × T × Int × Int) (u : Value) : Prop := ∃ a tk tv fv lv, u = .ref a ∧ V a = some (.tup [.int p.1 tk, tv, fv, lv]) ∧ D V p.2.1 tv ∧ D V (.v p.2.2.1) fv ∧ D V (.v p.2.2.2) lv
theorem WaitIs.mono {V V' p u} (h : Fz V V') (x : WaitIs V p u) : WaitIs V' p u := by obtain ⟨a, tk, tv, fv, lv, e, q, d1, d2, d3⟩ := id x; exact ⟨a, tk, tv, fv, lv, e, h.tup q, d1.mono h, d2.mono h, d3.mono h⟩
noncomputable def PartIs (V : View) (p : T × Int × Int) (u : Value) : Prop := ∃ a tv fv lv, u = .ref a ∧ V a = some (.tup [tv, fv, lv]) ∧ D V p.1 tv ∧ D V (.v p.2.1) fv ∧ D V (.v p.2.2) lv
theorem PartIs.mono {V V' p u} (h : Fz V V') (x : PartIs V p u) : PartIs V' p u := by obtain ⟨a, tv, fv, lv, e, q, d1, d2, d3⟩ := id x; exact ⟨a, tv, fv, lv, e, h.tup q, d1.mono h, d2.mono h, d3.mono h⟩
theorem tree_init_m (G : GX prog w b₀ K mg mb) {s dx : Addr} {t : T} {a b : Int} {tv fv lv : Value} (hs : V s = some (.inst 351 dx)) (hd : V dx = some (.att 28 [])) (ht : D V t tv) (hf : D V (.v a) fv) (hl : D V (.v b) lv) :
    Fn prog w b₀ 1 V (.ref 336) [.ref s, tv, fv, lv] fun v V' => v = .none ∧ (∃ u1 u2, TS V' s [u1] [u2] ∧ WaitIs V' (0, t, a, b) u2) ∧ Kp [28] V V' := by
  refine G.fnQ G.f_GrammarTree___init__ (d := 0) fun L cdv hL => ?_
  intro C Q hQ
  repeat walk_at "w"
  refine nList 5 fun nl V1 k1 q1 => ?_
  repeat walk_at "w"
  refine nSetAttr G rfl (by walk_at "vw") (by walk_at "vw") (Nat.le_of_ble_eq_true rfl) fun V2 k2 q2 => ?_
  repeat walk_at "w"
  refine nList 10 fun wl V3 k3 q3 => ?_
  repeat walk_at "w"
  refine nSetAttr G rfl (by walk_at "vw") (by walk_at "vw") (Nat.le_of_ble_eq_true rfl) fun V4 k4 q4 => ?_
  repeat walk_at "w"
  exact hQ _ _ _ ⟨_, .refl, rfl, ⟨_, _, ⟨dx, nl, wl, by walk_at "vw", q4, by walk_at "vw", by walk_at "vw"⟩, ⟨_, _, _, _, _, rfl, by walk_at "vw", by walk_at "dd", by walk_at "dd", by walk_at "dd"⟩⟩, by walk_at "kp"⟩

noncomputable def IntIs (n : Int) (v : Value) : Prop := ∃ tk, v = .int n tk
theorem intIs {n n' : Int} {tk : Tok} (h : n = n') : IntIs n' (.int n tk) := ⟨tk, by rw [h]⟩
theorem intsAre_of {ns : List Int} {vs : List Value} (h : All2 IntIs ns vs) : IntsAre vs ns := by
  induction h with
  | nil => exact .nil
  | cons a _ ih => obtain ⟨tk, rfl⟩ := a; exact .cons _ _ ih
noncomputable def place (base : Nat) : List (T × Int × Int) → List (Nat × T × Int × Int)
  | [] => []
  | p :: r => (base, p) :: place (base + 1) r
theorem place_get {ps : List (T × Int × Int)} : ∀ {base i : Nat} {p}, ps[i]? = some p → (place base ps)[i]? = some (base + i, p) := by
  induction ps with
  | nil => intro b i p h; simp at h
  | cons q r ih =>
    intro b i p h
    cases i with
    | zero => simp at h; subst h; rfl
    | succ n => simp at h; have := ih (base := b + 1) h; simp only [place, List.getElem?_cons_succ]; rw [this]; congr 2; omega
theorem place_len {ps : List (T × Int × Int)} : ∀ {base : Nat}, (place base ps).length = ps.length := by
  induction ps with
  | nil => intro b; rfl
  | cons q r ih => intro b; simp [place, ih]
noncomputable def nums (base n : Nat) : List Int := (List.range n).map fun i => ((base + i : Nat) : Int)
theorem nums_succ {base n : Nat} : nums base (n + 1) = nums base n ++ [((base + n : Nat) : Int)] := by
  unfold nums; rw [List.range_succ, List.map_append]; rfl
theorem nums_get {base n i : Nat} (h : i < n) : (nums base n)[i]? = some ((base + i : Nat) : Int) := by
  unfold nums; simp [h]
theorem hold_m (G : GX prog w b₀ K mg mb) {t pl : Addr} {tg : Nat} (htg : tg ≠ 5 ∧ tg ≠ 10 ∧ tg ≠ 11) {wd : Str} {wtk : Tok} {nds wts pvs : List Value} {ps : List (T × Int × Int)} (ht : TS V t nds wts) (hp : V pl = some (.lst tg pvs)) (hq : All2 (PartIs V) ps pvs) (hz : nds.length + wts.length + 2 * ps.length ≤ 1000000) :
    Fn prog w b₀ 1 V (.ref 343) [.ref t, .str wd wtk, .ref pl] fun v V' => ∃ r tk pa is ns ws, v = .ref r ∧ V' r = some (.tup [.str wd tk, .ref pa]) ∧ V' pa = some (.lst 0 is) ∧ All2 IntIs (nums nds.length ps.length) is ∧ TS V' t (nds ++ ns) (wts ++ ws) ∧ ns.length = ps.length ∧
      All2 (WaitIs V') (place nds.length ps).reverse ws ∧ Kp [5, 10, 11] V V' := by
  refine fl0 (id ht) (xe3 fun td nl wl => an4 ?_); rintro t1 t2 t3 t4
  have hlen := hq.length
  refine G.fnQ G.f_GrammarTree_hold (d := 0) fun L cdv hL => ?_
  intro C Q hQ
  repeat walk_at "w"
  refine nList 11 fun pa V1 k1 q1 => ?_
  repeat walk_at "w"
  refine WP.for_list ?_
  repeat walk_at "w"
  refine ⟨pl, tg, pvs, rfl, fun i m V' => Kp [5, 11] V V' ∧ m "self" = some (.ref t) ∧ m "word" = some (.str wd wtk) ∧ m "parts" = some (.ref pl) ∧ m "places" = some (.ref pa) ∧ i ≤ pvs.length ∧
    ∃ is ns, V' pa = some (.lst 11 is) ∧ All2 IntIs (nums nds.length i) is ∧ V' nl = some (.lst 5 (nds ++ ns)) ∧ ns.length = i,
    ⟨by walk_at "kp", by walk_at "lk", by walk_at "lk", by walk_at "lk", by walk_at "lk", Nat.zero_le _, [], [], q1, .nil, by rw [List.append_nil]; walk_at "vw", rfl⟩, fun i m V' h => h.1.get hp (by simp [AO.tag, htg]), ?_, ?_⟩
  · rintro i v m V2 hv ⟨k2, m1, m2, m3, m4, hi, is, ns, a1, a2, a3, a4⟩
    obtain ⟨p, hp1, pa', tv, fv, lv, rfl, hpa, d1, d2, d3⟩ := hq.getR hv
    have hil := a2.length
    have hlt := (List.getElem?_eq_some_iff.mp hv).1
    simp [nums] at hil
    repeat walk_at "w"
    refine nAppend a1 (by walk_at "o") fun V3 k3 q3 => ?_
    repeat walk_at "w"
    refine nAppend (by walk_at "vw") (by simp; omega) fun V4 k4 q4 => ?_
    repeat walk_at "w"
    rw [List.append_assoc] at q4
    refine ⟨by walk_at "kp", by walk_at "lk", by walk_at "lk", by walk_at "lk", by walk_at "lk", by omega, _, ns ++ [_], by walk_at "vw", by rw [nums_succ]; exact a2.append (.one (intIs (by simp [a4]))), q4, by simp [a4]⟩
  rintro m V5 ⟨k5, m1, m2, m3, m4, hi, is, ns, a1, a2, a3, a4⟩
  have hp5 : V5 pl = some (.lst tg pvs) := k5.get hp (by simp [AO.tag, htg])
  have hil := a2.length
  simp [nums] at hil
  repeat walk_at "w"
  refine forDown ?_
  repeat walk_at "w"
  refine ⟨_, pvs.length, _, _, _, _, rfl, by assumption, rfl, by omega, fun i m V' => Kp [10] V5 V' ∧ m "self" = some (.ref t) ∧ m "word" = some (.str wd wtk) ∧ m "parts" = some (.ref pl) ∧ m "places" = some (.ref pa) ∧
    ∃ ws, V' wl = some (.lst 10 (wts ++ ws)) ∧ All2 (WaitIs V') ((place nds.length ps).reverse.take i) ws,
    ⟨by walk_at "kp", by walk_at "lk", by walk_at "lk", by walk_at "lk", by walk_at "lk", [], by rw [List.append_nil]; walk_at "vw", by rw [List.take_zero]; exact .nil⟩, ?_, ?_⟩
  · rintro i tk m V6 hi ⟨k6, m1, m2, m3, m4, ws, b1, b2⟩
    have hwl := b2.length
    rw [List.length_take] at hwl
    obtain ⟨v, hv⟩ : ∃ v, pvs[pvs.length - 1 - i]? = some v := ⟨_, List.getElem?_eq_getElem (by walk_at "o")⟩
    obtain ⟨p, hp1, pa', tv, fv, lv, rfl, hpa, d1, d2, d3⟩ := hq.getR hv
    obtain ⟨n, hn1, tk', rfl⟩ := a2.getL (nums_get (base := nds.length) (n := pvs.length) (i := pvs.length - 1 - i) (by walk_at "o"))
    have hpl := place_get (base := nds.length) hp1
    repeat walk_at "w"
    refine WP.item_list (by walk_at "vw") (by walk_at "o") (by walk_at "o") (x := .int (nds.length + (pvs.length - 1 - i) : Nat) tk') (by simpa using hn1) ?_
    repeat walk_at "w"
    have hp7 := k6.get hp5 (by simp [AO.tag, htg])
    refine WP.item_list (Kp.get (by assumption) hp7) (by walk_at "o") (by walk_at "o") (x := .ref pa') (by simpa using hv) ?_
    repeat walk_at "w"
    refine nAddTuple (xs := [_]) (ys := [tv, fv, lv]) (by walk_at "vw") (by walk_at "vw") (by simp) (by simp) (by simp) fun e V7 k7 he => ?_
    repeat walk_at "w"
    refine nAppend (by walk_at "vw") (by simp; omega) fun V8 k8 q8 => ?_
    repeat walk_at "w"
    rw [List.append_assoc] at q8
    have k68 : Kp [10] V6 V8 := by walk_at "kp"
    have k58 : Kp [10] V5 V8 := k6.trans k68
    have z : Fz V V8 := (k5.fz).trans (k58.fz)
    refine ⟨k58, by walk_at "lk", by walk_at "lk", by walk_at "lk", by walk_at "lk", ws ++ [_], q8, ?_⟩
    have e1 : (place nds.length ps).reverse[i]? = some (nds.length + (pvs.length - 1 - i), p) := by
      rw [List.getElem?_reverse (by rw [place_len]; omega), place_len, ← hpl]
      congr 1; first | exact congrArg (fun n => n - 1 - i) hlen | exact congrArg (fun n => n - 1 - i) hlen.symm | omega
    rw [take_snoc e1]
    exact (b2.imp fun _ _ x => x.mono k68.fz).append (.one ⟨e, tk', tv, fv, lv, rfl, k8.get he, d1.mono z, d2.mono z, d3.mono z⟩)
  rintro m V6 ⟨k6, m1, m2, m3, m4, ws, b1, b2⟩
  have hpa6 : V6 pa = some (.lst 11 is) := k6.get a1
  have hk : Kp [11] V6 (upd V6 pa (.lst 0 is)) := Kp.refl.set hpa6
  refine WP.ghost (V' := upd V6 pa (.lst 0 is)) (fun a x e => ?_) ?_
  · by_cases ha : a = pa
    · subst ha; rw [upd_self] at e; cases e; exact ⟨_, hpa6, fun o d => d⟩
    · rw [upd_ne ha] at e; exact ⟨x, e, fun _ d => d⟩
  have hpa7 : upd V6 pa (.lst 0 is) pa = some (.lst 0 is) := upd_self
  revert hk hpa7
  generalize upd V6 pa (.lst 0 is) = V7
  intro hk hpa7
  repeat walk_at "w"
  have hnt : V7 nl = some (.lst 5 (nds ++ ns)) := by walk_at "vw"
  have hwt : V7 wl = some (.lst 10 (wts ++ ws)) := by walk_at "vw"
  have ht1 : V5 t = some (.inst 351 td) := k5.get t1
  have ht2 : V5 td = some (.att 28 [("nodes", .ref nl), ("waiting", .ref wl)]) := k5.get t2
  refine hQ _ _ _ ⟨_, .refl, _, _, pa, is, ns, ws, rfl, by walk_at "vw", by walk_at "vw", by rw [hlen]; exact a2, ⟨td, nl, wl, by walk_at "vw", by walk_at "vw", by walk_at "vw", by walk_at "vw"⟩, by omega, ?_, by walk_at "kp"⟩
  rw [List.take_of_length_le (by rw [List.length_reverse, place_len]; omega)] at b2
  rename_i k8 _
  exact b2.imp fun _ _ x => (x.mono hk.fz).mono (Kp.fz (by assumption))

noncomputable def adv (z : Int) : Int := skip z + 1
noncomputable def advn : Nat → Int → Int
  | 0, z => z
  | n + 1, z => advn n (adv z)
theorem advn_add : ∀ (a b : Nat) (z : Int), advn (a + b) z = advn b (advn a z)
  | 0, b, z => by rw [Nat.zero_add]; rfl
  | a + 1, b, z => by rw [Nat.add_right_comm]; exact advn_add a b (adv z)
theorem advn_snoc (n : Nat) (z : Int) : advn (n + 1) z = adv (advn n z) := advn_add n 1 z
theorem skip_ge {z : Int} : z ≤ skip z := by unfold skip; split <;> (try split) <;> omega
theorem skip_un {z : Int} : usedL.contains (skip z) = false := by
  have : ¬ (skip z = 0 ∨ skip z = 1 ∨ skip z = 2 ∨ skip z = 3 ∨ skip z = 900 ∨ skip z = 901) := by unfold skip; split <;> (try split) <;> omega
  cases h : usedL.contains (skip z) with
  | false => rfl
  | true => exact absurd (by simpa [usedL] using h) this
theorem adv_gt {z : Int} : skip z < adv z := by unfold adv; omega
theorem adv_ge {z : Int} : z ≤ adv z := by have := @skip_ge z; have := @adv_gt z; omega
theorem advn_ge : ∀ (n : Nat) (z : Int), z ≤ advn n z
  | 0, z => Int.le_refl _
  | n + 1, z => Int.le_trans adv_ge (advn_ge n (adv z))
noncomputable def Iv (z z' k : Int) : Prop := z ≤ k ∧ k < z' ∧ usedL.contains k = false
noncomputable def cnt : B → Nat
  | .lf _ => 0 | .sq a b => cnt a + cnt b + 1 | .or _ a b => cnt a + cnt b | .th a b => cnt a + cnt b + 1 | .nt a => cnt a + 1
noncomputable def szB : B → Nat
  | .lf _ => 1 | .sq a b => szB a + szB b + 1 | .or _ a b => szB a + szB b + 1 | .th a b => szB a + szB b + 1 | .nt a => szB a + 1
noncomputable def htB : B → Nat
  | .lf _ => 1 | .sq a b => max (htB a) (htB b) + 1 | .or _ a b => max (htB a) (htB b) + 1 | .th a b => max (htB a) (htB b) + 1 | .nt a => htB a + 1
theorem szB_pos : ∀ b : B, 0 < szB b := by intro b; cases b <;> simp [szB]
noncomputable def B.Wf (y : Sy) : B → Prop
  | .lf l => l.Wf y
  | .sq a b => a.Wf y ∧ b.Wf y
  | .or f a b => (f = 2 ∨ y.has f (8, 2)) ∧ a.Wf y ∧ b.Wf y
  | .th a b => a.Wf y ∧ b.Wf y
  | .nt a => a.Wf y
theorem B.Wf.mono {y z : Sy} (h : y.le z) : ∀ {b : B}, b.Wf y → b.Wf z
  | .lf _, x => Lf.Wf.mono h x
  | .sq _ _, x => ⟨B.Wf.mono h x.1, B.Wf.mono h x.2⟩
  | .or _ _ _, x => ⟨x.1.imp id (Sy.has.mono h), B.Wf.mono h x.2.1, B.Wf.mono h x.2.2⟩
  | .th _ _, x => ⟨B.Wf.mono h x.1, B.Wf.mono h x.2⟩
  | .nt a, x => B.Wf.mono (b := a) h x
noncomputable def Tr (y : Sy) : B → Int → Int → (Int → Prop) → T → Prop
  | .lf l, a, b, _, g => TrL y l a b g
  | .sq p q, a, b, P, g => ∃ (m : Int) (Pa Pb : Int → Prop) (ga gb : T), P m ∧ (∀ k, Pa k → P k) ∧ (∀ k, Pb k → P k) ∧ ¬ Pa m ∧ ¬ Pb m ∧ (∀ k, Pa k → ¬ Pb k) ∧ Tr y p a m Pa ga ∧ Tr y q m b Pb gb ∧ g = .s2 1 ga gb
  | .or _ p q, a, b, P, g => ∃ (Pa Pb : Int → Prop) (ga gb : T), (∀ k, Pa k → P k) ∧ (∀ k, Pb k → P k) ∧ (∀ k, Pa k → ¬ Pb k) ∧ Tr y p a b Pa ga ∧ Tr y q a b Pb gb ∧ g = .s2 2 ga gb
  | .th p q, a, b, P, g => ∃ (m : Int) (Pa Pb : Int → Prop) (ga gb : T), P m ∧ (∀ k, Pa k → P k) ∧ (∀ k, Pb k → P k) ∧ ¬ Pa m ∧ ¬ Pb m ∧ (∀ k, Pa k → ¬ Pb k) ∧ Tr y p a m Pa ga ∧ Tr y q m b Pb gb ∧ g = .s2 3 ga gb
  | .nt p, a, b, P, g => ∃ (m : Int) (Pa : Int → Prop) (ga : T), P m ∧ (∀ k, Pa k → P k) ∧ ¬ Pa m ∧ Tr y p a m Pa ga ∧ g = .s2 1 (.s1 4 ga) (eqT a b)
theorem TrL.mono {y z : Sy} (h : y.le z) {l : Lf} {a b : Int} {g : T} (x : TrL y l a b g) : TrL z l a b g := by
  cases l with
  | nt0 n => obtain ⟨f, a, b⟩ := x; exact ⟨f, a.mono h, b⟩
  | var n => obtain ⟨f, a, b⟩ := x; exact ⟨f, a.mono h, b⟩
  | nt1 f p k => obtain ⟨f, a, b⟩ := x; exact ⟨f, a.mono h, b⟩
  | _ => exact x
theorem Tr.mono {y z : Sy} (h : y.le z) : ∀ {e : B} {a b : Int} {P Q : Int → Prop} {g : T}, (∀ k, P k → Q k) → Tr y e a b P g → Tr z e a b Q g
  | .lf _, _, _, _, _, _, _, x => TrL.mono h x
  | .sq _ _, _, _, _, _, _, hq, hh0 => by obtain ⟨m, Pa, Pb, ga, gb, h1, h2, h3, h4, h5, h6, h7, h8, h9⟩ := hh0; exact ⟨m, Pa, Pb, ga, gb, hq _ h1, fun k p => hq _ (h2 k p), fun k p => hq _ (h3 k p), h4, h5, h6, Tr.mono h (fun _ p => p) h7, Tr.mono h (fun _ p => p) h8, h9⟩
  | .th _ _, _, _, _, _, _, hq, hh0 => by obtain ⟨m, Pa, Pb, ga, gb, h1, h2, h3, h4, h5, h6, h7, h8, h9⟩ := hh0; exact ⟨m, Pa, Pb, ga, gb, hq _ h1, fun k p => hq _ (h2 k p), fun k p => hq _ (h3 k p), h4, h5, h6, Tr.mono h (fun _ p => p) h7, Tr.mono h (fun _ p => p) h8, h9⟩
  | .or _ _ _, _, _, _, _, _, hq, hh0 => by obtain ⟨Pa, Pb, ga, gb, h2, h3, h6, h7, h8, h9⟩ := hh0; exact ⟨Pa, Pb, ga, gb, fun k p => hq _ (h2 k p), fun k p => hq _ (h3 k p), h6, Tr.mono h (fun _ p => p) h7, Tr.mono h (fun _ p => p) h8, h9⟩
  | .nt _, _, _, _, _, _, hq, hh0 => by obtain ⟨m, Pa, ga, h1, h2, h4, h7, h9⟩ := hh0; exact ⟨m, Pa, ga, hq _ h1, fun k p => hq _ (h2 k p), h4, Tr.mono h (fun _ p => p) h7, h9⟩
noncomputable def spineA : B → List B
  | .sq a b => a :: spineA b
  | b => [b]
noncomputable def spineO : B → List B
  | .or _ a b => a :: spineO b
  | b => [b]
theorem spineA_ne (b : B) : spineA b ≠ [] := by cases b <;> simp [spineA]
theorem spineO_ne (b : B) : spineO b ≠ [] := by cases b <;> simp [spineO]
noncomputable def partsA : List B → Int → Int → Int → List (B × Int × Int)
  | [], _, _, _ => []
  | [b], x, y, _ => [(b, x, y)]
  | b :: bs, x, y, z => (b, x, skip z) :: partsA bs (skip z) y (adv z)
theorem partsA_cons {b : B} {bs : List B} (h : bs ≠ []) (x y z : Int) : partsA (b :: bs) x y z = (b, x, skip z) :: partsA bs (skip z) y (adv z) := by
  cases bs with
  | nil => exact absurd rfl h
  | cons _ _ => rfl
noncomputable def partsO (bs : List B) (x y : Int) : List (B × Int × Int) := bs.map fun b => (b, x, y)
structure Spec where
  P : Sy → T → Prop
  mono : ∀ {a b : Sy} {g : T}, a.le b → P a g → P b g
noncomputable def specOf (b : B) (x y z : Int) : Spec := ⟨fun sy g => Tr sy b x y (Iv z (advn (cnt b) z)) g, fun h p => Tr.mono h (fun _ q => q) p⟩
noncomputable def specs : List (B × Int × Int) → Int → List Spec
  | [], _ => []
  | (b, x, y) :: r, z => specOf b x y z :: specs r (advn (cnt b) z)
noncomputable def sumc : List B → Nat
  | [] => 0
  | b :: r => cnt b + sumc r
theorem cnt_spineA : ∀ b : B, cnt b = ((spineA b).length - 1) + sumc (spineA b)
  | .sq a b => by
    have := cnt_spineA b
    have h := List.length_pos_iff.mpr (spineA_ne b)
    simp only [cnt, spineA, sumc, List.length_cons]; omega
  | .lf _ => by simp [cnt, spineA, sumc]
  | .or _ _ _ => by simp [cnt, spineA, sumc]
  | .th _ _ => by simp [cnt, spineA, sumc]
  | .nt _ => by simp [cnt, spineA, sumc]
noncomputable def semiT : List T → T
  | [] => .a 16
  | [t] => t
  | t :: r => .s2 2 t (semiT r)
theorem semi_cons {t : T} {r : List T} (h : r ≠ []) : semiT (t :: r) = .s2 2 t (semiT r) := by
  cases r with
  | nil => exact absurd rfl h
  | cons _ _ => rfl
noncomputable abbrev Fits (y : Sy) (Ss : List Spec) (gs : List T) : Prop := All2 (fun S g => S.P y g) Ss gs
theorem specs_len : ∀ (ps : List (B × Int × Int)) (z : Int), (specs ps z).length = ps.length
  | [], _ => rfl
  | (b, x, y) :: r, z => by simp [specs, specs_len r]
theorem partsA_len : ∀ (bs : List B) (x y z : Int), (partsA bs x y z).length = bs.length
  | [], _, _, _ => rfl
  | [_], _, _, _ => rfl
  | _ :: b :: bs, x, y, z => by rw [partsA_cons (by simp)]; simp [partsA_len (b :: bs)]
theorem and_comb {sy : Sy} : ∀ (e : B) (x y z z1 : Int) (gs : List T), advn ((spineA e).length - 1) z ≤ z1 → Fits sy (specs (partsA (spineA e) x y z) z1) gs →
    Tr sy e x y (fun k => Iv z (advn ((spineA e).length - 1) z) k ∨ Iv z1 (advn (sumc (spineA e)) z1) k) (conjT gs)
  | .sq a b, x, y, z, z1, gs, hz, hf => by
    have h := List.length_pos_iff.mpr (spineA_ne b)
    rw [show spineA (.sq a b) = a :: spineA b from rfl, partsA_cons (spineA_ne b)] at hf
    cases hf with
    | @cons _ ga _ gs' h1 h2 =>
      have hl : gs' ≠ [] := by
        rintro rfl
        have := h2.length
        rw [specs_len, partsA_len] at this
        exact absurd this (Nat.ne_of_gt h)
      have e1 : (spineA (.sq a b)).length - 1 = ((spineA b).length - 1) + 1 := by show (spineA b).length + 1 - 1 = _; omega
      have e2 : sumc (spineA (.sq a b)) = cnt a + sumc (spineA b) := rfl
      rw [e1] at hz
      have e3 : advn ((spineA b).length - 1 + 1) z = advn ((spineA b).length - 1) (adv z) := rfl
      have g1 := advn_ge (cnt a) z1
      have g2 := advn_ge ((spineA b).length - 1) (adv z)
      have g3 := advn_ge (sumc (spineA b)) (advn (cnt a) z1)
      have g4 := @skip_ge z
      have g5 := @adv_gt z
      have ih := and_comb b (skip z) y (adv z) (advn (cnt a) z1) gs' (by rw [e3] at hz; omega) h2
      rw [conj_cons hl, e1, e2, e3, advn_add]
      rw [e3] at hz
      refine ⟨skip z, _, _, ga, conjT gs', .inl ⟨g4, by omega, skip_un⟩, fun k hk => .inr ⟨hk.1, by have := hk.2.1; omega, hk.2.2⟩, fun k hk => ?_, fun hk => ?_, fun hk => ?_, fun k hk hk' => ?_, h1, ih, rfl⟩
      · rcases hk with hk | hk
        · exact .inl ⟨by have := hk.1; omega, hk.2.1, hk.2.2⟩
        · exact .inr ⟨by have := hk.1; omega, hk.2.1, hk.2.2⟩
      · have := hk.1; omega
      · rcases hk with hk | hk <;> have := hk.1 <;> omega
      · have := hk.1; have := hk.2.1
        rcases hk' with hk' | hk' <;> have := hk'.1 <;> have := hk'.2.1 <;> omega
  | .lf l, x, y, z, z1, gs, hz, hf => and_one rfl hf
  | .or f a b, x, y, z, z1, gs, hz, hf => and_one rfl hf
  | .th a b, x, y, z, z1, gs, hz, hf => and_one rfl hf
  | .nt a, x, y, z, z1, gs, hz, hf => and_one rfl hf
where
  and_one {sy : Sy} {e : B} {x y z z1 : Int} {gs : List T} (h : spineA e = [e]) (hf : Fits sy (specs (partsA (spineA e) x y z) z1) gs) : Tr sy e x y (fun k => Iv z (advn ((spineA e).length - 1) z) k ∨ Iv z1 (advn (sumc (spineA e)) z1) k) (conjT gs) := by
    rw [h] at hf ⊢
    cases hf with
    | cons h1 h2 => cases h2; exact Tr.mono .refl (fun k hk => .inr hk) h1
theorem and_fit {sy : Sy} {e : B} {x y z : Int} {gs : List T} (hf : Fits sy (specs (partsA (spineA e) x y z) (advn ((spineA e).length - 1) z)) gs) : (specOf e x y z).P sy (conjT gs) := by
  refine Tr.mono .refl (fun k hk => ?_) (and_comb e x y z _ gs (Int.le_refl _) hf)
  have e1 : advn (cnt e) z = advn (sumc (spineA e)) (advn ((spineA e).length - 1) z) := by rw [cnt_spineA, advn_add]
  have := advn_ge ((spineA e).length - 1) z
  have := advn_ge (sumc (spineA e)) (advn ((spineA e).length - 1) z)
  rw [← e1] at this hk
  rcases hk with hk | hk
  · exact ⟨hk.1, by have := hk.2.1; omega, hk.2.2⟩
  · exact ⟨by have := hk.1; omega, hk.2.1, hk.2.2⟩
theorem or_fit {sy : Sy} : ∀ (e : B) (x y z : Int) (gs : List T), Fits sy (specs (partsO (spineO e) x y) z) gs → (specOf e x y z).P sy (semiT gs)
  | .or f a b, x, y, z, gs, hf => by
    cases hf with
    | @cons _ ga _ gs' h1 h2 =>
      have h := List.length_pos_iff.mpr (spineO_ne b)
      have hl : gs' ≠ [] := by
        rintro rfl
        have := h2.length
        rw [specs_len] at this
        simp at this
        exact spineO_ne b (by simpa [partsO] using this)
      have ih := or_fit b x y (advn (cnt a) z) gs' h2
      have g1 := advn_ge (cnt a) z
      have g2 := advn_ge (cnt b) (advn (cnt a) z)
      rw [semi_cons hl]
      show Tr sy (.or f a b) x y (Iv z (advn (cnt a + cnt b) z)) _
      rw [advn_add]
      refine ⟨_, _, ga, semiT gs', fun k hk => ⟨hk.1, by have := hk.2.1; omega, hk.2.2⟩, fun k hk => ⟨by have := hk.1; omega, hk.2.1, hk.2.2⟩, fun k hk hk' => ?_, h1, ih, rfl⟩
      have := hk.2.1; have := hk'.1; omega
  | .lf l, x, y, z, gs, hf => or_one rfl hf
  | .sq a b, x, y, z, gs, hf => or_one rfl hf
  | .th a b, x, y, z, gs, hf => or_one rfl hf
  | .nt a, x, y, z, gs, hf => or_one rfl hf
where
  or_one {sy : Sy} {e : B} {x y z : Int} {gs : List T} (h : spineO e = [e]) (hf : Fits sy (specs (partsO (spineO e) x y) z) gs) : (specOf e x y z).P sy (semiT gs) := by
    rw [h] at hf
    cases hf with
    | cons h1 h2 => cases h2; exact h1
theorem th_fit {sy : Sy} {a b : B} {x y z : Int} {ga gb : T} (h1 : (specOf a x (skip z) (adv z)).P sy ga) (h2 : (specOf b (skip z) y (advn (cnt a) (adv z))).P sy gb) : (specOf (.th a b) x y z).P sy (.s2 3 ga gb) := by
  have g1 := advn_ge (cnt a) (adv z)
  have g2 := advn_ge (cnt b) (advn (cnt a) (adv z))
  have g4 := @skip_ge z
  have g5 := @adv_gt z
  show Tr sy (.th a b) x y (Iv z (advn (cnt a + cnt b + 1) z)) _
  rw [show cnt a + cnt b + 1 = 1 + (cnt a + cnt b) by omega, advn_add, advn_add]
  have e : advn 1 z = adv z := rfl
  rw [e]
  refine ⟨skip z, _, _, ga, gb, ⟨g4, by omega, skip_un⟩, fun k hk => ⟨by have := hk.1; omega, by have := hk.2.1; omega, hk.2.2⟩, fun k hk => ⟨by have := hk.1; omega, hk.2.1, hk.2.2⟩, fun hk => ?_, fun hk => ?_, fun k hk hk' => ?_, h1, h2, rfl⟩
  · have := hk.1; omega
  · have := hk.1; omega
  · have := hk.2.1; have := hk'.1; omega
theorem nt_fit {sy : Sy} {a : B} {x y z : Int} {ga : T} (h1 : (specOf a x (skip z) (adv z)).P sy ga) : (specOf (.nt a) x y z).P sy (.s2 1 (.s1 4 ga) (eqT x y)) := by
  have g1 := advn_ge (cnt a) (adv z)
  have g4 := @skip_ge z
  have g5 := @adv_gt z
  show Tr sy (.nt a) x y (Iv z (advn (cnt a + 1) z)) _
  have e : advn (cnt a + 1) z = advn (cnt a) (adv z) := rfl
  rw [e]
  refine ⟨skip z, _, ga, ⟨g4, by omega, skip_un⟩, fun k hk => ⟨by have := hk.1; omega, hk.2.1, hk.2.2⟩, fun hk => ?_, h1, rfl⟩
  have := hk.1; omega
theorem enc_spineA {sy : Sy} (h0 : sy0.le sy) : ∀ {b : B}, b.Wf sy → okSp [1] b.enc ∧ spineT [1] b.enc = (spineA b).map B.enc
  | .sq a b, x => by
    have ih := enc_spineA h0 (b := b) x.2
    exact ⟨ih.1, by simp [B.enc, spineT, spineA, ih.2]⟩
  | .or f a b, x => by
    have hf : f ≠ 1 := by
      rcases x.1 with rfl | h
      · decide
      · exact h.ne h0 sy0_fns.1 (by simp)
    have hb := spineT_skip h0 x.2.2 [1]
    refine ⟨?_, by simp [B.enc, spineT, spineA, hf]⟩
    exact (enc_spineA h0 (b := b) x.2.2).1
  | .th a b, x => ⟨(enc_spineA h0 (b := b) x.2).1, by simp [B.enc, spineT, spineA]⟩
  | .nt a, x => ⟨by simp [B.enc, okSp], by simp [B.enc, spineT, spineA]⟩
  | .lf l, x => by
    cases l with
    | nt1 f p k =>
      have hf : f ≠ 1 := x.2.2.2.2.ne h0 sy0_fns.1 (by simp)
      exact ⟨by simp [B.enc, Lf.enc, okSp, hf], by simp [B.enc, Lf.enc, spineT, spineA]⟩
    | _ => exact ⟨by simp [B.enc, Lf.enc, okSp, consT], by simp [B.enc, Lf.enc, spineT, spineA, consT]⟩
where
  spineT_skip {sy : Sy} (_ : sy0.le sy) {b : B} (_ : b.Wf sy) (_ : List Int) : True := trivial
theorem Sy.has.inj {y : Sy} (ok : y.Ok) {f g : Int} {p : Int × Int} (a : y.has f p) (b : y.has g p) : f = g := by
  revert a; refine xe1 fun i => an2 ?_; rintro rfl hi
  revert b; refine xe1 fun j => an2 ?_; rintro rfl hj
  rw [nodup_at ok.nf hi hj]
theorem enc_spineO {sy : Sy} (h0 : sy0.le sy) (ok : sy.Ok) {bn : Int} (hb : sy.has bn (8, 2)) : ∀ {b : B}, b.Wf sy → okSp [2, bn] b.enc ∧ spineT [2, bn] b.enc = (spineO b).map B.enc
  | .or f a b, x => by
    have ih := enc_spineO h0 ok hb (b := b) x.2.2
    have hf : f = 2 ∨ f = bn := x.1.imp id fun h => h.inj ok hb
    exact ⟨ih.1, by simp [B.enc, spineT, spineO, ih.2, hf]⟩
  | .sq a b, x => by
    have h1 : (1 : Int) ≠ bn := fun e => hb.ne h0 sy0_fns.1 (by simp) (by rw [← e]; rfl)
    exact ⟨(enc_spineO h0 ok hb (b := b) x.2).1, by simp [B.enc, spineT, spineO, h1]⟩
  | .th a b, x => by
    have h1 : (3 : Int) ≠ bn := fun e => hb.ne h0 sy0_fns.2.2.1 (by simp) (by rw [← e]; rfl)
    exact ⟨(enc_spineO h0 ok hb (b := b) x.2).1, by simp [B.enc, spineT, spineO, h1]⟩
  | .nt a, x => by
    have h1 : (4 : Int) ≠ bn := fun e => hb.ne h0 sy0_fns.2.2.2.1 (by simp) (by rw [← e]; rfl)
    exact ⟨by simp [B.enc, okSp, h1], by simp [B.enc, spineT, spineO]⟩
  | .lf l, x => by
    cases l with
    | nt1 f p k =>
      have hf : f ≠ 2 := x.2.2.2.2.ne h0 sy0_fns.2.1 (by simp)
      have hf' : f ≠ bn := by
        rintro rfl
        revert hb; refine xe1 fun i => an2 ?_; rintro rfl hi
        refine fl0 (x.2.2.2.2) (xe1 fun j => an2 ?_); rintro e hj
        obtain rfl : i = j := by omega
        rw [hi] at hj
        simp at hj
      exact ⟨by simp [B.enc, Lf.enc, okSp, hf, hf'], by simp [B.enc, Lf.enc, spineT, spineO]⟩
    | lst k t =>
      have h1 : (0 : Int) ≠ bn := fun e => hb.ne h0 sy0_fns.2.2.2.2.1 (by simp) (by rw [← e]; rfl)
      exact ⟨by simp [B.enc, Lf.enc, okSp, consT], by simp [B.enc, Lf.enc, spineT, spineO, consT, h1]⟩
    | curly f k =>
      have h1 : (9 : Int) ≠ bn := fun e => hb.ne h0 sy0_fns.2.2.2.2.2.1 (by simp) (by rw [← e]; rfl)
      exact ⟨by simp [B.enc, Lf.enc, okSp, h1], by simp [B.enc, Lf.enc, spineT, spineO]⟩
    | _ => exact ⟨by simp [B.enc, Lf.enc, okSp], by simp [B.enc, Lf.enc, spineT, spineO]⟩
theorem ht_enc : ∀ b : B, htT b.enc ≤ htB b + 1
  | .sq a b => by have := ht_enc a; have := ht_enc b; simp only [B.enc, htT, htB]; omega
  | .or f a b => by have := ht_enc a; have := ht_enc b; simp only [B.enc, htT, htB]; omega
  | .th a b => by have := ht_enc a; have := ht_enc b; simp only [B.enc, htT, htB]; omega
  | .nt a => by have := ht_enc a; simp only [B.enc, htT, htB]; omega
  | .lf l => by cases l <;> simp [B.enc, Lf.enc, htT, htB, consT]

theorem All2.of_map {γ : Type} {R : β → γ → Prop} {f : α → β} : ∀ {l : List α} {bs : List γ}, All2 R (l.map f) bs → All2 (fun a b => R (f a) b) l bs
  | [], _, h => by cases h; exact .nil
  | _ :: _, _, h => by cases h with | cons a b => exact .cons a b.of_map
theorem All2.map {γ : Type} {R : β → γ → Prop} {f : α → β} {l : List α} {bs : List γ} (h : All2 (fun a b => R (f a) b) l bs) : All2 R (l.map f) bs := by
  induction h with
  | nil => exact .nil
  | cons a _ ih => exact .cons a ih
theorem addCells_facts {cm : Loc} {V : View} : ∀ {cs : List (Str × Addr)}, (∀ n c, (n, c) ∈ cs → V c = none) → (cs.Pairwise fun x y => x.2 ≠ y.2) → Kp [] V (addCells cm cs V) ∧ ∀ n c, (n, c) ∈ cs → addCells cm cs V c = some (.cell 9 (cm n))
  | [], _, _ => ⟨.refl, fun _ _ h => nomatch h⟩
  | (n, c) :: r, h, hp => by
    rw [List.pairwise_cons] at hp
    obtain ⟨ih1, ih2⟩ := addCells_facts (cm := cm) (cs := r) (fun n c hm => h n c (.tail _ hm)) hp.2
    have hn : addCells cm r V c = none := by
      cases e : addCells cm r V c with
      | none => rfl
      | some x =>
        rcases addCells_get e with e1 | ⟨n', hm, _⟩
        · rw [h n c (.head _)] at e1; cases e1
        · exact absurd rfl (hp.1 (n', c) hm)
    refine ⟨ih1.new hn, fun n' c' hm => ?_⟩
    rcases List.mem_cons.mp hm with e | hm
    · cases e; exact upd_self
    · exact upd_new hn (ih2 n' c' hm)
noncomputable def locC (st : Stmt) (args : List Value) : Loc := bindL (fun x => (fnScope st).names.lookup x) (bindsOf st args) fun _ => none
noncomputable def celC (st : Stmt) (args : List Value) : Loc := bindC (fun x => (fnScope st).names.lookup x) (bindsOf st args) fun _ => none
theorem GC.fnV (G : GC prog w b₀ K mg mb) {a : Addr} {q : Str} {st : Stmt} (f : FnFact K a q st) {d : Nat} {args : List Value} {post : Value → View → Prop}
    (h : ∀ L cdv V0, Kp [] V V0 → (∀ n c, (n, c) ∈ cellsFrom (L + 1) (fnScope st).names [] → V0 c = some (.cell 9 (celC st args n))) →
      WP (bodyCx prog w b₀ (envX q (fnScope st) L a cdv (cellsFrom (L + 1) (fnScope st).names [])) d) (execs (fnBody st) (envX q (fnScope st) L a cdv (cellsFrom (L + 1) (fnScope st).names []))) (locC st args) V0 (retOf post))
    (hbind : ∀ name kV doc pm an cdv ct, bindArgs (fnOf name q (fnParams st) (fnBody st) (fnScope st) .none kV doc pm an cdv ct) ⟨args, []⟩ = pure (bindsOf st args) := by intro _ _ _ _ _ _ _; rfl)
    (hkind : ((bindsOf st args).all fun y => (fnScope st).names.lookup y.1 == some .local || (fnScope st).names.lookup y.1 == some .cell) = true := by rfl)
    (hnd : ((cellsFrom 0 (fnScope st).names []).map (·.1)).Nodup := by decide) (hco : (fnScope st).isCoroutine = false := by rfl) (hgen : (fnScope st).isGenerator = false := by rfl) (hk : (fnScope st).kind = .function := by rfl) :
    Fn prog w b₀ (d + 1) V (.ref a) args post :=
  G.fnC f (fun L cdv hL hc hp => by
    obtain ⟨x, y⟩ := addCells_facts (cm := celC st args) (V := V) (fun n c hm => (hc n c hm).1) hp
    exact h L cdv _ x y) hbind hkind hnd hco hgen hk
inductive CombT : Str → List T → T → Prop
  | and {gs : List T} : gs ≠ [] → CombT "and" gs (conjT gs)
  | then {a b : T} : CombT "then" [a, b] (.s2 3 a b)
  | not {a : T} : CombT "not" [a] (.s1 4 a)
  | or {gs : List T} : gs ≠ [] → CombT "or" gs (semiT gs)
noncomputable def Comb (wd : Str) (S : Spec) (Ss : List Spec) : Prop := ∀ sy gs, Fits sy Ss gs → ∃ g, CombT wd gs g ∧ S.P sy g
noncomputable def Node (V : View) (Sp : List Spec) (sy : Sy) (p : Nat) (S : Spec) (u : Value) : Prop := ∃ r tk wd val, u = .ref r ∧ V r = some (.tup [.str wd tk, val]) ∧
  ((wd = "goal" ∧ ∃ g, D V g val ∧ S.P sy g) ∨ (∃ pa is, ∃ qs : List Nat, ∃ Ss, val = .ref pa ∧ V pa = some (.lst 0 is) ∧ All2 (fun (q : Nat) v => IntIs q v) qs is ∧ (∀ q ∈ qs, p < q) ∧ All2 (fun (q : Nat) S' => Sp[q]? = some S') qs Ss ∧ Comb wd S Ss ∧ qs.length ≤ 1000))
theorem Node.mono {V V' : View} {Sp : List Spec} {sy sy' : Sy} {p : Nat} {S : Spec} {u : Value} (hz : Fz V V') (hs : sy.le sy') (x : Node V Sp sy p S u) : Node V' Sp sy' p S u := by
  revert x; refine xe4 fun r tk wd val => an3 ?_; rintro rfl h1 h2
  refine ⟨r, tk, wd, val, rfl, hz.tup h1, ?_⟩
  rcases h2 with ⟨e, g, d, q⟩ | ⟨pa, is, qs, Ss, e, q, r⟩
  · exact .inl ⟨e, g, d.mono hz, S.mono hs q⟩
  · exact .inr ⟨pa, is, qs, Ss, e, hz _ _ q rfl, r⟩
noncomputable abbrev Item := Nat × B × Int × Int × Int
noncomputable def Item.wt (i : Item) : Nat × T × Int × Int := (i.1, i.2.1.enc, i.2.2.1, i.2.2.2.1)
noncomputable def Item.spec (i : Item) : Spec := specOf i.2.1 i.2.2.1 i.2.2.2.1 i.2.2.2.2
noncomputable def itm (base : Nat) : List (B × Int × Int) → Int → List Item
  | [], _ => []
  | (b, x, y) :: r, z => (base, b, x, y, z) :: itm (base + 1) r (advn (cnt b) z)
noncomputable def Chain (z : Int) : List Item → Int → Prop
  | [], z' => z = z'
  | i :: r, z' => i.2.2.2.2 = z ∧ Chain (advn (cnt i.2.1) z) r z'
theorem Chain.app : ∀ {l r : List Item} {z z1 z2 : Int}, Chain z l z1 → Chain z1 r z2 → Chain z (l ++ r) z2
  | [], _, _, _, _, h, k => by cases h; exact k
  | _ :: _, _, _, _, _, h, k => ⟨h.1, Chain.app h.2 k⟩
noncomputable def enc3 (q : B × Int × Int) : T × Int × Int := (q.1.enc, q.2.1, q.2.2)
noncomputable def sumP : List (B × Int × Int) → Nat
  | [] => 0
  | q :: r => cnt q.1 + sumP r
noncomputable def sizP : List (B × Int × Int) → Nat
  | [] => 0
  | q :: r => szB q.1 + sizP r
noncomputable def sizI : List Item → Nat
  | [] => 0
  | i :: r => szB i.2.1 + sizI r
theorem sizI_app : ∀ (l r : List Item), sizI (l ++ r) = sizI l + sizI r
  | [], r => by simp [sizI]
  | i :: l, r => by simp [sizI, sizI_app l r, Nat.add_assoc]
theorem itm_chain : ∀ (ps : List (B × Int × Int)) (base : Nat) (z : Int), Chain z (itm base ps z) (advn (sumP ps) z)
  | [], _, _ => rfl
  | (b, x, y) :: r, base, z => ⟨rfl, by show Chain _ _ (advn (cnt b + sumP r) z); rw [advn_add]; exact itm_chain r _ _⟩
theorem itm_siz : ∀ (ps : List (B × Int × Int)) (base : Nat) (z : Int), sizI (itm base ps z) = sizP ps
  | [], _, _ => rfl
  | (b, x, y) :: r, base, z => by simp only [itm, sizI, sizP, itm_siz r]
theorem itm_wt : ∀ (ps : List (B × Int × Int)) (base : Nat) (z : Int), (itm base ps z).map Item.wt = place base (ps.map enc3)
  | [], _, _ => rfl
  | (b, x, y) :: r, base, z => by simp only [itm, List.map_cons, place, itm_wt r]; rfl
theorem itm_fst : ∀ (ps : List (B × Int × Int)) (base : Nat) (z : Int), (itm base ps z).map (·.1) = List.range' base ps.length
  | [], _, _ => rfl
  | (b, x, y) :: r, base, z => by simp only [itm, List.map_cons, itm_fst r, List.length_cons, List.range'_succ]
theorem itm_mem : ∀ (ps : List (B × Int × Int)) (base : Nat) (z : Int) (i : Item), i ∈ itm base ps z → ∃ j, i.1 = base + j ∧ (specs ps z)[j]? = some i.spec ∧ (∃ x y, (i.2.1, x, y) ∈ ps)
  | [], _, _, _, h => nomatch h
  | (b, x, y) :: r, base, z, i, h => by
    rcases List.mem_cons.mp h with rfl | h
    · exact ⟨0, rfl, rfl, x, y, .head _⟩
    · obtain ⟨j, h1, h2, x', y', h3⟩ := itm_mem r _ _ i h
      exact ⟨j + 1, by omega, h2, x', y', .tail _ h3⟩
noncomputable def ItsOk (sy : Sy) (base hb : Nat) (newS : List Spec) (its : List Item) : Prop := (its.map (·.1)).Nodup ∧ ∀ i ∈ its, i.2.1.Wf sy ∧ htB i.2.1 ≤ hb ∧ ∃ j, i.1 = base + j ∧ newS[j]? = some i.spec
noncomputable abbrev partT : List Nat := [5, 10, 11, 12, 20, 21, 22, 23, 24, 26]
noncomputable def PartPost (prog : Program) (w : World) (V : View) (s g t : Addr) (nds wts : List Value) (sy : Sy) (b : B) (x y z : Int) (v : Value) (V' : View) : Prop :=
  ∃ sy' z1 newS its ns ws, sy.le sy' ∧ Sg prog w V' s sy' ∧ GV V' g z1 ∧ 0 ≤ z1 ∧ TS V' t (nds ++ ns) (wts ++ ws) ∧ ns.length = newS.length ∧ All2 (WaitIs V') (its.reverse.map Item.wt) ws ∧ Chain z1 its (advn (cnt b) z) ∧ sizI its < szB b ∧
    ItsOk sy' nds.length (htB b) newS its ∧ ns.length ≤ its.length + 2 ∧
    (∀ j S u, newS[j]? = some S → ns[j]? = some u → nds.length + j ∉ its.map (·.1) → ∀ Sp : List Spec, Sp.length = nds.length → Node V' (Sp ++ newS) sy' (nds.length + j) S u) ∧
    (∀ (Sp : List Spec) p, Sp.length = nds.length → p < nds.length → Node V' (Sp ++ newS) sy' p (specOf b x y z) v) ∧ Kp partT V V'
theorem nums_app {Sp newS : List Spec} {n : Nat} (h : newS.length = n) : All2 (fun (q : Nat) S' => (Sp ++ newS)[q]? = some S') (List.range' Sp.length n) newS := by
  induction newS generalizing Sp n with
  | nil => subst h; exact .nil
  | cons S r ih =>
    subst h
    rw [List.length_cons, List.range'_succ]
    refine .cons (by simp) ?_
    have := ih (Sp := Sp ++ [S]) rfl
    simpa using this
/-- hold's outcome is a part's outcome -/
theorem PartPost.hold {V V' : View} {s g t : Addr} {nds wts : List Value} {sy sy' : Sy} {b : B} {x y z z1 : Int} {ps : List (B × Int × Int)} {wd : Str} {r : Addr} {tk : Tok} {pa : Addr} {is ns ws : List Value}
    (hle : sy.le sy') (hS : Sg prog w V' s sy') (hg : GV V' g z1) (h0 : 0 ≤ z1)
    (hv : V' r = some (.tup [.str wd tk, .ref pa])) (hpa : V' pa = some (.lst 0 is)) (hi : All2 IntIs (nums nds.length ps.length) is) (ht : TS V' t (nds ++ ns) (wts ++ ws)) (hn : ns.length = ps.length)
    (hw : All2 (WaitIs V') (place nds.length (ps.map enc3)).reverse ws) (hz : advn (sumP ps) z1 = advn (cnt b) z) (hsz : sizP ps < szB b) (hwf : ∀ q ∈ ps, q.1.Wf sy' ∧ htB q.1 ≤ htB b)
    (hc : Comb wd (specOf b x y z) (specs ps z1)) (hpl : ps.length ≤ 1000) (k : Kp partT V V') : PartPost prog w V s g t nds wts sy b x y z (.ref r) V' := by
  refine ⟨sy', z1, specs ps z1, itm nds.length ps z1, ns, ws, hle, hS, hg, h0, ht, by rw [specs_len, hn], ?_, ?_, by rw [itm_siz]; exact hsz, ⟨by rw [itm_fst]; exact List.nodup_range', fun i him => ?_⟩, ?_, ?_, ?_, k⟩
  · rw [List.map_reverse, itm_wt]; exact hw
  · rw [← hz]; exact itm_chain ps _ _
  · obtain ⟨j, h1, h2, x', y', h3⟩ := itm_mem ps _ _ i him
    have := hwf _ h3
    exact ⟨this.1, this.2, j, h1, h2⟩
  · have : (itm nds.length ps z1).length = ps.length := by
      have := congrArg List.length (itm_fst ps nds.length z1)
      simpa using this
    omega
  · intro j S u hj hu hnot
    rw [itm_fst] at hnot
    have := (List.getElem?_eq_some_iff.mp hj).1
    rw [specs_len] at this
    exact absurd (List.mem_range'_1.mpr ⟨by omega, by omega⟩) hnot
  · intro Sp p hSp hp
    refine ⟨r, tk, wd, _, rfl, hv, .inr ⟨pa, is, List.range' nds.length ps.length, specs ps z1, rfl, hpa, ?_, fun q hq => ?_, ?_, hc, by rw [List.length_range']; exact hpl⟩⟩
    · have e : nums nds.length ps.length = (List.range' nds.length ps.length).map fun (q : Nat) => (q : Int) := by
        unfold nums; rw [List.range'_eq_map_range, List.map_map]; rfl
      rw [e] at hi
      exact hi.of_map
    · have := (List.mem_range'_1.mp hq).1; omega
    · rw [← hSp]; exact nums_app (specs_len ps z1)

theorem GC.fnVQ (G : GC prog w b₀ K mg mb) {a : Addr} {q : Str} {st : Stmt} (f : FnFact K a q st) {d : Nat} {args : List Value} {post : Value → View → Prop}
    (h : ∀ L cdv V0, Kp [] V V0 → (∀ n c, (n, c) ∈ cellsFrom (L + 1) (fnScope st).names [] → V0 c = some (.cell 9 (celC st args n))) →
      let C := bodyCx prog w b₀ (envX q (fnScope st) L a cdv (cellsFrom (L + 1) (fnScope st).names [])) d; ∀ Q : Flow → Loc → View → Prop, (∀ v m' V', retOf post v m' V' → Q v m' V') → WP C (execs (fnBody st) C.env) (locC st args) V0 Q)
    (hbind : ∀ name kV doc pm an cdv ct, bindArgs (fnOf name q (fnParams st) (fnBody st) (fnScope st) .none kV doc pm an cdv ct) ⟨args, []⟩ = pure (bindsOf st args) := by intro _ _ _ _ _ _ _; rfl)
    (hkind : ((bindsOf st args).all fun y => (fnScope st).names.lookup y.1 == some .local || (fnScope st).names.lookup y.1 == some .cell) = true := by rfl)
    (hnd : ((cellsFrom 0 (fnScope st).names []).map (·.1)).Nodup := by decide) (hco : (fnScope st).isCoroutine = false := by rfl) (hgen : (fnScope st).isGenerator = false := by rfl) (hk : (fnScope st).kind = .function := by rfl) :
    Fn prog w b₀ (d + 1) V (.ref a) args post :=
  G.fnV f (fun L cdv V0 k0 hc => WP.gen (h L cdv V0 k0 hc)) hbind hkind hnd hco hgen hk

noncomputable def hereA (x z : Int) : Nat → Int
  | 0 => x
  | i + 1 => skip (advn i z)
theorem hereA_shift (z x : Int) : ∀ i, hereA (skip z) (adv z) i = hereA x z (i + 1)
  | 0 => rfl
  | _ + 1 => rfl
theorem partsA_get : ∀ (bs : List B) (x y z : Int) (i : Nat), (partsA bs x y z)[i]? = (bs[i]?).map fun b => (b, hereA x z i, if i + 1 < bs.length then skip (advn i z) else y)
  | [], _, _, _, _ => rfl
  | [b], x, y, z, 0 => rfl
  | [b], x, y, z, i + 1 => rfl
  | b :: c :: bs, x, y, z, 0 => by rw [partsA_cons (by simp)]; simp [hereA, advn]
  | b :: c :: bs, x, y, z, i + 1 => by
    rw [partsA_cons (by simp), List.getElem?_cons_succ, partsA_get (c :: bs), List.getElem?_cons_succ, hereA_shift z x]
    congr 1
    funext b
    simp [advn]
theorem partsA_sum : ∀ (bs : List B) (x y z : Int), sumP (partsA bs x y z) = sumc bs
  | [], _, _, _ => rfl
  | [_], _, _, _ => rfl
  | b :: c :: bs, x, y, z => by rw [partsA_cons (by simp)]; simp only [sumP, sumc, partsA_sum (c :: bs)]
noncomputable def sizL : List B → Nat
  | [] => 0
  | b :: r => szB b + sizL r
theorem partsA_siz : ∀ (bs : List B) (x y z : Int), sizP (partsA bs x y z) = sizL bs
  | [], _, _, _ => rfl
  | [_], _, _, _ => rfl
  | b :: c :: bs, x, y, z => by rw [partsA_cons (by simp)]; simp only [sizP, sizL, partsA_siz (c :: bs)]
theorem partsA_mem {bs : List B} {x y z : Int} {q : B × Int × Int} (h : q ∈ partsA bs x y z) : q.1 ∈ bs := by
  obtain ⟨i, hi⟩ := List.getElem?_of_mem h
  rw [partsA_get] at hi
  refine fl0 (Option.map_eq_some_iff.mp hi) (xe1 fun b => an2 ?_); rintro h1 rfl
  exact List.mem_of_getElem? h1
theorem spineA_facts {sy : Sy} : ∀ {b : B}, b.Wf sy → (∀ e ∈ spineA b, e.Wf sy ∧ htB e ≤ htB b) ∧ sizL (spineA b) ≤ szB b ∧ (spineA b).length ≤ htB b
  | .sq a b, h => by
    refine fl0 (spineA_facts (b := b) h.2) (an3 ?_); rintro i1 i2 i3
    refine ⟨fun e he => ?_, by simp only [spineA, sizL, szB]; omega, by simp only [spineA, List.length_cons, htB]; omega⟩
    rcases List.mem_cons.mp he with rfl | he
    · exact ⟨h.1, by simp only [htB]; omega⟩
    · have := i1 e he; exact ⟨this.1, by simp only [htB]; omega⟩
  | .lf _, h => ⟨fun e he => by rw [List.mem_singleton.mp he]; exact ⟨h, Nat.le_refl _⟩, by simp [spineA, sizL], by simp [spineA, htB]⟩
  | .or _ _ _, h => ⟨fun e he => by rw [List.mem_singleton.mp he]; exact ⟨h, Nat.le_refl _⟩, by simp [spineA, sizL], by simp [spineA, htB]⟩
  | .th _ _, h => ⟨fun e he => by rw [List.mem_singleton.mp he]; exact ⟨h, Nat.le_refl _⟩, by simp [spineA, sizL], by simp [spineA, htB]⟩
  | .nt _, h => ⟨fun e he => by rw [List.mem_singleton.mp he]; exact ⟨h, Nat.le_refl _⟩, by simp [spineA, sizL], by simp [spineA, htB]⟩
theorem spineO_facts {sy : Sy} : ∀ {b : B}, b.Wf sy → (∀ e ∈ spineO b, e.Wf sy ∧ htB e ≤ htB b) ∧ sizL (spineO b) ≤ szB b ∧ sumc (spineO b) = cnt b ∧ (spineO b).length ≤ htB b
  | .or _ a b, h => by
    refine fl0 (spineO_facts (b := b) h.2.2) (an4 ?_); rintro i1 i2 i3 i4
    refine ⟨fun e he => ?_, by simp only [spineO, sizL, szB]; omega, by simp only [spineO, sumc, cnt, i3], by simp only [spineO, List.length_cons, htB]; omega⟩
    rcases List.mem_cons.mp he with rfl | he
    · exact ⟨h.2.1, by simp only [htB]; omega⟩
    · have := i1 e he; exact ⟨this.1, by simp only [htB]; omega⟩
  | .lf _, h => ⟨fun e he => by rw [List.mem_singleton.mp he]; exact ⟨h, Nat.le_refl _⟩, by simp [spineO, sizL], by simp [spineO, sumc, cnt], by simp [spineO, htB]⟩
  | .sq _ _, h => ⟨fun e he => by rw [List.mem_singleton.mp he]; exact ⟨h, Nat.le_refl _⟩, by simp [spineO, sizL], by simp [spineO, sumc, cnt], by simp [spineO, htB]⟩
  | .th _ _, h => ⟨fun e he => by rw [List.mem_singleton.mp he]; exact ⟨h, Nat.le_refl _⟩, by simp [spineO, sizL], by simp [spineO, sumc, cnt], by simp [spineO, htB]⟩
  | .nt _, h => ⟨fun e he => by rw [List.mem_singleton.mp he]; exact ⟨h, Nat.le_refl _⟩, by simp [spineO, sizL], by simp [spineO, sumc, cnt], by simp [spineO, htB]⟩
theorem GV.at {g : Addr} {z : Int} (h : GV V g z) : ∃ d r u, V g = some (.inst 304 d) ∧ V d = some (.att 27 [("fresh", .ref r), ("used", .ref u)]) := by obtain ⟨d, r, u, _, a, b, _⟩ := id h; exact ⟨d, r, u, a, b⟩

theorem part_leaf (G : GX prog w b₀ K mg mb) {s g t : Addr} {sy : Sy} {l : Lf} {x y z : Int} {tv fv lv : Value} {nds wts : List Value}
    (hs : Sg prog w V s sy) (h0 : sy0.le sy) (hb : l.Wf sy) (hd : D V l.enc tv) (hf : D V (.v x) fv) (hl : D V (.v y) lv) (hg : GV V g z) (hz : 0 ≤ z) (ht : TS V t nds wts) :
    Fn prog w b₀ 6 V (.ref 367) [.ref s, tv, fv, lv, .ref g, .ref t] (PartPost prog w V s g t nds wts sy (.lf l) x y z) := by
  refine fl0 (hs.at) (xe5 fun d tx an fs fn => an2 ?_); rintro q1 q2
  refine G.fnVQ G.f_grammar_part (d := 5) fun L cdv V0 k0 hc => ?_
  intro C Q hQ
  have cf : V0 (L + 1) = some (.cell 9 (some fv)) := hc "first" (L + 1) (.tail _ (.head _))
  have cl : V0 (L + 2) = some (.cell 9 (some lv)) := hc "last" (L + 2) (.head _)
  -- the last line
  have fin : ∀ m V1 sy1, m "symbols" = some (.ref s) → m "term" = some tv → Kp [23, 24] V0 V1 → sy.le sy1 → Sg prog w V1 s sy1 →
      WP C (execs ((fnBody (topAt 43)).drop 1) C.env) m V1 Q := by
    intro m V1 sy1 m1 m2 k1 hle hS
    have hd1 : D V1 l.enc tv := (hd.kp k0).kp k1
    have hf1 : D V1 (.v x) fv := (hf.kp k0).kp k1
    have hl1 : D V1 (.v y) lv := (hl.kp k0).kp k1
    refine WP.execs_cons ?_
    repeat walk_at "w"
    refine WP.call (plain_goal_fn G hS (h0.trans hle) hd1 (hb.mono hle) hf1 hl1) (by walk_at "dp") ?_
    intro v V2; refine xe2 fun gg sy2 => an5 ?_; rintro hle2 hS2 hd2 htr k2
    repeat walk_at "w"
    rename_i a V3 k3 h3
    have k03 : Kp partT V V3 := by walk_at "kp"
    refine hQ _ _ _ ⟨_, .refl, sy2, z, [], [], [], [], hle.trans hle2, hS2.kp k3, (((hg.kp k0).kp k1).kp k2).kp k3, hz, ?_, rfl, .nil, rfl, Nat.one_pos, ⟨List.nodup_nil, fun i hi => nomatch hi⟩, Nat.zero_le _, fun j S u h => by simp at h, fun Sp p _ _ => ⟨_, _, _, _, rfl, h3, .inl ⟨rfl, gg, hd2.kp k3, htr⟩⟩, k03⟩
    rw [List.append_nil, List.append_nil]
    exact (((ht.kp k0).kp k1).kp k2).kp k3
  repeat walk_at "w"
  cases l with
  | nt0 n =>
    refine fl0 (id hd) (xe3 fun xa t1 t2 => an2 ?_); rintro rfl hx
    repeat walk_at "w"
    refine ifF (by decide) ?_
    exact fin _ _ _ (by walk_at "lk") (by walk_at "lk") .refl .refl (hs.kp k0)
  | cut =>
    refine fl0 (id hd) (xe3 fun xa t1 t2 => an2 ?_); rintro rfl hx
    repeat walk_at "w"
    refine ifF (by decide) ?_
    exact fin _ _ _ (by walk_at "lk") (by walk_at "lk") .refl .refl (hs.kp k0)
  | nil =>
    refine fl0 (id hd) (xe3 fun xa t1 t2 => an2 ?_); rintro rfl hx
    repeat walk_at "w"
    refine ifF (by decide) ?_
    exact fin _ _ _ (by walk_at "lk") (by walk_at "lk") .refl .refl (hs.kp k0)
  | var n =>
    refine fl0 (id hd) (xe3 fun xa t1 t2 => an2 ?_); rintro rfl hx
    repeat walk_at "w"
    refine ifF (by decide) ?_
    exact fin _ _ _ (by walk_at "lk") (by walk_at "lk") .refl .refl (hs.kp k0)
  | lst k tt =>
    refine fl0 (id hd) (xe6 fun xa ya t1 t2 v1 v2 => an5 ?_); rintro rfl hx hy d1 d2
    repeat walk_at "w"
    refine ifT (by decide) ?_
    repeat walk_at "w"
    refine WP.call (functor_m G (hs.kp k0) (a := 8) (n := 2) ⟨by decide, by decide, by decide, by decide⟩) (by walk_at "dp") ?_
    intro v V1; refine xe2 fun i tk' => an4 ?_; rintro rfl hi hS1 k1
    have hbar : (sy.addF (8, 2)).has i (8, 2) := ⟨i, rfl, hi⟩
    have n0 : (0 : Int) ≠ i := fun e => hbar.ne (h0.trans Sy.le_addF) sy0_fns.2.2.2.2.1 (by simp) e.symm
    repeat walk_at "w"
    refine ifF (by decide) ?_
    repeat walk_at "w"
    refine ifF (by decide) ?_
    repeat walk_at "w"
    refine ifF (by simpa using n0) ?_
    repeat walk_at "w"
    refine ifF (by decide) ?_
    repeat walk_at "w"
    refine ifF (by decide) ?_
    repeat walk_at "w"
    refine ifF (by decide) ?_
    walk_at "w"
    walk_at "w"
    exact fin _ _ _ (by walk_at "lk") (by walk_at "lk") k1 Sy.le_addF hS1
  | curly f k =>
    refine fl0 (id hd) (xe5 fun xa ya t1 t2 v1 => an5 ?_); rintro rfl hx hy d1 d2
    repeat walk_at "w"
    refine ifT (by decide) ?_
    repeat walk_at "w"
    refine WP.call (functor_m G (hs.kp k0) (a := 8) (n := 2) ⟨by decide, by decide, by decide, by decide⟩) (by walk_at "dp") ?_
    intro v V1; refine xe2 fun i tk' => an4 ?_; rintro rfl hi hS1 k1
    have hbar : (sy.addF (8, 2)).has i (8, 2) := ⟨i, rfl, hi⟩
    have n9 : (9 : Int) ≠ i := fun e => hbar.ne (h0.trans Sy.le_addF) sy0_fns.2.2.2.2.2.1 (by simp) e.symm
    repeat walk_at "w"
    refine ifF (by decide) ?_
    repeat walk_at "w"
    refine ifF (by decide) ?_
    repeat walk_at "w"
    refine ifF (by simpa using n9) ?_
    repeat walk_at "w"
    refine ifF (by decide) ?_
    repeat walk_at "w"
    refine ifF (by decide) ?_
    repeat walk_at "w"
    refine ifF (by decide) ?_
    walk_at "w"
    walk_at "w"
    exact fin _ _ _ (by walk_at "lk") (by walk_at "lk") k1 Sy.le_addF hS1
  | nt1 f p k =>
    refine fl0 (id hd) (xe5 fun xa ya t1 t2 v1 => an5 ?_); rintro rfl hx hy d1 d2
    obtain ⟨w1, w2, w3, w4, w5⟩ := id hb
    repeat walk_at "w"
    refine ifT (by decide) ?_
    repeat walk_at "w"
    refine WP.call (functor_m G (hs.kp k0) (a := 8) (n := 2) ⟨by decide, by decide, by decide, by decide⟩) (by walk_at "dp") ?_
    intro v V1; refine xe2 fun i tk' => an4 ?_; rintro rfl hi hS1 k1
    have hbar : (sy.addF (8, 2)).has i (8, 2) := ⟨i, rfl, hi⟩
    have n1 := w5.ne h0 sy0_fns.1 (by simp)
    have n2 := w5.ne h0 sy0_fns.2.1 (by simp)
    have n3 := w5.ne h0 sy0_fns.2.2.1 (by simp)
    have n4 := w5.ne h0 sy0_fns.2.2.2.1 (by simp; omega)
    have nb : f ≠ i := by
      rintro rfl
      refine fl0 (w5.mono (Sy.le_addF (p := (8, 2)))) (xe1 fun j => an2 ?_); rintro e hj
      obtain rfl : i = j := by omega
      rw [hi] at hj
      simp at hj
    repeat walk_at "w"
    refine ifF (by simpa using n1) ?_
    repeat walk_at "w"
    refine ifF (by simpa using n2) ?_
    repeat walk_at "w"
    refine ifF (by simpa using nb) ?_
    repeat walk_at "w"
    refine ifF (by decide) ?_
    repeat walk_at "w"
    refine ifF (by simpa using n3) ?_
    repeat walk_at "w"
    refine ifF (by simpa using n4) ?_
    walk_at "w"
    walk_at "w"
    exact fin _ _ _ (by walk_at "lk") (by walk_at "lk") k1 Sy.le_addF hS1

theorem part_sq (G : GX prog w b₀ K mg mb) {s g t : Addr} {sy : Sy} {a b : B} {x y z : Int} {tv fv lv : Value} {nds wts : List Value}
    (hs : Sg prog w V s sy) (h0 : sy0.le sy) (hb : (B.sq a b).Wf sy) (hh : htB (.sq a b) ≤ 500) (hd : D V (B.sq a b).enc tv) (hf : D V (.v x) fv) (hl : D V (.v y) lv) (hg : GV V g z) (hz : 0 ≤ z) (ht : TS V t nds wts) (hsz : nds.length + wts.length ≤ 100000) :
    Fn prog w b₀ 6 V (.ref 367) [.ref s, tv, fv, lv, .ref g, .ref t] (PartPost prog w V s g t nds wts sy (.sq a b) x y z) := by
  refine fl0 (hs.at) (xe5 fun d tx an fs fn => an2 ?_); rintro q1 q2
  refine fl0 (hg.at) (xe3 fun gd gr gu => an2 ?_); rintro g1 g2
  refine fl0 (id ht) (xe3 fun td nl wl => an4 ?_); rintro t1 t2 t3 t4
  refine G.fnVQ G.f_grammar_part (d := 5) fun L cdv V0 k0 hc => ?_
  intro C Q hQ
  have cf : V0 (L + 1) = some (.cell 9 (some fv)) := hc "first" (L + 1) (.tail _ (.head _))
  have cl : V0 (L + 2) = some (.cell 9 (some lv)) := hc "last" (L + 2) (.head _)
  refine fl0 (id hd) (xe6 fun xa ya tk1 tk2 v1 v2 => an5 ?_); rintro rfl hx hy d1 d2
  repeat walk_at "w"
  refine ifT (by decide) ?_
  repeat walk_at "w"
  refine WP.call (functor_m G (hs.kp k0) (a := 8) (n := 2) ⟨by decide, by decide, by decide, by decide⟩) (by walk_at "dp") ?_
  intro v V1; refine xe2 fun i tk' => an4 ?_; rintro rfl hi hS1 k1
  repeat walk_at "w"
  refine ifT (by decide) ?_
  repeat walk_at "w"
  refine nList 12 fun pl V2 k2 hpl => ?_
  repeat walk_at "w"
  rename_i fa V3 k3 hfa
  have hle : sy.le (sy.addF (8, 2)) := Sy.le_addF
  have hE := enc_spineA h0 hb
  have hF := spineA_facts hb
  have hth := ht_enc (.sq a b)
  have hd3 : D V3 (B.sq a b).enc (.ref xa) := (((hd.kp k0).kp k1).kp k2).kp k3
  refine WP.call (right_spine_fn G hd3 hfa (fs := [1]) (.cons _ _ .nil) (by walk_at "o") hE.1) (by walk_at "dp") ?_
  rintro v V4 ⟨k4, sl, svs, rfl, hsl, hsp⟩
  rw [hE.2] at hsp
  have hlen := hsp.length
  rw [List.length_map] at hlen
  have hpos := List.length_pos_iff.mpr (spineA_ne (.sq a b))
  have hpl4 : V4 pl = some (.lst 12 []) := by walk_at "vw"
  have kc : Kp [5, 10, 11, 12, 20, 21, 22, 23, 24, 26] V0 V4 := by walk_at "kp"
  have k04 : Kp partT V V4 := Kp.trans (k0.weak) kc
  have cl4 : V4 (L + 2) = some (.cell 9 (some lv)) := kc.get cl
  have cf4 : V4 (L + 1) = some (.cell 9 (some fv)) := kc.get cf
  have hf4 : D V4 (.v x) fv := hf.kp k04
  have hl4 : D V4 (.v y) lv := hl.kp k04
  have hg4 : GV V4 g z := (((((hg.kp k0).kp k1).kp k2).kp k3).kp k4)
  have ht4 : TS V4 t nds wts := (((((ht.kp k0).kp k1).kp k2).kp k3).kp k4)
  have hS4 : Sg prog w V4 s (sy.addF (8, 2)) := (((hS1.kp k2).kp k3).kp k4)
  repeat walk_at "w"
  refine forUp ?_
  repeat walk_at "w"
  rename_i ra V5 _ _ k5 hra
  have kc5 : Kp [] V4 V5 := k5
  refine ⟨ra, svs.length, _, _, _, rfl, hra, by omega, fun i m V' => Kp [12, 26] V5 V' ∧ m "tree" = some (.ref t) ∧ m "new" = some (.ref g) ∧ m "spine" = some (.ref sl) ∧ m "parts" = some (.ref pl) ∧ i ≤ svs.length ∧ GV V' g (advn (min i (svs.length - 1)) z) ∧
    (i < svs.length → ∃ hv, m "here" = some hv ∧ D V' (.v (hereA x z i)) hv) ∧ ∃ pvs, V' pl = some (.lst 12 pvs) ∧ All2 (PartIs V') (((partsA (spineA (.sq a b)) x y z).take i).map enc3) pvs,
    ⟨.refl, by walk_at "lk", by walk_at "lk", by walk_at "lk", by walk_at "lk", by omega, by rw [Nat.zero_min]; exact hg4.kp k5, fun _ => ⟨fv, by walk_at "lk", hf4.kp k5⟩, [], by walk_at "vw", .nil⟩, ?_, ?_⟩
  · rintro i tk m V6 hi ⟨k6, m1, m2, m3, m4, hi', hgv, hh', pvs, hp1, hp2⟩
    obtain ⟨hv, mh, hdh⟩ := hh' hi
    have cl6 : V6 (L + 2) = some (.cell 9 (some lv)) := k6.get (k5.get cl4)
    have hl6 : D V6 (.v y) lv := (hl4.kp k5).kp k6
    have hsl6 : V6 sl = some (.lst 20 svs) := k6.get (k5.get hsl)
    have g1' : V6 g = some (.inst 304 gd) := k6.get (k5.get (k04.get g1))
    have g2' : V6 gd = some (.att 27 [("fresh", .ref gr), ("used", .ref gu)]) := k6.get (k5.get (k04.get g2))
    obtain ⟨sv, hsv⟩ : ∃ v, svs[i]? = some v := ⟨_, List.getElem?_eq_getElem hi⟩
    obtain ⟨e, he, hde⟩ := ((hsp.of_map).getR hsv)
    have hde6 : D V6 e.enc sv := (hde.kp k5).kp k6
    have hpg : (partsA (spineA (.sq a b)) x y z)[i]? = some (e, hereA x z i, if i + 1 < (spineA (.sq a b)).length then skip (advn i z) else y) := by rw [partsA_get, he]; rfl
    have hpl2 := hp2.length
    rw [List.length_map, List.length_take, partsA_len] at hpl2
    -- after the choice of there
    have fin : ∀ m V7 tv, Kp [26] V6 V7 → m "tree" = some (.ref t) → m "new" = some (.ref g) → m "spine" = some (.ref sl) → m "parts" = some (.ref pl) → m "here" = some hv → m "there" = some tv → (∃ tk, m "at" = some (.int i tk)) → D V7 (.v (if i + 1 < (spineA (.sq a b)).length then skip (advn i z) else y)) tv → GV V7 g (advn (min (i + 1) (svs.length - 1)) z) →
        WP C (execs ((((fnBody (topAt 43))[0]?.map fun st => match st with | .If _ bd _ _ => bd | _ => []).getD []).drop 2 |>.head?.map (fun st => match st with | .If _ bd _ _ => (bd.drop 3).head?.map (fun st => match st with | .For _ _ bd _ _ => bd.drop 2 | _ => []) |>.getD [] | _ => []) |>.getD []) C.env) m V7
          (fun f m V => f = .next ∧ Kp [12, 26] V5 V ∧ m "tree" = some (.ref t) ∧ m "new" = some (.ref g) ∧ m "spine" = some (.ref sl) ∧ m "parts" = some (.ref pl) ∧ i + 1 ≤ svs.length ∧ GV V g (advn (min (i + 1) (svs.length - 1)) z) ∧
            (i + 1 < svs.length → ∃ hv, m "here" = some hv ∧ D V (.v (hereA x z (i + 1))) hv) ∧ ∃ pvs, V pl = some (.lst 12 pvs) ∧ All2 (PartIs V) (((partsA (spineA (.sq a b)) x y z).take (i + 1)).map enc3) pvs) := by
      intro m V7 tv k7 m1 m2 m3 m4 m5 m6 m7 hdt hgv7
      obtain ⟨tk, m7⟩ := m7
      have hsl7 : V7 sl = some (.lst 20 svs) := k7.get hsl6
      have hp7 : V7 pl = some (.lst 12 pvs) := k7.get hp1
      refine WP.execs_cons ?_
      repeat walk_at "w"
      refine WP.item_list hsl7 (by walk_at "o") (by walk_at "o") (x := sv) (by simpa using hsv) ?_
      repeat walk_at "w"
      rename_i qa V8 k8 hqa
      refine nAppend (by walk_at "vw") (by walk_at "o") fun V9 k9 hp9 => ?_
      repeat walk_at "w"
      have z79 : Fz V7 V9 := (k8.fz).trans k9.fz
      have z69 : Fz V6 V9 := (k7.fz).trans z79
      refine ⟨rfl, ?_, by walk_at "lk", by walk_at "lk", by walk_at "lk", by walk_at "lk", by omega, (hgv7.kp k8).kp k9, fun hlt => ⟨tv, by walk_at "lk", ?_⟩, _, hp9, ?_⟩
      · exact (k6.trans (k7.weak)).trans ((k8.weak).trans k9.weak)
      · rw [if_pos (by walk_at "o")] at hdt
        exact hdt.mono z79
      · rw [take_snoc hpg, List.map_append]
        refine (hp2.imp fun _ _ q => q.mono z69).append (.one ⟨qa, _, _, _, rfl, by walk_at "vw", hde6.mono z69, hdh.mono z69, hdt.mono z79⟩)
    repeat walk_at "w"
    by_cases hlast : i + 1 < svs.length
    · refine ifT (by simp; omega) ?_
      repeat walk_at "w"
      have hzi : 0 ≤ advn i z := Int.le_trans hz (advn_ge i z)
      have hmin : min i (svs.length - 1) = i := Nat.min_eq_left (by omega)
      rw [hmin] at hgv
      refine WP.call (variable_m G hgv hzi) (by walk_at "dp") ?_
      intro v V7; refine an3 ?_; rintro hdv hgv7 k7
      walk_at "w"
      walk_at "w"
      refine (fin _ V7 v k7 (by walk_at "lk") (by walk_at "lk") (by walk_at "lk") (by walk_at "lk") (by walk_at "lk") (by walk_at "lk") ⟨_, by walk_at "lk"⟩ ?_ ?_).mono ?_
      · rw [if_pos (by walk_at "o")]; exact hdv
      · have : min (i + 1) (svs.length - 1) = i + 1 := Nat.min_eq_left (by omega)
        rw [this, advn_snoc]; exact hgv7
      · rintro f m V ⟨rfl, h⟩; exact h
    · refine ifF (by simp; omega) ?_
      refine (fin _ V6 lv .refl (by walk_at "lk") (by walk_at "lk") (by walk_at "lk") (by walk_at "lk") (by walk_at "lk") (by walk_at "lk") ⟨_, by walk_at "lk"⟩ ?_ ?_).mono ?_
      · rw [if_neg (by walk_at "o")]; exact hl6
      · have : min (i + 1) (svs.length - 1) = min i (svs.length - 1) := by rw [Nat.min_eq_right (by omega), Nat.min_eq_right (by omega)]
        rw [this]; exact hgv
      · rintro f m V ⟨rfl, h⟩; exact h
  · rintro m V6 ⟨k6, m1, m2, m3, m4, hi', hgv, _, pvs, hp1, hp2⟩
    have t1' : V6 t = some (.inst 351 td) := k6.get (k5.get (k04.get t1))
    have t2' : V6 td = some (.att 28 [("nodes", .ref nl), ("waiting", .ref wl)]) := k6.get (k5.get (k04.get t2))
    have hT6 : TS V6 t nds wts := (ht4.kp k5).kp k6
    have hplen : (partsA (spineA (.sq a b)) x y z).length = svs.length := by rw [partsA_len, hlen]
    rw [List.take_of_length_le (by walk_at "o")] at hp2
    rw [Nat.min_eq_right (by walk_at "o")] at hgv
    repeat walk_at "w"
    refine WP.call (hold_m G (tg := 12) (by decide) hT6 hp1 hp2 (by rw [List.length_map]; omega)) (by walk_at "dp") ?_
    intro v V7; refine xe6 fun r tk pa is ns ws => an8 ?_; rintro rfl hr hpa his hts hns hws k7
    repeat walk_at "w"
    rw [List.length_map] at his hns
    have hz1 : 0 ≤ advn (svs.length - 1) z := Int.le_trans hz (advn_ge _ z)
    refine hQ _ _ _ ⟨_, .refl, PartPost.hold hle (((hS4.kp k5).kp k6).kp k7) (hgv.kp k7) hz1 hr hpa his hts hns hws ?_ ?_ ?_ ?_ (by rw [hplen]; omega) ?_⟩
    · rw [partsA_sum, ← hlen, ← advn_add, ← cnt_spineA]
    · rw [partsA_siz]
      have := (spineA_facts (b := b) hb.2).2.1
      simp only [spineA, sizL, szB]; omega
    · intro q hq
      have := hF.1 _ (partsA_mem hq)
      exact ⟨this.1.mono hle, this.2⟩
    · intro sy gs hfit
      refine ⟨conjT gs, .and ?_, and_fit (by rw [hlen]; exact hfit)⟩
      rintro rfl
      have := hfit.length
      rw [specs_len, hplen] at this
      have this : svs.length = 0 := this
      omega
    · exact ((k04.trans k5.weak).trans k6.weak).trans k7.weak


theorem part_th (G : GX prog w b₀ K mg mb) {s g t : Addr} {sy : Sy} {a b : B} {x y z : Int} {tv fv lv : Value} {nds wts : List Value}
    (hs : Sg prog w V s sy) (h0 : sy0.le sy) (hb : (B.th a b).Wf sy) (hd : D V (B.th a b).enc tv) (hf : D V (.v x) fv) (hl : D V (.v y) lv) (hg : GV V g z) (hz : 0 ≤ z) (ht : TS V t nds wts) (hsz : nds.length + wts.length ≤ 100000) :
    Fn prog w b₀ 6 V (.ref 367) [.ref s, tv, fv, lv, .ref g, .ref t] (PartPost prog w V s g t nds wts sy (.th a b) x y z) := by
  refine fl0 (hs.at) (xe5 fun d tx an fs fn => an2 ?_); rintro q1 q2
  refine fl0 (hg.at) (xe3 fun gd gr gu => an2 ?_); rintro g1 g2
  refine fl0 (id ht) (xe3 fun td nl wl => an4 ?_); rintro t1 t2 t3 t4
  refine G.fnVQ G.f_grammar_part (d := 5) fun L cdv V0 k0 hc => ?_
  intro C Q hQ
  have cf : V0 (L + 1) = some (.cell 9 (some fv)) := hc "first" (L + 1) (.tail _ (.head _))
  have cl : V0 (L + 2) = some (.cell 9 (some lv)) := hc "last" (L + 2) (.head _)
  refine fl0 (id hd) (xe6 fun xa ya tk1 tk2 v1 v2 => an5 ?_); rintro rfl hx hy d1 d2
  repeat walk_at "w"
  refine ifT (by decide) ?_
  repeat walk_at "w"
  refine WP.call (functor_m G (hs.kp k0) (a := 8) (n := 2) ⟨by decide, by decide, by decide, by decide⟩) (by walk_at "dp") ?_
  intro v V1; refine xe2 fun i tk' => an4 ?_; rintro rfl hi hS1 k1
  have hbar : (sy.addF (8, 2)).has i (8, 2) := ⟨i, rfl, hi⟩
  have hle : sy.le (sy.addF (8, 2)) := Sy.le_addF
  have n3 : (3 : Int) ≠ i := fun e => hbar.ne (h0.trans Sy.le_addF) sy0_fns.2.2.1 (by simp) e.symm
  repeat walk_at "w"
  refine ifF (by decide) ?_
  repeat walk_at "w"
  refine ifF (by decide) ?_
  repeat walk_at "w"
  refine ifF (by simpa using n3) ?_
  repeat walk_at "w"
  refine ifF (by decide) ?_
  repeat walk_at "w"
  refine ifT (by decide) ?_
  repeat walk_at "w"
  refine WP.call (variable_m G ((hg.kp k0).kp k1) hz) (by walk_at "dp") ?_
  intro v V2; refine an3 ?_; rintro hdv hgv2 k2
  repeat walk_at "w"
  rename_i pa1 V3 k3 hp1 _ pa2 V4 k4 hp2
  refine nList 12 fun pl V5 k5 hpl => ?_
  repeat walk_at "w"
  have p1 : V5 pa1 = some (.tup [v1, fv, v]) := by walk_at "vw"
  have p2 : V5 pa2 = some (.tup [v2, v, lv]) := by walk_at "vw"
  have hP : All2 (PartIs V5) ([(a, x, skip z), (b, skip z, y)].map enc3) [.ref pa1, .ref pa2] :=
    .cons ⟨pa1, v1, fv, v, rfl, p1, show D V5 a.enc v1 by walk_at "dd", show D V5 (.v x) fv by walk_at "dd", show D V5 (.v (skip z)) v by walk_at "dd"⟩ (.cons ⟨pa2, v2, v, lv, rfl, p2, show D V5 b.enc v2 by walk_at "dd", show D V5 (.v (skip z)) v by walk_at "dd", show D V5 (.v y) lv by walk_at "dd"⟩ .nil)
  have hT5 : TS V5 t nds wts := (((((ht.kp k0).kp k1).kp k2).kp k3).kp k4).kp k5
  refine WP.call (hold_m G (tg := 12) (by decide) hT5 hpl hP (by simp; omega)) (by walk_at "dp") ?_
  intro v V7; refine xe6 fun r tk pa is ns ws => an8 ?_; rintro rfl hr hpa his hts hns hws k7
  repeat walk_at "w"
  rw [List.length_map] at his hns
  have hz1 : 0 ≤ adv z := Int.le_trans hz adv_ge
  refine hQ _ _ _ ⟨_, .refl, PartPost.hold hle (((((hS1.kp k2).kp k3).kp k4).kp k5).kp k7) ((((hgv2.kp k3).kp k4).kp k5).kp k7) hz1 hr hpa his hts hns hws ?_ ?_ ?_ ?_ (by simp) ?_⟩
  · show advn (cnt a + (cnt b + 0)) (adv z) = advn (cnt a + cnt b + 1) z
    rw [show cnt a + cnt b + 1 = 1 + (cnt a + (cnt b + 0)) by omega, advn_add 1]; rfl
  · simp only [sizP, szB]; omega
  · intro q hq
    rcases List.mem_cons.mp hq with rfl | hq
    · exact ⟨hb.1.mono hle, by simp only [htB]; omega⟩
    · rw [List.mem_singleton.mp hq]; exact ⟨hb.2.mono hle, by simp only [htB]; omega⟩
  · intro sy gs hfit
    cases hfit with
    | cons h1 h2 =>
      cases h2 with
      | cons h2 h3 =>
        cases h3
        exact ⟨_, .then, th_fit h1 h2⟩
  · walk_at "kp"

theorem partsO_get (bs : List B) (x y : Int) (i : Nat) : (partsO bs x y)[i]? = (bs[i]?).map fun b => (b, x, y) := by unfold partsO; rw [List.getElem?_map]
theorem partsO_sum : ∀ (bs : List B) (x y : Int), sumP (partsO bs x y) = sumc bs
  | [], _, _ => rfl
  | b :: bs, x, y => by show cnt b + sumP (partsO bs x y) = _; rw [partsO_sum bs]; rfl
theorem partsO_siz : ∀ (bs : List B) (x y : Int), sizP (partsO bs x y) = sizL bs
  | [], _, _ => rfl
  | b :: bs, x, y => by show szB b + sizP (partsO bs x y) = _; rw [partsO_siz bs]; rfl
theorem part_or (G : GX prog w b₀ K mg mb) {s g t : Addr} {sy : Sy} {f : Int} {a b : B} {x y z : Int} {tv fv lv : Value} {nds wts : List Value}
    (hs : Sg prog w V s sy) (h0 : sy0.le sy) (hb : (B.or f a b).Wf sy) (hh : htB (.or f a b) ≤ 500) (hd : D V (B.or f a b).enc tv) (hf : D V (.v x) fv) (hl : D V (.v y) lv) (hg : GV V g z) (hz : 0 ≤ z) (ht : TS V t nds wts) (hsz : nds.length + wts.length ≤ 100000) :
    Fn prog w b₀ 6 V (.ref 367) [.ref s, tv, fv, lv, .ref g, .ref t] (PartPost prog w V s g t nds wts sy (.or f a b) x y z) := by
  refine fl0 (hs.at) (xe5 fun d tx an fs fn => an2 ?_); rintro q1 q2
  refine fl0 (id ht) (xe3 fun td nl wl => an4 ?_); rintro t1 t2 t3 t4
  refine G.fnVQ G.f_grammar_part (d := 5) fun L cdv V0 k0 hc => ?_
  intro C Q hQ
  have cf : V0 (L + 1) = some (.cell 9 (some fv)) := hc "first" (L + 1) (.tail _ (.head _))
  have cl : V0 (L + 2) = some (.cell 9 (some lv)) := hc "last" (L + 2) (.head _)
  refine fl0 (id hd) (xe6 fun xa ya tk1 tk2 v1 v2 => an5 ?_); rintro rfl hx hy d1 d2
  repeat walk_at "w"
  refine ifT (by decide) ?_
  repeat walk_at "w"
  refine WP.call (functor_m G (hs.kp k0) (a := 8) (n := 2) ⟨by decide, by decide, by decide, by decide⟩) (by walk_at "dp") ?_
  intro v V1; refine xe2 fun i tk' => an4 ?_; rintro rfl hi hS1 k1
  have hbar : (sy.addF (8, 2)).has i (8, 2) := ⟨i, rfl, hi⟩
  have hle : sy.le (sy.addF (8, 2)) := Sy.le_addF
  have n1 : f ≠ 1 := by
    rcases hb.1 with rfl | h
    · decide
    · exact h.ne h0 sy0_fns.1 (by simp)
  have hfi : f = 2 ∨ f = i := hb.1.imp id fun h => (h.mono hle).inj hS1.ok hbar
  have ht1 : TS V1 t nds wts := (ht.kp k0).kp k1
  repeat walk_at "w"
  refine ifF (by simpa using n1) ?_
  repeat walk_at "w"
  have hE := enc_spineO (h0.trans hle) hS1.ok hbar (hb.mono hle)
  have hF := spineO_facts hb
  have hth := ht_enc (.or f a b)
  have hpos := List.length_pos_iff.mpr (spineO_ne (.or f a b))
  have hd1 : D V1 (B.or f a b).enc (.ref xa) := (hd.kp k0).kp k1
  have hf1 : D V1 (.v x) fv := (hf.kp k0).kp k1
  have hl1 : D V1 (.v y) lv := (hl.kp k0).kp k1
  have cf1 : V1 (L + 1) = some (.cell 9 (some fv)) := k1.get cf
  have cl1 : V1 (L + 2) = some (.cell 9 (some lv)) := k1.get cl
  have t1' : V1 t = some (.inst 351 td) := by walk_at "vw"
  have t2' : V1 td = some (.att 28 [("nodes", .ref nl), ("waiting", .ref wl)]) := by walk_at "vw"
  have k01 : Kp partT V V1 := (k0.weak).trans k1.weak
  -- the branch
  have fin : ∀ m, m "term" = some (.ref xa) → m "tree" = some (.ref t) → m "bar" = some (.int i tk') →
      WP C (eval ((((fnBody (topAt 43))[0]?.map fun st => match st with | .If _ bd _ _ => ((bd.drop 3).head?.map fun st => match st with | .If _ (.Return (some e) _ :: _) _ _ => e | _ => .Constant .none 0 default).getD (.Constant .none 0 default) | _ => .Constant .none 0 default).getD (.Constant .none 0 default))) C.env) m V1
        (fun v _ V' => PartPost prog w V s g t nds wts sy (.or f a b) x y z v V') := by
    intro m m1 m2 m3
    show WP C (eval (.Call _ _ _ _) C.env) _ _ _
    repeat walk_at "w"
    refine WP.listcomp 12 (by rfl) (by decide) rfl (by decide) rfl ?_
    repeat walk_at "w"
    rename_i fa V3 k3 hfa
    refine WP.call (right_spine_fn G (hd1.kp k3) hfa (fs := [2, (i : Int)]) (.cons _ _ (.cons _ _ .nil)) (by walk_at "o") hE.1) (by walk_at "dp") ?_
    rintro v V4 ⟨k4, sl, svs, rfl, hsl, hsp⟩
    rw [hE.2] at hsp
    have hlen := hsp.length
    rw [List.length_map] at hlen
    have k14 : Kp [20] V1 V4 := (k3.weak).trans k4
    have cf4 : V4 (L + 1) = some (.cell 9 (some fv)) := k14.get cf1
    have cl4 : V4 (L + 2) = some (.cell 9 (some lv)) := k14.get cl1
    have hf4 : D V4 (.v x) fv := hf1.kp k14
    have hl4 : D V4 (.v y) lv := hl1.kp k14
    have hsp := hsp.of_map
    refine ⟨sl, 20, svs, rfl, sz (by walk_at "o"), fun j ys V' => Kp [] V4 V' ∧ All2 (PartIs V') (((partsO (spineO (.or f a b)) x y).take j).map enc3) ys, ⟨.refl, .nil⟩, fun j ys V' h => h.1.get hsl, ?_, ?_⟩
    · rintro j v ys V5 Cc mc hv ⟨k5, hys⟩ hmc
      refine fl0 (hsp.getR hv) (xe1 fun e => an2 ?_); rintro he hde
      have hpg : (partsO (spineO (.or f a b)) x y)[j]? = some (e, x, y) := by rw [partsO_get, he]; rfl
      have cf5 : V5 (L + 1) = some (.cell 9 (some fv)) := k5.get cf4
      have cl5 : V5 (L + 2) = some (.cell 9 (some lv)) := k5.get cl4
      repeat walk_at "w"
      rename_i qa V6 k6 hqa
      refine ⟨k5.trans k6, ?_⟩
      rw [take_snoc hpg, List.map_append]
      exact (hys.imp fun _ _ q => q.mono k6.fz).append (.one ⟨qa, v, fv, lv, rfl, hqa, (hde.kp k5).kp k6, (hf4.kp k5).kp k6, (hl4.kp k5).kp k6⟩)
    · rintro ys V5 pl ⟨k5, hys⟩ hpl
      have k6 : Kp [] V5 (upd V5 pl (.lst 12 ys)) := Kp.refl.new hpl
      have hpl6 : upd V5 pl (.lst 12 ys) pl = some (.lst 12 ys) := upd_self
      revert k6 hpl6
      generalize upd V5 pl (.lst 12 ys) = V6
      intro k6 hpl6
      have k16 : Kp [20] V1 V6 := (k14.trans k5.weak).trans k6.weak
      have hS6 := hS1.kp k16
      have hT6 := ht1.kp k16
      have hG6 : GV V6 g z := ((hg.kp k0).kp k1).kp k16
      have hpll : (partsO (spineO (.or f a b)) x y).length = svs.length := by unfold partsO; rw [List.length_map, hlen]
      rw [List.take_of_length_le (by walk_at "o")] at hys
      repeat walk_at "w"
      refine WP.call (hold_m G (tg := 12) (by decide) hT6 hpl6 (hys.imp fun _ _ q => q.mono k6.fz) (by rw [List.length_map]; omega)) (by walk_at "dp") ?_
      intro v V7; refine xe6 fun r tk pa is ns ws => an8 ?_; rintro rfl hr hpa his hts hns hws k7
      repeat walk_at "w"
      rw [List.length_map] at his hns
      refine PartPost.hold hle (hS6.kp k7) (hG6.kp k7) hz hr hpa his hts hns hws ?_ ?_ ?_ ?_ (by rw [hpll]; omega) ((k01.trans k16.weak).trans k7.weak)
      · rw [partsO_sum, hF.2.2.1]
      · rw [partsO_siz]
        have := (spineO_facts (b := b) hb.2.2).2.1
        simp only [spineO, sizL, szB]; omega
      · intro q hq
        refine fl0 (List.mem_map.mp hq) (xe1 fun e => an2 ?_); rintro he rfl
        have := hF.1 _ he
        exact ⟨this.1.mono hle, this.2⟩
      · intro sy gs hfit
        refine ⟨semiT gs, .or ?_, or_fit _ _ _ _ _ hfit⟩
        rintro rfl
        have := hfit.length
        rw [specs_len, hpll] at this
        have this : svs.length = 0 := this
        omega
  rcases Classical.em (f = 2) with rfl | h2
  · refine ifT (by decide) ?_
    refine ifT rfl ((fin _ (by walk_at "lk") (by walk_at "lk") (by walk_at "lk")).mono ?_)
    intro v m V h; exact hQ _ _ _ ⟨_, .refl, h⟩
  · refine ifF (by simpa using h2) ?_
    repeat walk_at "w"
    have h3 : f = i := hfi.resolve_left h2
    refine ifT (by simpa using h3) ?_
    refine ifT rfl ((fin _ (by walk_at "lk") (by walk_at "lk") (by walk_at "lk")).mono ?_)
    intro v m V h; exact hQ _ _ _ ⟨_, .refl, h⟩

noncomputable def notSpec (a : B) (x e z : Int) : Spec := ⟨fun sy g => ∃ ga, g = .s1 4 ga ∧ (specOf a x e z).P sy ga, fun h ⟨ga, e, p⟩ => ⟨ga, e, Spec.mono _ h p⟩⟩
noncomputable def eqSpec (x y : Int) : Spec := ⟨fun _ g => g = eqT x y, fun _ p => p⟩
theorem part_nt (G : GX prog w b₀ K mg mb) {s g t : Addr} {sy : Sy} {a : B} {x y z : Int} {tv fv lv : Value} {nds wts : List Value}
    (hs : Sg prog w V s sy) (h0 : sy0.le sy) (hb : (B.nt a).Wf sy) (hd : D V (B.nt a).enc tv) (hf : D V (.v x) fv) (hl : D V (.v y) lv) (hg : GV V g z) (hz : 0 ≤ z) (ht : TS V t nds wts) (hsz : nds.length + wts.length ≤ 100000) :
    Fn prog w b₀ 6 V (.ref 367) [.ref s, tv, fv, lv, .ref g, .ref t] (PartPost prog w V s g t nds wts sy (.nt a) x y z) := by
  refine fl0 (hs.at) (xe5 fun d tx an fs fn => an2 ?_); rintro q1 q2
  refine fl0 (hg.at) (xe3 fun gd gr gu => an2 ?_); rintro g1 g2
  refine fl0 (id ht) (xe3 fun td nl wl => an4 ?_); rintro t1 t2 t3 t4
  refine G.fnVQ G.f_grammar_part (d := 5) fun L cdv V0 k0 hc => ?_
  intro C Q hQ
  have cf : V0 (L + 1) = some (.cell 9 (some fv)) := hc "first" (L + 1) (.tail _ (.head _))
  have cl : V0 (L + 2) = some (.cell 9 (some lv)) := hc "last" (L + 2) (.head _)
  refine fl0 (id hd) (xe5 fun xa ya tk1 tk2 v1 => an5 ?_); rintro rfl hx hy d1 n41
  repeat walk_at "w"
  refine ifT (by decide) ?_
  repeat walk_at "w"
  refine WP.call (functor_m G (hs.kp k0) (a := 8) (n := 2) ⟨by decide, by decide, by decide, by decide⟩) (by walk_at "dp") ?_
  intro v V1; refine xe2 fun i tk' => an4 ?_; rintro rfl hi hS1 k1
  have hbar : (sy.addF (8, 2)).has i (8, 2) := ⟨i, rfl, hi⟩
  have hle : sy.le (sy.addF (8, 2)) := Sy.le_addF
  have n4 : (4 : Int) ≠ i := fun e => hbar.ne (h0.trans Sy.le_addF) sy0_fns.2.2.2.1 (by simp) e.symm
  repeat walk_at "w"
  refine ifF (by decide) ?_
  repeat walk_at "w"
  refine ifF (by decide) ?_
  repeat walk_at "w"
  refine ifF (by simpa using n4) ?_
  repeat walk_at "w"
  refine ifF (by decide) ?_
  repeat walk_at "w"
  refine ifF (by decide) ?_
  repeat walk_at "w"
  refine ifT (by decide) ?_
  repeat walk_at "w"
  refine WP.call (variable_m G ((hg.kp k0).kp k1) hz) (by walk_at "dp") ?_
  intro v V2; refine an3 ?_; rintro hdv hgv2 k2
  repeat walk_at "w"
  rename_i u1 V3 k3 hu1
  refine nAppend (by walk_at "vw") (by walk_at "o") fun V4 k4 q4 => ?_
  repeat walk_at "w"
  rename_i ea V5 k5 hea
  have hf5 : D V5 (.v x) fv := by walk_at "dd"
  have hl5 : D V5 (.v y) lv := by walk_at "dd"
  refine WP.call (struct_fn G hea) (by walk_at "dp") ?_
  rintro v' V6 ⟨k6, za, t1', t2', rfl, hza⟩
  have heq : D V6 (eqT x y) (.ref za) := ⟨za, ea, _, _, _, _, rfl, hza, k6.get hea, hf5.kp k6, hl5.kp k6⟩
  repeat walk_at "w"
  rename_i u2 V7 k7 hu2
  refine nAppend (by walk_at "vw") (by simp; omega) fun V8 k8 q8 => ?_
  rw [List.append_assoc] at q8
  have hu2' : V8 u2 = some (.tup [.str "goal" _, .ref za]) := k8.get hu2
  have heq8 : D V8 (eqT x y) (.ref za) := (heq.kp k7).kp k8
  repeat walk_at "w"
  rename_i qa V9 k9 hqa
  refine nList 12 fun pl V10 k10 hpl => ?_
  repeat walk_at "w"
  have hP : All2 (PartIs V10) ([(a, x, skip z)].map enc3) [.ref qa] := .one ⟨qa, v1, fv, v, rfl, by walk_at "vw", show D V10 a.enc v1 by walk_at "dd", by walk_at "dd", show D V10 (.v (skip z)) v by walk_at "dd"⟩
  have hT10 : TS V10 t (nds ++ ([.ref u1] ++ [.ref u2])) wts := ⟨td, nl, wl, by walk_at "vw", by walk_at "vw", by walk_at "vw", by walk_at "vw"⟩
  refine WP.call (hold_m G (tg := 12) (by decide) hT10 hpl hP (by simp; omega)) (by walk_at "dp") ?_
  intro v'' V11; refine xe6 fun r tk pa is ns ws => an8 ?_; rintro rfl hr hpa his hts hns hws k11
  refine fl0 (id hts) (xe3 fun td' nl' wl' => an4 ?_); rintro t1' t2' t3' t4'
  have hz1 : 0 ≤ adv z := Int.le_trans hz adv_ge
  rw [List.length_map] at his hns
  repeat walk_at "w"
  refine nSetList t3' (by walk_at "o") (by walk_at "o") (by simp; omega) fun V12 k12 q12 => ?_
  repeat walk_at "w"
  refine nList 0 fun ql V13 k13 hql => ?_
  repeat walk_at "w"
  rename_i ra V14 k14 hra
  obtain ⟨n3, rfl⟩ : ∃ n3, ns = [n3] := by
    exact len1 hns
  have eset : (nds ++ ([Value.ref u1] ++ [Value.ref u2]) ++ [n3]).set ((nds.length : Int)).toNat (.ref r) = nds ++ ([.ref r, .ref u2] ++ [n3]) := by
    rw [Int.toNat_natCast, List.append_assoc, List.set_append_right _ _ (Nat.le_refl _), Nat.sub_self]; rfl
  rw [eset] at q12
  have hS14 : Sg prog w V14 s (sy.addF (8, 2)) := ((((((((((((hS1.kp k2).kp k3).kp k4).kp k5).kp k6).kp k7).kp k8).kp k9).kp k10).kp k11).kp k12).kp k13).kp k14
  have hG14 : GV V14 g (adv z) := (((((((((((hgv2.kp k3).kp k4).kp k5).kp k6).kp k7).kp k8).kp k9).kp k10).kp k11).kp k12).kp k13).kp k14
  have hr14 : V14 r = some (.tup [.str "not" tk, .ref pa]) := by walk_at "vw"
  have hpa14 : V14 pa = some (.lst 0 is) := by walk_at "vw"
  have hql14 := k14.get hql
  have hu14 : V14 u2 = some (.tup [.str "goal" _, .ref za]) := k14.get (k13.get (k12.get (k11.get (k10.get (k9.get hu2')))))
  have heq14 : D V14 (eqT x y) (.ref za) := (((((heq8.kp k9).kp k10).kp k11).kp k12).kp k13).kp k14
  have hT14 : TS V14 t (nds ++ ([.ref r, .ref u2] ++ [n3])) (wts ++ ws) := ⟨td', nl', wl', by walk_at "vw", by walk_at "vw", by walk_at "vw", by walk_at "vw"⟩
  have hw14 := hws.imp fun _ _ q => ((q.mono k12.fz).mono k13.fz).mono k14.fz
  have kall : Kp partT V V14 := by
    have e1 : Kp partT V V8 := by walk_at "kp"
    have e2 : Kp partT V8 V11 := ((k9.weak).trans k10.weak).trans k11.weak
    have e3 : Kp partT V11 V14 := ((k12.weak).trans k13.weak).trans k14.weak
    exact (e1.trans e2).trans e3
  have hlen3 : (nds ++ ([Value.ref u1] ++ [Value.ref u2])).length = nds.length + 2 := by simp
  rw [hlen3] at his hw14
  refine hQ _ _ _ ⟨_, .refl, sy.addF (8, 2), adv z, [notSpec a x (skip z) (adv z), eqSpec x y, specOf a x (skip z) (adv z)], [(nds.length + 2, a, x, skip z, adv z)], [.ref r, .ref u2] ++ [n3], ws, hle, hS14, hG14, hz1, hT14, rfl, hw14, ⟨rfl, rfl⟩, by simp only [sizI, szB]; omega,
    ⟨by simp, fun i hi => ?_⟩, by simp, ?_, ?_, kall⟩
  · rw [List.mem_singleton.mp hi]
    exact ⟨hb.mono hle, by simp only [htB]; omega, 2, rfl, rfl⟩
  · intro j S u hj hu hnot Sp hSp
    match j, hj, hu with
    | 0, hj, hu =>
      cases hj; cases hu
      refine ⟨r, tk, "not", _, rfl, hr14, .inr ⟨pa, is, [nds.length + 2], [specOf a x (skip z) (adv z)], rfl, hpa14, ?_, fun q hq => by rw [List.mem_singleton.mp hq]; omega, .one ?_, ?_, by simp⟩⟩
      · have : nums (nds.length + 2) 1 = [((nds.length + 2 : Nat) : Int)] := rfl
        rw [show ([(a, x, skip z)] : List (B × Int × Int)).length = 1 from rfl, this] at his
        cases his with
        | cons h1 h2 => cases h2; exact .one h1
      · rw [List.getElem?_append_right (by walk_at "o"), hSp]; simp
      · intro sy gs hfit
        cases hfit with
        | cons h1 h2 => cases h2; exact ⟨_, .not, _, rfl, h1⟩
    | 1, hj, hu =>
      cases hj; cases hu
      exact ⟨u2, _, "goal", _, rfl, hu14, .inl ⟨rfl, _, heq14, rfl⟩⟩
    | 2, hj, hu => exact absurd (by simp) hnot
    | j + 3, hj, hu => simp at hj
  · intro Sp p hSp hp
    refine ⟨ra, _, "and", _, rfl, hra, .inr ⟨ql, _, [nds.length, nds.length + 1], [notSpec a x (skip z) (adv z), eqSpec x y], rfl, hql14, .cons ⟨_, rfl⟩ (.one ⟨_, rfl⟩), ?_, .cons ?_ (.one ?_), ?_, by simp⟩⟩
    · intro q hq
      rcases List.mem_cons.mp hq with rfl | hq
      · exact hp
      · rw [List.mem_singleton.mp hq]; omega
    · rw [List.getElem?_append_right (by walk_at "o"), hSp]; simp
    · rw [List.getElem?_append_right (by walk_at "o"), hSp]; simp
    · intro sy gs hfit
      cases hfit with
      | cons h1 h2 =>
        cases h2 with
        | cons h2 h3 =>
          cases h3
          revert h1; refine xe1 fun ga => an2 ?_; rintro rfl h1
          cases h2
          exact ⟨_, .and (by simp), nt_fit h1⟩
theorem grammar_part_fn (G : GX prog w b₀ K mg mb) {s g t : Addr} {sy : Sy} {b : B} {x y z : Int} {tv fv lv : Value} {nds wts : List Value}
    (hs : Sg prog w V s sy) (h0 : sy0.le sy) (hb : b.Wf sy) (hh : htB b ≤ 500) (hd : D V b.enc tv) (hf : D V (.v x) fv) (hl : D V (.v y) lv) (hg : GV V g z) (hz : 0 ≤ z) (ht : TS V t nds wts) (hsz : nds.length + wts.length ≤ 100000) :
    Fn prog w b₀ 6 V (.ref 367) [.ref s, tv, fv, lv, .ref g, .ref t] (PartPost prog w V s g t nds wts sy b x y z) := by
  cases b with
  | lf l => exact part_leaf G hs h0 hb hd hf hl hg hz ht
  | sq a b => exact part_sq G hs h0 hb hh hd hf hl hg hz ht hsz
  | or f a b => exact part_or G hs h0 hb hh hd hf hl hg hz ht hsz
  | th a b => exact part_th G hs h0 hb hd hf hl hg hz ht hsz
  | nt a => exact part_nt G hs h0 hb hd hf hl hg hz ht hsz

theorem nStoreCell {x : Str} {c : Addr} {t : Nat} {v₀ : Option Value} {v : Value} {k : Unit → Loc → View → Prop} (hc : C.env.cells.lookup x = some c) (hv : V c = some (.cell t v₀)) (h : ∀ V', Kp [t] V V' → V' c = some (.cell t (some v)) → k () m V')
    (hk : C.env.scope.kind = .function := by rfl) (hl : C.env.kindOf x = some .cell := by rfl) : WP C (storeName C.env x v) m V k :=
  WP.storeCell hc hv (h _ (Kp.refl.set hv (by simp [AO.tag])) upd_self) hk hl
/-- the goals of a node's places -/
theorem fits_of {V : View} {Sp : List Spec} {sy : Sy} {p : Nat} {gv : List Value} (hJ : ∀ q S, p < q → Sp[q]? = some S → ∃ u g, gv[q]? = some u ∧ D V g u ∧ S.P sy g) {qs : List Nat} {Ss : List Spec} (h : All2 (fun (q : Nat) S' => Sp[q]? = some S') qs Ss) (hq : ∀ q ∈ qs, p < q) :
    ∃ gs vs, Fits sy Ss gs ∧ All2 (D V) gs vs ∧ All2 (fun (q : Nat) v => gv[q]? = some v) qs vs := by
  induction h with
  | nil => exact ⟨[], [], .nil, .nil, .nil⟩
  | @cons q S qs Ss h1 _ ih =>
    refine fl0 (ih fun q hm => hq q (.tail _ hm)) (xe2 fun gs vs => an3 ?_); rintro a b c
    refine fl0 (hJ q S (hq q (.head _)) h1) (xe2 fun u g => an3 ?_); rintro d e f
    exact ⟨g :: gs, u :: vs, .cons f a, .cons e b, .cons d c⟩
theorem goal_m (G : GX prog w b₀ K mg mb) {t : Addr} {nds wts : List Value} {Sp : List Spec} {sy : Sy} {S0 : Spec} (ht : TS V t nds wts) (hl : Sp.length = nds.length) (h0 : Sp[0]? = some S0) (hz : nds.length ≤ 1000000)
    (hn : ∀ (p : Nat) u S, nds[p]? = some u → Sp[p]? = some S → Node V Sp sy p S u) :
    Fn prog w b₀ 3 V (.ref 348) [.ref t] fun v V' => ∃ g, D V' g v ∧ S0.P sy g ∧ Kp [9, 13, 14, 20] V V' := by
  refine fl0 (id ht) (xe3 fun td nl wl => an4 ?_); rintro t1 t2 t3 t4
  have hpos : 0 < Sp.length := (List.getElem?_eq_some_iff.mp h0).1
  refine G.fnVQ G.f_GrammarTree_goal (d := 2) fun L cdv V0 k0 hc => ?_
  intro C Q hQ
  have cg : V0 (L + 1) = some (.cell 9 none) := hc "goals" (L + 1) (.head _)
  repeat walk_at "w"
  refine nList 20 fun nl1 V1 k1 h1 => ?_
  repeat walk_at "w"
  refine nMulList 13 h1 (by walk_at "o") (by walk_at "o") fun gl V2 k2 hgl => ?_
  rw [Int.toNat_natCast] at hgl
  repeat walk_at "w"
  refine nStoreCell (c := L + 1) (by rfl) (by walk_at "vw") fun V3 k3 cg3 => ?_
  have hgl3 : V3 gl = some (.lst 13 (List.replicate nds.length .none)) := k3.get hgl
  have k03 : Kp [9] V V3 := (((k0.weak).trans k1.weak).trans k2.weak).trans k3.weak
  have ht3 : TS V3 t nds wts := ht.kp k03
  have e1 : V3 t = some (.inst 351 td) := k03.get t1
  have e2 : V3 td = some (.att 28 [("nodes", .ref nl), ("waiting", .ref wl)]) := k03.get t2
  have e3 : V3 nl = some (.lst 5 nds) := k03.get t3
  have hn3 : ∀ (p : Nat) u S, nds[p]? = some u → Sp[p]? = some S → Node V3 Sp sy p S u := fun p u S a b => (hn p u S a b).mono k03.fz .refl
  have hb : (nds.length : Int) < 2 ^ 63 := by omega
  clear k0 k1 k2 k3
  repeat walk_at "w"
  refine forDown ?_
  repeat walk_at "w"
  rename_i ra V4 k4 hra
  refine ⟨ra, nds.length, _, _, _, _, rfl, hra, by omega, hz, fun i m V' => Kp [13, 14, 20] V4 V' ∧ m "self" = some (.ref t) ∧ ∃ gv, V' gl = some (.lst 13 gv) ∧ gv.length = nds.length ∧
    ∀ q S, nds.length - i ≤ q → Sp[q]? = some S → ∃ u g, gv[q]? = some u ∧ D V' g u ∧ S.P sy g, ⟨.refl, by walk_at "lk", _, k4.get hgl3, by simp, fun q S hq hS => ?_⟩, ?_, ?_⟩
  · have := (List.getElem?_eq_some_iff.mp hS).1; omega
  · rintro i tk m V5 hi ⟨k5, m1, gv, hgv, hgl', hJ⟩
    have k35 : Kp [13, 14, 20] V3 V5 := (k4.weak).trans k5
    have e1 : V5 t = some (.inst 351 td) := k35.get e1
    have e2 : V5 td = some (.att 28 [("nodes", .ref nl), ("waiting", .ref wl)]) := k35.get e2
    have e3 : V5 nl = some (.lst 5 nds) := k35.get e3
    have cg5 : V5 (L + 1) = some (.cell 9 (some (.ref gl))) := k35.get cg3
    obtain ⟨u, hu⟩ : ∃ u, nds[nds.length - 1 - i]? = some u := ⟨_, List.getElem?_eq_getElem (by walk_at "o")⟩
    obtain ⟨S, hS⟩ : ∃ S, Sp[nds.length - 1 - i]? = some S := ⟨_, List.getElem?_eq_getElem (by walk_at "o")⟩
    obtain ⟨r, tkw, wd, val, rfl, hr, hnode⟩ := (hn3 _ _ _ hu hS).mono k35.fz .refl
    -- what ends a turn
    have fin : ∀ (m : Loc) (V6 : View) (gv' : List Value) (g : T) (u' : Value), Kp [13, 14, 20] V5 V6 → m "self" = some (.ref t) → V6 gl = some (.lst 13 gv') → gv' = gv.set (nds.length - 1 - i) u' → D V6 g u' → S.P sy g →
        (Kp [13, 14, 20] V4 V6 ∧ m "self" = some (.ref t) ∧ ∃ gv, V6 gl = some (.lst 13 gv) ∧ gv.length = nds.length ∧ ∀ q S, nds.length - (i + 1) ≤ q → Sp[q]? = some S → ∃ u g, gv[q]? = some u ∧ D V6 g u ∧ S.P sy g) := by
      intro m V6 gv' g u' k6 m6 hg6 egv hd hp
      subst egv
      refine ⟨k5.trans k6, m6, _, hg6, by simpa using hgl', fun q S' hq hS' => ?_⟩
      by_cases hqe : q = nds.length - 1 - i
      · subst hqe
        rw [hS] at hS'; cases hS'
        exact ⟨u', g, by rw [List.getElem?_set_self (by walk_at "o")], hd, hp⟩
      · obtain ⟨u2, g2, a, b, c⟩ := hJ q S' (by walk_at "o") hS'
        exact ⟨u2, g2, by rw [List.getElem?_set_ne (Ne.symm hqe)]; exact a, b.kp k6, c⟩
    walk_at "w"
    refine WP.execs_cons ?_
    refine WP.assign_tuple ?_
    repeat walk_at "w"
    refine WP.item_list e3 (by walk_at "o") (by walk_at "o") (x := .ref r) (by rw [Int.toNat_natCast]; exact hu) ?_
    refine ⟨r, _, rfl, hr, rfl, store2 ?_⟩
    repeat walk_at "w"
    rcases hnode with ⟨rfl, g, hd, hp⟩ | ⟨pa, is, qs, Ss, rfl, hpa, hqi, hqp, hqS, hcomb, hql⟩
    · refine ifT (by decide) ?_
      repeat walk_at "w"
      refine nSetList hgv (by walk_at "o") (by walk_at "o") (by walk_at "o") fun V6 k6 h6 => ?_
      rw [Int.toNat_natCast] at h6
      repeat walk_at "w"
      exact fin _ V6 _ g val k6.weak (by walk_at "lk") h6 rfl (hd.kp k6) hp
    · refine fl0 (fits_of (V := V5) (sy := sy) (p := nds.length - 1 - i) (fun q S hq hS => hJ q S (by walk_at "o") hS) hqS hqp) (xe2 fun gs vs => an3 ?_); rintro hfit hdv hgq
      refine fl0 (hcomb sy gs hfit) (xe1 fun g => an2 ?_); rintro hct hSg
      have hlen1 := hqi.length
      have hlen2 := hgq.length
      have hlen3 := hdv.length
      have nw : ("goal" : Str) ≠ wd := by cases hct <;> decide
      refine ifF (by simpa using Ne.symm nw) ?_
      refine WP.execs_cons ?_
      refine WP.assign_listcomp 14 (by rfl) (by rfl) (by decide) rfl (by decide) rfl ?_
      repeat walk_at "w"
      refine ⟨pa, 0, is, rfl, sz (by walk_at "o"), fun j ys V' => V' = V5 ∧ ys = vs.take j, ⟨rfl, rfl⟩, fun j ys V' h => by rw [h.1]; exact hpa, ?_, ?_⟩
      · rintro j v ys V' Cc mc hv ⟨rfl, rfl⟩ hmc
        obtain ⟨q, hq, tkq, rfl⟩ := hqi.getR hv
        refine fl0 (hgq.getL hq) (xe1 fun u => an2 ?_); rintro hu' hgu
        repeat walk_at "w"
        refine WP.item_list hgv (by walk_at "o") (by have := (List.getElem?_eq_some_iff.mp hgu).1; omega) (x := u) (by simpa using hgu) ?_
        exact ⟨rfl, (take_snoc hu').symm⟩
      · rintro ys V' il ⟨rfl, rfl⟩ hil
        rename_i V'
        have k6 : Kp [] V' (upd V' il (.lst 14 (vs.take is.length))) := Kp.refl.new hil
        have hil6 : upd V' il (.lst 14 (vs.take is.length)) il = some (.lst 14 (vs.take is.length)) := upd_self
        revert k6 hil6
        generalize upd V' il (.lst 14 (vs.take is.length)) = V6
        intro k6 hil6
        rw [List.take_of_length_le (by walk_at "o")] at hil6
        have cg6 : V6 (L + 1) = some (.cell 9 (some (.ref gl))) := k6.get cg5
        have hgv6 : V6 gl = some (.lst 13 gv) := k6.get hgv
        have hdv6 := Ds.kp k6 hdv
        repeat walk_at "w"
        cases hct with
        | and hne =>
          refine ifT (by decide) ?_
          repeat walk_at "w"
          refine WP.call (conjunction_fn G hil6 hdv6 hne (by walk_at "o")) (by walk_at "dp") ?_
          rintro v V7 ⟨k7, hd7⟩
          have cg7 : V7 (L + 1) = some (.cell 9 (some (.ref gl))) := k7.get cg6
          have hgv7 : V7 gl = some (.lst 13 gv) := k7.get hgv6
          repeat walk_at "w"
          refine nSetList hgv7 (by walk_at "o") (by walk_at "o") (by walk_at "o") fun V8 k8 h8 => ?_
          rw [Int.toNat_natCast] at h8
          repeat walk_at "w"
          exact fin _ V8 _ _ _ (((k6.weak).trans k7.weak).trans k8.weak) (by walk_at "lk") h8 rfl (hd7.kp k8) hSg
        | «then» =>
          refine ifF (by decide) ?_
          repeat walk_at "w"
          refine ifT (by decide) ?_
          refine fl0 (hdv6.in2) (xe2 fun v1 v2 => an3 ?_); rintro rfl d1 d2
          repeat walk_at "w"
          refine WP.item_list hil6 (by decide) (by decide) rfl ?_
          repeat walk_at "w"
          refine WP.item_list hil6 (by decide) (by decide) rfl ?_
          repeat walk_at "w"
          rename_i ta V7 k7 hta
          refine WP.call (struct_fn G hta) (by walk_at "dp") ?_
          rintro v V8 ⟨k8, z, t1', t2', rfl, hz'⟩
          have cg8 : V8 (L + 1) = some (.cell 9 (some (.ref gl))) := k8.get (k7.get cg6)
          have hgv8 : V8 gl = some (.lst 13 gv) := k8.get (k7.get hgv6)
          repeat walk_at "w"
          refine nSetList hgv8 (by walk_at "o") (by walk_at "o") (by walk_at "o") fun V9 k9 h9 => ?_
          rw [Int.toNat_natCast] at h9
          repeat walk_at "w"
          refine fin _ V9 _ _ _ ((((k6.weak).trans k7.weak).trans k8.weak).trans k9.weak) (by walk_at "lk") h9 rfl ?_ hSg
          exact ⟨z, ta, _, _, _, _, rfl, k9.get hz', k9.get (k8.get hta), ((d1.kp k7).kp k8).kp k9, ((d2.kp k7).kp k8).kp k9⟩
        | not =>
          refine ifF (by decide) ?_
          repeat walk_at "w"
          refine ifF (by decide) ?_
          repeat walk_at "w"
          refine ifT (by decide) ?_
          refine fl0 (hdv6.in1) (xe1 fun v1 => an2 ?_); rintro rfl d1
          repeat walk_at "w"
          refine WP.item_list hil6 (by decide) (by decide) rfl ?_
          repeat walk_at "w"
          rename_i ta V7 k7 hta
          refine WP.call (struct_fn G hta) (by walk_at "dp") ?_
          rintro v V8 ⟨k8, z, t1', t2', rfl, hz'⟩
          have cg8 : V8 (L + 1) = some (.cell 9 (some (.ref gl))) := k8.get (k7.get cg6)
          have hgv8 : V8 gl = some (.lst 13 gv) := k8.get (k7.get hgv6)
          repeat walk_at "w"
          refine nSetList hgv8 (by walk_at "o") (by walk_at "o") (by walk_at "o") fun V9 k9 h9 => ?_
          rw [Int.toNat_natCast] at h9
          repeat walk_at "w"
          refine fin _ V9 _ _ _ ((((k6.weak).trans k7.weak).trans k8.weak).trans k9.weak) (by walk_at "lk") h9 rfl ?_ hSg
          exact ⟨z, ta, _, _, _, rfl, k9.get hz', k9.get (k8.get hta), ((d1.kp k7).kp k8).kp k9, by decide⟩
        | or hne =>
          refine ifF (by decide) ?_
          repeat walk_at "w"
          refine ifF (by decide) ?_
          repeat walk_at "w"
          refine ifF (by decide) ?_
          have hpos : 0 < gs.length := List.length_pos_iff.mpr hne
          obtain ⟨v0, hv0⟩ : ∃ v, vs[vs.length - 1]? = some v := ⟨_, List.getElem?_eq_getElem (by walk_at "o")⟩
          refine fl0 (hdv6.getR hv0) (xe1 fun g0 => an2 ?_); rintro hg0 hd0
          have esplit : ∀ {n : Nat} {v : Value}, vs[n]? = some v → vs.take (n + 1) = vs.take n ++ [v] := fun h => take_snoc h
          have e0 : vs = vs.take (vs.length - 1) ++ [v0] := by
            have := esplit hv0
            rw [Nat.sub_add_cancel (by walk_at "o"), List.take_length] at this
            exact this
          rw [e0] at hil6
          repeat walk_at "w"
          refine nPop hil6 (by rw [List.length_take]; omega) fun V7 k7 h7 => ?_
          refine WP.execs_cons ?_
          refine WP.while (fun n m V' => Kp [14] V6 V' ∧ m "self" = some (.ref t) ∧ (∃ tk, m "place" = some (.int (nds.length - 1 - i : Nat) tk)) ∧ m "inner" = some (.ref il) ∧ n < vs.length ∧ V' il = some (.lst 14 (vs.take n)) ∧ ∃ dn, m "done" = some dn ∧ D V' (semiT (gs.drop n)) dn) (vs.length - 1)
            ⟨k7, by walk_at "lk", ⟨_, by walk_at "lk"⟩, by walk_at "lk", by omega, h7, v0, by walk_at "lk", ?_⟩ ?_
          · have h1 : vs.length - 1 < gs.length := by omega
            rw [List.drop_eq_getElem_cons h1, List.drop_of_length_le (by walk_at "o"), (List.getElem?_eq_some_iff.mp hg0).2]
            exact hd0.kp k7
          · rintro n m V8 ⟨k8, m2, ⟨tkp, m3⟩, m4, hlt, hil8, dn, m5, hdn⟩
            have cg8 : V8 (L + 1) = some (.cell 9 (some (.ref gl))) := k8.get cg6
            have hgv8 : V8 gl = some (.lst 13 gv) := k8.get hgv6
            repeat walk_at "w"
            refine WP.truthy_list hil8 (by rw [List.length_take]; omega) ?_
            cases n with
            | zero =>
              refine ifF (by simp) ?_
              repeat walk_at "w"
              refine nSetList hgv8 (by walk_at "o") (by walk_at "o") (by walk_at "o") fun V9 k9 h9 => ?_
              rw [Int.toNat_natCast] at h9
              repeat walk_at "w"
              exact fin _ V9 _ _ _ (((k6.weak).trans k8.weak).trans k9.weak) (by walk_at "lk") h9 rfl (hdn.kp k9) hSg
            | succ n =>
              obtain ⟨vn, hvn⟩ : ∃ v, vs[n]? = some v := ⟨_, List.getElem?_eq_getElem (by walk_at "o")⟩
              obtain ⟨gn, hgn, hdn'⟩ := hdv6.getR hvn
              rw [esplit hvn] at hil8 ⊢
              refine ifT (by simp) ?_
              repeat walk_at "w"
              refine nPop hil8 (by rw [List.length_take]; omega) fun V9 k9 h9 => ?_
              repeat walk_at "w"
              rename_i ta V10 k10 hta
              refine WP.call (struct_fn G hta) (by walk_at "dp") ?_
              rintro v V11 ⟨k11, z, t1', t2', rfl, hz'⟩
              repeat walk_at "w"
              have k911 : Kp [14] V8 V11 := ((k9.weak).trans k10.weak).trans k11.weak
              refine ⟨n, by omega, k8.trans k911, by walk_at "lk", ⟨_, by walk_at "lk"⟩, by walk_at "lk", by omega, k11.get (k10.get h9), _, by walk_at "lk", ?_⟩
              have h1 : n < gs.length := by omega
              rw [List.drop_eq_getElem_cons h1, semi_cons (by intro q; have := congrArg List.length q; simp at this; omega), (List.getElem?_eq_some_iff.mp hgn).2]
              exact ⟨z, ta, _, _, _, _, rfl, hz', k11.get hta, ((hdn'.kp k8).kp k911), hdn.kp k911⟩
  · rintro m V5 ⟨k5, m1, gv, hgv, hgl', hJ⟩
    obtain ⟨u, g, hu, hd, hp⟩ := hJ 0 S0 (by walk_at "o") h0
    have cg5 : V5 (L + 1) = some (.cell 9 (some (.ref gl))) := k5.get (k4.get cg3)
    repeat walk_at "w"
    refine WP.item_list hgv (by decide) (by decide) (x := u) hu ?_
    repeat walk_at "w"
    exact hQ _ _ _ ⟨_, .refl, g, hd, hp, ((k03.weak).trans k4.weak).trans k5.weak⟩

theorem nCallCls {Cl fI : Addr} {d : Nat} {args : List Value} (t : Nat) {post : Addr → View → Prop} {k : Value → Loc → View → Prop} (X : K.In C.b₀) (O : ClsOk K Cl fI)
    (h : ∀ x dx V1, Kp [] V V1 → V1 x = some (.inst Cl dx) → V1 dx = some (.att t []) → Fn C.prog C.w C.b₀ d V1 (.ref fI) (.ref x :: args) fun v V' => v = .none ∧ post x V')
    (hd : d + 1 ≤ C.d) (hk : ∀ x V', post x V' → k (.ref x) m V') : WP C (PySem.call (.ref Cl) args) m V k :=
  WP.callCls t X O (fun x dx h1 h2 h3 => h x dx _ ((Kp.refl.new h2).new (by rw [upd_ne h3]; exact h1)) upd_self (upd_new (by rw [upd_ne h3]; exact h1) upd_self)) hd hk
theorem store4 {x1 x2 x3 x4 : Str} {p1 p2 p3 p4 : Pos} {v1 v2 v3 v4 : Value} {k : Loc → View → Prop} (h : k (setm (setm (setm (setm m x1 v1) x2 v2) x3 v3) x4 v4) V) (hk : C.env.scope.kind = .function := by rfl)
    (h1 : C.env.kindOf x1 = some .local := by rfl) (h2 : C.env.kindOf x2 = some .local := by rfl) (h3 : C.env.kindOf x3 = some .local := by rfl) (h4 : C.env.kindOf x4 = some .local := by rfl) :
    storeAll C ((assignEach [.Name x1 p1, .Name x2 p2, .Name x3 p3, .Name x4 p4] C.env).map (·.2)) [v1, v2, v3, v4] m V k := by
  refine WP.assignName (WP.store ?_ hk h1)
  refine WP.assignName (WP.store ?_ hk h2)
  refine WP.assignName (WP.store ?_ hk h3)
  exact WP.assignName (WP.store h hk h4)
theorem All2.snoc_inv {γ : Type} {R : γ → β → Prop} {a : γ} : ∀ {as : List γ} {bs : List β}, All2 R (as ++ [a]) bs → ∃ bs' b, bs = bs' ++ [b] ∧ All2 R as bs' ∧ R a b
  | [], _, h => by cases h with | cons h1 h2 => cases h2; exact ⟨[], _, rfl, .nil, h1⟩
  | _ :: as, _, h => by
    cases h with
    | cons h1 h2 =>
      refine fl0 (All2.snoc_inv h2) (xe2 fun bs' b => an3 ?_); rintro rfl h3 h4
      exact ⟨_ :: bs', b, rfl, .cons h1 h3, h4⟩
theorem Node.app {V : View} {Sp newS : List Spec} {sy : Sy} {p : Nat} {S : Spec} {u : Value} (x : Node V Sp sy p S u) : Node V (Sp ++ newS) sy p S u := by
  revert x; refine xe4 fun r tk wd val => an3 ?_; rintro rfl h1 h2
  refine ⟨r, tk, wd, val, rfl, h1, ?_⟩
  rcases h2 with h2 | ⟨pa, is, qs, Ss, e, q, a, b, c, d, f⟩
  · exact .inl h2
  · exact .inr ⟨pa, is, qs, Ss, e, q, a, b, c.imp fun q S' h => by rw [List.getElem?_append_left (List.getElem?_eq_some_iff.mp h).1]; exact h, d, f⟩
noncomputable abbrev bodyT : List Nat := [5, 9, 10, 11, 12, 13, 14, 20, 21, 22, 23, 24, 26, 28]
/-- the loop's state -/
noncomputable def BodyInv (prog : Program) (w : World) (V₀ : View) (s g t : Addr) (y : Sy) (S0 : Spec) (zE : Int) (size : Nat) (n : Nat) (V : View) : Prop :=
  ∃ sy z nds wts, ∃ pend : List Item, ∃ Sp : List Spec, n = sizI pend ∧ y.le sy ∧ Sg prog w V s sy ∧ GV V g z ∧ 0 ≤ z ∧ TS V t nds wts ∧ Sp.length = nds.length ∧ All2 (WaitIs V) (pend.reverse.map Item.wt) wts ∧ Chain z pend zE ∧
    (pend.map (·.1)).Nodup ∧ (∀ i ∈ pend, i.2.1.Wf sy ∧ htB i.2.1 ≤ 500 ∧ Sp[i.1]? = some i.spec) ∧
    (∀ (p : Nat) u S, nds[p]? = some u → Sp[p]? = some S → p ∉ pend.map (·.1) → Node V Sp sy p S u) ∧ Sp[0]? = some S0 ∧ nds.length + 3 * sizI pend ≤ pend.length + 3 * size ∧ Kp bodyT V₀ V
theorem len_sizI : ∀ l : List Item, l.length ≤ sizI l
  | [] => Nat.le_refl _
  | i :: r => by have := len_sizI r; have := szB_pos i.2.1; simp only [List.length_cons, sizI]; omega
theorem BodyInv.step {V₀ V1 V2 V3 : View} {s g t : Addr} {y sy : Sy} {S0 : Spec} {z zE : Int} {size : Nat} {nds ws0 : List Value} {it : Item} {rest : List Item} {Sp : List Spec} {v : Value}
    (hle : y.le sy) (hSp : Sp.length = nds.length) (hw : All2 (WaitIs V1) (rest.reverse.map Item.wt) ws0) (hch : Chain z (it :: rest) zE) (hnd : ((it :: rest).map (·.1)).Nodup)
    (hit : ∀ i ∈ it :: rest, i.2.1.Wf sy ∧ htB i.2.1 ≤ 500 ∧ Sp[i.1]? = some i.spec) (hN : ∀ (p : Nat) u S, nds[p]? = some u → Sp[p]? = some S → p ∉ (it :: rest).map (·.1) → Node V1 Sp sy p S u) (h0 : Sp[0]? = some S0)
    (hb : nds.length + 3 * sizI (it :: rest) ≤ (it :: rest).length + 3 * size) (k01 : Kp bodyT V₀ V1)
    (P : PartPost prog w V1 s g t nds ws0 sy it.2.1 it.2.2.1 it.2.2.2.1 it.2.2.2.2 v V2)
    (hset : ∀ nds' wts', TS V2 t nds' wts' → Kp [5] V2 V3 ∧ TS V3 t (nds'.set it.1 v) wts') : ∃ n', n' < sizI (it :: rest) ∧ BodyInv prog w V₀ s g t y S0 zE size n' V3 := by
  obtain ⟨sy', z1, newS, its, ns, ws, hle', hS, hG, hz1, hT, hnl, hws, hch', hsz, ⟨hnd', hits⟩, hnb, hnew, hmain, k12⟩ := P
  obtain ⟨k23, hT3⟩ := hset _ _ hT
  obtain ⟨hz, hch2⟩ := hch
  have hp0 := (hit it (.head _)).2.2
  have hplt : it.1 < nds.length := by rw [← hSp]; exact (List.getElem?_eq_some_iff.mp hp0).1
  have hrest : ∀ i ∈ rest, i.1 < nds.length := fun i hi => by rw [← hSp]; exact (List.getElem?_eq_some_iff.mp (hit i (.tail _ hi)).2.2).1
  have z13 : Fz V1 V3 := (k12.fz).trans k23.fz
  refine ⟨sizI (its ++ rest), by rw [sizI_app]; simp only [sizI]; omega, sy', z1, _, _, its ++ rest, Sp ++ newS, rfl, hle.trans hle', hS.kp k23, hG.kp k23, hz1, hT3, by simp [hSp, hnl], ?_, ?_, ?_, ?_, ?_, ?_, ?_, ?_⟩
  · rw [List.reverse_append, List.map_append]
    exact (hw.imp fun _ _ q => q.mono z13).append (hws.imp fun _ _ q => q.mono k23.fz)
  · rw [← hz] at hch2
    refine Chain.app hch' ?_
    rw [hz] at hch2 ⊢
    exact hch2
  · rw [List.map_append, List.nodup_append]
    rw [List.map_cons, List.nodup_cons] at hnd
    refine ⟨hnd', hnd.2, fun a ha b hb => ?_⟩
    refine fl0 (List.mem_map.mp ha) (xe1 fun i => an2 ?_); rintro hi rfl
    refine fl0 (List.mem_map.mp hb) (xe1 fun j => an2 ?_); rintro hj rfl
    obtain ⟨_, _, k, hk, _⟩ := hits i hi
    have := hrest j hj
    omega
  · intro i hi
    rcases List.mem_append.mp hi with hi | hi
    · obtain ⟨a, b, k, hk, c⟩ := hits i hi
      refine ⟨a, Nat.le_trans b (hit it (.head _)).2.1, ?_⟩
      rw [hk, ← hSp, List.getElem?_append_right (by walk_at "o"), Nat.add_sub_cancel_left]; exact c
    · refine fl0 (hit i (.tail _ hi)) (an3 ?_); rintro a b c
      exact ⟨a.mono hle', b, by rw [List.getElem?_append_left (List.getElem?_eq_some_iff.mp c).1]; exact c⟩
  · intro p u S hu hS' hnot
    have hnot1 : p ∉ its.map (·.1) := fun q => hnot (by rw [List.map_append]; exact List.mem_append.mpr (.inl q))
    have hnot2 : p ∉ rest.map (·.1) := fun q => hnot (by rw [List.map_append]; exact List.mem_append.mpr (.inr q))
    by_cases hp : p = it.1
    · subst hp
      rw [List.getElem?_set_self (by simp; omega)] at hu
      cases hu
      rw [List.getElem?_append_left (by walk_at "o"), hp0] at hS'
      cases hS'
      exact (hmain Sp it.1 hSp hplt).mono k23.fz .refl
    · rw [List.getElem?_set_ne (Ne.symm hp)] at hu
      by_cases hlt : p < nds.length
      · rw [List.getElem?_append_left hlt] at hu
        rw [List.getElem?_append_left (by walk_at "o")] at hS'
        refine ((hN p u S hu hS' fun q => ?_).mono z13 hle').app
        rcases List.mem_cons.mp q with q | q
        · exact hp q
        · exact hnot2 q
      · rw [List.getElem?_append_right (by walk_at "o")] at hu
        rw [List.getElem?_append_right (by walk_at "o"), hSp] at hS'
        have e : nds.length + (p - nds.length) = p := by omega
        have := hnew (p - nds.length) S u hS' hu (by rw [e]; exact hnot1) Sp hSp
        rw [e] at this
        exact this.mono k23.fz .refl
  · rw [List.getElem?_append_left (List.getElem?_eq_some_iff.mp h0).1]; exact h0
  · rw [sizI_app]
    simp only [sizI, List.length_cons] at hb
    simp only [List.length_append, List.length_set]
    omega
  · exact (k01.trans k12.weak).trans k23.weak

theorem grammar_body_fn (G : GX prog w b₀ K mg mb) {s g : Addr} {y : Sy} {b : B} {x1 x2 z : Int} {tv fv lv : Value} (hs : Sg prog w V s y) (h0 : sy0.le y) (hb : b.Wf y) (hh : htB b ≤ 500) (hsz : szB b ≤ 10000) (hd : D V b.enc tv) (hf : D V (.v x1) fv) (hl : D V (.v x2) lv) (hg : GV V g z) (hz : 0 ≤ z) :
    Fn prog w b₀ 8 V (.ref 362) [.ref s, tv, fv, lv, .ref g] fun v V' => ∃ gg y', y.le y' ∧ Sg prog w V' s y' ∧ GV V' g (advn (cnt b) z) ∧ D V' gg v ∧ Tr y' b x1 x2 (Iv z (advn (cnt b) z)) gg ∧ Kp bodyT V V' := by
  refine G.fnQ G.f_grammar_body (d := 7) fun L cdv hL => ?_
  intro C Q hQ
  repeat walk_at "w"
  refine nCallCls 28 G.X G.c_GrammarTree (d := 1) (post := fun t V' => ∃ V1, Kp [] V V1 ∧ (∃ u1 u2, TS V' t [u1] [u2] ∧ WaitIs V' (0, b.enc, x1, x2) u2) ∧ Kp [28] V1 V') (fun t dx V1 k1 h1 h2 => ?_) (by walk_at "dp") ?_
  · refine Fn.mono (tree_init_m G h1 h2 (hd.kp k1) (hf.kp k1) (hl.kp k1)) (Nat.le_refl _) ?_
    intro v V'; refine an3 ?_; rintro rfl h k
    exact ⟨rfl, V1, k1, h, k⟩
  rintro t V2 ⟨V1, k1, ⟨u1, u2, hT, hW⟩, k2⟩
  have k02 : Kp bodyT V V2 := (k1.weak).trans k2.weak
  have hS2 := (hs.kp k1).kp k2
  have hG2 : GV V2 g z := (hg.kp k1).kp k2
  clear k1 k2
  refine WP.execs_cons ?_
  refine WP.while (fun n m V' => m "symbols" = some (.ref s) ∧ m "new" = some (.ref g) ∧ m "tree" = some (.ref t) ∧ BodyInv prog w V s g t y (specOf b x1 x2 z) (advn (cnt b) z) (szB b) n V') (sizI [(0, b, x1, x2, z)])
    ⟨by walk_at "lk", by walk_at "lk", by walk_at "lk", y, z, _, _, [(0, b, x1, x2, z)], [specOf b x1 x2 z], rfl, .refl, hS2, hG2, hz, hT, rfl, .one hW, ⟨rfl, rfl⟩, by simp, fun i hi => ?_, fun p u S h1 h2 h3 => ?_, rfl, by simp only [sizI, List.length_cons, List.length_nil]; omega, k02⟩ ?_
  · rw [List.mem_singleton.mp hi]; exact ⟨hb, hh, rfl⟩
  · have : p < 1 := by simpa using (List.getElem?_eq_some_iff.mp h1).1
    exact absurd (by simp; omega) h3
  rintro n m V3 ⟨m1, m2, m3, sy, z', nds, wts, pend, Sp, rfl, hle, hS, hG, hz', hT3, hSp, hw, hch, hnd, hit, hN, hS0, hbd, k3⟩
  refine fl0 (id hT3) (xe3 fun td nl wl => an4 ?_); rintro t1 t2 t3 t4
  have hlp := len_sizI pend
  have hwl := hw.length
  rw [List.length_map, List.length_reverse] at hwl
  have hszp : sizI pend ≤ szB b + 0 ∨ True := .inr trivial
  repeat walk_at "w"
  have hwsz : wts.length ≤ 30000 := by
    have : 0 < nds.length := by rw [← hSp]; exact (List.getElem?_eq_some_iff.mp hS0).1
    omega
  have hnsz : nds.length ≤ 60000 := by omega
  refine WP.truthy_list t4 (by walk_at "o") ?_
  cases pend with
  | nil =>
    have : wts = [] := List.eq_nil_of_length_eq_zero hwl.symm
    subst this
    refine ifF (by simp) ?_
    cases hch
    repeat walk_at "w"
    refine WP.call (goal_m G hT3 hSp hS0 (by walk_at "o") fun p u S a b => hN p u S a b (by simp)) (by walk_at "dp") ?_
    rintro v V4 ⟨gg, hd4, hp4, k4⟩
    repeat walk_at "w"
    exact hQ _ _ _ ⟨_, .refl, gg, sy, hle, hS.kp k4, hG.kp k4, hd4, hp4, k3.trans k4.weak⟩
  | cons it rest =>
    rw [List.reverse_cons, List.map_append] at hw
    obtain ⟨ws0, u, rfl, hw0, hu⟩ := hw.snoc_inv
    obtain ⟨ua, utk, utv, ufv, ulv, rfl, hua, hd1, hd2, hd3⟩ := hu
    refine ifT (by simp) ?_
    refine WP.execs_cons ?_
    refine WP.assign_tuple ?_
    repeat walk_at "w"
    refine nPop t4 (by simp at hwsz; omega) fun V4 k4 h4 => ?_
    refine ⟨ua, _, rfl, k4.get hua, rfl, store4 ?_⟩
    have hT4 : TS V4 t nds ws0 := ⟨td, nl, wl, k4.get t1, k4.get t2, k4.get t3, h4⟩
    have hz0 : it.2.2.2.2 = z' := hch.1
    have hG4 : GV V4 g it.2.2.2.2 := by rw [hz0]; exact hG.kp k4
    have hI := hit it (.head _)
    repeat walk_at "w"
    refine WP.call (grammar_part_fn G (hS.kp k4) (h0.trans hle) hI.1 hI.2.1 (show D V4 it.2.1.enc utv from hd1.kp k4) (hd2.kp k4) (hd3.kp k4) hG4 (by rw [hz0]; exact hz') hT4 (by simp at hwsz; omega)) (by walk_at "dp") ?_
    rintro v V5 P
    have P' := P
    obtain ⟨_, _, _, _, ns, ws, _, _, _, _, hT5, _, _, _, _, _, _, _, _, k5⟩ := P'
    obtain ⟨td5, nl5, wl5, s1, s2, s3, s4⟩ := id hT5
    have hplt : it.1 < nds.length := by rw [← hSp]; exact (List.getElem?_eq_some_iff.mp hI.2.2).1
    have e1 : V5 t = some (.inst 351 td) := k5.get (k4.get t1)
    have e2 : V5 td = some (.att 28 [("nodes", .ref nl), ("waiting", .ref wl)]) := k5.get (k4.get t2)
    rw [e1] at s1; cases s1
    rw [e2] at s2; cases s2
    repeat walk_at "w"
    refine nSetList s3 (by simp [Item.wt]) (by simp only [Item.wt]; omega) (by simp [Item.wt]; omega) fun V6 k6 h6 => ?_
    have e : ((it.wt).1 : Int).toNat = it.1 := rfl
    rw [e] at h6
    repeat walk_at "w"
    obtain ⟨n', hn', hinv⟩ := BodyInv.step (V1 := V4) (V3 := V6) hle hSp (hw0.imp fun _ _ q => q.mono k4.fz) hch hnd hit (fun p u S a b c => (hN p u S a b c).mono k4.fz .refl) hS0 hbd (k3.trans k4.weak) P fun nds' wts' hT' => by
      revert hT'; refine xe3 fun td6 nl6 wl6 => an4 ?_; rintro r1 r2 r3 r4
      rw [e1] at r1; cases r1
      rw [e2] at r2; cases r2
      rw [s3] at r3; cases r3
      exact ⟨k6, td, nl, wl, k6.get e1, k6.get e2, h6, k6.get r4⟩
    exact ⟨n', hn', by walk_at "lk", by walk_at "lk", by walk_at "lk", hinv⟩

inductive LI where
  | known (n : Int) | pos (k : Nat) | atom (n : Int) | fn (f : Int) (k : Nat) | fin
deriving DecidableEq
noncomputable abbrev NM := List (Int × LI)
noncomputable def look (N : NM) (n : Int) : Option LI := (N.find? fun p => p.1 = n).map (·.2)
noncomputable def pushL (st : NM × List LI) (i : LI) : NM × List LI := (st.1, st.2 ++ [i])
noncomputable def lineV (n : Int) (st : NM × List LI) : NM × List LI := match look st.1 n with
  | some z => pushL st z
  | none => (st.1 ++ [(n, .pos st.2.length)], st.2 ++ [.pos st.2.length])
noncomputable def lineF : T → NM × List LI → NM × List LI
  | .v n, st => lineV n st
  | .a n, st => pushL st (.atom n)
  | .s1 f p, st => pushL (lineF p (pushL st (.fn f 1))) .fin
  | .s2 f p q, st => if f = 1 then lineF q (lineF p st) else pushL (lineF q (pushL (lineF p (pushL st (.fn f 2))) .fin)) .fin
  | .s3 f p q r, st => pushL (lineF r (pushL (lineF q (pushL (lineF p (pushL st (.fn f 3))) .fin)) .fin)) .fin
theorem look_snoc {N : NM} {n k : Int} {z : LI} (h : look N n = none) : look (N ++ [(n, z)]) k = if k = n then some z else look N k := by
  unfold look at *
  rw [List.find?_append]
  by_cases hk : k = n
  · subst hk
    rw [Option.map_eq_none_iff] at h
    rw [h, if_pos rfl]
    simp
  · rw [if_neg hk]
    have : List.find? (fun p => decide (p.1 = k)) [(n, z)] = none := by simp; exact fun e => hk e.symm
    rw [this]; simp
theorem lineV_some {n : Int} {st : NM × List LI} {z : LI} (h : look st.1 n = some z) : lineV n st = pushL st z := by unfold lineV; rw [h]
noncomputable def nameIt (o : Option LI) (l : List LI) : LI := o.getD (.pos l.length)
theorem lineV_any (n : Int) (N : NM) (l : List LI) : ∃ N', lineV n (N, l) = (N', l ++ [nameIt (look N n) l]) ∧ look N' n = some (nameIt (look N n) l) ∧ (∀ k v, look N k = some v → look N' k = some v) ∧ ∀ k, k ≠ n → look N' k = look N k := by
  cases h : look N n with
  | some z => exact ⟨N, by rw [lineV_some (st := (N, l)) h]; rfl, h, fun _ _ e => e, fun _ _ => rfl⟩
  | none =>
    refine ⟨N ++ [(n, .pos l.length)], by unfold lineV; simp only [h]; rfl, by rw [look_snoc h, if_pos rfl]; rfl, fun k v e => ?_, fun k hk => by rw [look_snoc h, if_neg hk]⟩
    rw [look_snoc h, if_neg (by rintro rfl; rw [h] at e; cases e)]; exact e
structure Num where
  num : Int × Int → Int
  ph : Int
noncomputable def eqC (l : List LI) (nx : LI) (oy : Option LI) : List LI × LI :=
  let l1 := l ++ [.fn 10 2] ++ [nx] ++ [.fin]
  (l1 ++ [nameIt oy l1] ++ [.fin], nameIt oy l1)
noncomputable def CL (U : Num) : Lf → List LI → LI → Option LI → List LI × LI
  | .nt0 n, l, nx, oy => let l1 := l ++ [.fn (U.num (n, 2)) 2] ++ [nx] ++ [.fin]; (l1 ++ [nameIt oy l1] ++ [.fin], nameIt oy l1)
  | .lst k t, l, nx, oy => let l1 := l ++ [.fn 10 2] ++ [nx] ++ [.fin] ++ [.fn 0 2] ++ [.known k] ++ [.fin] ++ [.fn 0 2] ++ [.atom t] ++ [.fin]; (l1 ++ [nameIt oy l1] ++ [.fin] ++ [.fin] ++ [.fin], nameIt oy l1)
  | .cut, l, nx, oy => eqC (l ++ [.atom 15]) nx oy
  | .curly f k, l, nx, oy => eqC (l ++ [.fn f 1] ++ [.known k] ++ [.fin]) nx oy
  | .var k, l, nx, oy => let l1 := l ++ [.fn U.ph 3] ++ [.known k] ++ [.fin] ++ [nx] ++ [.fin]; (l1 ++ [nameIt oy l1] ++ [.fin], nameIt oy l1)
  | .nil, l, nx, oy => eqC l nx oy
  | .nt1 _ p k, l, nx, oy => let l1 := l ++ [.fn (U.num (p, 3)) 3] ++ [.known k] ++ [.fin] ++ [nx] ++ [.fin]; (l1 ++ [nameIt oy l1] ++ [.fin], nameIt oy l1)
noncomputable def CB (U : Num) : B → List LI → LI → Option LI → List LI × LI
  | .lf e, l, nx, oy => CL U e l nx oy
  | .sq a b, l, nx, oy => CB U b (CB U a l nx none).1 (CB U a l nx none).2 oy
  | .or _ a b, l, nx, oy => ((CB U b ((CB U a (l ++ [.fn 2 2]) nx oy).1 ++ [.fin]) nx (some (CB U a (l ++ [.fn 2 2]) nx oy).2)).1 ++ [.fin], (CB U a (l ++ [.fn 2 2]) nx oy).2)
  | .th a b, l, nx, oy => ((CB U b ((CB U a (l ++ [.fn 3 2]) nx none).1 ++ [.fin]) (CB U a (l ++ [.fn 3 2]) nx none).2 oy).1 ++ [.fin], (CB U b ((CB U a (l ++ [.fn 3 2]) nx none).1 ++ [.fin]) (CB U a (l ++ [.fn 3 2]) nx none).2 oy).2)
  | .nt a, l, nx, oy => eqC ((CB U a (l ++ [.fn 4 1]) nx none).1 ++ [.fin]) nx oy
/-- what a line does to the names -/
structure Says (g : T) (P : Int → Prop) (y : Int) (N : NM) (l : List LI) (r : List LI × LI) : Prop where
  ex : ∃ N', lineF g (N, l) = (N', r.1) ∧ look N' y = some r.2 ∧ (∀ k v, look N k = some v → look N' k = some v) ∧ ∀ k, ¬ P k → k ≠ y → look N' k = look N k
structure Fit (U : Num) (sy : Sy) : Prop where
  num : ∀ f p, sy.has f p → U.num p = f
  ph : ∀ f, sy.hasP f → U.ph = f
theorem eq_says {x y : Int} {P : Int → Prop} {N : NM} {l : List LI} {nx : LI} (hx : look N x = some nx) : Says (eqT x y) P y N l (eqC l nx (look N y)) := by
  refine fl0 (lineV_any y N (l ++ [.fn 10 2] ++ [nx] ++ [.fin])) (xe1 fun N' => an4 ?_); rintro e1 e2 e3 e4
  refine ⟨N', ?_, e2, e3, fun k _ h => e4 k h⟩
  show (if (10 : Int) = 1 then _ else _) = _
  rw [if_neg (by decide)]
  show pushL (lineV y (pushL (lineV x (pushL (N, l) (.fn 10 2))) .fin)) .fin = _
  rw [lineV_some (st := pushL (N, l) (.fn 10 2)) hx]
  show pushL (lineV y (N, l ++ [.fn 10 2] ++ [nx] ++ [.fin])) .fin = _
  rw [e1]; rfl
theorem leaf_says {U : Num} {sy : Sy} (hU : Fit U sy) (h0 : sy0.le sy) {e : Lf} (hw : e.Wf sy) {x y : Int} {P : Int → Prop} {g : T} (ht : TrL sy e x y g) {N : NM} {l : List LI} {nx : LI} (hx : look N x = some nx) (hk : ∀ k, 0 ≤ k → k < 4 → look N k = some (.known k)) :
    Says g P y N l (CL U e l nx (look N y)) := by
  cases e with
  | nt0 n =>
    revert ht; refine xe1 fun f => an2 ?_; rintro hf rfl
    have h1 : f ≠ 1 := hf.ne h0 sy0_fns.1 (by have := hw.1; simp; omega)
    refine fl0 (lineV_any y N (l ++ [.fn f 2] ++ [nx] ++ [.fin])) (xe1 fun N' => an4 ?_); rintro e1 e2 e3 e4
    rw [show CL U (.nt0 n) l nx (look N y) = ((l ++ [.fn f 2] ++ [nx] ++ [.fin]) ++ [nameIt (look N y) (l ++ [.fn f 2] ++ [nx] ++ [.fin])] ++ [.fin], nameIt (look N y) (l ++ [.fn f 2] ++ [nx] ++ [.fin])) by simp only [CL]; rw [hU.num _ _ hf]]
    refine ⟨N', ?_, e2, e3, fun k _ h => e4 k h⟩
    show (if f = 1 then _ else _) = _
    rw [if_neg h1]
    show pushL (lineV y (pushL (lineV x (pushL (N, l) (.fn f 2))) .fin)) .fin = _
    rw [lineV_some (st := pushL (N, l) (.fn f 2)) hx]
    show pushL (lineV y (N, l ++ [.fn f 2] ++ [nx] ++ [.fin])) .fin = _
    rw [e1]; rfl
  | lst k t =>
    subst ht
    have hkk := hk k hw.1 hw.2
    obtain ⟨N', e1, e2, e3, e4⟩ := lineV_any y N (l ++ [.fn 10 2] ++ [nx] ++ [.fin] ++ [.fn 0 2] ++ [.known k] ++ [.fin] ++ [.fn 0 2] ++ [.atom t] ++ [.fin])
    refine ⟨N', ?_, e2, e3, fun k _ h => e4 k h⟩
    show (if (10 : Int) = 1 then _ else pushL (if (0 : Int) = 1 then _ else pushL (if (0 : Int) = 1 then _ else _) _) _) = _
    rw [if_neg (by decide), if_neg (by decide), if_neg (by decide)]
    show pushL (pushL (pushL (lineV y (pushL (pushL (pushL (pushL (lineV k (pushL (pushL (lineV x (pushL (N, l) (.fn 10 2))) .fin) (.fn 0 2))) .fin) (.fn 0 2)) (.atom t)) .fin)) .fin) .fin) .fin = _
    rw [lineV_some (st := pushL (N, l) (.fn 10 2)) hx]
    rw [lineV_some (n := k) (z := .known k) (by exact hkk)]
    show pushL (pushL (pushL (lineV y (N, l ++ [.fn 10 2] ++ [nx] ++ [.fin] ++ [.fn 0 2] ++ [.known k] ++ [.fin] ++ [.fn 0 2] ++ [.atom t] ++ [.fin])) .fin) .fin) .fin = _
    rw [e1]; rfl
  | cut =>
    subst ht
    obtain ⟨N', e1, e2⟩ := (eq_says (P := P) (x := x) (y := y) (l := l ++ [.atom 15]) hx).ex
    exact ⟨N', by show (if (1 : Int) = 1 then _ else _) = _; rw [if_pos rfl]; exact e1, e2⟩
  | curly f k =>
    subst ht
    have hkk := hk k hw.1 hw.2
    obtain ⟨N', e1, e2⟩ := (eq_says (P := P) (x := x) (y := y) (l := l ++ [.fn f 1] ++ [.known k] ++ [.fin]) hx).ex
    refine ⟨N', ?_, e2⟩
    show (if (1 : Int) = 1 then _ else _) = _
    rw [if_pos rfl]
    show lineF (eqT x y) (pushL (lineV k (pushL (N, l) (.fn f 1))) .fin) = _
    rw [lineV_some (n := k) (z := .known k) (by exact hkk)]
    exact e1
  | var k =>
    revert ht; refine xe1 fun f => an2 ?_; rintro hf rfl
    have hkk := hk k hw.1 hw.2
    have e0 := hU.ph _ hf
    subst e0
    refine fl0 (lineV_any y N (l ++ [.fn U.ph 3] ++ [.known k] ++ [.fin] ++ [nx] ++ [.fin])) (xe1 fun N' => an4 ?_); rintro e1 e2 e3 e4
    refine ⟨N', ?_, e2, e3, fun k _ h => e4 k h⟩
    show pushL (lineV y (pushL (lineV x (pushL (lineV k (pushL (N, l) (.fn U.ph 3))) .fin)) .fin)) .fin = _
    rw [lineV_some (n := k) (z := .known k) (by exact hkk), lineV_some (n := x) (z := nx) (by exact hx)]
    show pushL (lineV y (N, l ++ [.fn U.ph 3] ++ [.known k] ++ [.fin] ++ [nx] ++ [.fin])) .fin = _
    rw [e1]; rfl
  | nil => subst ht; exact eq_says hx
  | nt1 f p k =>
    revert ht; refine xe1 fun f' => an2 ?_; rintro hf rfl
    have hkk := hk k hw.2.2.1 hw.2.2.2.1
    have e0 := hU.num _ _ hf
    subst e0
    refine fl0 (lineV_any y N (l ++ [.fn (U.num (p, 3)) 3] ++ [.known k] ++ [.fin] ++ [nx] ++ [.fin])) (xe1 fun N' => an4 ?_); rintro e1 e2 e3 e4
    refine ⟨N', ?_, e2, e3, fun k _ h => e4 k h⟩
    show pushL (lineV y (pushL (lineV x (pushL (lineV k (pushL (N, l) (.fn (U.num (p, 3)) 3))) .fin)) .fin)) .fin = _
    rw [lineV_some (n := k) (z := .known k) (by exact hkk), lineV_some (n := x) (z := nx) (by exact hx)]
    show pushL (lineV y (N, l ++ [.fn (U.num (p, 3)) 3] ++ [.known k] ++ [.fin] ++ [nx] ++ [.fin])) .fin = _
    rw [e1]; rfl

theorem lineF_comma {p q : T} {st : NM × List LI} : lineF (.s2 1 p q) st = lineF q (lineF p st) := by rw [lineF, if_pos rfl]
theorem lineF_s2 {f : Int} {p q : T} {st : NM × List LI} (h : f ≠ 1) : lineF (.s2 f p q) st = pushL (lineF q (pushL (lineF p (pushL st (.fn f 2))) .fin)) .fin := by rw [lineF, if_neg h]
theorem lineF_s1 {f : Int} {p : T} {st : NM × List LI} : lineF (.s1 f p) st = pushL (lineF p (pushL st (.fn f 1))) .fin := by rw [lineF]
theorem pushL_mk {N : NM} {l : List LI} {i : LI} : pushL (N, l) i = (N, l ++ [i]) := rfl
theorem body_says {U : Num} {sy : Sy} (hU : Fit U sy) (h0 : sy0.le sy) (b : B) : ∀ {x y : Int} {P : Int → Prop} {g : T} (_ : Tr sy b x y P g) (_ : b.Wf sy) {N : NM} {l : List LI} {nx : LI} (_ : look N x = some nx) (_ : ∀ k, P k → look N k = none) (_ : ¬ P y) (_ : ∀ k, 0 ≤ k → k < 4 → look N k = some (.known k)),
    Says g P y N l (CB U b l nx (look N y)) := by
  induction b with
  | lf e => intro x y P g ht hw N l nx hx hP hy hk; exact leaf_says hU h0 hw ht hx hk
  | sq a b iha ihb =>
    intro x y P g ht hw N l nx hx hP hy hk
    revert ht; refine xe5 fun m Pa Pb ga gb => an9 ?_; rintro h1 h2 h3 h4 h5 h6 h7 h8 e
    subst e
    have hm : look N m = none := hP m h1
    have hym : y ≠ m := by rintro rfl; exact hy h1
    refine fl0 ((iha h7 hw.1 (l := l) hx (fun k q => hP k (h2 k q)) h4 hk).ex) (xe1 fun N1 => an4 ?_); rintro e1 e2 e3 e4
    rw [hm] at e1 e2
    have hy1 : look N1 y = look N y := e4 y (fun q => hy (h2 y q)) hym
    refine fl0 ((ihb h8 hw.2 (N := N1) (l := (CB U a l nx none).1) e2 (fun k q => by rw [e4 k (fun q' => h6 k q' q) (by rintro rfl; exact h5 q)]; exact hP k (h3 k q)) (fun q => hy (h3 y q)) (fun k a b => e3 _ _ (hk k a b))).ex) (xe1 fun N2 => an4 ?_); rintro f1 f2 f3 f4
    rw [hy1] at f1 f2
    refine ⟨N2, ?_, f2, fun k v q => f3 k v (e3 k v q), fun k q q' => ?_⟩
    · rw [lineF_comma, e1, f1]; rfl
    · rw [f4 k (fun z => q (h3 k z)) q', e4 k (fun z => q (h2 k z)) (by rintro rfl; exact q h1)]
  | or f a b iha ihb =>
    intro x y P g ht hw N l nx hx hP hy hk
    revert ht; refine xe4 fun Pa Pb ga gb => an6 ?_; rintro h2 h3 h6 h7 h8 e
    subst e
    refine fl0 ((iha h7 hw.2.1 (l := l ++ [.fn 2 2]) hx (fun k q => hP k (h2 k q)) (fun q => hy (h2 y q)) hk).ex) (xe1 fun N1 => an4 ?_); rintro e1 e2 e3 e4
    refine fl0 ((ihb h8 hw.2.2 (N := N1) (l := (CB U a (l ++ [.fn 2 2]) nx (look N y)).1 ++ [.fin]) (e3 _ _ hx) (fun k q => by rw [e4 k (fun q' => h6 k q' q) (by rintro rfl; exact hy (h3 _ q))]; exact hP k (h3 k q)) (fun q => hy (h3 y q)) (fun k a b => e3 _ _ (hk k a b))).ex) (xe1 fun N2 => an4 ?_); rintro f1 f2 f3 f4
    rw [e2] at f1
    refine ⟨N2, ?_, f3 _ _ e2, fun k v q => f3 k v (e3 k v q), fun k q q' => ?_⟩
    · rw [lineF_s2 (by decide), pushL_mk (N := N) (l := l), e1, pushL_mk (N := N1), f1]; rfl
    · rw [f4 k (fun z => q (h3 k z)) q', e4 k (fun z => q (h2 k z)) q']
  | th a b iha ihb =>
    intro x y P g ht hw N l nx hx hP hy hk
    revert ht; refine xe5 fun m Pa Pb ga gb => an9 ?_; rintro h1 h2 h3 h4 h5 h6 h7 h8 e
    subst e
    have hm : look N m = none := hP m h1
    have hym : y ≠ m := by rintro rfl; exact hy h1
    refine fl0 ((iha h7 hw.1 (l := l ++ [.fn 3 2]) hx (fun k q => hP k (h2 k q)) h4 hk).ex) (xe1 fun N1 => an4 ?_); rintro e1 e2 e3 e4
    rw [hm] at e1 e2
    have hy1 : look N1 y = look N y := e4 y (fun q => hy (h2 y q)) hym
    refine fl0 ((ihb h8 hw.2 (N := N1) (l := (CB U a (l ++ [.fn 3 2]) nx none).1 ++ [.fin]) e2 (fun k q => by rw [e4 k (fun q' => h6 k q' q) (by rintro rfl; exact h5 q)]; exact hP k (h3 k q)) (fun q => hy (h3 y q)) (fun k a b => e3 _ _ (hk k a b))).ex) (xe1 fun N2 => an4 ?_); rintro f1 f2 f3 f4
    rw [hy1] at f1 f2
    refine ⟨N2, ?_, f2, fun k v q => f3 k v (e3 k v q), fun k q q' => ?_⟩
    · rw [lineF_s2 (by decide), pushL_mk (N := N) (l := l), e1, pushL_mk (N := N1), f1]; rfl
    · rw [f4 k (fun z => q (h3 k z)) q', e4 k (fun z => q (h2 k z)) (by rintro rfl; exact q h1)]
  | nt a iha =>
    intro x y P g ht hw N l nx hx hP hy hk
    revert ht; refine xe3 fun m Pa ga => an5 ?_; rintro h1 h2 h4 h7 e
    subst e
    have hm : look N m = none := hP m h1
    have hym : y ≠ m := by rintro rfl; exact hy h1
    have hw' : a.Wf sy := hw
    refine fl0 ((iha h7 hw' (l := l ++ [.fn 4 1]) hx (fun k q => hP k (h2 k q)) h4 hk).ex) (xe1 fun N1 => an4 ?_); rintro e1 e2 e3 e4
    rw [hm] at e1 e2
    have hy1 : look N1 y = look N y := e4 y (fun q => hy (h2 y q)) hym
    refine fl0 ((eq_says (P := P) (x := x) (y := y) (N := N1) (l := (CB U a (l ++ [.fn 4 1]) nx none).1 ++ [.fin]) (e3 _ _ hx)).ex) (xe1 fun N2 => an4 ?_); rintro f1 f2 f3 f4
    rw [hy1] at f1 f2
    refine ⟨N2, ?_, f2, fun k v q => f3 k v (e3 k v q), fun k q q' => ?_⟩
    · rw [lineF_comma, lineF_s1, pushL_mk (N := N) (l := l), e1, pushL_mk (N := N1), f1]; rfl
    · rw [f4 k q q', e4 k (fun z => q (h2 k z)) (by rintro rfl; exact q h1)]
noncomputable def Eqv (a b : B) : Prop := (∀ U l nx oy, CB U a l nx oy = CB U b l nx oy) ∧ cnt a = cnt b
theorem Eqv.refl {a : B} : Eqv a a := ⟨fun _ _ _ _ => rfl, rfl⟩
theorem Eqv.trans {a b c : B} (h : Eqv a b) (k : Eqv b c) : Eqv a c := ⟨fun U l nx oy => (h.1 U l nx oy).trans (k.1 U l nx oy), h.2.trans k.2⟩
theorem Eqv.symm {a b : B} (h : Eqv a b) : Eqv b a := ⟨fun U l nx oy => (h.1 U l nx oy).symm, h.2.symm⟩
theorem Eqv.sq {a a' b b' : B} (h : Eqv a a') (k : Eqv b b') : Eqv (.sq a b) (.sq a' b') := ⟨fun U l nx oy => by simp only [CB, h.1, k.1], by simp only [cnt, h.2, k.2]⟩
theorem Eqv.or {a a' b b' : B} {f f' : Int} (h : Eqv a a') (k : Eqv b b') : Eqv (.or f a b) (.or f' a' b') := ⟨fun U l nx oy => by simp only [CB, h.1, k.1], by simp only [cnt, h.2, k.2]⟩
theorem Eqv.th {a a' b b' : B} (h : Eqv a a') (k : Eqv b b') : Eqv (.th a b) (.th a' b') := ⟨fun U l nx oy => by simp only [CB, h.1, k.1], by simp only [cnt, h.2, k.2]⟩
theorem Eqv.nt {a a' : B} (h : Eqv a a') : Eqv (.nt a) (.nt a') := ⟨fun U l nx oy => by simp only [CB, h.1], by simp only [cnt, h.2]⟩
theorem Eqv.assoc {a b c : B} : Eqv (.sq (.sq a b) c) (.sq a (.sq b c)) := ⟨fun U l nx oy => rfl, by simp only [cnt]; omega⟩
noncomputable def wtT : T → Nat
  | .v _ => 1 | .a _ => 1 | .s1 _ p => wtT p + 2 | .s2 _ p q => wtT p + wtT q + 3 | .s3 _ p q r => wtT p + wtT q + wtT r + 4
theorem tr_size {sy : Sy} : ∀ {b : B} {x y : Int} {P : Int → Prop} {g : T}, Tr sy b x y P g → wtT g ≤ 13 * szB b ∧ htT g ≤ 3 * htB b
  | .lf e, x, y, P, g, h => by
    cases e with
    | nt0 n => obtain ⟨f, _, rfl⟩ := h; simp [wtT, htT, szB, htB]
    | lst k t => cases h; simp [wtT, htT, szB, htB, consT]
    | cut => cases h; simp [wtT, htT, szB, htB, eqT]
    | curly f k => cases h; simp [wtT, htT, szB, htB, eqT]
    | var k => obtain ⟨f, _, rfl⟩ := h; simp [wtT, htT, szB, htB]
    | nil => cases h; simp [wtT, htT, szB, htB, eqT]
    | nt1 f p k => obtain ⟨f, _, rfl⟩ := h; simp [wtT, htT, szB, htB]
  | .sq a b, x, y, P, g, hh0 => by
    revert hh0; refine xe5 fun m Pa Pb ga gb => an9 ?_; rintro h1 h2 h3 h4 h5 h6 h7 h8 e
    subst e
    have i := tr_size h7; have j := tr_size h8
    simp only [wtT, htT, szB, htB]; omega
  | .or f a b, x, y, P, g, hh0 => by
    revert hh0; refine xe4 fun Pa Pb ga gb => an6 ?_; rintro h2 h3 h6 h7 h8 e
    subst e
    have i := tr_size h7; have j := tr_size h8
    simp only [wtT, htT, szB, htB]; omega
  | .th a b, x, y, P, g, hh0 => by
    revert hh0; refine xe5 fun m Pa Pb ga gb => an9 ?_; rintro h1 h2 h3 h4 h5 h6 h7 h8 e
    subst e
    have i := tr_size h7; have j := tr_size h8
    simp only [wtT, htT, szB, htB]; omega
  | .nt a, x, y, P, g, hh0 => by
    revert hh0; refine xe3 fun m Pa ga => an5 ?_; rintro h1 h2 h4 h7 e
    subst e
    have i := tr_size h7
    simp only [wtT, htT, szB, htB, eqT]; omega
theorem lineV_len (n : Int) (st : NM × List LI) : (lineV n st).2.length ≤ st.2.length + 1 ∧ (lineV n st).1.length ≤ st.1.length + 1 := by
  unfold lineV
  split
  · simp [pushL]
  · simp
theorem lineF_len : ∀ (g : T) (st : NM × List LI), (lineF g st).2.length ≤ st.2.length + wtT g ∧ (lineF g st).1.length ≤ st.1.length + wtT g
  | .v n, st => lineV_len n st
  | .a n, st => by simp [lineF, pushL, wtT]
  | .s1 f p, st => by
    have := lineF_len p (pushL st (.fn f 1))
    simp only [lineF, pushL, wtT, List.length_append, List.length_cons, List.length_nil] at *; omega
  | .s2 f p q, st => by
    unfold lineF
    split
    · have := lineF_len p st
      have := lineF_len q (lineF p st)
      simp only [wtT]; omega
    · have := lineF_len p (pushL st (.fn f 2))
      have := lineF_len q (pushL (lineF p (pushL st (.fn f 2))) .fin)
      simp only [pushL, wtT, List.length_append, List.length_cons, List.length_nil] at *; omega
  | .s3 f p q r, st => by
    have := lineF_len p (pushL st (.fn f 3))
    have := lineF_len q (pushL (lineF p (pushL st (.fn f 3))) .fin)
    have := lineF_len r (pushL (lineF q (pushL (lineF p (pushL st (.fn f 3))) .fin)) .fin)
    simp only [lineF, pushL, wtT, List.length_append, List.length_cons, List.length_nil] at *; omega
theorem sz_ht : ∀ b : B, szB b < 2 ^ htB b
  | .lf _ => by simp [szB, htB]
  | .sq a b => two (sz_ht a) (sz_ht b)
  | .or _ a b => two (sz_ht a) (sz_ht b)
  | .th a b => two (sz_ht a) (sz_ht b)
  | .nt a => by
    have := sz_ht a
    simp only [szB, htB, Nat.pow_succ]; omega
where
  two {m n i j : Nat} (h : m < 2 ^ i) (k : n < 2 ^ j) : m + n + 1 < 2 ^ (max i j + 1) := by
    have h1 : 2 ^ i ≤ 2 ^ max i j := Nat.pow_le_pow_right (by decide) (by omega)
    have h2 : 2 ^ j ≤ 2 ^ max i j := Nat.pow_le_pow_right (by decide) (by omega)
    rw [Nat.pow_succ]; omega

noncomputable def LV (V : View) : LI → Value → Prop
  | .known n, u => ∃ a t1 t2, u = .ref a ∧ V a = some (.tup [.str "known" t1, .int n t2])
  | .pos k, u => ∃ tk, u = .int k tk
  | .atom n, u => ∃ a t1 t2, u = .ref a ∧ V a = some (.tup [.str "a" t1, .int n t2])
  | .fn f k, u => ∃ a t1 t2, u = .ref a ∧ V a = some (.tup [.int f t1, .int k t2])
  | .fin, u => ∃ tk, u = .str "end" tk
theorem LV.mono {V V' : View} (h : Fz V V') : ∀ {i : LI} {u : Value}, LV V i u → LV V' i u
  | .known _, _, hh0 => by obtain ⟨a, t1, t2, e, q⟩ := hh0; exact ⟨a, t1, t2, e, h.tup q⟩
  | .pos _, _, x => x
  | .atom _, _, hh0 => by obtain ⟨a, t1, t2, e, q⟩ := hh0; exact ⟨a, t1, t2, e, h.tup q⟩
  | .fn _ _, _, hh0 => by obtain ⟨a, t1, t2, e, q⟩ := hh0; exact ⟨a, t1, t2, e, h.tup q⟩
  | .fin, _, x => x
noncomputable def NmS (prog : Program) (w : World) (V : View) (nm : Addr) (N : NM) : Prop := ∃ kvs, V nm = some (IsD (intKind prog w) 7 kvs) ∧ All2 (fun (p : Int × LI) (q : Int × Value) => q.1 = p.1 ∧ LV V p.2 q.2) N kvs
noncomputable def LnS (V : View) (ln : Addr) (l : List LI) : Prop := ∃ vs, V ln = some (.lst 6 vs) ∧ All2 (LV V) l vs
theorem NmS.kp {T V V' nm N} (k : Kp T V V') (h : NmS prog w V nm N) (s : T.contains 0 = false := by rfl) (s' : T.contains 7 = false := by rfl) : NmS prog w V' nm N := by
  refine fl0 (id h) (xe1 fun kvs => an2 ?_); rintro a b; exact ⟨kvs, k.get a s', b.imp fun _ _ x => ⟨x.1, x.2.mono (k.fz s)⟩⟩
theorem LnS.kp {T V V' ln l} (k : Kp T V V') (h : LnS V ln l) (s : T.contains 0 = false := by rfl) (s' : T.contains 6 = false := by rfl) : LnS V' ln l := by
  refine fl0 (id h) (xe1 fun vs => an2 ?_); rintro a b; exact ⟨vs, k.get a s', b.imp fun _ _ x => x.mono (k.fz s)⟩
theorem look_at {V : View} {N : NM} {kvs : List (Int × Value)} (h : All2 (fun (p : Int × LI) (q : Int × Value) => q.1 = p.1 ∧ LV V p.2 q.2) N kvs) (n : Int) :
    (look N n = none ∧ valueAt kvs n = none) ∨ ∃ z v, look N n = some z ∧ valueAt kvs n = some v ∧ LV V z v := by
  induction h with
  | nil => exact .inl ⟨rfl, rfl⟩
  | @cons p q N kvs h1 _ ih =>
    by_cases hp : p.1 = n
    · refine .inr ⟨p.2, q.2, ?_, ?_, h1.2⟩
      · simp [look, List.find?_cons, hp]
      · simp [valueAt, List.find?_cons, h1.1, hp]
    · have e1 : look (p :: N) n = look N n := by simp [look, List.find?_cons, hp]
      have e2 : valueAt (q :: kvs) n = valueAt kvs n := by simp [valueAt, List.find?_cons, h1.1, hp]
      rw [e1, e2]; exact ih
noncomputable def LineFn (prog : Program) (w : World) (b₀ : Heap) (t : T) : Prop := ∀ (V : View) (tv : Value) (nm ln : Addr) (N : NM) (l : List LI), D V t tv → NmS prog w V nm N → LnS V ln l → N.length + l.length + 2 * wtT t ≤ 900000 →
  Fn prog w b₀ (htT t + 1) V (.ref 414) [tv, .ref nm, .ref ln] fun _ V' => Kp [6, 7] V V' ∧ NmS prog w V' nm (lineF t (N, l)).1 ∧ LnS V' ln (lineF t (N, l)).2
noncomputable def lineEnd (as : List T) (st : NM × List LI) : NM × List LI := as.foldl (fun st a => pushL (lineF a st) .fin) st
theorem lineEnd_len : ∀ (as : List T) (st : NM × List LI), (lineEnd as st).1.length + (lineEnd as st).2.length ≤ st.1.length + st.2.length + (as.map fun a => 2 * wtT a + 1).sum
  | [], st => by simp [lineEnd]
  | a :: as, st => by
    have h1 := lineEnd_len as (pushL (lineF a st) .fin)
    have h2 := lineF_len a st
    show (lineEnd as (pushL (lineF a st) .fin)).1.length + (lineEnd as (pushL (lineF a st) .fin)).2.length ≤ _
    simp only [pushL, List.length_append, List.length_cons, List.length_nil, List.map_cons, List.sum_cons] at *
    omega
theorem line_s (G : GX prog w b₀ K mg mb) {d : Nat} {as : List T} {f : Int} {x y nm ln : Addr} {t1 t2 : Tok} {vs : List Value} {N : NM} {l : List LI} (hx : V x = some (.tup [.str "s" t1, .int f t2, .ref y])) (hy : V y = some (.tup vs)) (ha : All2 (D V) as vs) (hf : f ≠ 1)
    (hN : NmS prog w V nm N) (hl : LnS V ln l) (ih : ∀ a ∈ as, LineFn prog w b₀ a ∧ htT a + 1 ≤ d) (hz : N.length + l.length + (as.map fun a => 2 * wtT a + 1).sum + 1 ≤ 900000) (hz' : as.length ≤ 10) (hd : 1 ≤ d) :
    Fn prog w b₀ (d + 1) V (.ref 414) [.ref x, .ref nm, .ref ln] fun _ V' => Kp [6, 7] V V' ∧ NmS prog w V' nm (lineEnd as (pushL (N, l) (.fn f as.length))).1 ∧ LnS V' ln (lineEnd as (pushL (N, l) (.fn f as.length))).2 := by
  have hlen := ha.length
  refine fl0 (id hl) (xe1 fun lvs => an2 ?_); rintro hlv hll
  have hlll := hll.length
  refine G.fnQ G.f__law_line (d := d) fun L cdv hL => ?_
  intro C Q hQ
  repeat walk_at "w"
  refine ifF (by decide) ?_
  repeat walk_at "w"
  refine ifF (by decide) ?_
  repeat walk_at "w"
  refine ifF (by simpa using hf) ?_
  repeat walk_at "w"
  rename_i ta V1 k1 hta
  refine nAppend (by walk_at "vw") (by walk_at "o") fun V2 k2 h2 => ?_
  refine WP.execs_cons ?_
  refine WP.for_tuple ?_
  have hx2 : V2 x = some (.tup [.str "s" t1, .int f t2, .ref y]) := by walk_at "vw"
  repeat walk_at "w"
  have z12 : Fz V V2 := (k1.fz).trans k2.fz
  have hl2 : LnS V2 ln (pushL (N, l) (.fn f as.length)).2 := ⟨_, h2, (hll.imp fun _ _ q => q.mono z12).append (.one ⟨ta, _, _, rfl, by rw [hlen]; exact k2.get hta⟩)⟩
  have hN2 : NmS prog w V2 nm N := (hN.kp k1).kp k2
  have ha2 : All2 (D V2) as vs := ha.imp fun _ _ q => q.mono z12
  refine ⟨y, vs, rfl, fun i m V' => Kp [6, 7] V2 V' ∧ m "names" = some (.ref nm) ∧ m "line" = some (.ref ln) ∧ NmS prog w V' nm (lineEnd (as.take i) (pushL (N, l) (.fn f as.length))).1 ∧ LnS V' ln (lineEnd (as.take i) (pushL (N, l) (.fn f as.length))).2,
    ⟨.refl, by walk_at "lk", by walk_at "lk", hN2, hl2⟩, fun i m V' h => h.1.get (by walk_at "vw"), ?_, ?_⟩
  · intro i v m V3 hv; refine an5 ?_; rintro k3 m1 m2 hN3 hl3
    refine fl0 (ha2.getR hv) (xe1 fun a => an2 ?_); rintro hai hda
    have hmem := List.mem_of_getElem? hai
    have hq := lineEnd_len (as.take i) (pushL (N, l) (.fn f as.length))
    generalize hst : lineEnd (as.take i) (pushL (N, l) (.fn f as.length)) = st at hN3 hl3 hq
    obtain ⟨N3, l3⟩ := st
    dsimp only at hN3 hl3 hq
    have hsum : ((as.take i).map fun a => 2 * wtT a + 1).sum + (2 * wtT a + 1) ≤ (as.map fun a => 2 * wtT a + 1).sum := by
      have e : as = as.take (i + 1) ++ as.drop (i + 1) := (List.take_append_drop _ _).symm
      rw [take_snoc hai] at e
      have e2 := congrArg (fun z => (z.map fun a => 2 * wtT a + 1).sum) e
      simp only [List.map_append, List.sum_append, List.map_cons, List.map_nil, List.sum_cons, List.sum_nil] at e2
      omega
    have hpl : (pushL (N, l) (.fn f as.length)).1.length + (pushL (N, l) (.fn f as.length)).2.length = N.length + l.length + 1 := by simp [pushL]; omega
    repeat walk_at "w"
    refine WP.call ((ih a hmem).1 V3 v nm ln _ _ (hda.kp k3) hN3 hl3 (by walk_at "o")) (ih a hmem).2 ?_
    intro r V4; refine an3 ?_; rintro k4 hN4 hl4
    refine fl0 (id hl4) (xe1 fun lvs4 => an2 ?_); rintro hlv4 hll4
    have hq4 := lineF_len a (N3, l3)
    dsimp only at hq4
    have hlen4 := hll4.length
    repeat walk_at "w"
    refine nAppend hlv4 (by walk_at "o") fun V5 k5 h5 => ?_
    repeat walk_at "w"
    have e : lineEnd (as.take (i + 1)) (pushL (N, l) (.fn f as.length)) = pushL (lineF a (N3, l3)) .fin := by
      rw [← hst, take_snoc hai]; unfold lineEnd; rw [List.foldl_append]; rfl
    refine ⟨(k3.trans k4).trans k5.weak, by walk_at "lk", by walk_at "lk", ?_, ?_⟩
    · rw [e]; exact hN4.kp k5
    · rw [e]; exact ⟨_, h5, (hll4.imp fun _ _ q => q.mono k5.fz).append (.one ⟨_, rfl⟩)⟩
  · intro m V3; refine an5 ?_; rintro k3 m1 m2 hN3 hl3
    rw [← hlen, List.take_length] at hN3 hl3
    repeat walk_at "w"
    exact hQ _ _ _ ⟨_, .refl, ((k1.weak).trans k2.weak).trans k3, hN3, hl3⟩
theorem valueAt_snoc {kvs : List (Int × Value)} {n : Int} {v : Value} (h : valueAt kvs n = none) : valueAt (kvs ++ [(n, v)]) n = some v := by
  unfold valueAt at *
  rw [List.find?_append, Option.map_eq_none_iff.mp h]
  simp
theorem line_fn (G : GX prog w b₀ K mg mb) (t : T) : LineFn prog w b₀ t := by
  induction t with
  | a n =>
    intro V tv nm ln N l hd hN hl hz
    refine fl0 (id hd) (xe3 fun x t1 t2 => an2 ?_); rintro rfl hx
    refine fl0 (id hl) (xe1 fun lvs => an2 ?_); rintro hlv hll
    have hlll := hll.length
    refine G.fnQ G.f__law_line (d := 0) fun L cdv hL => ?_
    intro C Q hQ
    repeat walk_at "w"
    refine ifF (by decide) ?_
    repeat walk_at "w"
    refine ifT (by decide) ?_
    repeat walk_at "w"
    refine nAppend hlv (by walk_at "o") fun V2 k2 h2 => ?_
    repeat walk_at "w"
    exact hQ _ _ _ ⟨_, .refl, k2.weak, hN.kp k2, _, h2, (hll.imp fun _ _ q => q.mono k2.fz).append (.one ⟨x, _, _, rfl, by walk_at "vw"⟩)⟩
  | v n =>
    intro V tv nm ln N l hd hN hl hz
    refine fl0 (id hd) (xe3 fun x t1 t2 => an2 ?_); rintro rfl hx
    refine fl0 (id hl) (xe1 fun lvs => an2 ?_); rintro hlv hll
    refine fl0 (id hN) (xe1 fun kvs => an2 ?_); rintro hk hkv
    have hlll := hll.length
    have hkl := hkv.length
    refine G.fnQ G.f__law_line (d := 0) fun L cdv hL => ?_
    intro C Q hQ
    repeat walk_at "w"
    refine ifT (by decide) ?_
    repeat walk_at "w"
    refine WP.dict_notIn (kk := n) (by simp [intKind, Value.isInt]) G.sys hk ?_
    repeat walk_at "w"
    rcases look_at hkv n with ⟨hn1, hn2⟩ | ⟨z, v, hn1, hn2, hlvz⟩
    · rw [hn2]
      refine ifT (by rfl) ?_
      repeat walk_at "w"
      refine nDictSet (kk := n) (by simp [intKind, Value.isInt]) hk (by walk_at "o") fun V2 k2 h2 => ?_
      rw [stored_absent hn2] at h2
      obtain ⟨vv, ⟨tkv, hvv⟩, h2⟩ : ∃ vv, (∃ tk, vv = Value.int lvs.length tk) ∧ V2 nm = some (IsD (intKind prog w) 7 (kvs ++ [(n, vv)])) := ⟨_, ⟨_, rfl⟩, h2⟩
      repeat walk_at "w"
      refine WP.dict_item (kk := n) (by simp [intKind, Value.isInt]) h2 (valueAt_snoc hn2) ?_
      repeat walk_at "w"
      refine nAppend (k2.get hlv) (by walk_at "o") fun V3 k3 h3 => ?_
      repeat walk_at "w"
      have e : lineF (.v n) (N, l) = (N ++ [(n, .pos l.length)], l ++ [.pos l.length]) := by
        show lineV n (N, l) = _
        unfold lineV; simp only [hn1]
      refine hQ _ _ _ ?_
      rw [e]
      have z : Fz V V3 := (k2.fz).trans k3.fz
      have hp : LV V3 (.pos l.length) vv := ⟨tkv, by rw [hvv, hlll]⟩
      exact ⟨_, .refl, (k2.weak).trans k3.weak, ⟨_, k3.get h2, (hkv.imp fun _ _ q => ⟨q.1, q.2.mono z⟩).append (.one ⟨rfl, hp⟩)⟩, _, h3, (hll.imp fun _ _ q => q.mono z).append (.one hp)⟩
    · rw [hn2]
      refine ifF (by exact Bool.false_ne_true) ?_
      repeat walk_at "w"
      refine WP.dict_item (kk := n) (by simp [intKind, Value.isInt]) hk hn2 ?_
      repeat walk_at "w"
      refine nAppend hlv (by walk_at "o") fun V3 k3 h3 => ?_
      repeat walk_at "w"
      have e : lineF (.v n) (N, l) = pushL (N, l) z := lineV_some (st := (N, l)) hn1
      refine hQ _ _ _ ?_
      rw [e]
      exact ⟨_, .refl, k3.weak, hN.kp k3, _, h3, (hll.imp fun _ _ q => q.mono k3.fz).append (.one (hlvz.mono k3.fz))⟩
  | s1 f p ihp =>
    intro V tv nm ln N l hd hN hl hz
    refine fl0 (id hd) (xe5 fun x y t1 t2 v1 => an5 ?_); rintro rfl hx hy d1 hf
    simp only [wtT] at hz
    exact line_s G (as := [p]) (d := htT p + 1) hx hy (.one d1) hf hN hl (fun a ha => by rw [List.mem_singleton.mp ha]; exact ⟨ihp, Nat.le_refl _⟩) (by simp; omega) (by simp) (by walk_at "o")
  | s3 f p q r ihp ihq ihr =>
    intro V tv nm ln N l hd hN hl hz
    refine fl0 (id hd) (xe7 fun x y t1 t2 v1 v2 v3 => an7 ?_); rintro rfl hx hy d1 d2 d3 hf
    simp only [wtT] at hz
    refine line_s G (as := [p, q, r]) (d := max (max (htT p) (htT q)) (htT r) + 1) hx hy (.cons d1 (.cons d2 (.one d3))) hf hN hl (fun a ha => ?_) (by simp; omega) (by simp) (by walk_at "o")
    simp only [List.mem_cons, List.not_mem_nil, or_false] at ha
    rcases ha with rfl | rfl | rfl
    · exact ⟨ihp, Nat.succ_le_succ (Nat.le_trans (Nat.le_max_left _ _) (Nat.le_max_left _ _))⟩
    · exact ⟨ihq, Nat.succ_le_succ (Nat.le_trans (Nat.le_max_right _ _) (Nat.le_max_left _ _))⟩
    · exact ⟨ihr, Nat.succ_le_succ (Nat.le_max_right _ _)⟩
  | s2 f p q ihp ihq =>
    intro V tv nm ln N l hd hN hl hz
    refine fl0 (id hd) (xe6 fun x y t1 t2 v1 v2 => an5 ?_); rintro rfl hx hy d1 d2
    simp only [wtT] at hz
    by_cases hf : f = 1
    · subst hf
      rw [lineF_comma]
      refine G.fnQ G.f__law_line (d := max (htT p) (htT q) + 1) fun L cdv hL => ?_
      intro C Q hQ
      repeat walk_at "w"
      refine ifF (by decide) ?_
      repeat walk_at "w"
      refine ifF (by decide) ?_
      repeat walk_at "w"
      refine ifT (by decide) ?_
      repeat walk_at "w"
      refine WP.call (ihp V v1 nm ln N l d1 hN hl (by walk_at "o")) (by walk_at "dp") ?_
      intro r V2; refine an3 ?_; rintro k2 hN2 hl2
      have hq := lineF_len p (N, l)
      dsimp only at hq
      repeat walk_at "w"
      refine WP.call (ihq V2 v2 nm ln _ _ (d2.kp k2) hN2 hl2 (by walk_at "o")) (by walk_at "dp") ?_
      intro r V3; refine an3 ?_; rintro k3 hN3 hl3
      repeat walk_at "w"
      exact hQ _ _ _ ⟨_, .refl, k2.trans k3, hN3, hl3⟩
    · rw [lineF_s2 hf]
      refine line_s G (as := [p, q]) (d := max (htT p) (htT q) + 1) hx hy (.cons d1 (.one d2)) hf hN hl (fun a ha => ?_) (by simp; omega) (by simp) (by walk_at "o")
      simp only [List.mem_cons, List.not_mem_nil, or_false] at ha
      rcases ha with rfl | rfl
      · exact ⟨ihp, Nat.succ_le_succ (Nat.le_max_left _ _)⟩
      · exact ⟨ihq, Nat.succ_le_succ (Nat.le_max_right _ _)⟩

theorem sy0_texts : sy0.texts = fixT := by decide +kernel
theorem new_text {y : Sy} (h0 : sy0.le y) (ok : y.Ok) {i : Nat} {t : Str} (h : y.texts[i]? = some t) (ht : t ∉ fixT) : 29 ≤ (i : Int) ∧ (i : Int) < 40 := by
  have h1 := (List.getElem?_eq_some_iff.mp h).1
  have h2 := ok.lt
  refine ⟨?_, by omega⟩
  by_cases hi : i < 29
  · obtain ⟨⟨r, hr⟩, _⟩ := h0
    rw [sy0_texts] at hr
    rw [hr, List.getElem?_append_left (by show i < 29; exact hi)] at h
    exact absurd (List.mem_of_getElem? h) ht
  · omega
theorem leaf_fn (G : GX prog w b₀ K mg mb) {c s : Addr} {y : Sy} (hc : Coins V c) (hs : Sg prog w V s y) (h0 : sy0.le y) :
    Fn prog w b₀ 3 V (.ref 395) [.ref c, .ref s] fun v V' => ∃ l y', y.le y' ∧ Coins V' c ∧ Sg prog w V' s y' ∧ D V' (Lf.enc l) v ∧ l.Wf y' ∧ Kp [1, 20, 21, 22, 23, 24] V V' := by
  refine fl0 (hs.at) (xe5 fun d tx an fs fn => an2 ?_); rintro q1 q2
  refine G.fnQ G.f__law_leaf (d := 2) fun L cdv hL => ?_
  intro C Q hQ
  repeat walk_at "w"
  refine WP.call (coin_fn G hc (by decide)) (by walk_at "dp") ?_
  intro v V1; refine xe2 fun way tkw => an5 ?_; rintro rfl hw0 hw6 k1 hc1
  repeat walk_at "w"
  refine WP.call (coin_fn G hc1 (by decide)) (by walk_at "dp") ?_
  intro v V2; refine xe2 fun k tkk => an5 ?_; rintro rfl hk0 hk4 k2 hc2
  repeat walk_at "w"
  rename_i sa V3 k3 hsa _
  have hs3 : Sg prog w V3 s y := ((hs.kp k1).kp k2).kp k3
  have hc3 : Coins V3 c := hc2.kp k3
  have hv3 : D V3 (.v k) (.ref sa) := ⟨sa, _, _, rfl, hsa⟩
  have q13 : V3 s = some (.inst 154 d) := by walk_at "vw"
  have q23 : V3 d = some (.att 25 [("texts", .ref tx), ("atom_numbers", .ref an), ("functors", .ref fs), ("functor_numbers", .ref fn)]) := by walk_at "vw"
  have k03 : Kp [1, 20, 21, 22, 23, 24] V V3 := by walk_at "kp"
  clear k1 k2 k3
  by_cases w0 : way = 0
  · refine ifT (by simpa using w0) ?_
    repeat walk_at "w"
    refine WP.call (atom_m G hs3 (t := "n") (by decide)) (by walk_at "dp") ?_
    intro v V4; refine xe2 fun i tki => an4 ?_; rintro rfl hi hs4 k4
    repeat walk_at "w"
    rename_i na V5 k5 hna
    have hle : y.le (y.addT "n") := Sy.le_addT
    exact hQ _ _ _ ⟨_, .refl, .nt0 i, _, hle, (hc3.kp k4).kp k5, hs4.kp k5, ⟨na, _, _, rfl, hna⟩, new_text (h0.trans hle) hs4.ok hi (by decide), (k03.trans k4.weak).trans k5.weak⟩
  refine ifF (by simpa using w0) ?_
  repeat walk_at "w"
  by_cases w1 : way = 1
  · refine ifT (by simpa using w1) ?_
    repeat walk_at "w"
    refine WP.call (atom_m G hs3 (t := "t") (by decide)) (by walk_at "dp") ?_
    intro v V4; refine xe2 fun i tki => an4 ?_; rintro rfl hi hs4 k4
    have hv4 : D V4 (.v k) (.ref sa) := hv3.kp k4
    have hc4 := hc3.kp k4
    have k04 : Kp [1, 20, 21, 22, 23, 24] V V4 := k03.trans k4.weak
    clear k4 k03
    repeat walk_at "w"
    rename_i b1 V5 k5 h1 _ b2 V6 k6 h2 b3 V7 k7 h3 b4 V8 k8 h4 b5 V9 k9 h5 b6 V10 k10 h6
    have k610 : Kp [] V6 V10 := ((k7.trans k8).trans k9).trans k10
    have k410 : Kp [] V4 V10 := (k5.trans k6).trans k610
    have hle : y.le (y.addT "t") := Sy.le_addT
    exact hQ _ _ _ ⟨_, .refl, .lst k i, _, hle, hc4.kp k410, hs4.kp k410, ⟨b6, b5, _, _, _, _, rfl, h6, k10.get h5, hv4.kp k410, ⟨b4, b3, _, _, _, _, rfl, k10.get (k9.get h4), k10.get (k9.get (k8.get h3)), ⟨b1, _, _, rfl, k610.get (k6.get h1)⟩, ⟨b2, _, _, rfl, k610.get h2⟩⟩⟩, ⟨hk0, hk4⟩, k04.trans k410.weak⟩
  refine ifF (by simpa using w1) ?_
  repeat walk_at "w"
  by_cases w2 : way = 2
  · refine ifT (by simpa using w2) ?_
    repeat walk_at "w"
    rename_i ca V5 k5 hca
    exact hQ _ _ _ ⟨_, .refl, .cut, _, .refl, hc3.kp k5, hs3.kp k5, ⟨ca, _, _, rfl, hca⟩, trivial, k03.trans k5.weak⟩
  refine ifF (by simpa using w2) ?_
  repeat walk_at "w"
  by_cases w3 : way = 3
  · refine ifT (by simpa using w3) ?_
    repeat walk_at "w"
    refine WP.call (func_m G hs3 (t := "g") (by decide) (n := 1) (by decide)) (by walk_at "dp") ?_
    intro v V4; refine xe3 fun i tki a => an5 ?_; rintro rfl ha hi hs4 k4
    have hv4 : D V4 (.v k) (.ref sa) := hv3.kp k4
    have hc4 := hc3.kp k4
    have k04 : Kp [1, 20, 21, 22, 23, 24] V V4 := k03.trans k4.weak
    clear k4 k03
    repeat walk_at "w"
    rename_i a1 V5 k5 h1 a2 V6 k6 h2 a3 V7 k7 h3 a4 V8 k8 h4
    have k48 : Kp [] V4 V8 := ((k5.trans k6).trans k7).trans k8
    have hle : y.le ((y.addT "g").addF ((a : Int), 1)) := Sy.le_addT.trans Sy.le_addF
    have hh : ((y.addT "g").addF ((a : Int), 1)).has i (a, 1) := ⟨i, rfl, hi⟩
    exact hQ _ _ _ ⟨_, .refl, .curly i k, _, hle, hc4.kp k48, hs4.kp k48, ⟨a4, a3, _, _, _, rfl, h4, k8.get h3, ⟨a2, a1, _, _, _, rfl, k8.get (k7.get h2), k8.get (k7.get (k6.get h1)), hv4.kp k48, hh.ne (h0.trans hle) sy0_fns.1 (by simp)⟩, by decide⟩, ⟨hk0, hk4⟩, k04.trans k48.weak⟩
  refine ifF (by simpa using w3) ?_
  repeat walk_at "w"
  by_cases w4 : way = 4
  · refine ifT (by simpa using w4) ?_
    repeat walk_at "w"
    exact hQ _ _ _ ⟨_, .refl, .var k, _, .refl, hc3, hs3, hv3, ⟨hk0, hk4⟩, k03⟩
  refine ifF (by simpa using w4) ?_
  repeat walk_at "w"
  rename_i c1 V3' k3' hc1' _ _ _
  have hs3' := hs3.kp k3'
  have hc3' := hc3.kp k3'
  have hv3' : D V3' (.v k) (.ref sa) := hv3.kp k3'
  have k03' : Kp [1, 20, 21, 22, 23, 24] V V3' := k03.trans k3'.weak
  refine WP.call (func_m G hs3' (t := "p") (by decide) (n := 1) (by decide)) (by walk_at "dp") ?_
  intro v V4; refine xe3 fun i tki a => an5 ?_; rintro rfl ha hi hs4 k4
  have hv4 : D V4 (.v k) (.ref sa) := hv3'.kp k4
  have hc4 := hc3'.kp k4
  have hn4 := k4.get hc1'
  have k04 : Kp [1, 20, 21, 22, 23, 24] V V4 := k03'.trans k4.weak
  clear k4 k03' k3' k03
  repeat walk_at "w"
  rename_i c2 V5 k5 h5 c3 V6 k6 h6
  refine nList 20 fun ll V7 k7 h7 => ?_
  have hc7 := ((hc4.kp k5).kp k6).kp k7
  have k47 : Kp [] V4 V7 := (k5.trans k6).trans k7
  repeat walk_at "w"
  refine WP.call (coin_fn G hc7 (by decide)) (by walk_at "dp") ?_
  intro v V8; refine xe2 fun j tkj => an5 ?_; rintro rfl hj0 hj2 k8 hc8
  have k48 : Kp [1] V4 V8 := (k47.weak).trans k8
  have hle : y.le ((y.addT "p").addF ((a : Int), 1)) := Sy.le_addT.trans Sy.le_addF
  have hh : ((y.addT "p").addF ((a : Int), 1)).has i (a, 1) := ⟨i, rfl, hi⟩
  have hj : j = 0 ∨ j = 1 := by omega
  rcases hj with rfl | rfl
  · refine WP.item_list (k8.get h7) (by decide) (by decide) (x := .ref c1) rfl ?_
    exact hQ _ _ _ ⟨_, .refl, .nil, _, hle, hc8, hs4.kp k48, ⟨c1, _, _, rfl, k48.get hn4⟩, trivial, k04.trans k48.weak⟩
  · refine WP.item_list (k8.get h7) (by decide) (by decide) (x := .ref c3) rfl ?_
    have ht := new_text (h0.trans Sy.le_addT) ((hs.ok).addT (by decide)) ha (by decide)
    exact hQ _ _ _ ⟨_, .refl, .nt1 i a k, _, hle, hc8, hs4.kp k48, ⟨c3, c2, _, _, _, rfl, k8.get (k7.get h6), k8.get (k7.get (k6.get h5)), hv4.kp k48, hh.ne (h0.trans hle) sy0_fns.1 (by simp)⟩, ⟨ht.1, ht.2, hk0, hk4, hh⟩, k04.trans k48.weak⟩

noncomputable def lvB : B → Nat
  | .lf _ => 1 | .sq a b => lvB a + lvB b | .or _ a b => max (lvB a) (lvB b) + 1 | .th a b => max (lvB a) (lvB b) + 1 | .nt a => lvB a + 1
theorem lvB_pos : ∀ b : B, 0 < lvB b
  | .lf _ => Nat.one_pos | .sq a b => Nat.add_pos_left (lvB_pos a) _ | .or _ _ _ => Nat.succ_pos _ | .th _ _ => Nat.succ_pos _ | .nt _ => Nat.succ_pos _
theorem ht_lv : ∀ b : B, htB b ≤ lvB b
  | .lf _ => Nat.le_refl _
  | .sq a b => by have := ht_lv a; have := ht_lv b; have := lvB_pos a; have := lvB_pos b; simp only [htB, lvB]; omega
  | .or _ a b => by have := ht_lv a; have := ht_lv b; simp only [htB, lvB]; omega
  | .th a b => by have := ht_lv a; have := ht_lv b; simp only [htB, lvB]; omega
  | .nt a => by have := ht_lv a; simp only [htB, lvB]; omega
noncomputable def Rw (V : View) : B → List Value → Prop
  | .lf l, vs => ∃ x h u t1, vs = [.ref x] ∧ V x = some (.tup [.str "leaf" t1, .ref h]) ∧ V h = some (.lst 0 [u]) ∧ D V l.enc u
  | .sq a b, vs => ∃ v r, vs = v :: r ∧ r ≠ [] ∧ Rw V a [v] ∧ Rw V b r
  | .or f a b, vs => f = 2 ∧ ∃ x h r1 r2 l1 l2 t1, vs = [.ref x] ∧ V x = some (.tup [.str "either" t1, .ref h]) ∧ V h = some (.lst 0 [.ref r1, .ref r2]) ∧ V r1 = some (.lst 0 l1) ∧ Rw V a l1 ∧ V r2 = some (.lst 0 l2) ∧ Rw V b l2
  | .th a b, vs => ∃ x h r1 r2 l1 l2 t1, vs = [.ref x] ∧ V x = some (.tup [.str "then" t1, .ref h]) ∧ V h = some (.lst 0 [.ref r1, .ref r2]) ∧ V r1 = some (.lst 0 l1) ∧ Rw V a l1 ∧ V r2 = some (.lst 0 l2) ∧ Rw V b l2
  | .nt a, vs => ∃ x h r1 l1 t1, vs = [.ref x] ∧ V x = some (.tup [.str "not" t1, .ref h]) ∧ V h = some (.lst 0 [.ref r1]) ∧ V r1 = some (.lst 0 l1) ∧ Rw V a l1
theorem Fz.l0 {V V' a xs} (h : Fz V V') (e : V a = some (.lst 0 xs)) : V' a = some (.lst 0 xs) := h a _ e rfl
theorem Rw.mono {V V' : View} (h : Fz V V') : ∀ {b : B} {vs : List Value}, Rw V b vs → Rw V' b vs
  | .lf l, _, hh0 => by obtain ⟨x, hh, u, t1, e, a, b, c⟩ := hh0; exact ⟨x, hh, u, t1, e, h.tup a, h.l0 b, c.mono h⟩
  | .sq _ _, _, hh0 => by obtain ⟨v, r, e, n, a, b⟩ := hh0; exact ⟨v, r, e, n, a.mono h, b.mono h⟩
  | .or _ _ _, _, hh0 => by obtain ⟨f, x, hh, r1, r2, l1, l2, t1, e, a, b, c, d, i, j⟩ := hh0; exact ⟨f, x, hh, r1, r2, l1, l2, t1, e, h.tup a, h.l0 b, h.l0 c, d.mono h, h.l0 i, j.mono h⟩
  | .th _ _, _, hh0 => by obtain ⟨x, hh, r1, r2, l1, l2, t1, e, a, b, c, d, i, j⟩ := hh0; exact ⟨x, hh, r1, r2, l1, l2, t1, e, h.tup a, h.l0 b, h.l0 c, d.mono h, h.l0 i, j.mono h⟩
  | .nt _, _, hh0 => by obtain ⟨x, hh, r1, l1, t1, e, a, b, c, d⟩ := hh0; exact ⟨x, hh, r1, l1, t1, e, h.tup a, h.l0 b, h.l0 c, d.mono h⟩
theorem Rw.ne {V : View} : ∀ {b : B} {vs : List Value}, Rw V b vs → vs ≠ []
  | .lf l, _, hh0 => by obtain ⟨x, hh, u, t1, e, _⟩ := hh0; rw [e]; simp
  | .sq _ _, _, hh0 => by obtain ⟨v, r, e, _⟩ := hh0; rw [e]; simp
  | .or _ _ _, _, hh0 => by obtain ⟨_, x, hh, r1, r2, l1, l2, t1, e, _⟩ := hh0; rw [e]; simp
  | .th _ _, _, hh0 => by obtain ⟨x, hh, r1, r2, l1, l2, t1, e, _⟩ := hh0; rw [e]; simp
  | .nt _, _, hh0 => by obtain ⟨x, hh, r1, l1, t1, e, _⟩ := hh0; rw [e]; simp
theorem Rw.len {V : View} : ∀ {b : B} {vs : List Value}, Rw V b vs → vs.length ≤ htB b
  | .lf l, _, hh0 => by obtain ⟨x, hh, u, t1, e, _⟩ := hh0; rw [e]; simp [htB]
  | .sq _ b, _, hh0 => by obtain ⟨v, r, e, _, _, h⟩ := hh0; have := h.len; rw [e]; simp only [List.length_cons, htB]; omega
  | .or _ _ _, _, hh0 => by obtain ⟨_, x, hh, r1, r2, l1, l2, t1, e, _⟩ := hh0; rw [e]; simp [htB]
  | .th _ _, _, hh0 => by obtain ⟨x, hh, r1, r2, l1, l2, t1, e, _⟩ := hh0; rw [e]; simp [htB]
  | .nt _, _, hh0 => by obtain ⟨x, hh, r1, l1, t1, e, _⟩ := hh0; rw [e]; simp [htB]
/-- a row, cut in two -/
theorem Rw.cut {V : View} {sy : Sy} : ∀ {b : B} {vs : List Value} (n : Nat), Rw V b vs → b.Wf sy → 0 < n → n < vs.length →
    ∃ b1 b2, Rw V b1 (vs.take n) ∧ Rw V b2 (vs.drop n) ∧ Eqv (.sq b1 b2) b ∧ b1.Wf sy ∧ b2.Wf sy ∧ szB (.sq b1 b2) = szB b ∧ lvB (.sq b1 b2) = lvB b
  | .sq a b, _, n, hh0, hw, h0, hn => by
    revert hh0; refine xe2 fun v r => an4 ?_; rintro e hne ha hb
    subst e
    match n, h0 with
    | 1, _ => exact ⟨a, b, ha, hb, .refl, hw.1, hw.2, rfl, rfl⟩
    | n + 2, _ =>
      refine fl0 (Rw.cut (n + 1) hb hw.2 (by walk_at "o") (by simp at hn; omega)) (xe2 fun b1 b2 => an7 ?_); rintro h1 h2 h3 h4 h5 h6 h7
      refine ⟨.sq a b1, b2, ⟨v, r.take (n + 1), rfl, h1.ne, ha, h1⟩, h2, Eqv.assoc.trans (Eqv.refl.sq h3), ⟨hw.1, h4⟩, h5, by simp only [szB] at *; omega, by simp only [lvB] at *; omega⟩
  | .lf l, _, n, hh0, _, h0, hn => by obtain ⟨x, hh, u, t1, e, _⟩ := hh0; subst e; simp at hn; omega
  | .or _ _ _, _, n, hh0, _, h0, hn => by obtain ⟨_, x, hh, r1, r2, l1, l2, t1, e, _⟩ := hh0; subst e; simp at hn; omega
  | .th _ _, _, n, hh0, _, h0, hn => by obtain ⟨x, hh, r1, r2, l1, l2, t1, e, _⟩ := hh0; subst e; simp at hn; omega
  | .nt _, _, n, hh0, _, h0, hn => by obtain ⟨x, hh, r1, l1, t1, e, _⟩ := hh0; subst e; simp at hn; omega

theorem WP.freeze {t : Sem α} {a : Addr} {tg : Nat} {xs : List Value} {k : α → Loc → View → Prop} (e : V a = some (.lst tg xs)) (h : ∀ V', Kp [tg] V V' → V' a = some (.lst 0 xs) → WP C t m V' k) : WP C t m V k :=
  WP.ghost (V' := upd V a (.lst 0 xs)) (fun b x q => by
    by_cases hb : b = a
    · subst hb; rw [upd_self] at q; cases q; exact ⟨_, e, fun o d => d⟩
    · rw [upd_ne hb] at q; exact ⟨x, q, fun _ d => d⟩) (h _ (Kp.refl.set e (by simp [AO.tag])) upd_self)
theorem coins_fn (G : GX prog w b₀ K mg mb) {sc : Addr} {vs : List Value} {ns : List Int} (hsc : b₀.IsList sc vs.toArray) (hvs : IntsAre vs ns) (hz : vs.length ≤ sizeLine) :
    Fn prog w b₀ 1 V (.ref 381) [.ref sc] fun v V' => ∃ c, v = .ref c ∧ Coins V' c ∧ Kp [1, 20] V V' := by
  refine G.fnQ G.f__law_coins (d := 0) fun L cdv hL => ?_
  intro C Q hQ
  repeat walk_at "w"
  refine nList 1 fun cl V1 k1 h1 => ?_
  refine WP.execs_cons ?_
  refine WP.for_list ?_
  refine WP.slice_base 20 ?_
  repeat walk_at "w"
  refine ⟨sc, vs, 60, _, rfl, hsc, hz, rfl, by decide, fun a ha => ?_⟩
  have k2 : Kp [] V1 (upd V1 a (.lst 20 (vs.take (60 : Int).toNat))) := Kp.refl.new ha
  have h2 : upd V1 a (.lst 20 (vs.take (60 : Int).toNat)) a = some (.lst 20 (vs.take (60 : Int).toNat)) := upd_self
  generalize upd V1 a (.lst 20 (vs.take (60 : Int).toNat)) = V2 at k2 h2
  have hus : ∀ v ∈ vs.take (60 : Int).toNat, ∃ i tk, v = .int i tk := fun v hv => by
    obtain ⟨j, hj⟩ := List.getElem?_of_mem (List.mem_of_mem_take hv)
    refine fl0 (hvs.at j v hj) (xe2 fun n t => an2 ?_); rintro e _
    exact ⟨n, t, e⟩
  have k02 : Kp [1, 20] V V2 := (k1.weak).trans k2.weak
  have h12 : V2 cl = some (.lst 1 []) := k2.get h1
  generalize vs.take (60 : Int).toNat = us at h2 hus
  have fin : ∀ m V3 cs, m "coins" = some (.ref cl) → Kp [1, 20] V V3 → V3 cl = some (.lst 1 cs) → (∀ v ∈ cs, ∃ i tk, v = Value.int i tk) → cs.length ≤ 110 → WP C (execs ((fnBody (topAt 46)).drop 2) C.env) m V3 Q := by
    intro m V3 cs hm k3 h3 hi hl
    repeat walk_at "w"
    refine WP.getMethod_list PySem.F.slot_list_reverse (by rfl) h3 ?_
    repeat walk_at "w"
    refine nReverse h3 (by walk_at "o") fun V4 k4 h4 => ?_
    repeat walk_at "w"
    exact hQ _ _ _ ⟨_, .refl, cl, rfl, ⟨_, h4, fun v hv => hi v (List.mem_reverse.mp hv), by rw [List.length_reverse]; omega⟩, k3.trans k4.weak⟩
  refine ⟨a, 20, us, rfl, fun i m V' => m "coins" = some (.ref cl) ∧ Kp [1] V2 V' ∧ ∃ cs, V' cl = some (.lst 1 cs) ∧ (∀ v ∈ cs, ∃ i tk, v = Value.int i tk) ∧ cs.length ≤ 90,
    ⟨by walk_at "lk", .refl, [], h12, (fun v hv => nomatch hv), Nat.zero_le _⟩, fun i m V' h => h.2.1.get h2, ?_, ?_⟩
  · rintro i v m V3 hv ⟨m1, k3, cs, h3, hi, hl⟩
    obtain ⟨z, tz, rfl⟩ := hus v (List.mem_of_getElem? hv)
    walk_at "w"
    refine WP.gen fun R hR => ?_
    repeat walk_at "w"
    refine WP.abs_int fun tk => ?_
    refine WP.execs_cons ?_
    refine forUp ?_
    repeat walk_at "w"
    rename_i ra V4 _ _ k4 hra
    have h4 : V4 cl = some (.lst 1 cs) := k4.get h3
    have fin2 : ∀ m V5 cs, m "coins" = some (.ref cl) → Kp [1] V4 V5 → V5 cl = some (.lst 1 cs) → (∀ v ∈ cs, ∃ i tk, v = Value.int i tk) → cs.length ≤ 110 → WP C (execs ((((fnBody (topAt 46))[1]?.map fun st => match st with | .For _ _ bd _ _ => bd | _ => []).getD []).drop 2) C.env) m V5 R := by
      intro m V5 cs m1 k5 h5 hi hl
      have k35 : Kp [1] V2 V5 := k3.trans ((k4.weak).trans k5)
      repeat walk_at "w"
      by_cases h90 : 90 < cs.length
      · refine ifT (by simp; omega) ?_
        repeat walk_at "w"
        exact hR _ _ _ (fin _ _ _ m1 (k02.trans k35.weak) h5 hi hl)
      · refine ifF (by simp; omega) ?_
        repeat walk_at "w"
        exact hR _ _ _ ⟨m1, k35, cs, h5, hi, by omega⟩
    refine ⟨ra, 20, _, _, _, rfl, hra, by decide, fun j m V' => m "coins" = some (.ref cl) ∧ Kp [1] V4 V' ∧ (∃ l tk, m "left" = some (.int l tk)) ∧ ∃ cs, V' cl = some (.lst 1 cs) ∧ (∀ v ∈ cs, ∃ i tk, v = Value.int i tk) ∧ cs.length ≤ 90 + j,
      ⟨by walk_at "lk", .refl, ⟨_, _, by walk_at "lk"⟩, cs, h4, hi, hl⟩, ?_, ?_⟩
    · rintro j tj m V5 hj ⟨m1, k5, ⟨l, tl, m2⟩, cs, h5, hi, hl⟩
      walk_at "w"
      refine WP.gen fun S hS => ?_
      repeat walk_at "w"
      refine WP.mod_int (by decide) fun t1 => ?_
      refine nAppend h5 (by walk_at "o") fun V6 k6 h6 => ?_
      repeat walk_at "w"
      refine WP.floordiv_int (by decide) (PyProof.noPylong_small (by decide)) fun t2 => ?_
      repeat walk_at "w"
      have hi6 : ∀ v ∈ cs ++ [Value.int (l.fmod 1000) t1], ∃ i tk, v = Value.int i tk := fun v hv => by
        rcases List.mem_append.mp hv with hv | hv
        · exact hi v hv
        · rw [List.mem_singleton.mp hv]; exact ⟨_, _, rfl⟩
      by_cases h0 : l.fdiv 1000 = 0
      · refine ifT (by simpa using h0) ?_
        repeat walk_at "w"
        exact hS _ _ _ (fin2 _ _ _ (by walk_at "lk") (k5.trans k6) h6 hi6 (by simp; omega))
      · refine ifF (by simpa using h0) ?_
        repeat walk_at "w"
        exact hS _ _ _ ⟨by walk_at "lk", k5.trans k6, ⟨_, _, by walk_at "lk"⟩, _, h6, hi6, by simp; omega⟩
    · rintro m V5 ⟨m1, k5, _, cs, h5, hi, hl⟩
      exact fin2 _ _ _ m1 k5 h5 hi hl
  · rintro m V3 ⟨m1, k3, cs, h3, hi, hl⟩
    exact fin _ _ _ m1 (k02.trans k3.weak) h3 hi (by walk_at "o")

noncomputable def rowOf : List B → B
  | [] => .lf .nil
  | [b] => b
  | b :: r => .sq b (rowOf r)
theorem rowOf_cons {b : B} {r : List B} (h : r ≠ []) : rowOf (b :: r) = .sq b (rowOf r) := by
  cases r with
  | nil => exact absurd rfl h
  | cons _ _ => rfl
theorem rowOf_rw {V : View} : ∀ {bs : List B} {vs : List Value}, All2 (fun b v => Rw V b [v]) bs vs → bs ≠ [] → Rw V (rowOf bs) vs
  | [], _, _, h => absurd rfl h
  | [b], _, x, _ => by obtain ⟨v, rfl, h⟩ := x.in1; exact h
  | b :: c :: r, _, x, _ => by
    rw [rowOf_cons (by simp)]
    refine fl0 (x.inv) (xe2 fun v vs => an3 ?_); rintro rfl h h2
    exact ⟨_, _, rfl, (fun e => by subst e; cases h2), h, rowOf_rw h2 (by simp)⟩
theorem rowOf_wf {sy : Sy} : ∀ {bs : List B}, (∀ b ∈ bs, b.Wf sy) → (rowOf bs).Wf sy
  | [], _ => trivial
  | [b], h => h b (.head _)
  | b :: c :: r, h => by rw [rowOf_cons (by simp)]; exact ⟨h b (.head _), rowOf_wf fun e he => h e (.tail _ he)⟩
theorem rowOf_ht {m : Nat} : ∀ {bs : List B}, (∀ b ∈ bs, htB b ≤ m) → 1 ≤ m → htB (rowOf bs) ≤ m + (bs.length - 1)
  | [], _, h => by simp [rowOf, htB]; exact h
  | [b], h, _ => by have := h b (.head _); simpa [rowOf] using this
  | b :: c :: r, h, h1 => by
    have := h b (.head _)
    have ih := rowOf_ht (bs := c :: r) (fun e he => h e (.tail _ he)) h1
    rw [rowOf_cons (by simp)]
    simp only [htB, List.length_cons] at *
    omega
theorem rowOf_lv {m : Nat} : ∀ {bs : List B}, (∀ b ∈ bs, lvB b ≤ m) → bs ≠ [] → lvB (rowOf bs) ≤ m * bs.length
  | [], _, h => absurd rfl h
  | [b], h, _ => by have := h b (.head _); simpa [rowOf] using this
  | b :: c :: r, h, _ => by
    have := h b (.head _)
    have ih := rowOf_lv (bs := c :: r) (fun e he => h e (.tail _ he)) (by simp)
    rw [rowOf_cons (by simp), List.length_cons, Nat.mul_succ]
    simp only [lvB]; omega
noncomputable def lvI : Nat → Nat
  | 0 => 1 | n + 1 => 3 * lvI n + 1
theorem lvI_pos : ∀ n, 1 ≤ lvI n
  | 0 => Nat.le_refl _ | n + 1 => Nat.succ_pos _
noncomputable def OkI (n : Nat) (b : B) : Prop := htB b ≤ 3 * n + 1 ∧ lvB b ≤ lvI n
noncomputable def OkR (n : Nat) (b : B) : Prop := htB b ≤ 3 * (n + 1) ∧ lvB b ≤ 3 * lvI n
theorem OkI.two {n : Nat} {a b c : B} (h : 0 < n) (ha : OkR (n - 1) a) (hb : OkR (n - 1) b) (h1 : htB c = max (htB a) (htB b) + 1) (h2 : lvB c = max (lvB a) (lvB b) + 1) : OkI n c := by
  obtain ⟨k, rfl⟩ : ∃ k, n = k + 1 := ⟨n - 1, by omega⟩
  rw [Nat.add_sub_cancel] at ha hb
  obtain ⟨a1, a2⟩ := ha
  obtain ⟨b1, b2⟩ := hb
  exact ⟨by omega, by simp only [lvI]; omega⟩
theorem OkR.row {n : Nat} {bs : List B} (h : ∀ b ∈ bs, OkI n b) (hne : bs ≠ []) (hl : bs.length ≤ 3) : OkR n (rowOf bs) := by
  have h1 := rowOf_ht (fun b hb => (h b hb).1) (by walk_at "o")
  have h2 := rowOf_lv (fun b hb => (h b hb).2) hne
  have h3 : lvI n * bs.length ≤ lvI n * 3 := Nat.mul_le_mul_left _ hl
  exact ⟨by omega, by omega⟩
noncomputable def RowFn (prog : Program) (w : World) (b₀ : Heap) (T : List Nat) (n d : Nat) : Prop := ∀ (V : View) (c s rm : Addr) (y : Sy) (r : Int) (t tk : Tok), Coins V c → Sg prog w V s y → sy0.le y → V rm = some (.lst 3 [.int r t]) →
  Fn prog w b₀ d V (.ref 402) [.ref c, .ref s, .ref rm, .int n tk] fun v V' => ∃ b y' x vs r' t', v = .ref x ∧ V' x = some (.lst 0 vs) ∧ Rw V' b vs ∧ y.le y' ∧ Sg prog w V' s y' ∧ Coins V' c ∧ V' rm = some (.lst 3 [.int r' t']) ∧ b.Wf y' ∧ OkR n b ∧ Kp T V V'
noncomputable abbrev rowB : List Nat := [1, 3, 20, 21, 22, 23, 24]
theorem Kp.sub {T T' : List Nat} {V V' : View} (k : Kp T V V') (h : ∀ t ∈ T, T'.contains t = true) : Kp T' V V' := fun a x e ht => k a x e (by
  cases q : T.contains x.tag with
  | false => rfl
  | true => rw [h _ (List.contains_iff_mem.mp q)] at ht; cases ht)
theorem Kp.get' {T V V' a x} (h : Kp T V V') (e : V a = some x) (s : T.contains x.tag = false) : V' a = some x := h a x e s
noncomputable def RowInv (prog : Program) (w : World) (V : View) (T : List Nat) (c s rm rl : Addr) (y : Sy) (t1 n i : Nat) (V' : View) : Prop :=
  ∃ bs vs y' r' t', V' rl = some (.lst t1 vs) ∧ All2 (fun b v => Rw V' b [v]) bs vs ∧ bs.length = i ∧ y.le y' ∧ Sg prog w V' s y' ∧ Coins V' c ∧ V' rm = some (.lst 3 [.int r' t']) ∧ (∀ b ∈ bs, b.Wf y' ∧ OkI n b) ∧ Kp T V V'
theorem row_step (G : GX prog w b₀ K mg mb) {T0 : List Nat} {t1 t2 n d : Nat} (hd : 3 ≤ d) (hn : n ≤ 10) (b0 : T0.contains 0 = false) (b1 : T0.contains t1 = false) (b2 : T0.contains t2 = false) (b12 : t1 ≠ t2) (b10 : t1 ≠ 0) (b20 : t2 ≠ 0)
    (bt1 : ∀ t ∈ rowB, t ≠ t1) (bt2 : ∀ t ∈ rowB, t ≠ t2) (hx1 : 25 ≠ t1) (hx2 : 25 ≠ t2)
    (base : ∀ t ∈ rowB, T0.contains t = true) (ih : 0 < n → RowFn prog w b₀ T0 (n - 1) d) : RowFn prog w b₀ (t1 :: t2 :: T0) n (d + 1) := by
  intro V c s rm y r t tk hc hs h0 hrm
  have upB : ∀ {T : List Nat} {V V' : View}, Kp T V V' → (∀ t ∈ T, t ∈ rowB) → Kp (t1 :: t2 :: T0) V V' := fun k h => k.sub fun t ht => by
    have := base t (h t ht)
    rw [List.contains_iff_mem] at this ⊢; exact .tail _ (.tail _ this)
  have up0 : ∀ {V V' : View}, Kp T0 V V' → Kp (t1 :: t2 :: T0) V V' := fun k => k.sub fun t ht => by rw [List.contains_iff_mem]; exact .tail _ (.tail _ ht)
  have up1 : ∀ {V V' : View}, Kp [t1] V V' → Kp (t1 :: t2 :: T0) V V' := fun k => k.sub fun t ht => by rw [List.mem_singleton.mp ht, List.contains_iff_mem]; exact .head _
  have up2 : ∀ {V V' : View}, Kp [t2] V V' → Kp (t1 :: t2 :: T0) V V' := fun k => k.sub fun t ht => by rw [List.mem_singleton.mp ht, List.contains_iff_mem]; exact .tail _ (.head _)
  have nB : ∀ {T : List Nat}, (∀ t ∈ T, t ∈ rowB) → T.contains t1 = false ∧ T.contains t2 = false := fun h => by
    constructor
    · cases q : List.contains _ t1 with
      | false => rfl
      | true => exact absurd rfl (bt1 _ (h _ (List.contains_iff_mem.mp q)))
    · cases q : List.contains _ t2 with
      | false => rfl
      | true => exact absurd rfl (bt2 _ (h _ (List.contains_iff_mem.mp q)))
  have n1 : ∀ {u : Nat}, u ≠ t1 → [t1].contains u = false := fun h => by simpa using h
  have n2 : ∀ {u : Nat}, u ≠ t2 → [t2].contains u = false := fun h => by simpa using h
  have sg1 : ∀ {V V' : View} {y : Sy}, Kp [t1] V V' → Sg prog w V s y → Sg prog w V' s y := fun k h => h.kp k (by
    rw [n1 (Ne.symm b10), n1 (bt1 21 (by decide)), n1 (bt1 22 (by decide)), n1 (bt1 23 (by decide)), n1 (bt1 24 (by decide)), n1 hx1]; rfl)
  have sg2 : ∀ {V V' : View} {y : Sy}, Kp [t2] V V' → Sg prog w V s y → Sg prog w V' s y := fun k h => h.kp k (by
    rw [n2 (Ne.symm b20), n2 (bt2 21 (by decide)), n2 (bt2 22 (by decide)), n2 (bt2 23 (by decide)), n2 (bt2 24 (by decide)), n2 hx2]; rfl)
  refine G.fnQ G.f__law_row (d := d) fun L cdv hL => ?_
  intro C Q hQ
  repeat walk_at "w"
  refine nList t1 fun rl V1 k1 hrl => ?_
  refine WP.execs_cons ?_
  refine forUp ?_
  repeat walk_at "w"
  refine WP.call (coin_fn G (hc.kp k1) (by decide)) (by walk_at "dp") ?_
  intro v V2; refine xe2 fun j tkj => an5 ?_; rintro rfl hj0 hj3 k2 hc2
  obtain ⟨cn, rfl, hc1, hc3⟩ : ∃ cn : Nat, j = 3 - (cn : Int) ∧ 1 ≤ cn ∧ cn ≤ 3 := ⟨(3 - j).toNat, by omega, by omega, by omega⟩
  have hrl2 : V2 rl = some (.lst t1 []) := k2.get' hrl (nB (by decide)).1
  have hrm2 : V2 rm = some (.lst 3 [.int r t]) := k2.get (k1.get hrm)
  have hs2 := (hs.kp k1).kp k2
  have k02 : Kp (t1 :: t2 :: T0) V V2 := (upB k1 (by decide)).trans (upB k2 (by decide))
  clear k1
  repeat walk_at "w"
  rename_i tks ra V3 ta tb k3 hra
  refine ⟨ra, cn, ta, _, tb, rfl, by rw [show (3 : Int) - (3 - (cn : Int)) = cn by omega] at hra; exact hra, by omega, fun i m V' => m "coins" = some (.ref c) ∧ m "signs" = some (.ref s) ∧ m "room" = some (.ref rm) ∧ m "row" = some (.ref rl) ∧ (∃ tk, m "deep" = some (.int n tk)) ∧ RowInv prog w V (t1 :: t2 :: T0) c s rm rl y t1 n i V',
    ⟨by walk_at "lk", by walk_at "lk", by walk_at "lk", by walk_at "lk", ⟨_, by walk_at "lk"⟩, [], [], y, r, t, k3.get' hrl2 rfl, .nil, rfl, .refl, hs2.kp k3, hc2.kp k3, k3.get hrm2, (fun b hb => nomatch hb), k02.trans (upB k3 (by decide))⟩, ?_, ?_⟩
  · rintro i tki m V4 hi ⟨m1, m2, m3, m4, ⟨tkd, m5⟩, bs, vs, y4, r4, tr4, hrl4, hbs, hlb, hle4, hs4, hc4, hrm4, hbw, k04⟩
    walk_at "w"
    refine WP.gen fun R hR => ?_
    have hlv := hbs.length
    -- after the choice of way
    have fin : ∀ m V5 (way : Int) tkw, m "coins" = some (.ref c) → m "signs" = some (.ref s) → m "room" = some (.ref rm) → m "row" = some (.ref rl) → m "deep" = some (.int n tkd) → m "way" = some (.int way tkw) → 0 ≤ way → way < 9 → (6 ≤ way → 0 < n) → Kp [1] V4 V5 → Coins V5 c →
        WP C (execs ((((fnBody (topAt 49))[1]?.map fun st => match st with | .For _ _ bd _ _ => bd | _ => []).getD []).drop 1) C.env) m V5 R := by
      intro m V5 way tkw m1 m2 m3 m4 m5 m6 hw0 hw9 hwn k5 hc5
      have hrl5 : V5 rl = some (.lst t1 vs) := k5.get' hrl4 (nB (T := [1]) (by decide)).1
      have hrm5 : V5 rm = some (.lst 3 [.int r4 tr4]) := k5.get hrm4
      have hs5 := hs4.kp k5
      have hbs5 : All2 (fun b v => Rw V5 b [v]) bs vs := hbs.imp fun _ _ q => q.mono k5.fz
      have k05 := k04.trans (upB k5 (by decide))
      repeat walk_at "w"
      by_cases hw6 : way < 6
      · refine ifT (by simpa using hw6) ?_
        repeat walk_at "w"
        refine WP.call (leaf_fn G hc5 hs5 (h0.trans hle4)) (by walk_at "dp") ?_
        intro v V6; refine xe2 fun l y6 => an6 ?_; rintro hle6 hc6 hs6 hd6 hlw k6
        repeat walk_at "w"
        refine nList 0 fun hl V7 k7 hhl => ?_
        repeat walk_at "w"
        rename_i tg xa V8 k8 hxa
        have hrl8 : V8 rl = some (.lst t1 vs) := k8.get' (k7.get' (k6.get' hrl5 (nB (T := [1, 20, 21, 22, 23, 24]) (by decide)).1) rfl) rfl
        refine nAppend hrl8 (by walk_at "o") fun V9 k9 h9 => ?_
        repeat walk_at "w"
        have z89 : Fz V8 V9 := k9.fz (n1 (Ne.symm b10))
        have z59 : Fz V5 V9 := (((k6.fz).trans k7.fz).trans k8.fz).trans z89
        have z69 : Fz V6 V9 := ((k7.fz).trans k8.fz).trans z89
        refine hR _ _ _ ⟨m1, m2, m3, m4, ⟨_, m5⟩, bs ++ [.lf l], vs ++ [.ref xa], y6, r4, tr4, h9, (hbs5.imp fun _ _ q => q.mono z59).append (.one (show Rw V9 (.lf l) [.ref xa] from ⟨xa, hl, v, tg, rfl, z89.tup hxa, (k8.fz.trans z89).l0 hhl, hd6.mono z69⟩)), by simp [hlb], hle4.trans hle6,
          sg1 k9 ((hs6.kp k7).kp k8), ((hc6.kp k7).kp k8).kp k9 (n1 (bt1 1 (by decide))), k9.get' (k8.get (k7.get (k6.get hrm5))) (n1 (bt1 3 (by decide))), fun b hb => ?_, ((k05.trans (upB k6 (by decide))).trans (upB k7 (by decide))).trans ((upB k8 (by decide)).trans (up1 k9))⟩
        rcases List.mem_append.mp hb with hb | hb
        · exact ⟨(hbw b hb).1.mono hle6, (hbw b hb).2⟩
        · rw [List.mem_singleton.mp hb]; exact ⟨hlw, by simp [htB], lvI_pos n⟩
      · refine ifF (by simpa using hw6) ?_
        have hn0 := hwn (by walk_at "o")
        have en : ((n : Int) - 1) = ((n - 1 : Nat) : Int) := by omega
        -- the last line of the turn
        have fin3 : ∀ m V6 (b : B) y6 r6 t6 hl wd, m "coins" = some (.ref c) → m "signs" = some (.ref s) → m "room" = some (.ref rm) → m "row" = some (.ref rl) → m "deep" = some (.int n tkd) → m "way" = some (.int way tkw) → m "held" = some (.ref hl) →
            V6 rl = some (.lst t1 vs) → All2 (fun b v => Rw V6 b [v]) bs vs → y4.le y6 → Sg prog w V6 s y6 → Coins V6 c → V6 rm = some (.lst 3 [.int r6 t6]) → b.Wf y6 → OkI n b → Kp (t1 :: t2 :: T0) V V6 →
            (∀ V' x t, Fz V6 V' → V' x = some (.tup [.str wd t, .ref hl]) → Rw V' b [.ref x]) → (way = 6 ∧ wd = "either" ∨ way = 7 ∧ wd = "then" ∨ way = 8 ∧ wd = "not") →
            WP C (execs ((((fnBody (topAt 49))[1]?.map fun st => match st with | .For _ _ bd _ _ => bd | _ => []).getD []).drop 5) C.env) m V6 R := by
          intro m V6 b y6 r6 t6 hl wd m1 m2 m3 m4 m5 m6 m7 hrl6 hbs6 hle6 hs6 hc6 hrm6 hwf hht k06 mk hww
          repeat walk_at "w"
          rename_i ta tb tc
          refine nList 20 fun tl V7 k7 htl => ?_
          have hit : ∃ tw, ([Value.str "either" ta, Value.str "then" tb, Value.str "not" tc][(way - 6).toNat]? = some (.str wd tw)) := by
            rcases hww with ⟨rfl, rfl⟩ | ⟨rfl, rfl⟩ | ⟨rfl, rfl⟩ <;> exact ⟨_, rfl⟩
          obtain ⟨tw, hit⟩ := hit
          repeat walk_at "w"
          refine WP.item_list htl (by walk_at "o") (by walk_at "o") hit ?_
          repeat walk_at "w"
          rename_i xa V8 k8 hxa
          refine nAppend (k8.get' (k7.get' hrl6 rfl) rfl) (by walk_at "o") fun V9 k9 h9 => ?_
          repeat walk_at "w"
          have z89 : Fz V8 V9 := k9.fz (n1 (Ne.symm b10))
          have z69 : Fz V6 V9 := ((k7.fz).trans k8.fz).trans z89
          refine hR _ _ _ ⟨m1, m2, m3, m4, ⟨_, m5⟩, bs ++ [b], vs ++ [.ref xa], y6, r6, t6, h9, (hbs6.imp fun _ _ q => q.mono z69).append (.one (mk _ _ _ z69 (z89.tup hxa))), by simp [hlb], hle4.trans hle6,
            sg1 k9 ((hs6.kp k7).kp k8), ((hc6.kp k7).kp k8).kp k9 (n1 (bt1 1 (by decide))), k9.get' (k8.get (k7.get hrm6)) (n1 (bt1 3 (by decide))), fun b' hb => ?_, (k06.trans (upB k7 (by decide))).trans ((upB k8 (by decide)).trans (up1 k9))⟩
          rcases List.mem_append.mp hb with hb | hb
          · exact ⟨(hbw b' hb).1.mono hle6, (hbw b' hb).2⟩
          · rw [List.mem_singleton.mp hb]; exact ⟨hwf, hht⟩
        repeat walk_at "w"
        refine WP.get_list hrm5 (by decide) (by decide) rfl ?_
        repeat walk_at "w"
        refine WP.isub_int fun tks2 => ?_
        refine nSetList hrm5 (by decide) (by decide) (by simp) fun V6 k6 h6 => ?_
        have h6' : V6 rm = some (.lst 3 [.int (r4 - 1) tks2]) := h6
        repeat walk_at "w"
        rw [en]
        have hrl6 : V6 rl = some (.lst t1 vs) := k6.get' hrl5 (nB (T := [3]) (by decide)).1
        refine WP.call (ih hn0 V6 c s rm y4 _ _ _ (hc5.kp k6) (hs5.kp k6) (h0.trans hle4) h6') (by walk_at "dp") ?_
        intro v V7; refine xe6 fun ba y7 xa va r7 tr7 => an10 ?_; rintro rfl hxa hra7 hle7 hs7 hc7 hrm7 hwa hha k7
        repeat walk_at "w"
        refine nList t2 fun hl V8 k8 hhl => ?_
        have hrl8 : V8 rl = some (.lst t1 vs) := k8.get' (k7.get' hrl6 b1) rfl
        have z58 : Fz V5 V8 := ((k6.fz).trans (k7.fz b0)).trans k8.fz
        have k08 : Kp (t1 :: t2 :: T0) V V8 := (k05.trans (upB k6 (by decide))).trans ((up0 k7).trans (upB k8 (by decide)))
        repeat walk_at "w"
        by_cases hw8 : way < 8
        · refine ifT (by simpa using hw8) ?_
          repeat walk_at "w"
          rw [en]
          refine WP.call (ih hn0 V8 c s rm y7 _ _ _ (hc7.kp k8) (hs7.kp k8) (h0.trans (hle4.trans hle7)) (k8.get hrm7)) (by walk_at "dp") ?_
          intro v V9; refine xe6 fun bb y9 xb vb r9 tr9 => an10 ?_; rintro rfl hxb hrb hle9 hs9 hc9 hrm9 hwb hhb k9
          have hhl9 : V9 hl = some (.lst t2 [.ref xa]) := k9.get' hhl b2
          refine nAppend hhl9 (by simp) fun V10 k10 h10 => ?_
          refine WP.freeze h10 fun V11 k11 h11 => ?_
          have z9 : Fz V9 V11 := (k10.fz (n2 (Ne.symm b20))).trans (k11.fz (n2 (Ne.symm b20)))
          have z8 : Fz V8 V11 := (k9.fz b0).trans z9
          have z7 : Fz V7 V11 := (k8.fz).trans z8
          have hrl11 : V11 rl = some (.lst t1 vs) := k11.get' (k10.get' (k9.get' hrl8 b1) (n2 b12)) (n2 b12)
          have k011 : Kp (t1 :: t2 :: T0) V V11 := (k08.trans (up0 k9)).trans ((up2 k10).trans (up2 k11))
          walk_at "w"
          walk_at "w"
          suffices hx : ∃ (b : B) (wd : Str), b.Wf y9 ∧ OkI n b ∧ (∀ V' x t, Fz V11 V' → V' x = some (.tup [.str wd t, .ref hl]) → Rw V' b [.ref x]) ∧ (way = 6 ∧ wd = "either" ∨ way = 7 ∧ wd = "then" ∨ way = 8 ∧ wd = "not") by
            revert hx; refine xe2 fun b wd => an4 ?_; rintro hwf hht mk hww
            exact fin3 _ V11 b y9 r9 tr9 hl wd (by walk_at "lk") (by walk_at "lk") (by walk_at "lk") (by walk_at "lk") (by walk_at "lk") (by walk_at "lk") (by walk_at "lk") hrl11 (hbs5.imp fun _ _ q => q.mono (z58.trans z8)) (hle7.trans hle9)
              (sg2 k11 (sg2 k10 hs9)) ((hc9.kp k10 (n2 (bt2 1 (by decide)))).kp k11 (n2 (bt2 1 (by decide)))) (k11.get' (k10.get' hrm9 (n2 (bt2 3 (by decide)))) (n2 (bt2 3 (by decide)))) hwf hht k011 mk hww
          rcases (by omega : way = 6 ∨ way = 7) with rfl | rfl
          · exact ⟨.or 2 ba bb, "either", ⟨.inl rfl, hwa.mono hle9, hwb⟩, .two hn0 hha hhb rfl rfl, (fun V' x t hz hx => ⟨rfl, x, hl, xa, xb, va, vb, t, rfl, hx, hz.l0 h11, hz.l0 (z7.l0 hxa), hra7.mono (z7.trans hz), hz.l0 (z9.l0 hxb), hrb.mono (z9.trans hz)⟩), .inl ⟨rfl, rfl⟩⟩
          · exact ⟨.th ba bb, "then", ⟨hwa.mono hle9, hwb⟩, .two hn0 hha hhb rfl rfl, (fun V' x t hz hx => ⟨x, hl, xa, xb, va, vb, t, rfl, hx, hz.l0 h11, hz.l0 (z7.l0 hxa), hra7.mono (z7.trans hz), hz.l0 (z9.l0 hxb), hrb.mono (z9.trans hz)⟩), .inr (.inl ⟨rfl, rfl⟩)⟩
        · refine ifF (by simpa using hw8) ?_
          obtain rfl : way = 8 := by omega
          refine WP.freeze hhl fun V11 k11 h11 => ?_
          have z8 : Fz V8 V11 := k11.fz (n2 (Ne.symm b20))
          have z7 : Fz V7 V11 := (k8.fz).trans z8
          exact fin3 _ V11 (.nt ba) y7 r7 tr7 hl "not" (by walk_at "lk") (by walk_at "lk") (by walk_at "lk") (by walk_at "lk") (by walk_at "lk") (by walk_at "lk") (by walk_at "lk") (k11.get' hrl8 (n2 b12)) (hbs5.imp fun _ _ q => q.mono (z58.trans z8)) hle7
            (sg2 k11 (hs7.kp k8)) ((hc7.kp k8).kp k11 (n2 (bt2 1 (by decide)))) (k11.get' (k8.get hrm7) (n2 (bt2 3 (by decide)))) hwa (.two (b := ba) hn0 hha hha (by simp [htB]) (by simp [lvB])) (k08.trans (up2 k11))
            (fun V' x t hz hx => ⟨x, hl, xa, va, t, rfl, hx, hz.l0 h11, hz.l0 (z7.l0 hxa), hra7.mono (z7.trans hz)⟩) (.inr (.inr ⟨rfl, rfl⟩))
    repeat walk_at "w"
    by_cases hn0 : 0 < n
    · refine ifT (by simpa using hn0) ?_
      repeat walk_at "w"
      refine WP.item_list hrm4 (by decide) (by decide) rfl ?_
      repeat walk_at "w"
      by_cases hr0 : 0 < r4
      · refine ifT (by simpa using hr0) ?_
        repeat walk_at "w"
        refine ifT rfl ?_
        repeat walk_at "w"
        refine WP.call (coin_fn G hc4 (by decide)) (by walk_at "dp") ?_
        intro v V5; refine xe2 fun way tkw => an5 ?_; rintro rfl hw0 hw9 k5 hc5
        exact fin _ V5 way tkw (by walk_at "lk") (by walk_at "lk") (by walk_at "lk") (by walk_at "lk") (by walk_at "lk") (by walk_at "lk") hw0 hw9 (fun _ => hn0) k5 hc5
      · refine ifF (by simpa using hr0) ?_
        repeat walk_at "w"
        refine ifF (by decide) ?_
        walk_at "w"
        exact fin _ V4 0 _ (by walk_at "lk") (by walk_at "lk") (by walk_at "lk") (by walk_at "lk") (by walk_at "lk") (by walk_at "lk") (by decide) (by decide) (fun h => absurd h (by decide)) .refl hc4
    · refine ifF (by simpa using hn0) ?_
      repeat walk_at "w"
      refine ifF (by decide) ?_
      walk_at "w"
      exact fin _ V4 0 _ (by walk_at "lk") (by walk_at "lk") (by walk_at "lk") (by walk_at "lk") (by walk_at "lk") (by walk_at "lk") (by decide) (by decide) (fun h => absurd h (by decide)) .refl hc4
  · rintro m V4 ⟨m1, m2, m3, m4, ⟨tkd, m5⟩, bs, vs, y4, r4, tr4, hrl4, hbs, hlb, hle4, hs4, hc4, hrm4, hbw, k04⟩
    have hne : bs ≠ [] := by rintro rfl; simp at hlb; omega
    refine WP.freeze hrl4 fun V5 k5 h5 => ?_
    repeat walk_at "w"
    have hz : Fz V4 V5 := k5.fz (n1 (Ne.symm b10))
    exact hQ _ _ _ ⟨_, .refl, rowOf bs, y4, rl, vs, r4, tr4, rfl, h5, rowOf_rw (hbs.imp fun _ _ q => q.mono hz) hne, hle4, sg1 k5 hs4, hc4.kp k5 (n1 (bt1 1 (by decide))), k5.get' hrm4 (n1 (bt1 3 (by decide))), rowOf_wf fun b hb => (hbw b hb).1, .row (fun b hb => (hbw b hb).2) hne (by walk_at "o"), k04.trans (up1 k5)⟩
noncomputable abbrev rowT : List Nat := [102, 202, 101, 201, 100, 200, 1, 3, 20, 21, 22, 23, 24]
theorem row_fn (G : GX prog w b₀ K mg mb) : RowFn prog w b₀ rowT 2 6 := by
  have r0 : RowFn prog w b₀ (100 :: 200 :: rowB) 0 4 := row_step G (by decide) (by decide) rfl rfl rfl (by decide) (by decide) (by decide) (by decide) (by decide) (by decide) (by decide) (by decide) fun h => absurd h (by decide)
  have r1 : RowFn prog w b₀ (101 :: 201 :: 100 :: 200 :: rowB) 1 5 := row_step G (by decide) (by decide) rfl rfl rfl (by decide) (by decide) (by decide) (by decide) (by decide) (by decide) (by decide) (by decide) fun _ => r0
  exact row_step G (by decide) (by decide) rfl rfl rfl (by decide) (by decide) (by decide) (by decide) (by decide) (by decide) (by decide) (by decide) fun _ => r1

noncomputable def Same (a b : B) : Prop := Eqv a b ∧ szB a = szB b ∧ lvB a = lvB b
noncomputable abbrev wrT : List Nat := [1, 20, 21, 22, 23, 24]
noncomputable def WrPost (prog : Program) (w : World) (V : View) (s c : Addr) (y : Sy) (b : B) (v : Value) (V' : View) : Prop :=
  ∃ b' y', y.le y' ∧ Sg prog w V' s y' ∧ Coins V' c ∧ D V' b'.enc v ∧ b'.Wf y' ∧ Same b' b ∧ Kp wrT V V'
noncomputable def WrFn (prog : Program) (w : World) (b₀ : Heap) (late : Bool) (n : Nat) (b : B) : Prop := ∀ (V : View) (c s x : Addr) (y : Sy) (vs : List Value), Coins V c → Sg prog w V s y → sy0.le y → V x = some (.lst 0 vs) → Rw V b vs → b.Wf y →
  Fn prog w b₀ (n + 3) V (.ref 407) [.ref c, .ref s, .ref x, .bool late] (WrPost prog w V s c y b)
theorem wr_sq (G : GX prog w b₀ K mg mb) {late : Bool} {n : Nat} {b : B} (hb : lvB b ≤ n + 1) (hn : n ≤ 300) (ih : ∀ b, lvB b ≤ n → WrFn prog w b₀ late n b) {V : View} {c s x : Addr} {y : Sy} {vs : List Value} (hc : Coins V c) (hs : Sg prog w V s y) (h0 : sy0.le y) (hx : V x = some (.lst 0 vs)) (hr : Rw V b vs) (hw : b.Wf y) (hl : 1 < vs.length) :
    Fn prog w b₀ (n + 1 + 3) V (.ref 407) [.ref c, .ref s, .ref x, .bool late] (WrPost prog w V s c y b) := by
  have hvl : vs.length ≤ 301 := Nat.le_trans hr.len (Nat.le_trans (ht_lv b) (by walk_at "o"))
  refine G.fnVQ G.f__law_written (d := n + 3) fun L cdv V0 k0 hc0 => ?_
  intro C Q hQ
  have cc : V0 (L + 1) = some (.cell 9 (some (.ref c))) := hc0 "coins" (L + 1) (.tail _ (.tail _ (.head _)))
  have cs : V0 (L + 2) = some (.cell 9 (some (.ref s))) := hc0 "signs" (L + 2) (.tail _ (.head _))
  have ce : V0 (L + 3) = some (.cell 9 (some (.bool late))) := hc0 "late" (L + 3) (.head _)
  have fin : ∀ m V3 (a : Int) tk, m "at" = some (.int a tk) → m "row" = some (.ref x) → 0 < a → a < vs.length → Kp [1] V0 V3 → Coins V3 c →
      WP C (execs ((((fnBody (topAt 50))[0]?.map fun st => match st with | .If _ bd _ _ => bd | _ => []).getD []).drop 2) C.env) m V3 (andThen C ((fnBody (topAt 50)).drop 1) Q) := by
    intro m V3 a tk m1 m2 ha hal k3 hc3
    obtain ⟨k, rfl⟩ : ∃ k : Nat, a = k := ⟨a.toNat, by omega⟩
    refine fl0 (hr.cut k hw (by walk_at "o") (by walk_at "o")) (xe2 fun b1 b2 => an7 ?_); rintro r1 r2 he w1 w2 hsz hlv
    have p1 := lvB_pos b1
    have p2 := lvB_pos b2
    have hlv' : lvB b1 + lvB b2 = lvB b := hlv
    repeat walk_at "w"
    refine WP.slice_to 0 ?_
    repeat walk_at "w"
    have hx3 : V3 x = some (.lst 0 vs) := by walk_at "vw"
    refine ⟨x, 0, vs, k, tk, rfl, hx3, sz (by walk_at "o"), rfl, by omega, fun u hu => ?_⟩
    have k4 : Kp [] V3 (upd V3 u (.lst 0 (vs.take (k : Int).toNat))) := Kp.refl.new hu
    have h4 : upd V3 u (.lst 0 (vs.take (k : Int).toNat)) u = some (.lst 0 (vs.take (k : Int).toNat)) := upd_self
    generalize upd V3 u (.lst 0 (vs.take (k : Int).toNat)) = V4 at k4 h4
    rw [Int.toNat_natCast] at h4
    have z4 : Fz V V4 := (k0.fz).trans ((k3.fz).trans k4.fz)
    repeat walk_at "w"
    refine WP.call (ih b1 (by walk_at "o") V4 c s u y _ (hc3.kp k4) (((hs.kp k0).kp k3).kp k4) h0 h4 (r1.mono z4) w1) (by walk_at "dp") ?_
    rintro v V5 ⟨b1', y5, hle5, hs5, hc5, hd5, hw5, ⟨e5, sz5, lv5⟩, k5⟩
    repeat walk_at "w"
    refine WP.slice_from 0 ?_
    repeat walk_at "w"
    have hx5 : V5 x = some (.lst 0 vs) := by walk_at "vw"
    refine ⟨x, 0, vs, k, tk, rfl, hx5, sz (by walk_at "o"), rfl, by omega, fun u' hu => ?_⟩
    have k6 : Kp [] V5 (upd V5 u' (.lst 0 (vs.drop (k : Int).toNat))) := Kp.refl.new hu
    have h6 : upd V5 u' (.lst 0 (vs.drop (k : Int).toNat)) u' = some (.lst 0 (vs.drop (k : Int).toNat)) := upd_self
    generalize upd V5 u' (.lst 0 (vs.drop (k : Int).toNat)) = V6 at k6 h6
    rw [Int.toNat_natCast] at h6
    have z6 : Fz V V6 := z4.trans ((k5.fz).trans k6.fz)
    repeat walk_at "w"
    refine WP.call (ih b2 (by walk_at "o") V6 c s u' y5 _ (hc5.kp k6) (hs5.kp k6) (h0.trans hle5) h6 (r2.mono z6) (w2.mono hle5)) (by walk_at "dp") ?_
    rintro v' V7 ⟨b2', y7, hle7, hs7, hc7, hd7, hw7, ⟨e7, sz7, lv7⟩, k7⟩
    repeat walk_at "w"
    rename_i tk1 pa V8 k8 h8 ra V9 k9 h9
    have hd9 : D V9 b1'.enc v := (((hd5.kp k6).kp k7).kp k8).kp k9
    exact hQ _ _ _ ⟨_, .refl, .sq b1' b2', y7, hle5.trans hle7, (hs7.kp k8).kp k9, (hc7.kp k8).kp k9, ⟨ra, pa, _, _, v, v', rfl, h9, k9.get h8, hd9, (hd7.kp k8).kp k9⟩, ⟨hw5.mono hle7, hw7⟩,
      ⟨(e5.sq e7).trans he, by rw [← hsz]; simp only [szB, sz5, sz7], by rw [← hlv]; simp only [lvB, lv5, lv7]⟩, by walk_at "kp"⟩
  repeat walk_at "w"
  refine ifT (by simp; omega) ?_
  repeat walk_at "w"
  refine WP.call (coin_fn G (hc.kp k0) (by walk_at "o")) (by walk_at "dp") ?_
  intro v V3; refine xe2 fun j tkj => an5 ?_; rintro rfl hj0 hjn k3 hc3
  repeat walk_at "w"
  cases late with
  | true =>
    refine ifT rfl ?_
    repeat ((fail_if_success (with_reducible show WP _ (execs _ _) _ _ _)); walk_at "w")
    exact fin _ V3 _ _ (by walk_at "lk") (by walk_at "lk") (by walk_at "o") (by walk_at "o") k3 hc3
  | false =>
    refine ifF (by decide) ?_
    repeat ((fail_if_success (with_reducible show WP _ (execs _ _) _ _ _)); walk_at "w")
    exact fin _ V3 _ _ (by walk_at "lk") (by walk_at "lk") (by walk_at "o") (by walk_at "o") k3 hc3

theorem wr_one (G : GX prog w b₀ K mg mb) {late : Bool} {n : Nat} {b : B} (hb : lvB b ≤ n + 1) (hn : n ≤ 300) (ih : ∀ b, lvB b ≤ n → WrFn prog w b₀ late n b) {V : View} {c s x : Addr} {y : Sy} {vs : List Value} (hc : Coins V c) (hs : Sg prog w V s y) (h0 : sy0.le y) (hx : V x = some (.lst 0 vs)) (hr : Rw V b vs) (hw : b.Wf y) (hl : vs.length ≤ 1) :
    Fn prog w b₀ (n + 1 + 3) V (.ref 407) [.ref c, .ref s, .ref x, .bool late] (WrPost prog w V s c y b) := by
  refine fl0 (hs.at) (xe5 fun sd tx an fs fn => an2 ?_); rintro q1 q2
  -- the one part of the row
  have hone : ∃ r h wd t1 hs, vs = [.ref r] ∧ V r = some (.tup [.str wd t1, .ref h]) ∧ V h = some (.lst 0 hs) ∧
      ((wd = "leaf" ∧ ∃ l u, b = .lf l ∧ hs = [u] ∧ D V l.enc u) ∨ wd ≠ "leaf" ∧ ∃ as, All2 (fun a v => ∃ r l, v = Value.ref r ∧ V r = some (.lst 0 l) ∧ Rw V a l) as hs ∧ (∀ a ∈ as, lvB a ≤ n ∧ a.Wf y) ∧
        (wd = "either" ∧ (∃ a1 a2, as = [a1, a2] ∧ b = .or 2 a1 a2) ∨ wd = "then" ∧ (∃ a1 a2, as = [a1, a2] ∧ b = .th a1 a2) ∨ wd = "not" ∧ ∃ a1, as = [a1] ∧ b = .nt a1)) := by
    cases b with
    | lf l => obtain ⟨r, h, u, t1, rfl, e1, e2, e3⟩ := hr; exact ⟨r, h, "leaf", t1, [u], rfl, e1, e2, .inl ⟨rfl, l, u, rfl, rfl, e3⟩⟩
    | sq a b =>
      revert hr; refine xe2 fun v r => an4 ?_; rintro rfl hne _ _
      cases r with
      | nil => exact absurd rfl hne
      | cons _ _ => simp at hl
    | or f a1 a2 =>
      obtain ⟨rfl, r, h, r1, r2, l1, l2, t1, rfl, e1, e2, e3, e4, e5, e6⟩ := hr
      simp only [lvB] at hb
      exact ⟨r, h, "either", t1, _, rfl, e1, e2, .inr ⟨by decide, [a1, a2], .cons ⟨r1, l1, rfl, e3, e4⟩ (.cons ⟨r2, l2, rfl, e5, e6⟩ .nil), fun a ha => by
        rcases List.mem_cons.mp ha with rfl | ha
        · exact ⟨by omega, hw.2.1⟩
        · rw [List.mem_singleton.mp ha]; exact ⟨by omega, hw.2.2⟩, .inl ⟨rfl, a1, a2, rfl, rfl⟩⟩⟩
    | th a1 a2 =>
      revert hr; refine xe7 fun r h r1 r2 l1 l2 t1 => an7 ?_; rintro rfl e1 e2 e3 e4 e5 e6
      simp only [lvB] at hb
      exact ⟨r, h, "then", t1, _, rfl, e1, e2, .inr ⟨by decide, [a1, a2], .cons ⟨r1, l1, rfl, e3, e4⟩ (.cons ⟨r2, l2, rfl, e5, e6⟩ .nil), fun a ha => by
        rcases List.mem_cons.mp ha with rfl | ha
        · exact ⟨by omega, hw.1⟩
        · rw [List.mem_singleton.mp ha]; exact ⟨by omega, hw.2⟩, .inr (.inl ⟨rfl, a1, a2, rfl, rfl⟩)⟩⟩
    | nt a1 =>
      revert hr; refine xe5 fun r h r1 l1 t1 => an5 ?_; rintro rfl e1 e2 e3 e4
      simp only [lvB] at hb
      exact ⟨r, h, "not", t1, _, rfl, e1, e2, .inr ⟨by decide, [a1], .cons ⟨r1, l1, rfl, e3, e4⟩ .nil, fun a ha => by
        rw [List.mem_singleton.mp ha]; exact ⟨by omega, hw⟩, .inr (.inr ⟨rfl, a1, rfl, rfl⟩)⟩⟩
  obtain ⟨r, h, wd, t1, hs', rfl, hr1, hh, hcase⟩ := hone
  refine G.fnVQ G.f__law_written (d := n + 3) fun L cdv V0 k0 hc0 => ?_
  intro C Q hQ
  have cc : V0 (L + 1) = some (.cell 9 (some (.ref c))) := hc0 "coins" (L + 1) (.tail _ (.tail _ (.head _)))
  have cs : V0 (L + 2) = some (.cell 9 (some (.ref s))) := hc0 "signs" (L + 2) (.tail _ (.head _))
  have ce : V0 (L + 3) = some (.cell 9 (some (.bool late))) := hc0 "late" (L + 3) (.head _)
  have hx0 : V0 x = some (.lst 0 [.ref r]) := k0.get hx
  have hr0 : V0 r = some (.tup [.str wd t1, .ref h]) := k0.get hr1
  have hh0 : V0 h = some (.lst 0 hs') := k0.get hh
  repeat walk_at "w"
  refine ifF (by simp) ?_
  refine WP.execs_cons ?_
  refine WP.assign_tuple ?_
  repeat walk_at "w"
  refine WP.item_list hx0 (by decide) (by decide) rfl ?_
  refine ⟨r, _, rfl, hr0, rfl, store2 ?_⟩
  repeat walk_at "w"
  rcases hcase with ⟨rfl, l, u, rfl, rfl, hd⟩ | ⟨hwd, as, has, haw, hb'⟩
  · refine ifT (by decide) ?_
    repeat walk_at "w"
    refine WP.item_list hh0 (by decide) (by decide) rfl ?_
    exact hQ _ _ _ ⟨_, .refl, .lf l, y, .refl, hs.kp k0, hc.kp k0, hd.kp k0, hw, ⟨.refl, rfl, rfl⟩, k0.weak⟩
  refine ifF (by simpa using hwd) ?_
  have hlas := has.length
  have hlen : as.length ≤ 2 := by rcases hb' with ⟨_, a1, a2, rfl, _⟩ | ⟨_, a1, a2, rfl, _⟩ | ⟨_, a1, rfl, _⟩ <;> simp
  repeat walk_at "w"
  refine WP.listcomp 20 (by rfl) (by decide) rfl (by decide) rfl ?_
  repeat walk_at "w"
  refine ⟨h, 0, hs', rfl, sz (by walk_at "o"), fun i ys V' => Kp wrT V0 V' ∧ ∃ as' y', y.le y' ∧ Sg prog w V' s y' ∧ Coins V' c ∧ All2 (fun (b' : B) v => D V' b'.enc v) as' ys ∧ All2 Same as' (as.take i) ∧ ∀ b' ∈ as', b'.Wf y',
    ⟨.refl, [], y, .refl, hs.kp k0, hc.kp k0, .nil, .nil, (fun _ h => nomatch h)⟩, fun i ys V' q => q.1.get hh0, ?_, ?_⟩
  · rintro i v ys V5 Cc mc hv ⟨k5, as', y5, hle5, hs5, hc5, hd5, hsm, hwf5⟩ hmc
    obtain ⟨a, hai, rr, l, rfl, hrr, hrl⟩ := has.getR hv
    have haw' := haw a (List.mem_of_getElem? hai)
    have cc5 : V5 (L + 1) = some (.cell 9 (some (.ref c))) := k5.get cc
    have cs5 : V5 (L + 2) = some (.cell 9 (some (.ref s))) := k5.get cs
    have ce5 : V5 (L + 3) = some (.cell 9 (some (.bool late))) := k5.get ce
    have z5 : Fz V V5 := (k0.fz).trans k5.fz
    repeat walk_at "w"
    refine WP.call (ih a haw'.1 V5 c s rr y5 l hc5 hs5 (h0.trans hle5) (z5.l0 hrr) (hrl.mono z5) (haw'.2.mono hle5)) (Nat.le_refl _) ?_
    rintro v V6 ⟨b', y6, hle6, hs6, hc6, hd6, hw6, hsame, k6⟩
    refine ⟨k5.trans k6, as' ++ [b'], y6, hle5.trans hle6, hs6, hc6, (hd5.imp fun _ _ q => q.kp k6).append (.one hd6), ?_, fun e he => ?_⟩
    · rw [take_snoc hai]; exact hsm.append (.one hsame)
    · rcases List.mem_append.mp he with he | he
      · exact (hwf5 e he).mono hle6
      · rw [List.mem_singleton.mp he]; exact hw6
  · rintro ys V5 tl ⟨k5, as', y5, hle5, hs5, hc5, hd5, hsm, hwf5⟩ htl
    have k6 : Kp [] V5 (upd V5 tl (.lst 20 ys)) := Kp.refl.new htl
    have h6 : upd V5 tl (.lst 20 ys) tl = some (.lst 20 ys) := upd_self
    generalize upd V5 tl (.lst 20 ys) = V6 at k6 h6
    rw [← hlas, List.take_length] at hsm
    have hly := hd5.length
    have hls := hsm.length
    repeat walk_at "w"
    refine nTupleList h6 (by walk_at "o") fun ta V7 k7 h7 => ?_
    have k57 : Kp wrT V5 V7 := (k6.weak).trans k7.weak
    have k07 : Kp wrT V0 V7 := k5.trans k57
    have k17 : Kp wrT V V7 := (k0.weak).trans k07
    have cc7 : V7 (L + 1) = some (.cell 9 (some (.ref c))) := k07.get cc
    have cs7 : V7 (L + 2) = some (.cell 9 (some (.ref s))) := k07.get cs
    have q17 : V7 s = some (.inst 154 sd) := k17.get q1
    have q27 : V7 sd = some (.att 25 [("texts", .ref tx), ("atom_numbers", .ref an), ("functors", .ref fs), ("functor_numbers", .ref fn)]) := k17.get q2
    have hd7 : All2 (fun (b' : B) v => D V7 b'.enc v) as' ys := hd5.imp fun _ _ q => q.kp k57
    have hs7 := (hs5.kp k6).kp k7
    have hc7 := (hc5.kp k6).kp k7
    clear k6 h6 k0 k5 k57
    repeat walk_at "w"
    rcases hb' with ⟨rfl, a1, a2, rfl, rfl⟩ | ⟨rfl, a1, a2, rfl, rfl⟩ | ⟨rfl, a1, rfl, rfl⟩
    · refine fl0 (hsm.ni2) (xe2 fun b1 b2 => an3 ?_); rintro rfl s1 s2
      refine fl0 (hd7.in2) (xe2 fun v1 v2 => an3 ?_); rintro rfl d1 d2
      refine ifT (by decide) ?_
      repeat walk_at "w"
      refine WP.call (functor_m G hs7 (a := 8) (n := 2) ⟨by decide, by decide, by decide, by decide⟩) (by walk_at "dp") ?_
      intro v V8; refine xe2 fun i tki => an4 ?_; rintro rfl hi hs8 k8
      have hbar : (y5.addF (8, 2)).has i (8, 2) := ⟨i, rfl, hi⟩
      repeat walk_at "w"
      refine nList 20 fun nl V9 k9 h9 => ?_
      have cc9 : V9 (L + 1) = some (.cell 9 (some (.ref c))) := k9.get (k8.get cc7)
      repeat walk_at "w"
      refine WP.call (coin_fn G ((hc7.kp k8).kp k9) (by decide)) (by walk_at "dp") ?_
      intro v V10; refine xe2 fun j tkj => an5 ?_; rintro rfl hj0 hj2 k10 hc10
      have hf : ∃ f tf, ([Value.int 2 255, Value.int i tki][j.toNat]? = some (.int f tf)) ∧ (f = 2 ∨ f = i) := by
        rcases (by omega : j = 0 ∨ j = 1) with rfl | rfl
        · exact ⟨_, _, rfl, .inl rfl⟩
        · exact ⟨_, _, rfl, .inr rfl⟩
      revert hf; refine xe2 fun f tf => an2 ?_; rintro hf hff
      refine WP.item_list (k10.get h9) hj0 (by walk_at "o") hf ?_
      repeat walk_at "w"
      rename_i ra V11 k11 h11
      have k711 : Kp wrT V7 V11 := by walk_at "kp"
      have hle : y5.le (y5.addF (8, 2)) := Sy.le_addF
      exact hQ _ _ _ ⟨_, .refl, .or f b1 b2, _, hle5.trans hle, ((hs8.kp k9).kp k10).kp k11, hc10.kp k11, ⟨ra, ta, _, _, v1, v2, rfl, h11, k711.get h7, d1.kp k711, d2.kp k711⟩,
        ⟨hff.elim .inl (fun e => .inr (by rw [e]; exact hbar)), (hwf5 b1 (.head _)).mono hle, (hwf5 b2 (.tail _ (.head _))).mono hle⟩, ⟨s1.1.or s2.1, by simp only [szB, s1.2.1, s2.2.1], by simp only [lvB, s1.2.2, s2.2.2]⟩, k17.trans k711⟩
    · refine fl0 (hsm.ni2) (xe2 fun b1 b2 => an3 ?_); rintro rfl s1 s2
      refine fl0 (hd7.in2) (xe2 fun v1 v2 => an3 ?_); rintro rfl d1 d2
      refine ifF (by decide) ?_
      repeat walk_at "w"
      refine ifT (by decide) ?_
      repeat walk_at "w"
      rename_i ra V11 k11 h11
      exact hQ _ _ _ ⟨_, .refl, .th b1 b2, _, hle5, hs7.kp k11, hc7.kp k11, ⟨ra, ta, _, _, v1, v2, rfl, h11, k11.get h7, d1.kp k11, d2.kp k11⟩,
        ⟨hwf5 b1 (.head _), hwf5 b2 (.tail _ (.head _))⟩, ⟨s1.1.th s2.1, by simp only [szB, s1.2.1, s2.2.1], by simp only [lvB, s1.2.2, s2.2.2]⟩, k17.trans k11.weak⟩
    · refine fl0 (hsm.ni1) (xe1 fun b1 => an2 ?_); rintro rfl s1
      refine fl0 (hd7.in1) (xe1 fun v1 => an2 ?_); rintro rfl d1
      refine ifF (by decide) ?_
      repeat walk_at "w"
      refine ifF (by decide) ?_
      repeat walk_at "w"
      rename_i ra V11 k11 h11
      exact hQ _ _ _ ⟨_, .refl, .nt b1, _, hle5, hs7.kp k11, hc7.kp k11, ⟨ra, ta, _, _, v1, rfl, h11, k11.get h7, d1.kp k11, by decide⟩,
        hwf5 b1 (.head _), ⟨s1.1.nt, by simp only [szB, s1.2.1], by simp only [lvB, s1.2.2]⟩, k17.trans k11.weak⟩
theorem wr_fn (G : GX prog w b₀ K mg mb) (late : Bool) : ∀ (n : Nat), n ≤ 300 → ∀ b, lvB b ≤ n → WrFn prog w b₀ late n b
  | 0, _, b, h => absurd (lvB_pos b) (by walk_at "o")
  | n + 1, hn, b, h => fun V c s x y vs hc hs h0 hx hr hw => by
    have ih := wr_fn G late n (by walk_at "o")
    by_cases hl : 1 < vs.length
    · exact wr_sq G h (by walk_at "o") ih hc hs h0 hx hr hw hl
    · exact wr_one G h (by walk_at "o") ih hc hs h0 hx hr hw (by walk_at "o")

set_option maxHeartbeats 4000000 in
theorem comp_coreD {KT : Type} [DecidableEq KT] {knd : KeyKind C.prog C.w KT} {F : Frm} {A : Around} {s : Shared} {E : Value → Shared → Prop} {RR : Value → Addr → Result → Shared → Prop} {I l : Nat} {tl : Nat} {xs : List Value} {J : Nat → List (KT × Value) → View → Prop} {kx vx iter : Expr} {x : Str} {px pos : Pos} {scope : Scope} {cl : List (Str × Addr)} (t : Nat)
    (hcell : ∀ y ∈ scope.names, y.2 ≠ .cell) (hkind : scope.kind = .function) (hx : scope.names.lookup x = some .local)
    (hA : C.Ok A) (FI : F I = none) (bI : C.b₀.objs.size ≤ I) (LI : C.env.locals ≠ I) (S : St C.b₀ F C.env.locals V m s.heap) (VI : V I = none) (hit : s.heap.IsListIter I l 0) (hJ : J 0 [] V) (hG : ∀ i ys V, J i ys V → V l = some (.lst tl xs)) (hz : xs.length ≤ sizeLine)
    (turn : ∀ i v ys V Cc mc, xs[i]? = some v → J i ys V → mc x = some v → WP (C.comp scope cl Cc) (eval kx (compEnvC scope cl Cc C.env)) mc V fun kv mc V => WP (C.comp scope cl Cc) (eval vx (compEnvC scope cl Cc C.env)) mc V fun vv _ V' => ∃ kk, knd.is kk kv = true ∧ J (i + 1) (stored ys kk vv) V')
    (fin : ∀ D Cc ys V h' tk mc, J xs.length ys V → CompEnd C F m V D Cc (IsD knd t ys) mc h' → RR (.ref D) Cc (.ok .next) { s with heap := h', toks := tk }) :
    wpAny (model C.prog C.w) A PySem.newDict (fun acc s₃ => wpAny (model C.prog C.w) A (newFunctionEnv scope C.env.globals cl [] C.env.qual none .none (some C.env)) (fun cenv s₄ =>
      codeAny (model C.prog C.w) A (.compStart (.DictComp kx vx [⟨.Name x px, iter, [], 0⟩] scope pos) 0 (.ref I) acc { cenv with scope := relabel scope C.env }) (RR acc cenv.locals) s₄) E s₃) E s := by
  refine wpAny_newObj_type (wpAny_newFunctionEnv hcell (by intro y hy; simp at hy) (fun h₁ hns₁ hsb₁ => ?_) hkind)
  dsimp only at hns₁ hsb₁ ⊢
  obtain ⟨oI, oL, FF, st⟩ := comp_start FI bI LI S VI hit rfl hns₁ hsb₁
  generalize s.heap.objs.size = D at *
  generalize (s.heap.push _).objs.size = Cc at *
  let Inv : Nat → Shared → Prop := fun r s' => ∃ (i : Nat) (h : Heap) (tk : Nat) (mc : Loc) (V : View) (oI oD : Obj) (ys : List (KT × Value)) (FF : Frm), s' = { s with heap := h, toks := tk } ∧ St C.b₀ FF Cc V mc h ∧ FF I = some oI ∧ FF D = some oD ∧ oD.IsDictOf knd ys ∧ FF C.env.locals = some oL ∧
    (∀ a o, F a = some o → FF a = some o) ∧ oI.cls = .type "list_iterator" ∧ oI.data = .fields #[.ref l, .int i 0] ∧ J i ys V ∧ ys.length ≤ i ∧ i ≤ xs.length ∧ r = xs.length - i
  have start : Inv xs.length { s with heap := h₁, toks := s.toks + ([] : List (Str × Value)).length } :=
    ⟨0, h₁, _, _, V, oI, _, [], FF, rfl, st.st, st.fI, st.fD, ⟨#[], 0, ⟨rfl, rfl, rfl⟩, rfl, fun e he => by simp at he, Pairs.nil, List.nodup_nil⟩, st.fL, st.fF, st.ci, st.di, hJ, Nat.le_refl _, Nat.zero_le _, rfl⟩
  have O := st.out
  have hoI := (st.st.frm _ _ st.fI).1
  have loop : codeAny (model C.prog C.w) A (.compLoop (.DictComp kx vx [⟨.Name x px, iter, [], 0⟩] scope pos) 0 (.ref I) (.ref D) (compEnvC scope cl Cc C.env)) (RR (.ref D) Cc) { s with heap := h₁, toks := s.toks + ([] : List (Str × Value)).length } := by
    refine codeAny_compLoop_testsD Inv ?_ _ start
    clear start
    intro r _; refine xe9 fun i h tk mc V oI oD ys FF => an13 ?_; rintro rfl S' fI fD hDD fL fF ci di hJ hys hi rfl
    obtain ⟨nl, il⟩ := S'.isL (hG _ _ _ hJ)
    by_cases hlt : i < xs.length
    · refine wpAny_pyNext_list_item (x := xs[i]) (l := l) ⟨oI, (S'.frm _ _ fI).1, ci, di⟩ il.isList (by simp [hlt]) fun h2 hit2 hs2 => ?_
      revert hit2; refine xe1 fun oI' => an3 ?_; rintro hoI' ci' di'
      have S2 := S'.setHid fI bI hs2 hoI'
      refine wpAny_assign_Name (wpAny_storeName_local (lookup_relabel_local hx) S2.ns (fun h3 hn3 hs3 => ?_) (by simp [compEnvC, relabel, hkind]))
      have S3 := S2.store hn3 hs3
      simp only [List.forIn_nil]
      refine wpAny_pure ?_
      simp only [if_true]
      refine turn i xs[i] ys V Cc _ (by simp [hlt]) hJ (by simp) _ A { s with heap := h3, toks := tk + 1 } _ _ hA S3 fun kv mc4 V4 h4 tk4 S4 x4 => ?_
      refine x4 _ A { s with heap := h4, toks := tk4 } _ _ hA S4 fun vv mc5 V5 h5 tk5 S5 x5 => ?_
      revert x5; refine xe1 fun kk => an2 ?_; rintro hkk hJ5
      have fD5 : (fun b => if b = I then some oI' else FF b) D = some oD := (if_neg O.DI).trans fD
      refine wpAny_dictSet_pairs (hsz := Nat.le_trans hys (Nat.le_trans hi hz)) hkk (Heap.dictOf_iff.mpr ⟨oD, (S5.frm _ _ fD5).1, hDD⟩) fun h6 hl6 hs6 => ?_
      refine fl0 (Heap.dictOf_iff.mp hl6) (xe1 fun oD' => an2 ?_); rintro hoD' hDD'
      have S6 := S5.setHid fD5 O.bD hs6 hoD'
      refine ⟨xs.length - (i + 1), by omega, i + 1, _, _, mc5, V5, oI', oD', stored ys kk vv, _, rfl, S6, (if_neg (Ne.symm O.DI)).trans (if_pos rfl), if_pos rfl, hDD', (if_neg O.LD).trans ((if_neg O.LI).trans fL), fun a o e => ?_, ci', di', hJ5, Nat.le_trans (stored_length_le _ _ _) (Nat.succ_le_succ hys), hlt, rfl⟩
      exact (if_neg (fun q => by rw [q, O.FD] at e; cases e)).trans ((if_neg (fun q => by rw [q, FI] at e; cases e)).trans (fF a o e))
    · have hin : i = xs.length := by omega
      subst hin
      exact wpAny_pyNext_list_end (l := l) hA.1 ⟨oI, (S'.frm _ _ fI).1, ci, di⟩ il.isList (by simp) fun h2 he2 => fin D Cc ys V h2 tk mc hJ (comp_end O S' fI fD fL fF he2 hDD)
  exact codeAny_compStart_dict loop (wpAny_pyIter_listiter (l := l) (i := 0) ⟨oI, hoI, st.ci, st.di⟩ loop)

theorem WP.dictcomp {KT : Type} [DecidableEq KT] (knd : KeyKind C.prog C.w KT) {kx vx iter : Expr} {x : Str} {px pos : Pos} {scope : Scope} {cl : List (Str × Addr)} {k : Value → Loc → View → Prop} (t : Nat)
    (hclos : closureFor scope C.env = Pure.pure cl) (hcell : ∀ y ∈ scope.names, y.2 ≠ .cell) (hkind : scope.kind = .function)
    (hnames : ∀ y ∈ scope.names, y.2 = .local → scope.names.lookup y.1 = some .local) (hx : scope.names.lookup x = some .local)
    (h : WP C (eval iter C.env) m V fun v m V => ∃ l tl xs, v = .ref l ∧ xs.length ≤ sizeLine ∧ ∃ J : Nat → List (KT × Value) → View → Prop, J 0 [] V ∧ (∀ i ys V, J i ys V → V l = some (.lst tl xs)) ∧
      (∀ i v ys V Cc mc, xs[i]? = some v → J i ys V → mc x = some v → WP (C.comp scope cl Cc) (eval kx (compEnvC scope cl Cc C.env)) mc V fun kv mc V => WP (C.comp scope cl Cc) (eval vx (compEnvC scope cl Cc C.env)) mc V fun vv _ V' => ∃ kk, knd.is kk kv = true ∧ J (i + 1) (stored ys kk vv) V') ∧
      (∀ ys V D, J xs.length ys V → V D = Option.none → k (.ref D) m (upd V D (IsD knd t ys))))
    (hs : ∀ x, foldedSetIterable iter C.env x = Pure.pure x := by intro _; rfl) : WP C (eval (.DictComp kx vx [⟨.Name x px, iter, [], 0⟩] scope pos) C.env) m V k := by
  intro F A s Q E hA S q
  rw [arm_eval_DictComp]
  refine wpAny_comprehension_free (use := Option.none) rfl hs hclos hkind hnames (h F A s _ E hA S ?_)
  rintro v m V h tk S ⟨l, tl, xs, rfl, hz, J, hJ, hG, turn, fin⟩
  obtain ⟨nn, i⟩ := S.isL (hG _ _ _ hJ)
  refine wpAny_pyIter_list i.isList ?_
  refine fl0 (S.newI) (an4 ?_); rintro FI bI LI VI
  refine comp_coreD (m := m) t hcell hkind hx hA FI bI LI (S.pushHid _) VI ⟨_, Heap.get?_push_size _ rfl, rfl, rfl⟩ hJ hG hz turn fun D Cc ys V' h' tk' mc hJ' ce => ?_
  refine ⟨mc, ce.ns, fun h'' hs'' => ?_⟩
  exact q _ m _ h'' tk' (ce.st.extBut hs''.extBut ce.fc ce.bc ce.lc ce.vc) (fin ys V' D hJ' ce.vd)

theorem gv_init2 (G : GX prog w b₀ K mg mb) {s dx r u : Addr} {z : Int} {us : List Value} (hs : V s = some (.inst 304 dx)) (hd : V dx = some (.att 27 [])) (hr : FrS V r z) (hu : V u = some (.lst 4 us)) (hi : IntsAre us usedL) :
    Fn prog w b₀ 1 V (.ref 294) [.ref s, .ref r, .ref u] fun v V' => v = .none ∧ GV V' s z ∧ (∃ d, V' s = some (.inst 304 d) ∧ V' d = some (.att 27 [("fresh", .ref r), ("used", .ref u)])) ∧ Kp [27] V V' := by
  refine G.fnQ G.f_GrammarVariables___init__ (d := 0) fun L cdv hL => ?_
  intro C Q hQ
  repeat walk_at "w"
  refine nSetAttr G rfl hs hd (Nat.le_of_ble_eq_true rfl) fun V2 k2 q2 => ?_
  repeat walk_at "w"
  refine nSetAttr G rfl (by walk_at "vw") q2 (Nat.le_of_ble_eq_true rfl) fun V3 k3 q3 => ?_
  repeat walk_at "w"
  exact hQ _ _ _ ⟨_, .refl, rfl, ⟨dx, r, u, us, by walk_at "vw", q3, (hr.kp k2).kp k3, by walk_at "vw", hi⟩, ⟨dx, by walk_at "vw", q3⟩, by walk_at "kp"⟩
/-- two values that are written alike -/
noncomputable def Alike (V : View) (u v : Value) : Prop := (∃ i, LV V i u ∧ LV V i v) ∨ ∃ n t t', u = .int n t ∧ v = .int n t'
theorem tup_eq {b₀ : Heap} {h : Heap} {F : Frm} {L : Addr} {A : Around} {g d tk os} (S : St b₀ F L V m h) (hu : A.units + 1 < cLine) {a b : Addr} {xs ys : List Value} (ha : V a = some (.tup xs)) (hb : V b = some (.tup ys)) (hl : xs.length = ys.length)
    (he : ∀ (j : Nat) (h1 : j < xs.length) (h2 : j < ys.length), SeqAt.EqAt A.in1 ⟨h, g, d, tk, os⟩ xs[j] ys[j] true) : SeqAt.EqAt A ⟨h, g, d, tk, os⟩ (.ref a) (.ref b) true := by
  by_cases hab : a = b
  · subst hab; exact SeqAt.EqAt.same _
  · obtain ⟨n, ia⟩ := S.isT ha
    obtain ⟨n', ib⟩ := S.isT hb
    have := SeqAt.RcAt.tuples (A := A) (s := ⟨h, g, d, tk, os⟩) (e := fun _ => true) ⟨_, ia, rfl, _, rfl⟩ ⟨_, ib, rfl, _, rfl⟩ (by walk_at "o") (fun j h1 h2 => by
      have := he j (by simpa using h1) (by simpa using h2)
      simpa using this)
    have e : ((List.range (min xs.toArray.size ys.toArray.size)).all (fun _ => true) && xs.toArray.size == ys.toArray.size) = true := by simp [hl]
    rw [e] at this
    exact SeqAt.EqAt.of_refs hab this
theorem alike_eq {b₀ : Heap} {h : Heap} {F : Frm} {L : Addr} {A : Around} {g d tk os} (S : St b₀ F L V m h) (hu : A.units + 1 < cLine) {u v : Value} (x : Alike V u v) : SeqAt.EqAt A ⟨h, g, d, tk, os⟩ u v true := by
  have is : ∀ (A : Around) (n : Int) t t', SeqAt.EqAt A ⟨h, g, d, tk, os⟩ (.int n t) (.int n t') true := fun A n t t' => by
    have := SeqAt.EqAt.int_int (A := A) (s := ⟨h, g, d, tk, os⟩) n t n t'; simpa using this
  have ss : ∀ (A : Around) (n : Str) t t', SeqAt.EqAt A ⟨h, g, d, tk, os⟩ (.str n t) (.str n t') true := fun A n t t' => by
    have := SeqAt.EqAt.str_str (A := A) (s := ⟨h, g, d, tk, os⟩) n t n t'; simpa using this
  rcases x with ⟨i, x, y⟩ | ⟨n, t, t', rfl, rfl⟩
  · cases i with
    | pos k => obtain ⟨t, rfl⟩ := x; obtain ⟨t', rfl⟩ := y; exact is _ _ _ _
    | fin => obtain ⟨t, rfl⟩ := x; obtain ⟨t', rfl⟩ := y; exact ss _ _ _ _
    | known n =>
      revert x; refine xe3 fun a t1 t2 => an2 ?_; rintro rfl ha
      revert y; refine xe3 fun b u1 u2 => an2 ?_; rintro rfl hb
      exact tup_eq S hu ha hb rfl fun j h1 h2 => match j, h1 with
        | 0, _ => ss _ _ _ _
        | 1, _ => is _ _ _ _
    | atom n =>
      revert x; refine xe3 fun a t1 t2 => an2 ?_; rintro rfl ha
      revert y; refine xe3 fun b u1 u2 => an2 ?_; rintro rfl hb
      exact tup_eq S hu ha hb rfl fun j h1 h2 => match j, h1 with
        | 0, _ => ss _ _ _ _
        | 1, _ => is _ _ _ _
    | fn f k =>
      revert x; refine xe3 fun a t1 t2 => an2 ?_; rintro rfl ha
      revert y; refine xe3 fun b u1 u2 => an2 ?_; rintro rfl hb
      exact tup_eq S hu ha hb rfl fun j h1 h2 => match j, h1 with
        | 0, _ => is _ _ _ _
        | 1, _ => is _ _ _ _
  · exact is _ _ _ _
theorem WP.eq_lists {l b : Addr} {t t' : Nat} {xs ys : List Value} {k : Value → Loc → View → Prop} (hsl : 5 ≤ C.sl) (e : V l = some (.lst t xs)) (e' : V b = some (.lst t' ys)) (h2 : All2 (Alike V) xs ys) (h : k (.bool true) m V) : WP C (compareOp .Eq (.ref l) (.ref b)) m V k :=
  fun F A s Q E hA S q => by
    obtain ⟨n, i⟩ := S.isL e
    obtain ⟨n', i'⟩ := S.isL e'
    have hl := h2.length
    have hu : A.units + 2 < cLine := by have := hA.2.2; omega
    have := SeqAt.RcAt.lists (A := A) (s := s) (e := fun _ => true) i.isList i'.isList (by simpa using hl) (by walk_at "o") (fun j h1 h3 => by
      have h1' : j < xs.length := by simpa using h1
      have h3' : j < ys.length := by simpa using h3
      refine fl0 (h2.getL (List.getElem?_eq_getElem h1')) (xe1 fun v => an2 ?_); rintro hv hal
      rw [List.getElem?_eq_getElem h3'] at hv
      cases hv
      have := alike_eq (A := A.in1) (g := s.gens) (d := s.drawn) (tk := s.toks) (os := s.os) S (by show A.units + 1 + 1 < cLine; omega) hal
      simpa using this)
    have e : ((List.range xs.toArray.size).all fun _ => true) = true := by simp
    rw [e] at this
    exact this _ _ _ _ (q _ m V s.heap s.toks S h)

theorem fit_ex {y : Sy} (ok : y.Ok) : ∃ U, Fit U y := by
  have pick : ∀ P : Int → Prop, ∃ n, ∀ f, P f → P n := fun P => (Classical.em (∃ f, P f)).elim (fun ⟨f, h⟩ => ⟨f, fun _ _ => h⟩) fun h => ⟨0, fun f q => absurd ⟨f, q⟩ h⟩
  refine ⟨⟨fun p => (pick fun f => y.has f p).choose, (pick y.hasP).choose⟩, fun f p h => ?_, fun f h => ?_⟩
  · exact Sy.has.inj ok ((pick fun f => y.has f p).choose_spec f h) h
  · refine fl0 ((pick y.hasP).choose_spec f h) (xe1 fun a => an2 ?_); rintro h1 h2
    revert h; refine xe1 fun a' => an2 ?_; rintro h3 h4
    obtain rfl := nodup_at ok.nt h1 h3
    exact Sy.has.inj ok h2 h4
noncomputable def N0 : NM := usedL.map fun n => (n, .known n)
theorem N0_none {k : Int} (h : usedL.contains k = false) : look N0 k = none := by
  simp [usedL] at h
  simp [look, N0, usedL]
  obtain ⟨a, b, c, d, e, f⟩ := h
  exact ⟨Ne.symm a, Ne.symm b, Ne.symm c, Ne.symm d, Ne.symm e, Ne.symm f⟩
theorem N0_known {k : Int} (h0 : 0 ≤ k) (h4 : k < 4) : look N0 k = some (.known k) := by
  have : k = 0 ∨ k = 1 ∨ k = 2 ∨ k = 3 := by omega
  rcases this with rfl | rfl | rfl | rfl <;> rfl
theorem says_law {sy : Sy} {b b' : B} {z : Int} {g : T} (h0 : sy0.le sy) (hw : b'.Wf sy) (ht : Tr sy b' 900 901 (Iv z (advn (cnt b') z)) g) (he : Eqv b' b) (U : Num) (hU : Fit U sy) : (lineF g (N0, [])).2 = (CB U b [] (.known 900) (some (.known 901))).1 := by
  obtain ⟨N', e, _⟩ := (body_says hU h0 b' ht hw (N := N0) (l := []) (nx := .known 900) rfl (fun k hk => N0_none hk.2.2) (fun hk => by have := hk.2.2; simp [usedL] at this) fun k h0 h4 => N0_known h0 h4).ex
  rw [e]
  show (CB U b' [] (.known 900) (look N0 901)).1 = _
  rw [he.1]; rfl
noncomputable def ResOk (prog : Program) (w : World) (V : View) (sy : Sy) (b : B) (z : Int) (v : Value) : Prop := ∃ a tg lv tk, v = .ref a ∧ tg = 0 ∧ V a = some (.lst tg (lv ++ [.int (advn (cnt b) z) tk])) ∧ ∀ U, Fit U sy → All2 (LV V) (CB U b [] (.known 900) (some (.known 901))).1 lv
theorem Fit.mono {U : Num} {y z : Sy} (h : y.le z) (f : Fit U z) : Fit U y := ⟨fun g p q => f.num g p (q.mono h), fun g q => f.ph g (q.mono h)⟩
theorem ResOk.mono {V V' : View} {y y' : Sy} {b : B} {z : Int} {v : Value} (hz : Fz V V') (hy : y.le y') (h : ResOk prog w V y b z v) : ResOk prog w V' y' b z v := by
  revert h; refine xe4 fun a tg lv tk => an4 ?_; rintro e rfl h1 h2
  exact ⟨a, 0, lv, tk, e, rfl, hz.l0 h1, fun U hU => (h2 U (hU.mono hy)).imp fun _ _ q => q.mono hz⟩
noncomputable def LawInv (prog : Program) (w : World) (V0 : View) (c s x kl ll : Addr) (y : Sy) (b : B) (z : Int) (i : Nat) (V : View) : Prop :=
  ∃ y' lvs, y.le y' ∧ Coins V c ∧ Sg prog w V s y' ∧ V ll = some (.lst 8 lvs) ∧ lvs.length = i ∧ (∀ v ∈ lvs, ResOk prog w V y' b z v) ∧ Kp [1, 6, 7, 8, 5, 9, 10, 11, 12, 13, 14, 20, 21, 22, 23, 24, 26, 27, 28] V0 V
theorem law_fn (G : GX prog w b₀ K mg mb) {la : Addr} (fl : FnFact K la "law" (topAt 52)) {sc : Addr} {vs : List Value} {ns : List Int} (hsc : b₀.IsList sc vs.toArray) (hvs : IntsAre vs ns) (hz : vs.length ≤ sizeLine) :
    Fn prog w b₀ 161 (fun _ => none) (.ref la) [.ref sc] fun v _ => v = .bool true := by
  refine G.fnQ fl (d := 160) fun L cdv hL => ?_
  intro C Q hQ
  repeat walk_at "w"
  refine WP.call (coins_fn G hsc hvs hz) (by walk_at "dp") ?_
  intro v V1; refine xe1 fun c => an3 ?_; rintro rfl hc1 k1
  repeat walk_at "w"
  refine nCallCls 25 G.X G.c_Symbols (d := 3) (post := fun s V' => ∃ V1', Kp [] V1 V1' ∧ Sg prog w V' s sy0 ∧ Kp [21, 22, 23, 24, 25] V1' V') (fun s dx V1' k h1 h2 => Fn.mono (init_m G h1 h2) (Nat.le_refl _) fun v V' q => ⟨q.1, V1', k, q.2.1, q.2.2⟩) (by walk_at "dp") ?_
  intro s V2; refine xe1 fun V1' => an3 ?_; rintro k1' hs2 k2
  have hc2 : Coins V2 c := (hc1.kp k1').kp k2
  clear k1 k1' k2
  repeat walk_at "w"
  refine WP.call (coin_fn G hc2 (by decide)) (by walk_at "dp") ?_
  intro v V3; refine xe2 fun z tz => an5 ?_; rintro rfl hz0 hz6 k3 hc3
  have hs3 := hs2.kp k3
  clear k3
  repeat walk_at "w"
  refine nList 3 fun rm V4 k4 hrm => ?_
  repeat walk_at "w"
  refine WP.call (row_fn G V4 c s rm sy0 _ _ _ (hc3.kp k4) (hs3.kp k4) .refl hrm) (by walk_at "dp") ?_
  rintro v V5 ⟨b, y5, x, rvs, r', t', rfl, hx5, hrw5, hle5, hs5, hc5, -, hw5, hok, -⟩
  clear k4
  repeat walk_at "w"
  refine nList 4 fun kl V6 k6 hkl => ?_
  repeat walk_at "w"
  refine nList 8 fun ll V7 k7 hll => ?_
  refine WP.execs_cons ?_
  refine WP.for_list ?_
  repeat walk_at "w"
  refine nList 0 fun fl' V8 k8 hfl => ?_
  have hkl8 := k8.get (k7.get hkl)
  have hx8 : V8 x = some (.lst 0 rvs) := k8.get (k7.get (k6.get hx5))
  have hrw8 : Rw V8 b rvs := hrw5.mono (((k6.fz).trans k7.fz).trans k8.fz)
  have hc8 := ((hc5.kp k6).kp k7).kp k8
  have hs8 := ((hs5.kp k6).kp k7).kp k8
  have hll8 := k8.get hll
  have hlv : lvB b ≤ 39 := hok.2
  have hht : htB b ≤ 9 := hok.1
  have hszb : szB b < 512 := Nat.lt_of_lt_of_le (sz_ht b) (Nat.pow_le_pow_right (by decide) hht)
  clear k6 k7 k8
  refine ⟨fl', 0, _, rfl, fun i m V' => m "coins" = some (.ref c) ∧ m "signs" = some (.ref s) ∧ m "lowest" = some (.int z tz) ∧ m "row" = some (.ref x) ∧ m "known" = some (.ref kl) ∧ m "lines" = some (.ref ll) ∧ LawInv prog w V8 c s x kl ll y5 b z i V',
    ⟨by walk_at "lk", by walk_at "lk", by walk_at "lk", by walk_at "lk", by walk_at "lk", by walk_at "lk", y5, [], .refl, hc8, hs8, hll8, rfl, (fun _ h => nomatch h), .refl⟩, fun i m V' h => by
      obtain ⟨_, _, _, _, _, _, _, _, _, _, _, _, _, _, k⟩ := h
      exact k.get hfl, ?_, ?_⟩
  · rintro i v m V9 hv ⟨m1, m2, m3, m4, m5, m6, y9, lvs, hle9, hc9, hs9, hll9, hlen, hres, k9⟩
    obtain ⟨late, rfl, hi2⟩ : ∃ late, v = .bool late ∧ i < 2 := match i, hv with
      | 0, e => ⟨false, by simpa using e.symm, by decide⟩
      | 1, e => ⟨true, by simpa using e.symm, by decide⟩
      | n + 2, e => by simp at e
    have h09 := hle5.trans hle9
    have hkl9 := k9.get hkl8
    have hx9 : V9 x = some (.lst 0 rvs) := k9.get hx8
    have hrw9 : Rw V9 b rvs := hrw8.mono k9.fz
    walk_at "w"
    refine WP.gen fun R hR => ?_
    repeat walk_at "w"
    refine WP.call (wr_fn G late 39 (by decide) b hlv V9 c s x y9 rvs hc9 hs9 h09 hx9 hrw9 (hw5.mono hle9)) (by walk_at "dp") ?_
    rintro v V10 ⟨b', y10, hle10, hs10, hc10, hd10, hw10, ⟨heqv, hszs, hlvs⟩, k10⟩
    have hh10 : htB b' ≤ 39 := Nat.le_trans (ht_lv b') (by walk_at "o")
    repeat walk_at "w"
    refine nCallCls 26 G.X G.c_Fresh (d := 1) (post := fun r V' => ∃ V1', Kp [] V10 V1' ∧ FrS V' r z ∧ Kp [26] V1' V') (fun r dx V1' k h1 h2 => Fn.mono (fresh_init_m G h1 h2) (Nat.le_refl _) fun v V' q => ⟨q.1, V1', k, q.2.1, q.2.2⟩) (by walk_at "dp") ?_
    intro r V12; refine xe1 fun V11 => an3 ?_; rintro k11 hr12 k12
    repeat walk_at "w"
    rename_i tv1 t900 fa V13 k13 hfa tv2 t901 la V14 k14 hla
    have hr14 : FrS V14 r z := (hr12.kp k13).kp k14
    have hkl14 := k14.get (k13.get (k12.get (k11.get (k10.get hkl9))))
    refine nCallCls 27 G.X G.c_GrammarVariables (d := 1) (post := fun g V' => ∃ V1', Kp [] V14 V1' ∧ GV V' g z ∧ (∃ d, V' g = some (.inst 304 d) ∧ V' d = some (.att 27 [("fresh", .ref r), ("used", .ref kl)])) ∧ Kp [27] V1' V')
      (fun g dx V1' k h1 h2 => Fn.mono (gv_init2 G h1 h2 (hr14.kp k) (k.get hkl14) (.cons _ _ (.cons _ _ (.cons _ _ (.cons _ _ (.cons _ _ (.cons _ _ .nil))))))) (Nat.le_refl _) fun v V' q => ⟨q.1, V1', k, q.2.1, q.2.2.1, q.2.2.2⟩) (by walk_at "dp") ?_
    rintro g V16 ⟨V15, k15, hg16, ⟨gd, hgd1, hgd2⟩, k16⟩
    have hs16 := (((((hs10.kp k11).kp k12).kp k13).kp k14).kp k15).kp k16
    have hd16 : D V16 b'.enc v := (((((hd10.kp k11).kp k12).kp k13).kp k14).kp k15).kp k16
    refine WP.call (grammar_body_fn G hs16 (h09.trans hle10) hw10 (by walk_at "o") (by walk_at "o") hd16 (x1 := 900) (x2 := 901) ⟨fa, _, _, rfl, k16.get (k15.get (k14.get hfa))⟩ ⟨la, _, _, rfl, k16.get (k15.get hla)⟩ hg16 hz0) (by walk_at "dp") ?_
    intro gv V17; refine xe2 fun gg y17 => an6 ?_; rintro hle17 hs17 hg17 hd17 htr k17
    have hfr17 : FrS V17 r (advn (cnt b') z) := by
      obtain ⟨d', r', u', us', e1, e2, e3, _⟩ := hg17
      rw [k17.get hgd1] at e1; cases e1
      rw [k17.get hgd2] at e2; cases e2
      exact e3
    repeat walk_at "w"
    refine nList 6 fun ln V18 k18 hln => ?_
    repeat walk_at "w"
    refine WP.dictcomp (intKind prog w) 7 (by rfl) (by decide) rfl (by decide) rfl ?_
    repeat walk_at "w"
    have hkl18 := k18.get (k17.get (k16.get (k15.get hkl14)))
    refine ⟨kl, 4, _, rfl, sz (by simp), fun i kvs V' => Kp [] V18 V' ∧ All2 (fun (p : Int × LI) (q : Int × Value) => q.1 = p.1 ∧ LV V' p.2 q.2) (N0.take i) kvs, ⟨.refl, .nil⟩, fun i kvs V' h => h.1.get hkl18, ?_, ?_⟩
    · rintro i v kvs V19 Cc mc hv ⟨k19, hk⟩ hmc
      obtain ⟨n, tn, rfl, hn⟩ : ∃ n t, v = Value.int n t ∧ usedL[i]? = some n := match i, hv with
        | 0, e => ⟨_, _, by simpa using e.symm, rfl⟩
        | 1, e => ⟨_, _, by simpa using e.symm, rfl⟩
        | 2, e => ⟨_, _, by simpa using e.symm, rfl⟩
        | 3, e => ⟨_, _, by simpa using e.symm, rfl⟩
        | 4, e => ⟨_, _, by simpa using e.symm, rfl⟩
        | 5, e => ⟨_, _, by simpa using e.symm, rfl⟩
        | n + 6, e => by simp at e
      repeat walk_at "w"
      rename_i tkk ka V20 k20 hka
      have hN : N0[i]? = some (n, .known n) := by unfold N0; rw [List.getElem?_map, hn]; rfl
      have hkeys : kvs.map (·.1) = (usedL.take i) := by
        have : kvs.map (·.1) = (N0.take i).map (·.1) := by
          clear hN hv hn hmc
          generalize N0.take i = N at hk
          induction hk with
          | nil => rfl
          | cons h1 _ ih => rw [List.map_cons, List.map_cons, h1.1, ih]
        rw [this, List.map_take]; rfl
      have hnk : n ∉ kvs.map (·.1) := by
        rw [hkeys]
        intro hm
        obtain ⟨j, hj⟩ := List.getElem?_of_mem hm
        have hji : j < i := by
          have := (List.getElem?_eq_some_iff.mp hj).1
          rw [List.length_take] at this; omega
        rw [List.getElem?_take_of_lt hji] at hj
        have := nodup_at (l := usedL) (by decide) hj hn
        omega
      refine ⟨n, by simp [intKind, Value.isInt], k19.trans k20, ?_⟩
      rw [stored_absent (valueAt_none_of_not_mem hnk), take_snoc hN]
      exact (hk.imp fun _ _ q => ⟨q.1, q.2.mono k20.fz⟩).append (.one ⟨rfl, ka, _, _, rfl, hka⟩)
    rintro kvs V19 nm ⟨k19, hkv⟩ hnm
    have k20 : Kp [] V19 (upd V19 nm (IsD (intKind prog w) 7 kvs)) := Kp.refl.new hnm
    have h20 : upd V19 nm (IsD (intKind prog w) 7 kvs) nm = some (IsD (intKind prog w) 7 kvs) := upd_self
    generalize upd V19 nm (IsD (intKind prog w) 7 kvs) = V20 at k20 h20
    have hN20 : NmS prog w V20 nm N0 := ⟨kvs, h20, hkv.imp fun _ _ q => ⟨q.1, q.2.mono k20.fz⟩⟩
    have hl20 : LnS V20 ln [] := ⟨[], k20.get (k19.get hln), .nil⟩
    have hsize := tr_size htr
    repeat walk_at "w"
    refine WP.call (line_fn G gg V20 gv nm ln N0 [] (((hd17.kp k18).kp k19).kp k20) hN20 hl20 (by show 6 + 0 + 2 * wtT gg ≤ 900000; omega)) (by show htT gg + 1 ≤ 160; omega) ?_
    rintro _ V21 ⟨k21, -, lvs21, hln21, hlv21⟩
    have hlen21 := hlv21.length
    have hlf : (lineF gg (N0, [])).2.length ≤ 0 + wtT gg := (lineF_len gg (N0, [])).1
    refine fl0 (id ((((hfr17.kp k18).kp k19).kp k20).kp k21)) (xe2 fun fd ftk => an2 ?_); rintro hf1 hf2
    have hll17 := k17.get (k16.get (k15.get (k14.get (k13.get (k12.get (k11.get (k10.get hll9)))))))
    have hll21 : V21 ll = some (.lst 8 lvs) := k21.get (k20.get (k19.get (k18.get hll17)))
    repeat walk_at "w"
    refine WP.call (number_m G ⟨fd, ftk, hf1, hf2⟩) (by walk_at "dp") ?_
    rintro v V22 ⟨tnn, rfl, -, k22⟩
    repeat walk_at "w"
    refine nList 20 fun el V23 k23 hel => ?_
    repeat walk_at "w"
    refine nAddList 0 (k23.get (k22.get hln21)) hel (by simp; omega) fun na V24 k24 hna => ?_
    refine nAppend (t := 8) (xs := lvs) (k24.get (k23.get (k22.get hll21))) (by walk_at "o") fun V25 k25 h25 => ?_
    repeat walk_at "w"
    have hs25 : Sg prog w V25 s y17 := (((((((hs17.kp k18).kp k19).kp k20).kp k21).kp k22).kp k23).kp k24).kp k25
    have kA : Kp [5, 6, 7, 8, 9, 10, 11, 12, 13, 14, 20, 21, 22, 23, 24, 26, 27, 28] V10 V25 := by walk_at "kp"
    have z9 : Fz V9 V25 := (k10.fz).trans kA.fz
    refine hR _ _ _ ⟨by walk_at "lk", by walk_at "lk", by walk_at "lk", by walk_at "lk", by walk_at "lk", by walk_at "lk", y17, lvs ++ [.ref na], hle9.trans (hle10.trans hle17), hc10.kp kA, hs25, h25, by simp [hlen], fun v hv => ?_, (k9.trans k10.weak).trans kA.weak⟩
    rcases List.mem_append.mp hv with hv | hv
    · exact (hres v hv).mono z9 (hle10.trans hle17)
    · rw [List.mem_singleton.mp hv]
      refine ⟨na, 0, lvs21, tnn, rfl, rfl, by rw [← heqv.2]; exact k25.get hna, fun U hU => ?_⟩
      rw [← says_law ((h09.trans hle10).trans hle17) (hw10.mono hle17) htr heqv U hU]
      exact hlv21.imp fun _ _ q => q.mono ((((k22.fz).trans k23.fz).trans k24.fz).trans k25.fz)
  · rintro m V9 ⟨m1, m2, m3, m4, m5, m6, y9, lvs, hle9, hc9, hs9, hll9, hlen, hres, k9⟩
    obtain ⟨u1, u2, rfl⟩ := len2 hlen
    obtain ⟨U, hU⟩ := fit_ex hs9.ok
    refine fl0 (hres u1 (.head _)) (xe4 fun a1 _ l1 e1 => an4 ?_); rintro rfl rfl h1 f1
    refine fl0 (hres u2 (.tail _ (.head _))) (xe4 fun a2 _ l2 e2 => an4 ?_); rintro rfl rfl h2 f2
    have hal : All2 (Alike V9) l1 l2 := by
      have g1 := f1 U hU
      have g2 := f2 U hU
      generalize (CB U b [] (.known 900) (some (.known 901))).1 = li at g1 g2
      clear h1 h2 f1 f2 hres hll9
      induction g1 generalizing l2 with
      | nil => cases g2; exact .nil
      | cons x _ ih =>
        cases g2 with
        | cons y g => exact .cons (.inl ⟨_, x, y⟩) (ih _ g)
    repeat walk_at "w"
    refine WP.item_list hll9 (by decide) (by decide) rfl ?_
    repeat walk_at "w"
    refine WP.item_list hll9 (by decide) (by decide) rfl ?_
    refine WP.eq_lists (by show 5 ≤ 17; decide) h1 h2 (hal.append (.one (.inr ⟨_, _, _, rfl, rfl⟩))) ?_
    exact hQ _ _ _ ⟨_, .refl, rfl⟩

end Mine
namespace Mine
open PySem PySem.Calls PyProof.Rows PySem.W
noncomputable def q0 : Str := ⟨⟨[95, 119, 97, 108, 108]⟩⟩
theorem q0_e : Str.ofString "_wall" = q0 := rfl
noncomputable def q1 : Str := ⟨⟨[107]⟩⟩
theorem q1_e : Str.ofString "k" = q1 := rfl
noncomputable def q2 : Str := ⟨⟨[95, 95, 110, 97, 109, 101, 95, 95]⟩⟩
theorem q2_e : Str.ofString "__name__" = q2 := rfl
noncomputable def q3 : Str := ⟨⟨[99, 108, 97, 117, 115, 101, 109, 105, 108, 108, 46, 115, 121, 109, 98, 111, 108, 115]⟩⟩
theorem q3_e : Str.ofString "clausemill.symbols" = q3 := rfl
noncomputable def q4 : Str := ⟨⟨[67, 108, 97, 117, 115, 101, 109, 105, 108, 108, 69, 114, 114, 111, 114]⟩⟩
theorem q4_e : Str.ofString "ClausemillError" = q4 := rfl
noncomputable def q5 : Str := ⟨⟨[69, 120, 99, 101, 112, 116, 105, 111, 110]⟩⟩
theorem q5_e : Str.ofString "Exception" = q5 := rfl
noncomputable def q6 : Str := ⟨⟨[80, 114, 111, 108, 111, 103, 69, 114, 114, 111, 114]⟩⟩
theorem q6_e : Str.ofString "PrologError" = q6 := rfl
noncomputable def q7 : Str := ⟨⟨[95, 95, 105, 110, 105, 116, 95, 95]⟩⟩
theorem q7_e : Str.ofString "__init__" = q7 := rfl
noncomputable def q8 : Str := ⟨⟨[115, 101, 108, 102]⟩⟩
theorem q8_e : Str.ofString "self" = q8 := rfl
noncomputable def q9 : Str := ⟨⟨[98, 97, 108, 108]⟩⟩
theorem q9_e : Str.ofString "ball" = q9 := rfl
noncomputable def q10 : Str := ⟨⟨[65, 95, 78, 73, 76]⟩⟩
theorem q10_e : Str.ofString "A_NIL" = q10 := rfl
noncomputable def q11 : Str := ⟨⟨[65, 95, 66, 65, 82]⟩⟩
theorem q11_e : Str.ofString "A_BAR" = q11 := rfl
noncomputable def q12 : Str := ⟨⟨[65, 95, 67, 85, 84]⟩⟩
theorem q12_e : Str.ofString "A_CUT" = q12 := rfl
noncomputable def q13 : Str := ⟨⟨[65, 95, 84, 82, 85, 69]⟩⟩
theorem q13_e : Str.ofString "A_TRUE" = q13 := rfl
noncomputable def q14 : Str := ⟨⟨[65, 95, 83, 89, 83, 84, 69, 77]⟩⟩
theorem q14_e : Str.ofString "A_SYSTEM" = q14 := rfl
noncomputable def q15 : Str := ⟨⟨[70, 95, 68, 79, 84]⟩⟩
theorem q15_e : Str.ofString "F_DOT" = q15 := rfl
noncomputable def q16 : Str := ⟨⟨[70, 95, 67, 79, 77, 77, 65]⟩⟩
theorem q16_e : Str.ofString "F_COMMA" = q16 := rfl
noncomputable def q17 : Str := ⟨⟨[70, 95, 83, 69, 77, 73]⟩⟩
theorem q17_e : Str.ofString "F_SEMI" = q17 := rfl
noncomputable def q18 : Str := ⟨⟨[70, 95, 65, 82, 82, 79, 87]⟩⟩
theorem q18_e : Str.ofString "F_ARROW" = q18 := rfl
noncomputable def q19 : Str := ⟨⟨[70, 95, 78, 79, 84]⟩⟩
theorem q19_e : Str.ofString "F_NOT" = q19 := rfl
noncomputable def q20 : Str := ⟨⟨[70, 95, 67, 85, 82, 76, 89]⟩⟩
theorem q20_e : Str.ofString "F_CURLY" = q20 := rfl
noncomputable def q21 : Str := ⟨⟨[70, 95, 69, 81, 85, 65, 76]⟩⟩
theorem q21_e : Str.ofString "F_EQUAL" = q21 := rfl
noncomputable def q22 : Str := ⟨⟨[70, 95, 69, 82, 82, 79, 82]⟩⟩
theorem q22_e : Str.ofString "F_ERROR" = q22 := rfl
noncomputable def q23 : Str := ⟨⟨[102, 105, 120, 101, 100, 95, 97, 116, 111, 109, 115]⟩⟩
theorem q23_e : Str.ofString "fixed_atoms" = q23 := rfl
noncomputable def q24 : Str := ⟨⟨[91, 93]⟩⟩
theorem q24_e : Str.ofString "[]" = q24 := rfl
noncomputable def q25 : Str := ⟨⟨[46]⟩⟩
theorem q25_e : Str.ofString "." = q25 := rfl
noncomputable def q26 : Str := ⟨⟨[123, 125]⟩⟩
theorem q26_e : Str.ofString "{}" = q26 := rfl
noncomputable def q27 : Str := ⟨⟨[45]⟩⟩
theorem q27_e : Str.ofString "-" = q27 := rfl
noncomputable def q28 : Str := ⟨⟨[43]⟩⟩
theorem q28_e : Str.ofString "+" = q28 := rfl
noncomputable def q29 : Str := ⟨⟨[42]⟩⟩
theorem q29_e : Str.ofString "*" = q29 := rfl
noncomputable def q30 : Str := ⟨⟨[47]⟩⟩
theorem q30_e : Str.ofString "/" = q30 := rfl
noncomputable def q31 : Str := ⟨⟨[44]⟩⟩
theorem q31_e : Str.ofString "," = q31 := rfl
noncomputable def q32 : Str := ⟨⟨[124]⟩⟩
theorem q32_e : Str.ofString "|" = q32 := rfl
noncomputable def q33 : Str := ⟨⟨[59]⟩⟩
theorem q33_e : Str.ofString ";" = q33 := rfl
noncomputable def q34 : Str := ⟨⟨[45, 62]⟩⟩
theorem q34_e : Str.ofString "->" = q34 := rfl
noncomputable def q35 : Str := ⟨⟨[92, 43]⟩⟩
theorem q35_e : Str.ofString "\\+" = q35 := rfl
noncomputable def q36 : Str := ⟨⟨[58, 45]⟩⟩
theorem q36_e : Str.ofString ":-" = q36 := rfl
noncomputable def q37 : Str := ⟨⟨[63, 45]⟩⟩
theorem q37_e : Str.ofString "?-" = q37 := rfl
noncomputable def q38 : Str := ⟨⟨[45, 45, 62]⟩⟩
theorem q38_e : Str.ofString "-->" = q38 := rfl
noncomputable def q39 : Str := ⟨⟨[33]⟩⟩
theorem q39_e : Str.ofString "!" = q39 := rfl
noncomputable def q40 : Str := ⟨⟨[116, 114, 117, 101]⟩⟩
theorem q40_e : Str.ofString "true" = q40 := rfl
noncomputable def q41 : Str := ⟨⟨[102, 97, 105, 108]⟩⟩
theorem q41_e : Str.ofString "fail" = q41 := rfl
noncomputable def q42 : Str := ⟨⟨[102, 97, 108, 115, 101]⟩⟩
theorem q42_e : Str.ofString "false" = q42 := rfl
noncomputable def q43 : Str := ⟨⟨[99, 97, 108, 108]⟩⟩
theorem q43_e : Str.ofString "call" = q43 := rfl
noncomputable def q44 : Str := ⟨⟨[61]⟩⟩
theorem q44_e : Str.ofString "=" = q44 := rfl
noncomputable def q45 : Str := ⟨⟨[94]⟩⟩
theorem q45_e : Str.ofString "^" = q45 := rfl
noncomputable def q46 : Str := ⟨⟨[101, 114, 114, 111, 114]⟩⟩
theorem q46_e : Str.ofString "error" = q46 := rfl
noncomputable def q47 : Str := ⟨⟨[]⟩⟩
theorem q47_e : Str.ofString "" = q47 := rfl
noncomputable def q48 : Str := ⟨⟨[101, 110, 100, 95, 111, 102, 95, 102, 105, 108, 101]⟩⟩
theorem q48_e : Str.ofString "end_of_file" = q48 := rfl
noncomputable def q49 : Str := ⟨⟨[115, 121, 115, 116, 101, 109]⟩⟩
theorem q49_e : Str.ofString "system" = q49 := rfl
noncomputable def q50 : Str := ⟨⟨[36, 86, 65, 82]⟩⟩
theorem q50_e : Str.ofString "$VAR" = q50 := rfl
noncomputable def q51 : Str := ⟨⟨[99, 97, 116, 99, 104]⟩⟩
theorem q51_e : Str.ofString "catch" = q51 := rfl
noncomputable def q52 : Str := ⟨⟨[116, 104, 114, 111, 119]⟩⟩
theorem q52_e : Str.ofString "throw" = q52 := rfl
noncomputable def q53 : Str := ⟨⟨[102, 105, 120, 101, 100, 95, 102, 117, 110, 99, 116, 111, 114, 115]⟩⟩
theorem q53_e : Str.ofString "fixed_functors" = q53 := rfl
noncomputable def q54 : Str := ⟨⟨[83, 121, 109, 98, 111, 108, 115]⟩⟩
theorem q54_e : Str.ofString "Symbols" = q54 := rfl
noncomputable def q55 : Str := ⟨⟨[116, 101, 120, 116, 115]⟩⟩
theorem q55_e : Str.ofString "texts" = q55 := rfl
noncomputable def q56 : Str := ⟨⟨[97, 116, 111, 109, 95, 110, 117, 109, 98, 101, 114, 115]⟩⟩
theorem q56_e : Str.ofString "atom_numbers" = q56 := rfl
noncomputable def q57 : Str := ⟨⟨[102, 117, 110, 99, 116, 111, 114, 115]⟩⟩
theorem q57_e : Str.ofString "functors" = q57 := rfl
noncomputable def q58 : Str := ⟨⟨[102, 117, 110, 99, 116, 111, 114, 95, 110, 117, 109, 98, 101, 114, 115]⟩⟩
theorem q58_e : Str.ofString "functor_numbers" = q58 := rfl
noncomputable def q59 : Str := ⟨⟨[116, 101, 120, 116]⟩⟩
theorem q59_e : Str.ofString "text" = q59 := rfl
noncomputable def q60 : Str := ⟨⟨[97, 116, 111, 109]⟩⟩
theorem q60_e : Str.ofString "atom" = q60 := rfl
noncomputable def q61 : Str := ⟨⟨[114, 111, 119]⟩⟩
theorem q61_e : Str.ofString "row" = q61 := rfl
noncomputable def q62 : Str := ⟨⟨[102, 117, 110, 99]⟩⟩
theorem q62_e : Str.ofString "func" = q62 := rfl
noncomputable def q63 : Str := ⟨⟨[102, 111, 117, 110, 100]⟩⟩
theorem q63_e : Str.ofString "found" = q63 := rfl
noncomputable def q64 : Str := ⟨⟨[103, 101, 116]⟩⟩
theorem q64_e : Str.ofString "get" = q64 := rfl
noncomputable def q65 : Str := ⟨⟨[110, 117, 109, 98, 101, 114]⟩⟩
theorem q65_e : Str.ofString "number" = q65 := rfl
noncomputable def q66 : Str := ⟨⟨[108, 101, 110]⟩⟩
theorem q66_e : Str.ofString "len" = q66 := rfl
noncomputable def q67 : Str := ⟨⟨[97, 112, 112, 101, 110, 100]⟩⟩
theorem q67_e : Str.ofString "append" = q67 := rfl
noncomputable def q68 : Str := ⟨⟨[102, 117, 110, 99, 116, 111, 114]⟩⟩
theorem q68_e : Str.ofString "functor" = q68 := rfl
noncomputable def q69 : Str := ⟨⟨[97, 114, 105, 116, 121]⟩⟩
theorem q69_e : Str.ofString "arity" = q69 := rfl
noncomputable def q70 : Str := ⟨⟨[107, 101, 121]⟩⟩
theorem q70_e : Str.ofString "key" = q70 := rfl
noncomputable def q71 : Str := ⟨⟨[110, 97, 109, 101]⟩⟩
theorem q71_e : Str.ofString "name" = q71 := rfl
noncomputable def q72 : Str := ⟨⟨[108, 97, 98, 101, 108]⟩⟩
theorem q72_e : Str.ofString "label" = q72 := rfl
noncomputable def q73 : Str := ⟨⟨[99, 111, 117, 110, 116]⟩⟩
theorem q73_e : Str.ofString "count" = q73 := rfl
noncomputable def q74 : Str := ⟨⟨[102, 117, 110, 99, 116, 111, 114, 95, 99, 111, 117, 110, 116]⟩⟩
theorem q74_e : Str.ofString "functor_count" = q74 := rfl
noncomputable def q75 : Str := ⟨⟨[107, 110, 111, 119, 110]⟩⟩
theorem q75_e : Str.ofString "known" = q75 := rfl
noncomputable def q76 : Str := ⟨⟨[99, 108, 97, 117, 115, 101, 109, 105, 108, 108, 46, 116, 101, 114, 109, 115]⟩⟩
theorem q76_e : Str.ofString "clausemill.terms" = q76 := rfl
noncomputable def q77 : Str := ⟨⟨[78, 73, 76]⟩⟩
theorem q77_e : Str.ofString "NIL" = q77 := rfl
noncomputable def q78 : Str := ⟨⟨[97]⟩⟩
theorem q78_e : Str.ofString "a" = q78 := rfl
noncomputable def q79 : Str := ⟨⟨[118, 97, 114]⟩⟩
theorem q79_e : Str.ofString "var" = q79 := rfl
noncomputable def q80 : Str := ⟨⟨[118]⟩⟩
theorem q80_e : Str.ofString "v" = q80 := rfl
noncomputable def q81 : Str := ⟨⟨[115, 116, 114, 117, 99, 116]⟩⟩
theorem q81_e : Str.ofString "struct" = q81 := rfl
noncomputable def q82 : Str := ⟨⟨[97, 114, 103, 115]⟩⟩
theorem q82_e : Str.ofString "args" = q82 := rfl
noncomputable def q83 : Str := ⟨⟨[115]⟩⟩
theorem q83_e : Str.ofString "s" = q83 := rfl
noncomputable def q84 : Str := ⟨⟨[116, 117, 112, 108, 101]⟩⟩
theorem q84_e : Str.ofString "tuple" = q84 := rfl
noncomputable def q85 : Str := ⟨⟨[108, 105, 115, 116, 95, 116, 101, 114, 109]⟩⟩
theorem q85_e : Str.ofString "list_term" = q85 := rfl
noncomputable def q86 : Str := ⟨⟨[105, 116, 101, 109, 115]⟩⟩
theorem q86_e : Str.ofString "items" = q86 := rfl
noncomputable def q87 : Str := ⟨⟨[116, 97, 105, 108]⟩⟩
theorem q87_e : Str.ofString "tail" = q87 := rfl
noncomputable def q88 : Str := ⟨⟨[114, 101, 115, 117, 108, 116]⟩⟩
theorem q88_e : Str.ofString "result" = q88 := rfl
noncomputable def q89 : Str := ⟨⟨[105, 116, 101, 109]⟩⟩
theorem q89_e : Str.ofString "item" = q89 := rfl
noncomputable def q90 : Str := ⟨⟨[114, 101, 118, 101, 114, 115, 101, 100]⟩⟩
theorem q90_e : Str.ofString "reversed" = q90 := rfl
noncomputable def q91 : Str := ⟨⟨[108, 105, 115, 116, 95, 105, 116, 101, 109, 115]⟩⟩
theorem q91_e : Str.ofString "list_items" = q91 := rfl
noncomputable def q92 : Str := ⟨⟨[116, 101, 114, 109]⟩⟩
theorem q92_e : Str.ofString "term" = q92 := rfl
noncomputable def q93 : Str := ⟨⟨[102, 117, 110, 99, 116, 111, 114, 95, 105, 110]⟩⟩
theorem q93_e : Str.ofString "functor_in" = q93 := rfl
noncomputable def q94 : Str := ⟨⟨[115, 121, 109, 98, 111, 108, 115]⟩⟩
theorem q94_e : Str.ofString "symbols" = q94 := rfl
noncomputable def q95 : Str := ⟨⟨[97, 114, 103, 117, 109, 101, 110, 116, 115]⟩⟩
theorem q95_e : Str.ofString "arguments" = q95 := rfl
noncomputable def q96 : Str := ⟨⟨[99, 111, 110, 106, 117, 110, 99, 116, 105, 111, 110]⟩⟩
theorem q96_e : Str.ofString "conjunction" = q96 := rfl
noncomputable def q97 : Str := ⟨⟨[103, 111, 97, 108, 115]⟩⟩
theorem q97_e : Str.ofString "goals" = q97 := rfl
noncomputable def q98 : Str := ⟨⟨[112, 108, 97, 99, 101]⟩⟩
theorem q98_e : Str.ofString "place" = q98 := rfl
noncomputable def q99 : Str := ⟨⟨[114, 97, 110, 103, 101]⟩⟩
theorem q99_e : Str.ofString "range" = q99 := rfl
noncomputable def q100 : Str := ⟨⟨[115, 121, 115, 116, 101, 109, 95, 101, 114, 114, 111, 114]⟩⟩
theorem q100_e : Str.ofString "system_error" = q100 := rfl
noncomputable def q101 : Str := ⟨⟨[102, 111, 114, 109, 97, 108]⟩⟩
theorem q101_e : Str.ofString "formal" = q101 := rfl
noncomputable def q102 : Str := ⟨⟨[102, 111, 114, 109, 97, 108, 95, 111, 102]⟩⟩
theorem q102_e : Str.ofString "formal_of" = q102 := rfl
noncomputable def q103 : Str := ⟨⟨[112, 97, 114, 116, 115]⟩⟩
theorem q103_e : Str.ofString "parts" = q103 := rfl
noncomputable def q104 : Str := ⟨⟨[112, 97, 114, 116]⟩⟩
theorem q104_e : Str.ofString "part" = q104 := rfl
noncomputable def q105 : Str := ⟨⟨[105, 115, 105, 110, 115, 116, 97, 110, 99, 101]⟩⟩
theorem q105_e : Str.ofString "isinstance" = q105 := rfl
noncomputable def q106 : Str := ⟨⟨[115, 116, 114]⟩⟩
theorem q106_e : Str.ofString "str" = q106 := rfl
noncomputable def q107 : Str := ⟨⟨[105, 110, 115, 116, 97, 110, 116, 105, 97, 116, 105, 111, 110, 95, 101, 114, 114, 111, 114]⟩⟩
theorem q107_e : Str.ofString "instantiation_error" = q107 := rfl
noncomputable def q108 : Str := ⟨⟨[116, 121, 112, 101, 95, 101, 114, 114, 111, 114]⟩⟩
theorem q108_e : Str.ofString "type_error" = q108 := rfl
noncomputable def q109 : Str := ⟨⟨[107, 105, 110, 100]⟩⟩
theorem q109_e : Str.ofString "kind" = q109 := rfl
noncomputable def q110 : Str := ⟨⟨[99, 117, 108, 112, 114, 105, 116]⟩⟩
theorem q110_e : Str.ofString "culprit" = q110 := rfl
noncomputable def q111 : Str := ⟨⟨[99, 108, 97, 117, 115, 101, 109, 105, 108, 108, 46, 107, 101, 114, 110, 101, 108]⟩⟩
theorem q111_e : Str.ofString "clausemill.kernel" = q111 := rfl
noncomputable def q112 : Str := ⟨⟨[70, 114, 101, 115, 104]⟩⟩
theorem q112_e : Str.ofString "Fresh" = q112 := rfl
noncomputable def q113 : Str := ⟨⟨[102, 105, 114, 115, 116]⟩⟩
theorem q113_e : Str.ofString "first" = q113 := rfl
noncomputable def q114 : Str := ⟨⟨[110, 101, 120, 116]⟩⟩
theorem q114_e : Str.ofString "next" = q114 := rfl
noncomputable def q115 : Str := ⟨⟨[110]⟩⟩
theorem q115_e : Str.ofString "n" = q115 := rfl
noncomputable def q116 : Str := ⟨⟨[114, 105, 103, 104, 116, 95, 115, 112, 105, 110, 101]⟩⟩
theorem q116_e : Str.ofString "right_spine" = q116 := rfl
noncomputable def q117 : Str := ⟨⟨[99, 108, 97, 117, 115, 101, 109, 105, 108, 108, 46, 103, 114, 97, 109, 109, 97, 114]⟩⟩
theorem q117_e : Str.ofString "clausemill.grammar" = q117 := rfl
noncomputable def q118 : Str := ⟨⟨[71, 114, 97, 109, 109, 97, 114, 86, 97, 114, 105, 97, 98, 108, 101, 115]⟩⟩
theorem q118_e : Str.ofString "GrammarVariables" = q118 := rfl
noncomputable def q119 : Str := ⟨⟨[102, 114, 101, 115, 104]⟩⟩
theorem q119_e : Str.ofString "fresh" = q119 := rfl
noncomputable def q120 : Str := ⟨⟨[117, 115, 101, 100]⟩⟩
theorem q120_e : Str.ofString "used" = q120 := rfl
noncomputable def q121 : Str := ⟨⟨[118, 97, 114, 105, 97, 98, 108, 101]⟩⟩
theorem q121_e : Str.ofString "variable" = q121 := rfl
noncomputable def q122 : Str := ⟨⟨[110, 111, 110, 116, 101, 114, 109, 105, 110, 97, 108]⟩⟩
theorem q122_e : Str.ofString "nonterminal" = q122 := rfl
noncomputable def q123 : Str := ⟨⟨[108, 97, 115, 116]⟩⟩
theorem q123_e : Str.ofString "last" = q123 := rfl
noncomputable def q124 : Str := ⟨⟨[102]⟩⟩
theorem q124_e : Str.ofString "f" = q124 := rfl
noncomputable def q125 : Str := ⟨⟨[116, 101, 114, 109, 105, 110, 97, 108, 115]⟩⟩
theorem q125_e : Str.ofString "terminals" = q125 := rfl
noncomputable def q126 : Str := ⟨⟨[108, 105, 115, 116]⟩⟩
theorem q126_e : Str.ofString "list" = q126 := rfl
noncomputable def q127 : Str := ⟨⟨[71, 114, 97, 109, 109, 97, 114, 84, 114, 101, 101]⟩⟩
theorem q127_e : Str.ofString "GrammarTree" = q127 := rfl
noncomputable def q128 : Str := ⟨⟨[110, 111, 100, 101, 115]⟩⟩
theorem q128_e : Str.ofString "nodes" = q128 := rfl
noncomputable def q129 : Str := ⟨⟨[103, 111, 97, 108]⟩⟩
theorem q129_e : Str.ofString "goal" = q129 := rfl
noncomputable def q130 : Str := ⟨⟨[119, 97, 105, 116, 105, 110, 103]⟩⟩
theorem q130_e : Str.ofString "waiting" = q130 := rfl
noncomputable def q131 : Str := ⟨⟨[104, 111, 108, 100]⟩⟩
theorem q131_e : Str.ofString "hold" = q131 := rfl
noncomputable def q132 : Str := ⟨⟨[119, 111, 114, 100]⟩⟩
theorem q132_e : Str.ofString "word" = q132 := rfl
noncomputable def q133 : Str := ⟨⟨[112, 108, 97, 99, 101, 115]⟩⟩
theorem q133_e : Str.ofString "places" = q133 := rfl
noncomputable def q134 : Str := ⟨⟨[97, 116]⟩⟩
theorem q134_e : Str.ofString "at" = q134 := rfl
noncomputable def q135 : Str := ⟨⟨[104, 101, 108, 100]⟩⟩
theorem q135_e : Str.ofString "held" = q135 := rfl
noncomputable def q136 : Str := ⟨⟨[105, 110, 110, 101, 114]⟩⟩
theorem q136_e : Str.ofString "inner" = q136 := rfl
noncomputable def q137 : Str := ⟨⟨[46, 48]⟩⟩
theorem q137_e : Str.ofString ".0" = q137 := rfl
noncomputable def q138 : Str := ⟨⟨[97, 110, 100]⟩⟩
theorem q138_e : Str.ofString "and" = q138 := rfl
noncomputable def q139 : Str := ⟨⟨[116, 104, 101, 110]⟩⟩
theorem q139_e : Str.ofString "then" = q139 := rfl
noncomputable def q140 : Str := ⟨⟨[110, 111, 116]⟩⟩
theorem q140_e : Str.ofString "not" = q140 := rfl
noncomputable def q141 : Str := ⟨⟨[100, 111, 110, 101]⟩⟩
theorem q141_e : Str.ofString "done" = q141 := rfl
noncomputable def q142 : Str := ⟨⟨[112, 111, 112]⟩⟩
theorem q142_e : Str.ofString "pop" = q142 := rfl
noncomputable def q143 : Str := ⟨⟨[102, 97, 115, 116]⟩⟩
theorem q143_e : Str.ofString "fast" = q143 := rfl
noncomputable def q144 : Str := ⟨⟨[103, 114, 97, 109, 109, 97, 114, 95, 98, 111, 100, 121]⟩⟩
theorem q144_e : Str.ofString "grammar_body" = q144 := rfl
noncomputable def q145 : Str := ⟨⟨[110, 101, 119]⟩⟩
theorem q145_e : Str.ofString "new" = q145 := rfl
noncomputable def q146 : Str := ⟨⟨[116, 114, 101, 101]⟩⟩
theorem q146_e : Str.ofString "tree" = q146 := rfl
noncomputable def q147 : Str := ⟨⟨[104, 101, 114, 101]⟩⟩
theorem q147_e : Str.ofString "here" = q147 := rfl
noncomputable def q148 : Str := ⟨⟨[116, 104, 101, 114, 101]⟩⟩
theorem q148_e : Str.ofString "there" = q148 := rfl
noncomputable def q149 : Str := ⟨⟨[103, 114, 97, 109, 109, 97, 114, 95, 112, 97, 114, 116]⟩⟩
theorem q149_e : Str.ofString "grammar_part" = q149 := rfl
noncomputable def q150 : Str := ⟨⟨[98, 97, 114]⟩⟩
theorem q150_e : Str.ofString "bar" = q150 := rfl
noncomputable def q151 : Str := ⟨⟨[115, 112, 105, 110, 101]⟩⟩
theorem q151_e : Str.ofString "spine" = q151 := rfl
noncomputable def q152 : Str := ⟨⟨[111, 114]⟩⟩
theorem q152_e : Str.ofString "or" = q152 := rfl
noncomputable def q153 : Str := ⟨⟨[109, 105, 100, 100, 108, 101]⟩⟩
theorem q153_e : Str.ofString "middle" = q153 := rfl
noncomputable def q154 : Str := ⟨⟨[101, 110, 100]⟩⟩
theorem q154_e : Str.ofString "end" = q154 := rfl
noncomputable def q155 : Str := ⟨⟨[112, 108, 97, 105, 110, 95, 103, 111, 97, 108]⟩⟩
theorem q155_e : Str.ofString "plain_goal" = q155 := rfl
noncomputable def q156 : Str := ⟨⟨[115, 97, 109, 101]⟩⟩
theorem q156_e : Str.ofString "same" = q156 := rfl
noncomputable def q157 : Str := ⟨⟨[112, 104, 114, 97, 115, 101]⟩⟩
theorem q157_e : Str.ofString "phrase" = q157 := rfl
noncomputable def q158 : Str := ⟨⟨[105]⟩⟩
theorem q158_e : Str.ofString "i" = q158 := rfl
noncomputable def q159 : Str := ⟨⟨[99, 97, 108, 108, 97, 98, 108, 101]⟩⟩
theorem q159_e : Str.ofString "callable" = q159 := rfl
noncomputable def q160 : Str := ⟨⟨[108, 97, 119, 95, 114, 104, 48, 48, 55, 55, 95, 48, 49]⟩⟩
theorem q160_e : Str.ofString "law_rh0077_01" = q160 := rfl
noncomputable def q161 : Str := ⟨⟨[95, 108, 97, 119, 95, 99, 111, 105, 110, 115]⟩⟩
theorem q161_e : Str.ofString "_law_coins" = q161 := rfl
noncomputable def q162 : Str := ⟨⟨[115, 99, 114, 105, 112, 116]⟩⟩
theorem q162_e : Str.ofString "script" = q162 := rfl
noncomputable def q163 : Str := ⟨⟨[99, 111, 105, 110, 115]⟩⟩
theorem q163_e : Str.ofString "coins" = q163 := rfl
noncomputable def q164 : Str := ⟨⟨[99, 101, 108, 108]⟩⟩
theorem q164_e : Str.ofString "cell" = q164 := rfl
noncomputable def q165 : Str := ⟨⟨[108, 101, 102, 116]⟩⟩
theorem q165_e : Str.ofString "left" = q165 := rfl
noncomputable def q166 : Str := ⟨⟨[97, 98, 115]⟩⟩
theorem q166_e : Str.ofString "abs" = q166 := rfl
noncomputable def q167 : Str := ⟨⟨[108, 97, 112]⟩⟩
theorem q167_e : Str.ofString "lap" = q167 := rfl
noncomputable def q168 : Str := ⟨⟨[114, 101, 118, 101, 114, 115, 101]⟩⟩
theorem q168_e : Str.ofString "reverse" = q168 := rfl
noncomputable def q169 : Str := ⟨⟨[95, 108, 97, 119, 95, 99, 111, 105, 110]⟩⟩
theorem q169_e : Str.ofString "_law_coin" = q169 := rfl
noncomputable def q170 : Str := ⟨⟨[115, 105, 100, 101, 115]⟩⟩
theorem q170_e : Str.ofString "sides" = q170 := rfl
noncomputable def q171 : Str := ⟨⟨[95, 108, 97, 119, 95, 108, 101, 97, 102]⟩⟩
theorem q171_e : Str.ofString "_law_leaf" = q171 := rfl
noncomputable def q172 : Str := ⟨⟨[115, 105, 103, 110, 115]⟩⟩
theorem q172_e : Str.ofString "signs" = q172 := rfl
noncomputable def q173 : Str := ⟨⟨[119, 97, 121]⟩⟩
theorem q173_e : Str.ofString "way" = q173 := rfl
noncomputable def q174 : Str := ⟨⟨[115, 111, 109, 101]⟩⟩
theorem q174_e : Str.ofString "some" = q174 := rfl
noncomputable def q175 : Str := ⟨⟨[116]⟩⟩
theorem q175_e : Str.ofString "t" = q175 := rfl
noncomputable def q176 : Str := ⟨⟨[103]⟩⟩
theorem q176_e : Str.ofString "g" = q176 := rfl
noncomputable def q177 : Str := ⟨⟨[112]⟩⟩
theorem q177_e : Str.ofString "p" = q177 := rfl
noncomputable def q178 : Str := ⟨⟨[95, 108, 97, 119, 95, 114, 111, 119]⟩⟩
theorem q178_e : Str.ofString "_law_row" = q178 := rfl
noncomputable def q179 : Str := ⟨⟨[114, 111, 111, 109]⟩⟩
theorem q179_e : Str.ofString "room" = q179 := rfl
noncomputable def q180 : Str := ⟨⟨[100, 101, 101, 112]⟩⟩
theorem q180_e : Str.ofString "deep" = q180 := rfl
noncomputable def q181 : Str := ⟨⟨[108, 101, 97, 102]⟩⟩
theorem q181_e : Str.ofString "leaf" = q181 := rfl
noncomputable def q182 : Str := ⟨⟨[101, 105, 116, 104, 101, 114]⟩⟩
theorem q182_e : Str.ofString "either" = q182 := rfl
noncomputable def q183 : Str := ⟨⟨[95, 108, 97, 119, 95, 119, 114, 105, 116, 116, 101, 110]⟩⟩
theorem q183_e : Str.ofString "_law_written" = q183 := rfl
noncomputable def q184 : Str := ⟨⟨[108, 97, 116, 101]⟩⟩
theorem q184_e : Str.ofString "late" = q184 := rfl
noncomputable def q185 : Str := ⟨⟨[109, 97, 100, 101]⟩⟩
theorem q185_e : Str.ofString "made" = q185 := rfl
noncomputable def q186 : Str := ⟨⟨[111, 110, 101]⟩⟩
theorem q186_e : Str.ofString "one" = q186 := rfl
noncomputable def q187 : Str := ⟨⟨[95, 108, 97, 119, 95, 108, 105, 110, 101]⟩⟩
theorem q187_e : Str.ofString "_law_line" = q187 := rfl
noncomputable def q188 : Str := ⟨⟨[110, 97, 109, 101, 115]⟩⟩
theorem q188_e : Str.ofString "names" = q188 := rfl
noncomputable def q189 : Str := ⟨⟨[108, 105, 110, 101]⟩⟩
theorem q189_e : Str.ofString "line" = q189 := rfl
noncomputable def q190 : Str := ⟨⟨[108, 97, 119]⟩⟩
theorem q190_e : Str.ofString "law" = q190 := rfl
noncomputable def q191 : Str := ⟨⟨[108, 111, 119, 101, 115, 116]⟩⟩
theorem q191_e : Str.ofString "lowest" = q191 := rfl
noncomputable def q192 : Str := ⟨⟨[108, 105, 110, 101, 115]⟩⟩
theorem q192_e : Str.ofString "lines" = q192 := rfl
noncomputable def q193 : Str := ⟨⟨[98, 111, 100, 121]⟩⟩
theorem q193_e : Str.ofString "body" = q193 := rfl
noncomputable def q194 : Str := ⟨⟨[60, 109, 111, 100, 117, 108, 101, 62]⟩⟩
noncomputable def q195 : Str := ⟨⟨[47, 99, 108, 97, 105, 109, 47, 99, 117, 116, 46, 112, 121]⟩⟩
noncomputable def q196 : Str := ⟨⟨[95, 95, 109, 97, 105, 110, 95, 95]⟩⟩
noncomputable def q197 : Str := ⟨⟨[116, 121, 112, 101, 46, 95, 95, 115, 117, 98, 99, 108, 97, 115, 115, 101, 115, 95, 95, 46, 69, 120, 99, 101, 112, 116, 105, 111, 110, 46, 48]⟩⟩
noncomputable def q198 : Str := ⟨⟨[116, 121, 112, 101, 46, 95, 95, 115, 117, 98, 99, 108, 97, 115, 115, 101, 115, 95, 95, 46, 69, 120, 99, 101, 112, 116, 105, 111, 110, 46, 110]⟩⟩
noncomputable def q199 : Str := ⟨⟨[95, 95, 100, 111, 99, 95, 95]⟩⟩
noncomputable def q200 : Str := ⟨⟨[95, 95, 112, 97, 99, 107, 97, 103, 101, 95, 95]⟩⟩
noncomputable def q201 : Str := ⟨⟨[95, 95, 108, 111, 97, 100, 101, 114, 95, 95]⟩⟩
noncomputable def q202 : Str := ⟨⟨[95, 95, 115, 112, 101, 99, 95, 95]⟩⟩
noncomputable def q203 : Str := ⟨⟨[95, 95, 97, 110, 110, 111, 116, 97, 116, 105, 111, 110, 115, 95, 95]⟩⟩
noncomputable def q204 : Str := ⟨⟨[95, 95, 98, 117, 105, 108, 116, 105, 110, 115, 95, 95]⟩⟩
noncomputable def q205 : Str := ⟨⟨[95, 95, 102, 105, 108, 101, 95, 95]⟩⟩
noncomputable def q206 : Str := ⟨⟨[95, 95, 99, 97, 99, 104, 101, 100, 95, 95]⟩⟩
noncomputable def q207 : Str := ⟨⟨[95, 95, 109, 111, 100, 117, 108, 101, 95, 95]⟩⟩
noncomputable def q208 : Str := ⟨⟨[95, 95, 113, 117, 97, 108, 110, 97, 109, 101, 95, 95]⟩⟩
noncomputable def q209 : Str := ⟨⟨[95, 95, 102, 105, 114, 115, 116, 108, 105, 110, 101, 110, 111, 95, 95]⟩⟩
noncomputable def q210 : Str := ⟨⟨[95, 95, 115, 116, 97, 116, 105, 99, 95, 97, 116, 116, 114, 105, 98, 117, 116, 101, 115, 95, 95]⟩⟩
noncomputable def q211 : Str := ⟨⟨[95, 95, 119, 101, 97, 107, 114, 101, 102, 95, 95]⟩⟩
noncomputable def q212 : Str := ⟨⟨[80, 114, 111, 108, 111, 103, 69, 114, 114, 111, 114, 46, 95, 95, 105, 110, 105, 116, 95, 95]⟩⟩
noncomputable def q213 : Str := ⟨⟨[83, 121, 109, 98, 111, 108, 115, 46, 95, 95, 105, 110, 105, 116, 95, 95]⟩⟩
noncomputable def q214 : Str := ⟨⟨[83, 121, 109, 98, 111, 108, 115, 46, 97, 116, 111, 109]⟩⟩
noncomputable def q215 : Str := ⟨⟨[83, 121, 109, 98, 111, 108, 115, 46, 116, 101, 120, 116]⟩⟩
noncomputable def q216 : Str := ⟨⟨[83, 121, 109, 98, 111, 108, 115, 46, 102, 117, 110, 99, 116, 111, 114]⟩⟩
noncomputable def q217 : Str := ⟨⟨[83, 121, 109, 98, 111, 108, 115, 46, 102, 117, 110, 99]⟩⟩
noncomputable def q218 : Str := ⟨⟨[83, 121, 109, 98, 111, 108, 115, 46, 110, 97, 109, 101]⟩⟩
noncomputable def q219 : Str := ⟨⟨[83, 121, 109, 98, 111, 108, 115, 46, 97, 114, 105, 116, 121]⟩⟩
noncomputable def q220 : Str := ⟨⟨[83, 121, 109, 98, 111, 108, 115, 46, 108, 97, 98, 101, 108]⟩⟩
noncomputable def q221 : Str := ⟨⟨[83, 121, 109, 98, 111, 108, 115, 46, 99, 111, 117, 110, 116]⟩⟩
noncomputable def q222 : Str := ⟨⟨[83, 121, 109, 98, 111, 108, 115, 46, 102, 117, 110, 99, 116, 111, 114, 95, 99, 111, 117, 110, 116]⟩⟩
noncomputable def q223 : Str := ⟨⟨[83, 121, 109, 98, 111, 108, 115, 46, 107, 110, 111, 119, 110]⟩⟩
noncomputable def q224 : Str := ⟨⟨[95, 95, 100, 105, 99, 116, 95, 95]⟩⟩
noncomputable def q225 : Str := ⟨⟨[70, 114, 101, 115, 104, 46, 95, 95, 105, 110, 105, 116, 95, 95]⟩⟩
noncomputable def q226 : Str := ⟨⟨[70, 114, 101, 115, 104, 46, 110, 117, 109, 98, 101, 114]⟩⟩
noncomputable def q227 : Str := ⟨⟨[71, 114, 97, 109, 109, 97, 114, 86, 97, 114, 105, 97, 98, 108, 101, 115, 46, 95, 95, 105, 110, 105, 116, 95, 95]⟩⟩
noncomputable def q228 : Str := ⟨⟨[71, 114, 97, 109, 109, 97, 114, 86, 97, 114, 105, 97, 98, 108, 101, 115, 46, 118, 97, 114, 105, 97, 98, 108, 101]⟩⟩
noncomputable def q229 : Str := ⟨⟨[71, 114, 97, 109, 109, 97, 114, 84, 114, 101, 101, 46, 95, 95, 105, 110, 105, 116, 95, 95]⟩⟩
noncomputable def q230 : Str := ⟨⟨[71, 114, 97, 109, 109, 97, 114, 84, 114, 101, 101, 46, 104, 111, 108, 100]⟩⟩
noncomputable def q231 : Str := ⟨⟨[71, 114, 97, 109, 109, 97, 114, 84, 114, 101, 101, 46, 103, 111, 97, 108]⟩⟩
noncomputable def keepS {α : Type} (s : α) (h : True) : α := s
noncomputable def hmeth (s : Stmt) (j : Nat) : Stmt := ((clsBody s)[j]?).getD (.Pass default)
noncomputable def hst0 : Stmt := by
  apply keepS
  case h => exact (fun (_ : ?s = topAt 0) => True.intro) (by conv => rhs; whnf; dsimp only [q0_e, q1_e])
noncomputable def hst1 : Stmt := by
  apply keepS
  case h => exact (fun (_ : ?s = topAt 1) => True.intro) (by conv => rhs; whnf; dsimp only [q2_e, q3_e])
noncomputable def hst2 : Stmt := by
  apply keepS
  case h => exact (fun (_ : ?s = topAt 2) => True.intro) (by conv => rhs; whnf; dsimp only [q4_e, q5_e])
noncomputable def hst3 : Stmt := by
  apply keepS
  case h => exact (fun (_ : ?s = topAt 3) => True.intro) (by conv => rhs; whnf; dsimp only [q6_e, q4_e, q7_e, q8_e, q9_e])
noncomputable def hst4 : Stmt := by
  apply keepS
  case h => exact (fun (_ : ?s = topAt 4) => True.intro) (by conv => rhs; whnf; dsimp only [q10_e])
noncomputable def hst5 : Stmt := by
  apply keepS
  case h => exact (fun (_ : ?s = topAt 5) => True.intro) (by conv => rhs; whnf; dsimp only [q11_e])
noncomputable def hst6 : Stmt := by
  apply keepS
  case h => exact (fun (_ : ?s = topAt 6) => True.intro) (by conv => rhs; whnf; dsimp only [q12_e])
noncomputable def hst7 : Stmt := by
  apply keepS
  case h => exact (fun (_ : ?s = topAt 7) => True.intro) (by conv => rhs; whnf; dsimp only [q13_e])
noncomputable def hst8 : Stmt := by
  apply keepS
  case h => exact (fun (_ : ?s = topAt 8) => True.intro) (by conv => rhs; whnf; dsimp only [q14_e])
noncomputable def hst9 : Stmt := by
  apply keepS
  case h => exact (fun (_ : ?s = topAt 9) => True.intro) (by conv => rhs; whnf; dsimp only [q15_e])
noncomputable def hst10 : Stmt := by
  apply keepS
  case h => exact (fun (_ : ?s = topAt 10) => True.intro) (by conv => rhs; whnf; dsimp only [q16_e])
noncomputable def hst11 : Stmt := by
  apply keepS
  case h => exact (fun (_ : ?s = topAt 11) => True.intro) (by conv => rhs; whnf; dsimp only [q17_e])
noncomputable def hst12 : Stmt := by
  apply keepS
  case h => exact (fun (_ : ?s = topAt 12) => True.intro) (by conv => rhs; whnf; dsimp only [q18_e])
noncomputable def hst13 : Stmt := by
  apply keepS
  case h => exact (fun (_ : ?s = topAt 13) => True.intro) (by conv => rhs; whnf; dsimp only [q19_e])
noncomputable def hst14 : Stmt := by
  apply keepS
  case h => exact (fun (_ : ?s = topAt 14) => True.intro) (by conv => rhs; whnf; dsimp only [q20_e])
noncomputable def hst15 : Stmt := by
  apply keepS
  case h => exact (fun (_ : ?s = topAt 15) => True.intro) (by conv => rhs; whnf; dsimp only [q21_e])
noncomputable def hst16 : Stmt := by
  apply keepS
  case h => exact (fun (_ : ?s = topAt 16) => True.intro) (by conv => rhs; whnf; dsimp only [q22_e])
noncomputable def hst17 : Stmt := by
  apply keepS
  case h => exact (fun (_ : ?s = topAt 17) => True.intro) (by conv => rhs; whnf; dsimp only [q23_e, q24_e, q25_e, q26_e, q27_e, q28_e, q29_e, q30_e, q31_e, q32_e, q33_e, q34_e, q35_e, q36_e, q37_e, q38_e, q39_e, q40_e, q41_e, q42_e, q43_e, q44_e, q45_e, q46_e, q47_e, q48_e, q49_e, q50_e, q51_e, q52_e])
noncomputable def hst18 : Stmt := by
  apply keepS
  case h => exact (fun (_ : ?s = topAt 18) => True.intro) (by conv => rhs; whnf; dsimp only [q53_e, q25_e, q31_e, q33_e, q34_e, q35_e, q36_e, q37_e, q38_e, q26_e, q44_e, q45_e, q27_e, q28_e, q30_e, q46_e, q50_e, q51_e, q52_e, q39_e, q40_e, q41_e, q42_e, q43_e])
noncomputable def hst19 : Stmt := by
  apply keepS
  case h => exact (fun (_ : ?s = topAt 19) => True.intro) (by conv => rhs; whnf; dsimp only [q54_e, q7_e, q8_e, q55_e, q56_e, q57_e, q58_e, q59_e, q23_e, q60_e, q61_e, q53_e, q62_e, q63_e, q64_e, q65_e, q66_e, q67_e, q68_e, q69_e, q70_e, q71_e, q72_e, q0_e, q73_e, q74_e, q75_e])
noncomputable def hst20 : Stmt := by
  apply keepS
  case h => exact (fun (_ : ?s = topAt 20) => True.intro) (by conv => rhs; whnf; dsimp only [q2_e, q76_e])
noncomputable def hst21 : Stmt := by
  apply keepS
  case h => exact (fun (_ : ?s = topAt 21) => True.intro) (by conv => rhs; whnf; dsimp only [q77_e, q78_e, q10_e])
noncomputable def hst22 : Stmt := by
  apply keepS
  case h => exact (fun (_ : ?s = topAt 22) => True.intro) (by conv => rhs; whnf; dsimp only [q79_e, q65_e, q80_e])
noncomputable def hst23 : Stmt := by
  apply keepS
  case h => exact (fun (_ : ?s = topAt 23) => True.intro) (by conv => rhs; whnf; dsimp only [q60_e, q65_e, q78_e])
noncomputable def hst24 : Stmt := by
  apply keepS
  case h => exact (fun (_ : ?s = topAt 24) => True.intro) (by conv => rhs; whnf; dsimp only [q81_e, q68_e, q82_e, q83_e, q84_e])
noncomputable def hst25 : Stmt := by
  apply keepS
  case h => exact (fun (_ : ?s = topAt 25) => True.intro) (by conv => rhs; whnf; dsimp only [q85_e, q86_e, q87_e, q88_e, q77_e, q89_e, q90_e, q83_e, q15_e])
noncomputable def hst26 : Stmt := by
  apply keepS
  case h => exact (fun (_ : ?s = topAt 26) => True.intro) (by conv => rhs; whnf; dsimp only [q91_e, q92_e, q86_e, q83_e, q15_e, q67_e])
noncomputable def hst27 : Stmt := by
  apply keepS
  case h => exact (fun (_ : ?s = topAt 27) => True.intro) (by conv => rhs; whnf; dsimp only [q93_e, q94_e, q92_e, q78_e, q68_e])
noncomputable def hst28 : Stmt := by
  apply keepS
  case h => exact (fun (_ : ?s = topAt 28) => True.intro) (by conv => rhs; whnf; dsimp only [q95_e, q92_e, q83_e])
noncomputable def hst29 : Stmt := by
  apply keepS
  case h => exact (fun (_ : ?s = topAt 29) => True.intro) (by conv => rhs; whnf; dsimp only [q96_e, q97_e, q66_e, q78_e, q13_e, q88_e, q98_e, q99_e, q83_e, q16_e])
noncomputable def hst30 : Stmt := by
  apply keepS
  case h => exact (fun (_ : ?s = topAt 30) => True.intro) (by conv => rhs; whnf; dsimp only [q100_e, q101_e, q6_e, q83_e, q22_e, q78_e, q14_e])
noncomputable def hst31 : Stmt := by
  apply keepS
  case h => exact (fun (_ : ?s = topAt 31) => True.intro) (by conv => rhs; whnf; dsimp only [q102_e, q94_e, q71_e, q103_e, q82_e, q104_e, q67_e, q105_e, q106_e, q78_e, q60_e, q83_e, q62_e, q66_e, q84_e])
noncomputable def hst32 : Stmt := by
  apply keepS
  case h => exact (fun (_ : ?s = topAt 32) => True.intro) (by conv => rhs; whnf; dsimp only [q107_e, q94_e, q100_e, q78_e, q60_e])
noncomputable def hst33 : Stmt := by
  apply keepS
  case h => exact (fun (_ : ?s = topAt 33) => True.intro) (by conv => rhs; whnf; dsimp only [q108_e, q94_e, q109_e, q110_e, q100_e, q102_e])
noncomputable def hst34 : Stmt := by
  apply keepS
  case h => exact (fun (_ : ?s = topAt 34) => True.intro) (by conv => rhs; whnf; dsimp only [q2_e, q111_e])
noncomputable def hst35 : Stmt := by
  apply keepS
  case h => exact (fun (_ : ?s = topAt 35) => True.intro) (by conv => rhs; whnf; dsimp only [q112_e, q7_e, q8_e, q113_e, q114_e, q65_e, q115_e])
noncomputable def hst36 : Stmt := by
  apply keepS
  case h => exact (fun (_ : ?s = topAt 36) => True.intro) (by conv => rhs; whnf; dsimp only [q116_e, q92_e, q57_e, q103_e, q83_e, q67_e])
noncomputable def hst37 : Stmt := by
  apply keepS
  case h => exact (fun (_ : ?s = topAt 37) => True.intro) (by conv => rhs; whnf; dsimp only [q2_e, q117_e])
noncomputable def hst38 : Stmt := by
  apply keepS
  case h => exact (fun (_ : ?s = topAt 38) => True.intro) (by conv => rhs; whnf; dsimp only [q118_e, q7_e, q8_e, q119_e, q120_e, q121_e, q1_e, q65_e, q79_e])
noncomputable def hst39 : Stmt := by
  apply keepS
  case h => exact (fun (_ : ?s = topAt 39) => True.intro) (by conv => rhs; whnf; dsimp only [q122_e, q94_e, q92_e, q113_e, q123_e, q124_e, q93_e, q82_e, q95_e, q81_e, q68_e, q71_e, q66_e])
noncomputable def hst40 : Stmt := by
  apply keepS
  case h => exact (fun (_ : ?s = topAt 40) => True.intro) (by conv => rhs; whnf; dsimp only [q125_e, q94_e, q92_e, q113_e, q123_e, q86_e, q87_e, q91_e, q80_e, q107_e, q60_e, q10_e, q108_e, q126_e, q81_e, q21_e, q85_e])
noncomputable def hst41 : Stmt := by
  apply keepS
  case h => exact (fun (_ : ?s = topAt 41) => True.intro) (by conv => rhs; whnf; dsimp only [q127_e, q7_e, q8_e, q92_e, q113_e, q123_e, q128_e, q129_e, q130_e, q131_e, q132_e, q103_e, q133_e, q104_e, q67_e, q66_e, q134_e, q99_e, q97_e, q98_e, q135_e, q136_e, q137_e, q138_e, q96_e, q139_e, q81_e, q18_e, q140_e, q19_e, q141_e, q142_e, q17_e, q143_e])
noncomputable def hst42 : Stmt := by
  apply keepS
  case h => exact (fun (_ : ?s = topAt 42) => True.intro) (by conv => rhs; whnf; dsimp only [q144_e, q94_e, q92_e, q113_e, q123_e, q145_e, q146_e, q127_e, q130_e, q98_e, q104_e, q147_e, q148_e, q142_e, q128_e, q149_e, q129_e])
noncomputable def hst43 : Stmt := by
  apply keepS
  case h => exact (fun (_ : ?s = topAt 43) => True.intro) (by conv => rhs; whnf; dsimp only [q149_e, q94_e, q92_e, q113_e, q123_e, q145_e, q146_e, q83_e, q150_e, q68_e, q11_e, q124_e, q16_e, q103_e, q147_e, q151_e, q116_e, q134_e, q99_e, q66_e, q148_e, q121_e, q67_e, q131_e, q138_e, q17_e, q152_e, q104_e, q137_e, q18_e, q153_e, q139_e, q19_e, q154_e, q98_e, q128_e, q129_e, q81_e, q21_e, q140_e, q155_e, q143_e])
noncomputable def hst44 : Stmt := by
  apply keepS
  case h => exact (fun (_ : ?s = topAt 44) => True.intro) (by conv => rhs; whnf; dsimp only [q155_e, q94_e, q92_e, q113_e, q123_e, q156_e, q81_e, q21_e, q80_e, q62_e, q157_e, q158_e, q108_e, q159_e, q78_e, q10_e, q12_e, q96_e, q122_e, q124_e, q15_e, q125_e, q20_e])
noncomputable def hst45 : Stmt := by
  apply keepS
  case h => exact (fun (_ : ?s = topAt 45) => True.intro) (by conv => rhs; whnf; dsimp only [q2_e, q160_e])
noncomputable def hst46 : Stmt := by
  apply keepS
  case h => exact (fun (_ : ?s = topAt 46) => True.intro) (by conv => rhs; whnf; dsimp only [q161_e, q162_e, q163_e, q164_e, q165_e, q166_e, q167_e, q99_e, q67_e, q66_e, q168_e])
noncomputable def hst47 : Stmt := by
  apply keepS
  case h => exact (fun (_ : ?s = topAt 47) => True.intro) (by conv => rhs; whnf; dsimp only [q169_e, q163_e, q170_e, q142_e])
noncomputable def hst48 : Stmt := by
  apply keepS
  case h => exact (fun (_ : ?s = topAt 48) => True.intro) (by conv => rhs; whnf; dsimp only [q171_e, q163_e, q172_e, q173_e, q169_e, q174_e, q80_e, q78_e, q60_e, q115_e, q83_e, q15_e, q175_e, q10_e, q12_e, q20_e, q62_e, q176_e, q177_e])
noncomputable def hst49 : Stmt := by
  apply keepS
  case h => exact (fun (_ : ?s = topAt 49) => True.intro) (by conv => rhs; whnf; dsimp only [q178_e, q163_e, q172_e, q179_e, q180_e, q61_e, q167_e, q99_e, q169_e, q173_e, q67_e, q181_e, q171_e, q135_e, q182_e, q139_e, q140_e])
noncomputable def hst50 : Stmt := by
  apply keepS
  case h => exact (fun (_ : ?s = topAt 50) => True.intro) (by conv => rhs; whnf; dsimp only [q183_e, q163_e, q172_e, q61_e, q184_e, q66_e, q134_e, q169_e, q165_e, q83_e, q16_e, q132_e, q135_e, q181_e, q185_e, q84_e, q186_e, q137_e, q182_e, q17_e, q68_e, q11_e, q139_e, q18_e, q19_e, q143_e])
noncomputable def hst51 : Stmt := by
  apply keepS
  case h => exact (fun (_ : ?s = topAt 51) => True.intro) (by conv => rhs; whnf; dsimp only [q187_e, q92_e, q188_e, q189_e, q80_e, q66_e, q67_e, q78_e, q16_e, q104_e, q154_e])
noncomputable def hst52 : Stmt := by
  apply keepS
  case h => exact (fun (_ : ?s = topAt 52) => True.intro) (by conv => rhs; whnf; dsimp only [q190_e, q162_e, q163_e, q161_e, q172_e, q54_e, q191_e, q169_e, q61_e, q178_e, q75_e, q192_e, q184_e, q193_e, q183_e, q119_e, q112_e, q129_e, q144_e, q80_e, q118_e, q189_e, q187_e, q65_e, q137_e, q67_e, q143_e])
noncomputable def hscope : Scope := by
  apply keepS
  case h => exact (fun (_ : ?s = Challenge.pw_rh0077_01.main.scope) => True.intro) (by conv => rhs; whnf; dsimp only [q161_e, q169_e, q171_e, q178_e, q183_e, q187_e, q190_e, q122_e, q125_e, q127_e, q144_e, q149_e, q155_e, q102_e, q107_e, q108_e, q112_e, q116_e, q118_e, q85_e, q91_e, q93_e, q95_e, q96_e, q100_e, q23_e, q53_e, q54_e, q77_e, q79_e, q60_e, q81_e, q17_e, q18_e, q19_e, q20_e, q21_e, q22_e, q11_e, q12_e, q13_e, q14_e, q15_e, q16_e, q0_e, q2_e, q4_e, q5_e, q6_e, q10_e])
noncomputable def hS1 : List Stmt := [hst0, hst1, hst2, hst3, hst4, hst5, hst6, hst7, hst8, hst9, hst10, hst11, hst12, hst13, hst14, hst15, hst16, hst17, hst18]
noncomputable def hS2 : List Stmt := [hst19]
noncomputable def hS3 : List Stmt := [hst20, hst21, hst22, hst23, hst24, hst25, hst26, hst27, hst28, hst29, hst30, hst31, hst32, hst33, hst34, hst35, hst36, hst37]
noncomputable def hS4 : List Stmt := [hst38, hst39, hst40, hst41, hst42, hst43, hst44, hst45]
noncomputable def hS5 : List Stmt := [hst46, hst47, hst48, hst49, hst50, hst51, hst52]
noncomputable def hstmts : List Stmt := hS1 ++ (hS2 ++ (hS3 ++ (hS4 ++ (hS5 ++ []))))
noncomputable def hpg : Program := { main := { body := hstmts, scope := hscope, futureAnnotations := false, file := "/claim/cut.py", more := [] }, modules := [], parses := [], absent := [], harvested := [], given := { argv := [], stdin := [], environ := some [([76, 67, 95, 65, 76, 76], [67, 46, 85, 84, 70, 45, 56])] } }
noncomputable def hlaw : OpenLaw := { prog := hpg, name := "law", about := ["grammar_body"], foot := 7, most := some 63, bound := none, writes := false }
noncomputable def hE : Env := { scope := hscope, locals := mainNs, globals := mainNs, cells := [], code := Value.ref 13, frame := some 14 }
noncomputable def hV0 : List Stmt := [hst0, hst2, hst3, hst4, hst5, hst6, hst7, hst8]
noncomputable def hV1 : List Stmt := [hst9, hst10, hst11, hst12, hst13, hst14, hst15, hst16]
noncomputable def hV2 : List Stmt := [hst17, hst18, hst19, hst21, hst22, hst23, hst24, hst26]
noncomputable def hV3 : List Stmt := [hst27, hst28, hst29, hst30, hst31, hst32, hst33, hst35]
noncomputable def hV4 : List Stmt := [hst36, hst38, hst39, hst40, hst41, hst42, hst43, hst44]
noncomputable def hV5 : List Stmt := [hst46, hst47, hst48, hst49, hst50, hst51, hst52]
noncomputable def hview : Program := { hpg with main := { hpg.main with body := hV0 ++ (hV1 ++ (hV2 ++ (hV3 ++ (hV4 ++ (hV5))))) } }
noncomputable def hann : Str := q203
noncomputable def hloose : List Str := [q77, q85]
noncomputable def hlv : List (Str × WData) := [(q77, WData.tuple [WData.str { cps := #[97] }, WData.int 0])]
noncomputable def ho43 : Params → Obj := fun P => Obj.mk (Value.type PySem.W.SL.s2766695959194262286x5) Option.none (Data.seq #[]) #[]
noncomputable def ho44 : Params → Obj := fun P => Obj.mk Value.none Option.none (Data.fields #[]) #[]
noncomputable def ho45 : Params → Obj := fun P => Obj.mk (Value.type PySem.W.SL.s5856160107412720595x4) Option.none (Data.fields #[Value.str q194 182, Value.str q194 183, Value.str q195 184, Value.int 1 0, Value.int 0 0, Value.int 0 0, Value.int 0 0, Value.int 0 0, Value.ref 11, Value.bool Bool.false, Value.int 181 0, Value.ref 12, Value.none, Value.none, Value.none, Value.none, Value.int 185 0, Value.int 1 0, Value.str q195 186]) #[]
noncomputable def ho46 : Params → Obj := fun P => Obj.mk (Value.type PySem.W.SL.s658472552662922059x5) Option.none Data.plain #[Option.some (Value.ref 13), Option.some (Value.ref 3), Option.some (Value.ref 3), Option.none, Option.some (Value.str q196 164), Option.none, Option.some (Value.ref 0)]
noncomputable def ho49 : Params → Obj := fun P => Obj.mk Value.none Option.none (Data.dict #[DictEntry.mk (PyData.keyHash P q197) (Value.str q197 212) (Value.int 31 0), DictEntry.mk (PyData.keyHash P q198) (Value.str q198 213) (Value.int 1 0)] 2) #[]
noncomputable def ho101 : Params → Obj := fun P => Obj.mk (Value.type PySem.W.SL.s14018661285674007319x4) Option.none (Data.dict #[DictEntry.mk (PyData.keyHash P q2) (Value.str q2 165) (Value.str q3 194), DictEntry.mk (PyData.keyHash P q199) (Value.str q199 166) Value.none, DictEntry.mk (PyData.keyHash P q200) (Value.str q200 167) Value.none, DictEntry.mk (PyData.keyHash P q201) (Value.str q201 168) (Value.builtin PySem.W.SL.s7097527257260152453x26), DictEntry.mk (PyData.keyHash P q202) (Value.str q202 169) Value.none, DictEntry.mk (PyData.keyHash P q203) (Value.str q203 170) (Value.ref 6), DictEntry.mk (PyData.keyHash P q204) (Value.str q204 171) (Value.ref 4), DictEntry.mk (PyData.keyHash P q205) (Value.str q205 173) (Value.str q195 172), DictEntry.mk (PyData.keyHash P q206) (Value.str q206 174) Value.none, DictEntry.mk (PyData.keyHash P q0) (Value.str q0 193) (Value.ref 21), DictEntry.mk (PyData.keyHash P q4) (Value.str q4 215) (Value.ref 31), DictEntry.mk (PyData.keyHash P q6) (Value.str q6 240) (Value.ref 51), DictEntry.mk (PyData.keyHash P q10) (Value.str q10 242) (Value.int 0 241), DictEntry.mk (PyData.keyHash P q11) (Value.str q11 244) (Value.int 8 243), DictEntry.mk (PyData.keyHash P q12) (Value.str q12 246) (Value.int 15 245), DictEntry.mk (PyData.keyHash P q13) (Value.str q13 248) (Value.int 16 247), DictEntry.mk (PyData.keyHash P q14) (Value.str q14 250) (Value.int 25 249), DictEntry.mk (PyData.keyHash P q15) (Value.str q15 252) (Value.int 0 251), DictEntry.mk (PyData.keyHash P q16) (Value.str q16 254) (Value.int 1 253), DictEntry.mk (PyData.keyHash P q17) (Value.str q17 256) (Value.int 2 255), DictEntry.mk (PyData.keyHash P q18) (Value.str q18 258) (Value.int 3 257), DictEntry.mk (PyData.keyHash P q19) (Value.str q19 260) (Value.int 4 259), DictEntry.mk (PyData.keyHash P q20) (Value.str q20 262) (Value.int 9 261), DictEntry.mk (PyData.keyHash P q21) (Value.str q21 264) (Value.int 10 263), DictEntry.mk (PyData.keyHash P q22) (Value.str q22 266) (Value.int 16 265), DictEntry.mk (PyData.keyHash P q23) (Value.str q23 272) (Value.ref 60), DictEntry.mk (PyData.keyHash P q53) (Value.str q53 278) (Value.ref 67)] 27) #[]
noncomputable def ho102 : Params → Obj := fun P => Obj.mk Value.none Option.none (Data.fields #[Value.int 1 0, Value.int 0 0, Value.ref 20, Value.int 5 0, Value.int 0 0, Value.ref 27, Value.int 7 0, Value.int 0 0, Value.ref 40, Value.int 24 0, Value.int 0 0, Value.ref 59, Value.int 26 0, Value.int 0 0, Value.ref 66]) #[]
noncomputable def ho54 : Params → Obj := fun P => Obj.mk (Value.type PySem.W.SL.s2766695959194262286x5) Option.none (Data.seq #[Value.str q1 190]) #[]
noncomputable def ho56 : Params → Obj := fun P => Obj.mk Value.none Option.none (Data.func (FuncData.mk q0 q0 (fnParams hst0) (FuncBody.stmts (fnBody hst0)) (fnScope hst0) 0 [] Value.none Value.none Value.none Value.none Option.none Value.none Value.none 0)) #[]
noncomputable def ho57 : Params → Obj := fun P => Obj.mk (Value.type PySem.W.SL.s5856160107412720595x4) Option.none (Data.fields #[Value.str q0 187, Value.str q0 188, Value.str q195 189, Value.int 1 0, Value.int 1 0, Value.int 0 0, Value.int 0 0, Value.int 3 0, Value.ref 15, Value.bool Bool.true, Value.int 181 0, Value.ref 16, Value.none, Value.ref 17, Value.ref 18, Value.ref 19, Value.int 191 0, Value.int 1 0, Value.str q195 192]) #[]
noncomputable def ho58 : Params → Obj := fun P => Obj.mk (Value.type PySem.W.SL.s7174869446012820540x8) Option.none (Data.func (FuncData.mk q0 q0 (fnParams hst0) (FuncBody.stmts (fnBody hst0)) (fnScope hst0) 3 [] Value.none Value.none Value.none (Value.str q196 164) Option.none (Value.ref 20) Value.none 0)) #[]
noncomputable def ho59 : Params → Obj := fun P => Obj.mk (Value.type PySem.W.SL.s2766695959194262286x5) Option.none (Data.seq #[Value.type PySem.W.SL.s5946037652744460706x9]) #[]
noncomputable def ho60 : Params → Obj := fun P => Obj.mk (Value.type PySem.W.SL.s11030030927630378310x26) Option.none (Data.fields #[Value.builtin PySem.W.SL.s10062305145149207511x16, Value.type PySem.W.SL.s17162191345867700912x4]) #[]
noncomputable def ho61 : Params → Obj := fun P => Obj.mk (Value.type PySem.W.SL.s14018661285674007319x4) Option.none (Data.dict #[DictEntry.mk (PyData.keyHash P q207) (Value.str q207 203) (Value.str q3 194), DictEntry.mk (PyData.keyHash P q208) (Value.str q208 205) (Value.str q4 204), DictEntry.mk (PyData.keyHash P q209) (Value.str q209 207) (Value.int 5 206), DictEntry.mk (PyData.keyHash P q210) (Value.str q210 208) (Value.ref 29)] 4) #[]
noncomputable def ho64 : Params → Obj := fun P => Obj.mk (Value.type PySem.W.SL.s5856160107412720595x4) Option.none (Data.fields #[Value.str q4 198, Value.str q4 199, Value.str q195 200, Value.int 5 0, Value.int 0 0, Value.int 0 0, Value.int 0 0, Value.int 0 0, Value.ref 25, Value.bool Bool.false, Value.int 181 0, Value.ref 26, Value.none, Value.none, Value.none, Value.none, Value.int 201 0, Value.int 5 0, Value.str q195 202]) #[]
noncomputable def ho65 : Params → Obj := fun P => Obj.mk (Value.type PySem.W.SL.s658472552662922059x5) Option.none Data.plain #[Option.some (Value.ref 27), Option.some (Value.ref 3), Option.some (Value.ref 24), Option.none, Option.some (Value.str q3 194), Option.none, Option.some (Value.ref 0)]
noncomputable def ho67 : Params → Obj := fun P => Obj.mk (Value.type PySem.W.SL.s14018661285674007319x4) Option.none (Data.dict #[DictEntry.mk (PyData.keyHash P q207) (Value.str q207 203) (Value.str q3 194), DictEntry.mk (PyData.keyHash P q209) (Value.str q209 207) (Value.int 5 206), DictEntry.mk (PyData.keyHash P q210) (Value.str q210 208) (Value.ref 29), DictEntry.mk (PyData.keyHash P q211) (Value.str q211 210) (Value.ref 32), DictEntry.mk (PyData.keyHash P q199) (Value.str q199 211) Value.none] 3) #[]
noncomputable def ho74 : Params → Obj := fun P => Obj.mk (Value.type PySem.W.SL.s17162191345867700912x4) Option.none (Data.cls (ClassData.mk q4 [Value.type PySem.W.SL.s5946037652744460706x9] [Value.ref 31, Value.type PySem.W.SL.s5946037652744460706x9, Value.type PySem.W.SL.s4278001404047624695x13, Value.type PySem.W.SL.s2742458400755230247x6] 30 q4 Bool.true [] [Value.ref 51] Bool.false Option.none Bool.false)) #[Option.some (Value.ref 22), Option.none, Option.some (Value.str q4 196), Option.some (Value.str q4 204), Option.some (Value.builtin PySem.W.SL.s5160863994218179198x17), Option.some (Value.bool Bool.true)]
noncomputable def ho69 : Params → Obj := fun P => Obj.mk (Value.type PySem.W.SL.s14755015743595814543x17) Option.none (Data.fields #[Value.str q211 209, Value.ref 31, Value.builtin PySem.W.SL.s10220274742760427390x26, Value.none]) #[]
noncomputable def ho70 : Params → Obj := fun P => Obj.mk (Value.type PySem.W.SL.s4290257624100764138x5) Option.none (Data.fields #[Value.ref 31, Value.ref 31, Value.ref 31]) #[]
noncomputable def ho71 : Params → Obj := fun P => Obj.mk (Value.type PySem.W.SL.s11030030927630378310x26) Option.none (Data.fields #[Value.builtin PySem.W.SL.s4860613602091757760x24, Value.ref 31]) #[]
noncomputable def ho75 : Params → Obj := fun P => Obj.mk (Value.type PySem.W.SL.s2766695959194262286x5) Option.none (Data.seq #[Value.ref 31]) #[]
noncomputable def ho77 : Params → Obj := fun P => Obj.mk (Value.type PySem.W.SL.s14018661285674007319x4) Option.none (Data.dict #[DictEntry.mk (PyData.keyHash P q207) (Value.str q207 223) (Value.str q3 194), DictEntry.mk (PyData.keyHash P q208) (Value.str q208 225) (Value.str q6 224), DictEntry.mk (PyData.keyHash P q209) (Value.str q209 227) (Value.int 7 226), DictEntry.mk (PyData.keyHash P q7) (Value.str q7 235) (Value.ref 48), DictEntry.mk (PyData.keyHash P q210) (Value.str q210 237) (Value.ref 49)] 5) #[]
noncomputable def ho79 : Params → Obj := fun P => Obj.mk Value.none Option.none (Data.fields #[Value.int 9 0, Value.int 4 0, Value.ref 47]) #[]
noncomputable def ho80 : Params → Obj := fun P => Obj.mk (Value.type PySem.W.SL.s5856160107412720595x4) Option.none (Data.fields #[Value.str q6 218, Value.str q6 219, Value.str q195 220, Value.int 7 0, Value.int 0 0, Value.int 0 0, Value.int 0 0, Value.int 0 0, Value.ref 38, Value.bool Bool.false, Value.int 181 0, Value.ref 39, Value.none, Value.none, Value.none, Value.none, Value.int 221 0, Value.int 7 0, Value.str q195 222]) #[]
noncomputable def ho81 : Params → Obj := fun P => Obj.mk (Value.type PySem.W.SL.s658472552662922059x5) Option.none Data.plain #[Option.some (Value.ref 40), Option.some (Value.ref 3), Option.some (Value.ref 37), Option.none, Option.some (Value.str q3 194), Option.none, Option.some (Value.ref 0)]
noncomputable def ho84 : Params → Obj := fun P => Obj.mk (Value.type PySem.W.SL.s2766695959194262286x5) Option.none (Data.seq #[Value.str q8 231, Value.str q9 232]) #[]
noncomputable def ho86 : Params → Obj := fun P => Obj.mk Value.none Option.none (Data.func (FuncData.mk q7 q212 (fnParams (hmeth hst3 0)) (FuncBody.stmts (fnBody (hmeth hst3 0))) (fnScope (hmeth hst3 0)) 0 [] Value.none Value.none Value.none Value.none Option.none Value.none Value.none 0)) #[]
noncomputable def ho87 : Params → Obj := fun P => Obj.mk (Value.type PySem.W.SL.s5856160107412720595x4) Option.none (Data.fields #[Value.str q7 228, Value.str q212 229, Value.str q195 230, Value.int 9 0, Value.int 2 0, Value.int 0 0, Value.int 0 0, Value.int 3 0, Value.ref 42, Value.bool Bool.true, Value.int 181 0, Value.ref 43, Value.none, Value.ref 44, Value.ref 45, Value.ref 46, Value.int 233 0, Value.int 9 0, Value.str q195 234]) #[]
noncomputable def ho88 : Params → Obj := fun P => Obj.mk (Value.type PySem.W.SL.s7174869446012820540x8) Option.none (Data.func (FuncData.mk q7 q212 (fnParams (hmeth hst3 0)) (FuncBody.stmts (fnBody (hmeth hst3 0))) (fnScope (hmeth hst3 0)) 3 [] Value.none Value.none Value.none (Value.str q3 194) Option.none (Value.ref 47) Value.none 0)) #[]
noncomputable def ho89 : Params → Obj := fun P => Obj.mk (Value.type PySem.W.SL.s2766695959194262286x5) Option.none (Data.seq #[Value.str q9 236]) #[]
noncomputable def ho90 : Params → Obj := fun P => Obj.mk (Value.type PySem.W.SL.s14018661285674007319x4) Option.none (Data.dict #[DictEntry.mk (PyData.keyHash P q207) (Value.str q207 223) (Value.str q3 194), DictEntry.mk (PyData.keyHash P q209) (Value.str q209 227) (Value.int 7 226), DictEntry.mk (PyData.keyHash P q7) (Value.str q7 235) (Value.ref 48), DictEntry.mk (PyData.keyHash P q210) (Value.str q210 237) (Value.ref 49), DictEntry.mk (PyData.keyHash P q199) (Value.str q199 238) Value.none] 2) #[]
noncomputable def ho91 : Params → Obj := fun P => Obj.mk (Value.type PySem.W.SL.s17162191345867700912x4) Option.none (Data.cls (ClassData.mk q6 [Value.ref 31] [Value.ref 51, Value.ref 31, Value.type PySem.W.SL.s5946037652744460706x9, Value.type PySem.W.SL.s4278001404047624695x13, Value.type PySem.W.SL.s2742458400755230247x6] 50 q6 Bool.true [] [] Bool.false Option.none Bool.false)) #[Option.some (Value.ref 35), Option.none, Option.some (Value.str q6 216), Option.some (Value.str q6 224), Option.some (Value.builtin PySem.W.SL.s5160863994218179198x17), Option.some (Value.bool Bool.true)]
noncomputable def ho92 : Params → Obj := fun P => Obj.mk (Value.type PySem.W.SL.s4290257624100764138x5) Option.none (Data.fields #[Value.ref 51, Value.ref 51, Value.ref 51]) #[]
noncomputable def ho93 : Params → Obj := fun P => Obj.mk (Value.type PySem.W.SL.s11030030927630378310x26) Option.none (Data.fields #[Value.builtin PySem.W.SL.s4860613602091757760x24, Value.ref 51]) #[]
noncomputable def ho98 : Params → Obj := fun P => Obj.mk Value.none Option.none (Data.func (FuncData.mk q23 q23 (fnParams hst17) (FuncBody.stmts (fnBody hst17)) (fnScope hst17) 0 [] Value.none Value.none Value.none Value.none Option.none Value.none Value.none 0)) #[]
noncomputable def ho99 : Params → Obj := fun P => Obj.mk (Value.type PySem.W.SL.s5856160107412720595x4) Option.none (Data.fields #[Value.str q23 267, Value.str q23 268, Value.str q195 269, Value.int 24 0, Value.int 0 0, Value.int 0 0, Value.int 0 0, Value.int 3 0, Value.ref 54, Value.bool Bool.true, Value.int 181 0, Value.ref 55, Value.none, Value.ref 56, Value.ref 57, Value.ref 58, Value.int 270 0, Value.int 24 0, Value.str q195 271]) #[]
noncomputable def ho100 : Params → Obj := fun P => Obj.mk (Value.type PySem.W.SL.s7174869446012820540x8) Option.none (Data.func (FuncData.mk q23 q23 (fnParams hst17) (FuncBody.stmts (fnBody hst17)) (fnScope hst17) 3 [] Value.none Value.none Value.none (Value.str q3 194) Option.none (Value.ref 59) Value.none 0)) #[]
noncomputable def ho107 : Params → Obj := fun P => Obj.mk Value.none Option.none (Data.func (FuncData.mk q53 q53 (fnParams hst18) (FuncBody.stmts (fnBody hst18)) (fnScope hst18) 0 [] Value.none Value.none Value.none Value.none Option.none Value.none Value.none 0)) #[]
noncomputable def ho108 : Params → Obj := fun P => Obj.mk (Value.type PySem.W.SL.s5856160107412720595x4) Option.none (Data.fields #[Value.str q53 273, Value.str q53 274, Value.str q195 275, Value.int 26 0, Value.int 0 0, Value.int 0 0, Value.int 0 0, Value.int 3 0, Value.ref 61, Value.bool Bool.true, Value.int 181 0, Value.ref 62, Value.none, Value.ref 63, Value.ref 64, Value.ref 65, Value.int 276 0, Value.int 26 0, Value.str q195 277]) #[]
noncomputable def ho109 : Params → Obj := fun P => Obj.mk (Value.type PySem.W.SL.s7174869446012820540x8) Option.none (Data.func (FuncData.mk q53 q53 (fnParams hst18) (FuncBody.stmts (fnBody hst18)) (fnScope hst18) 3 [] Value.none Value.none Value.none (Value.str q3 194) Option.none (Value.ref 66) Value.none 0)) #[]
noncomputable def ho110 : Params → Obj := fun P => Obj.mk (Value.type PySem.W.SL.s14018661285674007319x4) Option.none (Data.dict #[DictEntry.mk (PyData.keyHash P q2) (Value.str q2 165) (Value.str q3 194), DictEntry.mk (PyData.keyHash P q199) (Value.str q199 166) Value.none, DictEntry.mk (PyData.keyHash P q200) (Value.str q200 167) Value.none, DictEntry.mk (PyData.keyHash P q201) (Value.str q201 168) (Value.builtin PySem.W.SL.s7097527257260152453x26), DictEntry.mk (PyData.keyHash P q202) (Value.str q202 169) Value.none, DictEntry.mk (PyData.keyHash P q203) (Value.str q203 170) (Value.ref 6), DictEntry.mk (PyData.keyHash P q204) (Value.str q204 171) (Value.ref 4), DictEntry.mk (PyData.keyHash P q205) (Value.str q205 173) (Value.str q195 172), DictEntry.mk (PyData.keyHash P q206) (Value.str q206 174) Value.none, DictEntry.mk (PyData.keyHash P q0) (Value.str q0 193) (Value.ref 21), DictEntry.mk (PyData.keyHash P q4) (Value.str q4 215) (Value.ref 31), DictEntry.mk (PyData.keyHash P q6) (Value.str q6 240) (Value.ref 51), DictEntry.mk (PyData.keyHash P q10) (Value.str q10 242) (Value.int 0 241), DictEntry.mk (PyData.keyHash P q11) (Value.str q11 244) (Value.int 8 243), DictEntry.mk (PyData.keyHash P q12) (Value.str q12 246) (Value.int 15 245), DictEntry.mk (PyData.keyHash P q13) (Value.str q13 248) (Value.int 16 247), DictEntry.mk (PyData.keyHash P q14) (Value.str q14 250) (Value.int 25 249), DictEntry.mk (PyData.keyHash P q15) (Value.str q15 252) (Value.int 0 251), DictEntry.mk (PyData.keyHash P q16) (Value.str q16 254) (Value.int 1 253), DictEntry.mk (PyData.keyHash P q17) (Value.str q17 256) (Value.int 2 255), DictEntry.mk (PyData.keyHash P q18) (Value.str q18 258) (Value.int 3 257), DictEntry.mk (PyData.keyHash P q19) (Value.str q19 260) (Value.int 4 259), DictEntry.mk (PyData.keyHash P q20) (Value.str q20 262) (Value.int 9 261), DictEntry.mk (PyData.keyHash P q21) (Value.str q21 264) (Value.int 10 263), DictEntry.mk (PyData.keyHash P q22) (Value.str q22 266) (Value.int 16 265), DictEntry.mk (PyData.keyHash P q23) (Value.str q23 272) (Value.ref 60), DictEntry.mk (PyData.keyHash P q53) (Value.str q53 278) (Value.ref 67), DictEntry.mk (PyData.keyHash P q54) (Value.str q54 398) (Value.ref 154)] 28) #[]
noncomputable def ho111 : Params → Obj := fun P => Obj.mk Value.none Option.none (Data.fields #[Value.int 1 0, Value.int 0 0, Value.ref 20, Value.int 5 0, Value.int 0 0, Value.ref 27, Value.int 7 0, Value.int 0 0, Value.ref 40, Value.int 24 0, Value.int 0 0, Value.ref 59, Value.int 26 0, Value.int 0 0, Value.ref 66, Value.int 28 0, Value.int 0 0, Value.ref 73]) #[]
noncomputable def ho114 : Params → Obj := fun P => Obj.mk (Value.type PySem.W.SL.s14018661285674007319x4) Option.none (Data.dict #[DictEntry.mk (PyData.keyHash P q207) (Value.str q207 286) (Value.str q3 194), DictEntry.mk (PyData.keyHash P q208) (Value.str q208 288) (Value.str q54 287), DictEntry.mk (PyData.keyHash P q209) (Value.str q209 290) (Value.int 28 289), DictEntry.mk (PyData.keyHash P q7) (Value.str q7 299) (Value.ref 81), DictEntry.mk (PyData.keyHash P q60) (Value.str q60 309) (Value.ref 88), DictEntry.mk (PyData.keyHash P q59) (Value.str q59 317) (Value.ref 95), DictEntry.mk (PyData.keyHash P q68) (Value.str q68 329) (Value.ref 102), DictEntry.mk (PyData.keyHash P q62) (Value.str q62 338) (Value.ref 109), DictEntry.mk (PyData.keyHash P q71) (Value.str q71 346) (Value.ref 116), DictEntry.mk (PyData.keyHash P q69) (Value.str q69 354) (Value.ref 123), DictEntry.mk (PyData.keyHash P q72) (Value.str q72 362) (Value.ref 130), DictEntry.mk (PyData.keyHash P q73) (Value.str q73 369) (Value.ref 137), DictEntry.mk (PyData.keyHash P q74) (Value.str q74 376) (Value.ref 144), DictEntry.mk (PyData.keyHash P q75) (Value.str q75 386) (Value.ref 151), DictEntry.mk (PyData.keyHash P q210) (Value.str q210 391) (Value.ref 152)] 15) #[]
noncomputable def ho116 : Params → Obj := fun P => Obj.mk Value.none Option.none (Data.fields #[Value.int 30 0, Value.int 4 0, Value.ref 80, Value.int 40 0, Value.int 4 0, Value.ref 87, Value.int 49 0, Value.int 4 0, Value.ref 94, Value.int 52 0, Value.int 4 0, Value.ref 101, Value.int 62 0, Value.int 4 0, Value.ref 108, Value.int 65 0, Value.int 4 0, Value.ref 115, Value.int 68 0, Value.int 4 0, Value.ref 122, Value.int 71 0, Value.int 4 0, Value.ref 129, Value.int 74 0, Value.int 4 0, Value.ref 136, Value.int 77 0, Value.int 4 0, Value.ref 143, Value.int 80 0, Value.int 4 0, Value.ref 150]) #[]
noncomputable def ho117 : Params → Obj := fun P => Obj.mk (Value.type PySem.W.SL.s5856160107412720595x4) Option.none (Data.fields #[Value.str q54 281, Value.str q54 282, Value.str q195 283, Value.int 28 0, Value.int 0 0, Value.int 0 0, Value.int 0 0, Value.int 0 0, Value.ref 71, Value.bool Bool.false, Value.int 181 0, Value.ref 72, Value.none, Value.none, Value.none, Value.none, Value.int 284 0, Value.int 28 0, Value.str q195 285]) #[]
noncomputable def ho118 : Params → Obj := fun P => Obj.mk (Value.type PySem.W.SL.s658472552662922059x5) Option.none Data.plain #[Option.some (Value.ref 73), Option.some (Value.ref 3), Option.some (Value.ref 70), Option.none, Option.some (Value.str q3 194), Option.none, Option.some (Value.ref 0)]
noncomputable def ho121 : Params → Obj := fun P => Obj.mk (Value.type PySem.W.SL.s2766695959194262286x5) Option.none (Data.seq #[Value.str q8 294, Value.str q59 295, Value.str q61 296]) #[]
noncomputable def ho123 : Params → Obj := fun P => Obj.mk Value.none Option.none (Data.func (FuncData.mk q7 q213 (fnParams (hmeth hst19 0)) (FuncBody.stmts (fnBody (hmeth hst19 0))) (fnScope (hmeth hst19 0)) 0 [] Value.none Value.none Value.none Value.none Option.none Value.none Value.none 0)) #[]
noncomputable def ho124 : Params → Obj := fun P => Obj.mk (Value.type PySem.W.SL.s5856160107412720595x4) Option.none (Data.fields #[Value.str q7 291, Value.str q213 292, Value.str q195 293, Value.int 30 0, Value.int 1 0, Value.int 0 0, Value.int 0 0, Value.int 3 0, Value.ref 75, Value.bool Bool.true, Value.int 181 0, Value.ref 76, Value.none, Value.ref 77, Value.ref 78, Value.ref 79, Value.int 297 0, Value.int 30 0, Value.str q195 298]) #[]
noncomputable def ho125 : Params → Obj := fun P => Obj.mk (Value.type PySem.W.SL.s7174869446012820540x8) Option.none (Data.func (FuncData.mk q7 q213 (fnParams (hmeth hst19 0)) (FuncBody.stmts (fnBody (hmeth hst19 0))) (fnScope (hmeth hst19 0)) 3 [] Value.none Value.none Value.none (Value.str q3 194) Option.none (Value.ref 80) Value.none 0)) #[]
noncomputable def ho128 : Params → Obj := fun P => Obj.mk (Value.type PySem.W.SL.s2766695959194262286x5) Option.none (Data.seq #[Value.str q8 303, Value.str q59 304, Value.str q63 305, Value.str q65 306]) #[]
noncomputable def ho130 : Params → Obj := fun P => Obj.mk Value.none Option.none (Data.func (FuncData.mk q60 q214 (fnParams (hmeth hst19 1)) (FuncBody.stmts (fnBody (hmeth hst19 1))) (fnScope (hmeth hst19 1)) 0 [] Value.none Value.none Value.none Value.none Option.none Value.none Value.none 0)) #[]
noncomputable def ho131 : Params → Obj := fun P => Obj.mk (Value.type PySem.W.SL.s5856160107412720595x4) Option.none (Data.fields #[Value.str q60 300, Value.str q214 301, Value.str q195 302, Value.int 40 0, Value.int 2 0, Value.int 0 0, Value.int 0 0, Value.int 3 0, Value.ref 82, Value.bool Bool.true, Value.int 181 0, Value.ref 83, Value.none, Value.ref 84, Value.ref 85, Value.ref 86, Value.int 307 0, Value.int 40 0, Value.str q195 308]) #[]
noncomputable def ho132 : Params → Obj := fun P => Obj.mk (Value.type PySem.W.SL.s7174869446012820540x8) Option.none (Data.func (FuncData.mk q60 q214 (fnParams (hmeth hst19 1)) (FuncBody.stmts (fnBody (hmeth hst19 1))) (fnScope (hmeth hst19 1)) 3 [] Value.none Value.none Value.none (Value.str q3 194) Option.none (Value.ref 87) Value.none 0)) #[]
noncomputable def ho135 : Params → Obj := fun P => Obj.mk (Value.type PySem.W.SL.s2766695959194262286x5) Option.none (Data.seq #[Value.str q8 313, Value.str q65 314]) #[]
noncomputable def ho137 : Params → Obj := fun P => Obj.mk Value.none Option.none (Data.func (FuncData.mk q59 q215 (fnParams (hmeth hst19 2)) (FuncBody.stmts (fnBody (hmeth hst19 2))) (fnScope (hmeth hst19 2)) 0 [] Value.none Value.none Value.none Value.none Option.none Value.none Value.none 0)) #[]
noncomputable def ho138 : Params → Obj := fun P => Obj.mk (Value.type PySem.W.SL.s5856160107412720595x4) Option.none (Data.fields #[Value.str q59 310, Value.str q215 311, Value.str q195 312, Value.int 49 0, Value.int 2 0, Value.int 0 0, Value.int 0 0, Value.int 3 0, Value.ref 89, Value.bool Bool.true, Value.int 181 0, Value.ref 90, Value.none, Value.ref 91, Value.ref 92, Value.ref 93, Value.int 315 0, Value.int 49 0, Value.str q195 316]) #[]
noncomputable def ho139 : Params → Obj := fun P => Obj.mk (Value.type PySem.W.SL.s7174869446012820540x8) Option.none (Data.func (FuncData.mk q59 q215 (fnParams (hmeth hst19 2)) (FuncBody.stmts (fnBody (hmeth hst19 2))) (fnScope (hmeth hst19 2)) 3 [] Value.none Value.none Value.none (Value.str q3 194) Option.none (Value.ref 94) Value.none 0)) #[]
noncomputable def ho142 : Params → Obj := fun P => Obj.mk (Value.type PySem.W.SL.s2766695959194262286x5) Option.none (Data.seq #[Value.str q8 321, Value.str q60 322, Value.str q69 323, Value.str q70 324, Value.str q63 325, Value.str q65 326]) #[]
noncomputable def ho144 : Params → Obj := fun P => Obj.mk Value.none Option.none (Data.func (FuncData.mk q68 q216 (fnParams (hmeth hst19 3)) (FuncBody.stmts (fnBody (hmeth hst19 3))) (fnScope (hmeth hst19 3)) 0 [] Value.none Value.none Value.none Value.none Option.none Value.none Value.none 0)) #[]
noncomputable def ho145 : Params → Obj := fun P => Obj.mk (Value.type PySem.W.SL.s5856160107412720595x4) Option.none (Data.fields #[Value.str q68 318, Value.str q216 319, Value.str q195 320, Value.int 52 0, Value.int 3 0, Value.int 0 0, Value.int 0 0, Value.int 3 0, Value.ref 96, Value.bool Bool.true, Value.int 181 0, Value.ref 97, Value.none, Value.ref 98, Value.ref 99, Value.ref 100, Value.int 327 0, Value.int 52 0, Value.str q195 328]) #[]
noncomputable def ho146 : Params → Obj := fun P => Obj.mk (Value.type PySem.W.SL.s7174869446012820540x8) Option.none (Data.func (FuncData.mk q68 q216 (fnParams (hmeth hst19 3)) (FuncBody.stmts (fnBody (hmeth hst19 3))) (fnScope (hmeth hst19 3)) 3 [] Value.none Value.none Value.none (Value.str q3 194) Option.none (Value.ref 101) Value.none 0)) #[]
noncomputable def ho149 : Params → Obj := fun P => Obj.mk (Value.type PySem.W.SL.s2766695959194262286x5) Option.none (Data.seq #[Value.str q8 333, Value.str q59 334, Value.str q69 335]) #[]
noncomputable def ho151 : Params → Obj := fun P => Obj.mk Value.none Option.none (Data.func (FuncData.mk q62 q217 (fnParams (hmeth hst19 4)) (FuncBody.stmts (fnBody (hmeth hst19 4))) (fnScope (hmeth hst19 4)) 0 [] Value.none Value.none Value.none Value.none Option.none Value.none Value.none 0)) #[]
noncomputable def ho152 : Params → Obj := fun P => Obj.mk (Value.type PySem.W.SL.s5856160107412720595x4) Option.none (Data.fields #[Value.str q62 330, Value.str q217 331, Value.str q195 332, Value.int 62 0, Value.int 3 0, Value.int 0 0, Value.int 0 0, Value.int 3 0, Value.ref 103, Value.bool Bool.true, Value.int 181 0, Value.ref 104, Value.none, Value.ref 105, Value.ref 106, Value.ref 107, Value.int 336 0, Value.int 62 0, Value.str q195 337]) #[]
noncomputable def ho153 : Params → Obj := fun P => Obj.mk (Value.type PySem.W.SL.s7174869446012820540x8) Option.none (Data.func (FuncData.mk q62 q217 (fnParams (hmeth hst19 4)) (FuncBody.stmts (fnBody (hmeth hst19 4))) (fnScope (hmeth hst19 4)) 3 [] Value.none Value.none Value.none (Value.str q3 194) Option.none (Value.ref 108) Value.none 0)) #[]
noncomputable def ho156 : Params → Obj := fun P => Obj.mk (Value.type PySem.W.SL.s2766695959194262286x5) Option.none (Data.seq #[Value.str q8 342, Value.str q68 343]) #[]
noncomputable def ho158 : Params → Obj := fun P => Obj.mk Value.none Option.none (Data.func (FuncData.mk q71 q218 (fnParams (hmeth hst19 5)) (FuncBody.stmts (fnBody (hmeth hst19 5))) (fnScope (hmeth hst19 5)) 0 [] Value.none Value.none Value.none Value.none Option.none Value.none Value.none 0)) #[]
noncomputable def ho159 : Params → Obj := fun P => Obj.mk (Value.type PySem.W.SL.s5856160107412720595x4) Option.none (Data.fields #[Value.str q71 339, Value.str q218 340, Value.str q195 341, Value.int 65 0, Value.int 2 0, Value.int 0 0, Value.int 0 0, Value.int 3 0, Value.ref 110, Value.bool Bool.true, Value.int 181 0, Value.ref 111, Value.none, Value.ref 112, Value.ref 113, Value.ref 114, Value.int 344 0, Value.int 65 0, Value.str q195 345]) #[]
noncomputable def ho160 : Params → Obj := fun P => Obj.mk (Value.type PySem.W.SL.s7174869446012820540x8) Option.none (Data.func (FuncData.mk q71 q218 (fnParams (hmeth hst19 5)) (FuncBody.stmts (fnBody (hmeth hst19 5))) (fnScope (hmeth hst19 5)) 3 [] Value.none Value.none Value.none (Value.str q3 194) Option.none (Value.ref 115) Value.none 0)) #[]
noncomputable def ho163 : Params → Obj := fun P => Obj.mk (Value.type PySem.W.SL.s2766695959194262286x5) Option.none (Data.seq #[Value.str q8 350, Value.str q68 351]) #[]
noncomputable def ho165 : Params → Obj := fun P => Obj.mk Value.none Option.none (Data.func (FuncData.mk q69 q219 (fnParams (hmeth hst19 6)) (FuncBody.stmts (fnBody (hmeth hst19 6))) (fnScope (hmeth hst19 6)) 0 [] Value.none Value.none Value.none Value.none Option.none Value.none Value.none 0)) #[]
noncomputable def ho166 : Params → Obj := fun P => Obj.mk (Value.type PySem.W.SL.s5856160107412720595x4) Option.none (Data.fields #[Value.str q69 347, Value.str q219 348, Value.str q195 349, Value.int 68 0, Value.int 2 0, Value.int 0 0, Value.int 0 0, Value.int 3 0, Value.ref 117, Value.bool Bool.true, Value.int 181 0, Value.ref 118, Value.none, Value.ref 119, Value.ref 120, Value.ref 121, Value.int 352 0, Value.int 68 0, Value.str q195 353]) #[]
noncomputable def ho167 : Params → Obj := fun P => Obj.mk (Value.type PySem.W.SL.s7174869446012820540x8) Option.none (Data.func (FuncData.mk q69 q219 (fnParams (hmeth hst19 6)) (FuncBody.stmts (fnBody (hmeth hst19 6))) (fnScope (hmeth hst19 6)) 3 [] Value.none Value.none Value.none (Value.str q3 194) Option.none (Value.ref 122) Value.none 0)) #[]
noncomputable def ho170 : Params → Obj := fun P => Obj.mk (Value.type PySem.W.SL.s2766695959194262286x5) Option.none (Data.seq #[Value.str q8 358, Value.str q68 359]) #[]
noncomputable def ho172 : Params → Obj := fun P => Obj.mk Value.none Option.none (Data.func (FuncData.mk q72 q220 (fnParams (hmeth hst19 7)) (FuncBody.stmts (fnBody (hmeth hst19 7))) (fnScope (hmeth hst19 7)) 0 [] Value.none Value.none Value.none Value.none Option.none Value.none Value.none 0)) #[]
noncomputable def ho173 : Params → Obj := fun P => Obj.mk (Value.type PySem.W.SL.s5856160107412720595x4) Option.none (Data.fields #[Value.str q72 355, Value.str q220 356, Value.str q195 357, Value.int 71 0, Value.int 2 0, Value.int 0 0, Value.int 0 0, Value.int 3 0, Value.ref 124, Value.bool Bool.true, Value.int 181 0, Value.ref 125, Value.none, Value.ref 126, Value.ref 127, Value.ref 128, Value.int 360 0, Value.int 71 0, Value.str q195 361]) #[]
noncomputable def ho174 : Params → Obj := fun P => Obj.mk (Value.type PySem.W.SL.s7174869446012820540x8) Option.none (Data.func (FuncData.mk q72 q220 (fnParams (hmeth hst19 7)) (FuncBody.stmts (fnBody (hmeth hst19 7))) (fnScope (hmeth hst19 7)) 3 [] Value.none Value.none Value.none (Value.str q3 194) Option.none (Value.ref 129) Value.none 0)) #[]
noncomputable def ho177 : Params → Obj := fun P => Obj.mk (Value.type PySem.W.SL.s2766695959194262286x5) Option.none (Data.seq #[Value.str q8 366]) #[]
noncomputable def ho179 : Params → Obj := fun P => Obj.mk Value.none Option.none (Data.func (FuncData.mk q73 q221 (fnParams (hmeth hst19 8)) (FuncBody.stmts (fnBody (hmeth hst19 8))) (fnScope (hmeth hst19 8)) 0 [] Value.none Value.none Value.none Value.none Option.none Value.none Value.none 0)) #[]
noncomputable def ho180 : Params → Obj := fun P => Obj.mk (Value.type PySem.W.SL.s5856160107412720595x4) Option.none (Data.fields #[Value.str q73 363, Value.str q221 364, Value.str q195 365, Value.int 74 0, Value.int 1 0, Value.int 0 0, Value.int 0 0, Value.int 3 0, Value.ref 131, Value.bool Bool.true, Value.int 181 0, Value.ref 132, Value.none, Value.ref 133, Value.ref 134, Value.ref 135, Value.int 367 0, Value.int 74 0, Value.str q195 368]) #[]
noncomputable def ho181 : Params → Obj := fun P => Obj.mk (Value.type PySem.W.SL.s7174869446012820540x8) Option.none (Data.func (FuncData.mk q73 q221 (fnParams (hmeth hst19 8)) (FuncBody.stmts (fnBody (hmeth hst19 8))) (fnScope (hmeth hst19 8)) 3 [] Value.none Value.none Value.none (Value.str q3 194) Option.none (Value.ref 136) Value.none 0)) #[]
noncomputable def ho184 : Params → Obj := fun P => Obj.mk (Value.type PySem.W.SL.s2766695959194262286x5) Option.none (Data.seq #[Value.str q8 373]) #[]
noncomputable def ho186 : Params → Obj := fun P => Obj.mk Value.none Option.none (Data.func (FuncData.mk q74 q222 (fnParams (hmeth hst19 9)) (FuncBody.stmts (fnBody (hmeth hst19 9))) (fnScope (hmeth hst19 9)) 0 [] Value.none Value.none Value.none Value.none Option.none Value.none Value.none 0)) #[]
noncomputable def ho187 : Params → Obj := fun P => Obj.mk (Value.type PySem.W.SL.s5856160107412720595x4) Option.none (Data.fields #[Value.str q74 370, Value.str q222 371, Value.str q195 372, Value.int 77 0, Value.int 1 0, Value.int 0 0, Value.int 0 0, Value.int 3 0, Value.ref 138, Value.bool Bool.true, Value.int 181 0, Value.ref 139, Value.none, Value.ref 140, Value.ref 141, Value.ref 142, Value.int 374 0, Value.int 77 0, Value.str q195 375]) #[]
noncomputable def ho188 : Params → Obj := fun P => Obj.mk (Value.type PySem.W.SL.s7174869446012820540x8) Option.none (Data.func (FuncData.mk q74 q222 (fnParams (hmeth hst19 9)) (FuncBody.stmts (fnBody (hmeth hst19 9))) (fnScope (hmeth hst19 9)) 3 [] Value.none Value.none Value.none (Value.str q3 194) Option.none (Value.ref 143) Value.none 0)) #[]
noncomputable def ho191 : Params → Obj := fun P => Obj.mk (Value.type PySem.W.SL.s2766695959194262286x5) Option.none (Data.seq #[Value.str q8 380, Value.str q59 381, Value.str q69 382, Value.str q60 383]) #[]
noncomputable def ho193 : Params → Obj := fun P => Obj.mk Value.none Option.none (Data.func (FuncData.mk q75 q223 (fnParams (hmeth hst19 10)) (FuncBody.stmts (fnBody (hmeth hst19 10))) (fnScope (hmeth hst19 10)) 0 [] Value.none Value.none Value.none Value.none Option.none Value.none Value.none 0)) #[]
noncomputable def ho194 : Params → Obj := fun P => Obj.mk (Value.type PySem.W.SL.s5856160107412720595x4) Option.none (Data.fields #[Value.str q75 377, Value.str q223 378, Value.str q195 379, Value.int 80 0, Value.int 3 0, Value.int 0 0, Value.int 0 0, Value.int 3 0, Value.ref 145, Value.bool Bool.true, Value.int 181 0, Value.ref 146, Value.none, Value.ref 147, Value.ref 148, Value.ref 149, Value.int 384 0, Value.int 80 0, Value.str q195 385]) #[]
noncomputable def ho195 : Params → Obj := fun P => Obj.mk (Value.type PySem.W.SL.s7174869446012820540x8) Option.none (Data.func (FuncData.mk q75 q223 (fnParams (hmeth hst19 10)) (FuncBody.stmts (fnBody (hmeth hst19 10))) (fnScope (hmeth hst19 10)) 3 [] Value.none Value.none Value.none (Value.str q3 194) Option.none (Value.ref 150) Value.none 0)) #[]
noncomputable def ho196 : Params → Obj := fun P => Obj.mk (Value.type PySem.W.SL.s2766695959194262286x5) Option.none (Data.seq #[Value.str q56 387, Value.str q58 388, Value.str q57 389, Value.str q55 390]) #[]
noncomputable def ho197 : Params → Obj := fun P => Obj.mk (Value.type PySem.W.SL.s14018661285674007319x4) Option.none (Data.dict #[DictEntry.mk (PyData.keyHash P q207) (Value.str q207 286) (Value.str q3 194), DictEntry.mk (PyData.keyHash P q209) (Value.str q209 290) (Value.int 28 289), DictEntry.mk (PyData.keyHash P q7) (Value.str q7 299) (Value.ref 81), DictEntry.mk (PyData.keyHash P q60) (Value.str q60 309) (Value.ref 88), DictEntry.mk (PyData.keyHash P q59) (Value.str q59 317) (Value.ref 95), DictEntry.mk (PyData.keyHash P q68) (Value.str q68 329) (Value.ref 102), DictEntry.mk (PyData.keyHash P q62) (Value.str q62 338) (Value.ref 109), DictEntry.mk (PyData.keyHash P q71) (Value.str q71 346) (Value.ref 116), DictEntry.mk (PyData.keyHash P q69) (Value.str q69 354) (Value.ref 123), DictEntry.mk (PyData.keyHash P q72) (Value.str q72 362) (Value.ref 130), DictEntry.mk (PyData.keyHash P q73) (Value.str q73 369) (Value.ref 137), DictEntry.mk (PyData.keyHash P q74) (Value.str q74 376) (Value.ref 144), DictEntry.mk (PyData.keyHash P q75) (Value.str q75 386) (Value.ref 151), DictEntry.mk (PyData.keyHash P q210) (Value.str q210 391) (Value.ref 152), DictEntry.mk (PyData.keyHash P q224) (Value.str q224 393) (Value.ref 155), DictEntry.mk (PyData.keyHash P q211) (Value.str q211 395) (Value.ref 156), DictEntry.mk (PyData.keyHash P q199) (Value.str q199 396) Value.none] 4) #[]
noncomputable def ho198 : Params → Obj := fun P => Obj.mk (Value.type PySem.W.SL.s17162191345867700912x4) Option.none (Data.cls (ClassData.mk q54 [Value.type PySem.W.SL.s2742458400755230247x6] [Value.ref 154, Value.type PySem.W.SL.s2742458400755230247x6] 153 q54 Bool.true [] [] Bool.false Option.none Bool.false)) #[Option.none, Option.none, Option.some (Value.str q54 279), Option.some (Value.str q54 287), Option.some (Value.builtin PySem.W.SL.s11443829558043349243x14), Option.some (Value.bool Bool.true)]
noncomputable def ho199 : Params → Obj := fun P => Obj.mk (Value.type PySem.W.SL.s14755015743595814543x17) Option.none (Data.fields #[Value.str q224 392, Value.ref 154, Value.builtin PySem.W.SL.s6511155373996960695x17, Value.builtin PySem.W.SL.s12411053484034534018x21]) #[]
noncomputable def ho200 : Params → Obj := fun P => Obj.mk (Value.type PySem.W.SL.s14755015743595814543x17) Option.none (Data.fields #[Value.str q211 394, Value.ref 154, Value.builtin PySem.W.SL.s10220274742760427390x26, Value.none]) #[]
noncomputable def ho201 : Params → Obj := fun P => Obj.mk (Value.type PySem.W.SL.s4290257624100764138x5) Option.none (Data.fields #[Value.ref 154, Value.ref 154, Value.ref 154]) #[]
noncomputable def ho202 : Params → Obj := fun P => Obj.mk (Value.type PySem.W.SL.s11030030927630378310x26) Option.none (Data.fields #[Value.builtin PySem.W.SL.s4860613602091757760x24, Value.ref 154]) #[]
noncomputable def ho291 : Params → Obj := fun P => Obj.mk (Value.type PySem.W.SL.s14018661285674007319x4) Option.none (Data.dict #[DictEntry.mk (PyData.keyHash P q2) (Value.str q2 165) (Value.str q117 550), DictEntry.mk (PyData.keyHash P q199) (Value.str q199 166) Value.none, DictEntry.mk (PyData.keyHash P q200) (Value.str q200 167) Value.none, DictEntry.mk (PyData.keyHash P q201) (Value.str q201 168) (Value.builtin PySem.W.SL.s7097527257260152453x26), DictEntry.mk (PyData.keyHash P q202) (Value.str q202 169) Value.none, DictEntry.mk (PyData.keyHash P q203) (Value.str q203 170) (Value.ref 6), DictEntry.mk (PyData.keyHash P q204) (Value.str q204 171) (Value.ref 4), DictEntry.mk (PyData.keyHash P q205) (Value.str q205 173) (Value.str q195 172), DictEntry.mk (PyData.keyHash P q206) (Value.str q206 174) Value.none, DictEntry.mk (PyData.keyHash P q0) (Value.str q0 193) (Value.ref 21), DictEntry.mk (PyData.keyHash P q4) (Value.str q4 215) (Value.ref 31), DictEntry.mk (PyData.keyHash P q6) (Value.str q6 240) (Value.ref 51), DictEntry.mk (PyData.keyHash P q10) (Value.str q10 242) (Value.int 0 241), DictEntry.mk (PyData.keyHash P q11) (Value.str q11 244) (Value.int 8 243), DictEntry.mk (PyData.keyHash P q12) (Value.str q12 246) (Value.int 15 245), DictEntry.mk (PyData.keyHash P q13) (Value.str q13 248) (Value.int 16 247), DictEntry.mk (PyData.keyHash P q14) (Value.str q14 250) (Value.int 25 249), DictEntry.mk (PyData.keyHash P q15) (Value.str q15 252) (Value.int 0 251), DictEntry.mk (PyData.keyHash P q16) (Value.str q16 254) (Value.int 1 253), DictEntry.mk (PyData.keyHash P q17) (Value.str q17 256) (Value.int 2 255), DictEntry.mk (PyData.keyHash P q18) (Value.str q18 258) (Value.int 3 257), DictEntry.mk (PyData.keyHash P q19) (Value.str q19 260) (Value.int 4 259), DictEntry.mk (PyData.keyHash P q20) (Value.str q20 262) (Value.int 9 261), DictEntry.mk (PyData.keyHash P q21) (Value.str q21 264) (Value.int 10 263), DictEntry.mk (PyData.keyHash P q22) (Value.str q22 266) (Value.int 16 265), DictEntry.mk (PyData.keyHash P q23) (Value.str q23 272) (Value.ref 60), DictEntry.mk (PyData.keyHash P q53) (Value.str q53 278) (Value.ref 67), DictEntry.mk (PyData.keyHash P q54) (Value.str q54 398) (Value.ref 154), DictEntry.mk (PyData.keyHash P q77) (Value.str q77 402) (Value.ref 159), DictEntry.mk (PyData.keyHash P q79) (Value.str q79 409) (Value.ref 166), DictEntry.mk (PyData.keyHash P q60) (Value.str q60 416) (Value.ref 173), DictEntry.mk (PyData.keyHash P q81) (Value.str q81 424) (Value.ref 180), DictEntry.mk (PyData.keyHash P q85) (Value.str q85 434) (Value.ref 188), DictEntry.mk (PyData.keyHash P q91) (Value.str q91 442) (Value.ref 195), DictEntry.mk (PyData.keyHash P q93) (Value.str q93 450) (Value.ref 202), DictEntry.mk (PyData.keyHash P q95) (Value.str q95 457) (Value.ref 209), DictEntry.mk (PyData.keyHash P q96) (Value.str q96 466) (Value.ref 216), DictEntry.mk (PyData.keyHash P q100) (Value.str q100 473) (Value.ref 223), DictEntry.mk (PyData.keyHash P q102) (Value.str q102 484) (Value.ref 230), DictEntry.mk (PyData.keyHash P q107) (Value.str q107 491) (Value.ref 237), DictEntry.mk (PyData.keyHash P q108) (Value.str q108 500) (Value.ref 244), DictEntry.mk (PyData.keyHash P q112) (Value.str q112 540) (Value.ref 269), DictEntry.mk (PyData.keyHash P q116) (Value.str q116 549) (Value.ref 280)] 43) #[]
noncomputable def ho292 : Params → Obj := fun P => Obj.mk Value.none Option.none (Data.fields #[Value.int 1 0, Value.int 0 0, Value.ref 20, Value.int 5 0, Value.int 0 0, Value.ref 27, Value.int 7 0, Value.int 0 0, Value.ref 40, Value.int 24 0, Value.int 0 0, Value.ref 59, Value.int 26 0, Value.int 0 0, Value.ref 66, Value.int 28 0, Value.int 0 0, Value.ref 73, Value.int 87 0, Value.int 0 0, Value.ref 165, Value.int 89 0, Value.int 0 0, Value.ref 172, Value.int 91 0, Value.int 0 0, Value.ref 179, Value.int 93 0, Value.int 0 0, Value.ref 187, Value.int 98 0, Value.int 0 0, Value.ref 194, Value.int 104 0, Value.int 0 0, Value.ref 201, Value.int 108 0, Value.int 0 0, Value.ref 208, Value.int 112 0, Value.int 0 0, Value.ref 215, Value.int 119 0, Value.int 0 0, Value.ref 222, Value.int 121 0, Value.int 0 0, Value.ref 229, Value.int 126 0, Value.int 0 0, Value.ref 236, Value.int 128 0, Value.int 0 0, Value.ref 243, Value.int 131 0, Value.int 0 0, Value.ref 250, Value.int 140 0, Value.int 0 0, Value.ref 279]) #[]
noncomputable def ho205 : Params → Obj := fun P => Obj.mk (Value.type PySem.W.SL.s2766695959194262286x5) Option.none (Data.seq #[Value.str q78 401, Value.int 0 241]) #[]
noncomputable def ho208 : Params → Obj := fun P => Obj.mk (Value.type PySem.W.SL.s2766695959194262286x5) Option.none (Data.seq #[Value.str q65 406]) #[]
noncomputable def ho210 : Params → Obj := fun P => Obj.mk Value.none Option.none (Data.func (FuncData.mk q79 q79 (fnParams hst22) (FuncBody.stmts (fnBody hst22)) (fnScope hst22) 0 [] Value.none Value.none Value.none Value.none Option.none Value.none Value.none 0)) #[]
noncomputable def ho211 : Params → Obj := fun P => Obj.mk (Value.type PySem.W.SL.s5856160107412720595x4) Option.none (Data.fields #[Value.str q79 403, Value.str q79 404, Value.str q195 405, Value.int 87 0, Value.int 1 0, Value.int 0 0, Value.int 0 0, Value.int 3 0, Value.ref 160, Value.bool Bool.true, Value.int 181 0, Value.ref 161, Value.none, Value.ref 162, Value.ref 163, Value.ref 164, Value.int 407 0, Value.int 87 0, Value.str q195 408]) #[]
noncomputable def ho212 : Params → Obj := fun P => Obj.mk (Value.type PySem.W.SL.s7174869446012820540x8) Option.none (Data.func (FuncData.mk q79 q79 (fnParams hst22) (FuncBody.stmts (fnBody hst22)) (fnScope hst22) 3 [] Value.none Value.none Value.none (Value.str q76 399) Option.none (Value.ref 165) Value.none 0)) #[]
noncomputable def ho215 : Params → Obj := fun P => Obj.mk (Value.type PySem.W.SL.s2766695959194262286x5) Option.none (Data.seq #[Value.str q65 413]) #[]
noncomputable def ho217 : Params → Obj := fun P => Obj.mk Value.none Option.none (Data.func (FuncData.mk q60 q60 (fnParams hst23) (FuncBody.stmts (fnBody hst23)) (fnScope hst23) 0 [] Value.none Value.none Value.none Value.none Option.none Value.none Value.none 0)) #[]
noncomputable def ho218 : Params → Obj := fun P => Obj.mk (Value.type PySem.W.SL.s5856160107412720595x4) Option.none (Data.fields #[Value.str q60 410, Value.str q60 411, Value.str q195 412, Value.int 89 0, Value.int 1 0, Value.int 0 0, Value.int 0 0, Value.int 3 0, Value.ref 167, Value.bool Bool.true, Value.int 181 0, Value.ref 168, Value.none, Value.ref 169, Value.ref 170, Value.ref 171, Value.int 414 0, Value.int 89 0, Value.str q195 415]) #[]
noncomputable def ho219 : Params → Obj := fun P => Obj.mk (Value.type PySem.W.SL.s7174869446012820540x8) Option.none (Data.func (FuncData.mk q60 q60 (fnParams hst23) (FuncBody.stmts (fnBody hst23)) (fnScope hst23) 3 [] Value.none Value.none Value.none (Value.str q76 399) Option.none (Value.ref 172) Value.none 0)) #[]
noncomputable def ho222 : Params → Obj := fun P => Obj.mk (Value.type PySem.W.SL.s2766695959194262286x5) Option.none (Data.seq #[Value.str q68 420, Value.str q82 421]) #[]
noncomputable def ho224 : Params → Obj := fun P => Obj.mk Value.none Option.none (Data.func (FuncData.mk q81 q81 (fnParams hst24) (FuncBody.stmts (fnBody hst24)) (fnScope hst24) 0 [] Value.none Value.none Value.none Value.none Option.none Value.none Value.none 0)) #[]
noncomputable def ho225 : Params → Obj := fun P => Obj.mk (Value.type PySem.W.SL.s5856160107412720595x4) Option.none (Data.fields #[Value.str q81 417, Value.str q81 418, Value.str q195 419, Value.int 91 0, Value.int 2 0, Value.int 0 0, Value.int 0 0, Value.int 3 0, Value.ref 174, Value.bool Bool.true, Value.int 181 0, Value.ref 175, Value.none, Value.ref 176, Value.ref 177, Value.ref 178, Value.int 422 0, Value.int 91 0, Value.str q195 423]) #[]
noncomputable def ho226 : Params → Obj := fun P => Obj.mk (Value.type PySem.W.SL.s7174869446012820540x8) Option.none (Data.func (FuncData.mk q81 q81 (fnParams hst24) (FuncBody.stmts (fnBody hst24)) (fnScope hst24) 3 [] Value.none Value.none Value.none (Value.str q76 399) Option.none (Value.ref 179) Value.none 0)) #[]
noncomputable def ho227 : Params → Obj := fun P => Obj.mk (Value.type PySem.W.SL.s2766695959194262286x5) Option.none (Data.seq #[Value.none]) #[]
noncomputable def ho230 : Params → Obj := fun P => Obj.mk (Value.type PySem.W.SL.s2766695959194262286x5) Option.none (Data.seq #[Value.str q86 428, Value.str q87 429, Value.str q88 430, Value.str q89 431]) #[]
noncomputable def ho232 : Params → Obj := fun P => Obj.mk Value.none Option.none (Data.func (FuncData.mk q85 q85 (fnParams hst25) (FuncBody.stmts (fnBody hst25)) (fnScope hst25) 0 [] Value.none Value.none Value.none Value.none Option.none Value.none Value.none 0)) #[]
noncomputable def ho233 : Params → Obj := fun P => Obj.mk (Value.type PySem.W.SL.s5856160107412720595x4) Option.none (Data.fields #[Value.str q85 425, Value.str q85 426, Value.str q195 427, Value.int 93 0, Value.int 2 0, Value.int 0 0, Value.int 0 0, Value.int 3 0, Value.ref 182, Value.bool Bool.true, Value.int 181 0, Value.ref 183, Value.none, Value.ref 184, Value.ref 185, Value.ref 186, Value.int 432 0, Value.int 93 0, Value.str q195 433]) #[]
noncomputable def ho234 : Params → Obj := fun P => Obj.mk (Value.type PySem.W.SL.s7174869446012820540x8) Option.none (Data.func (FuncData.mk q85 q85 (fnParams hst25) (FuncBody.stmts (fnBody hst25)) (fnScope hst25) 3 [] (Value.ref 181) Value.none Value.none (Value.str q76 399) Option.none (Value.ref 187) Value.none 0)) #[]
noncomputable def ho237 : Params → Obj := fun P => Obj.mk (Value.type PySem.W.SL.s2766695959194262286x5) Option.none (Data.seq #[Value.str q92 438, Value.str q86 439]) #[]
noncomputable def ho239 : Params → Obj := fun P => Obj.mk Value.none Option.none (Data.func (FuncData.mk q91 q91 (fnParams hst26) (FuncBody.stmts (fnBody hst26)) (fnScope hst26) 0 [] Value.none Value.none Value.none Value.none Option.none Value.none Value.none 0)) #[]
noncomputable def ho240 : Params → Obj := fun P => Obj.mk (Value.type PySem.W.SL.s5856160107412720595x4) Option.none (Data.fields #[Value.str q91 435, Value.str q91 436, Value.str q195 437, Value.int 98 0, Value.int 1 0, Value.int 0 0, Value.int 0 0, Value.int 3 0, Value.ref 189, Value.bool Bool.true, Value.int 181 0, Value.ref 190, Value.none, Value.ref 191, Value.ref 192, Value.ref 193, Value.int 440 0, Value.int 98 0, Value.str q195 441]) #[]
noncomputable def ho241 : Params → Obj := fun P => Obj.mk (Value.type PySem.W.SL.s7174869446012820540x8) Option.none (Data.func (FuncData.mk q91 q91 (fnParams hst26) (FuncBody.stmts (fnBody hst26)) (fnScope hst26) 3 [] Value.none Value.none Value.none (Value.str q76 399) Option.none (Value.ref 194) Value.none 0)) #[]
noncomputable def ho244 : Params → Obj := fun P => Obj.mk (Value.type PySem.W.SL.s2766695959194262286x5) Option.none (Data.seq #[Value.str q94 446, Value.str q92 447]) #[]
noncomputable def ho246 : Params → Obj := fun P => Obj.mk Value.none Option.none (Data.func (FuncData.mk q93 q93 (fnParams hst27) (FuncBody.stmts (fnBody hst27)) (fnScope hst27) 0 [] Value.none Value.none Value.none Value.none Option.none Value.none Value.none 0)) #[]
noncomputable def ho247 : Params → Obj := fun P => Obj.mk (Value.type PySem.W.SL.s5856160107412720595x4) Option.none (Data.fields #[Value.str q93 443, Value.str q93 444, Value.str q195 445, Value.int 104 0, Value.int 2 0, Value.int 0 0, Value.int 0 0, Value.int 3 0, Value.ref 196, Value.bool Bool.true, Value.int 181 0, Value.ref 197, Value.none, Value.ref 198, Value.ref 199, Value.ref 200, Value.int 448 0, Value.int 104 0, Value.str q195 449]) #[]
noncomputable def ho248 : Params → Obj := fun P => Obj.mk (Value.type PySem.W.SL.s7174869446012820540x8) Option.none (Data.func (FuncData.mk q93 q93 (fnParams hst27) (FuncBody.stmts (fnBody hst27)) (fnScope hst27) 3 [] Value.none Value.none Value.none (Value.str q76 399) Option.none (Value.ref 201) Value.none 0)) #[]
noncomputable def ho251 : Params → Obj := fun P => Obj.mk (Value.type PySem.W.SL.s2766695959194262286x5) Option.none (Data.seq #[Value.str q92 454]) #[]
noncomputable def ho253 : Params → Obj := fun P => Obj.mk Value.none Option.none (Data.func (FuncData.mk q95 q95 (fnParams hst28) (FuncBody.stmts (fnBody hst28)) (fnScope hst28) 0 [] Value.none Value.none Value.none Value.none Option.none Value.none Value.none 0)) #[]
noncomputable def ho254 : Params → Obj := fun P => Obj.mk (Value.type PySem.W.SL.s5856160107412720595x4) Option.none (Data.fields #[Value.str q95 451, Value.str q95 452, Value.str q195 453, Value.int 108 0, Value.int 1 0, Value.int 0 0, Value.int 0 0, Value.int 3 0, Value.ref 203, Value.bool Bool.true, Value.int 181 0, Value.ref 204, Value.none, Value.ref 205, Value.ref 206, Value.ref 207, Value.int 455 0, Value.int 108 0, Value.str q195 456]) #[]
noncomputable def ho255 : Params → Obj := fun P => Obj.mk (Value.type PySem.W.SL.s7174869446012820540x8) Option.none (Data.func (FuncData.mk q95 q95 (fnParams hst28) (FuncBody.stmts (fnBody hst28)) (fnScope hst28) 3 [] Value.none Value.none Value.none (Value.str q76 399) Option.none (Value.ref 208) Value.none 0)) #[]
noncomputable def ho258 : Params → Obj := fun P => Obj.mk (Value.type PySem.W.SL.s2766695959194262286x5) Option.none (Data.seq #[Value.str q97 461, Value.str q88 462, Value.str q98 463]) #[]
noncomputable def ho260 : Params → Obj := fun P => Obj.mk Value.none Option.none (Data.func (FuncData.mk q96 q96 (fnParams hst29) (FuncBody.stmts (fnBody hst29)) (fnScope hst29) 0 [] Value.none Value.none Value.none Value.none Option.none Value.none Value.none 0)) #[]
noncomputable def ho261 : Params → Obj := fun P => Obj.mk (Value.type PySem.W.SL.s5856160107412720595x4) Option.none (Data.fields #[Value.str q96 458, Value.str q96 459, Value.str q195 460, Value.int 112 0, Value.int 1 0, Value.int 0 0, Value.int 0 0, Value.int 3 0, Value.ref 210, Value.bool Bool.true, Value.int 181 0, Value.ref 211, Value.none, Value.ref 212, Value.ref 213, Value.ref 214, Value.int 464 0, Value.int 112 0, Value.str q195 465]) #[]
noncomputable def ho262 : Params → Obj := fun P => Obj.mk (Value.type PySem.W.SL.s7174869446012820540x8) Option.none (Data.func (FuncData.mk q96 q96 (fnParams hst29) (FuncBody.stmts (fnBody hst29)) (fnScope hst29) 3 [] Value.none Value.none Value.none (Value.str q76 399) Option.none (Value.ref 215) Value.none 0)) #[]
noncomputable def ho265 : Params → Obj := fun P => Obj.mk (Value.type PySem.W.SL.s2766695959194262286x5) Option.none (Data.seq #[Value.str q101 470]) #[]
noncomputable def ho267 : Params → Obj := fun P => Obj.mk Value.none Option.none (Data.func (FuncData.mk q100 q100 (fnParams hst30) (FuncBody.stmts (fnBody hst30)) (fnScope hst30) 0 [] Value.none Value.none Value.none Value.none Option.none Value.none Value.none 0)) #[]
noncomputable def ho268 : Params → Obj := fun P => Obj.mk (Value.type PySem.W.SL.s5856160107412720595x4) Option.none (Data.fields #[Value.str q100 467, Value.str q100 468, Value.str q195 469, Value.int 119 0, Value.int 1 0, Value.int 0 0, Value.int 0 0, Value.int 3 0, Value.ref 217, Value.bool Bool.true, Value.int 181 0, Value.ref 218, Value.none, Value.ref 219, Value.ref 220, Value.ref 221, Value.int 471 0, Value.int 119 0, Value.str q195 472]) #[]
noncomputable def ho269 : Params → Obj := fun P => Obj.mk (Value.type PySem.W.SL.s7174869446012820540x8) Option.none (Data.func (FuncData.mk q100 q100 (fnParams hst30) (FuncBody.stmts (fnBody hst30)) (fnScope hst30) 3 [] Value.none Value.none Value.none (Value.str q76 399) Option.none (Value.ref 222) Value.none 0)) #[]
noncomputable def ho272 : Params → Obj := fun P => Obj.mk (Value.type PySem.W.SL.s2766695959194262286x5) Option.none (Data.seq #[Value.str q94 477, Value.str q71 478, Value.str q103 479, Value.str q82 480, Value.str q104 481]) #[]
noncomputable def ho274 : Params → Obj := fun P => Obj.mk Value.none Option.none (Data.func (FuncData.mk q102 q102 (fnParams hst31) (FuncBody.stmts (fnBody hst31)) (fnScope hst31) 0 [] Value.none Value.none Value.none Value.none Option.none Value.none Value.none 0)) #[]
noncomputable def ho275 : Params → Obj := fun P => Obj.mk (Value.type PySem.W.SL.s5856160107412720595x4) Option.none (Data.fields #[Value.str q102 474, Value.str q102 475, Value.str q195 476, Value.int 121 0, Value.int 3 0, Value.int 0 0, Value.int 0 0, Value.int 3 0, Value.ref 224, Value.bool Bool.true, Value.int 181 0, Value.ref 225, Value.none, Value.ref 226, Value.ref 227, Value.ref 228, Value.int 482 0, Value.int 121 0, Value.str q195 483]) #[]
noncomputable def ho276 : Params → Obj := fun P => Obj.mk (Value.type PySem.W.SL.s7174869446012820540x8) Option.none (Data.func (FuncData.mk q102 q102 (fnParams hst31) (FuncBody.stmts (fnBody hst31)) (fnScope hst31) 3 [] Value.none Value.none Value.none (Value.str q76 399) Option.none (Value.ref 229) Value.none 0)) #[]
noncomputable def ho279 : Params → Obj := fun P => Obj.mk (Value.type PySem.W.SL.s2766695959194262286x5) Option.none (Data.seq #[Value.str q94 488]) #[]
noncomputable def ho281 : Params → Obj := fun P => Obj.mk Value.none Option.none (Data.func (FuncData.mk q107 q107 (fnParams hst32) (FuncBody.stmts (fnBody hst32)) (fnScope hst32) 0 [] Value.none Value.none Value.none Value.none Option.none Value.none Value.none 0)) #[]
noncomputable def ho282 : Params → Obj := fun P => Obj.mk (Value.type PySem.W.SL.s5856160107412720595x4) Option.none (Data.fields #[Value.str q107 485, Value.str q107 486, Value.str q195 487, Value.int 126 0, Value.int 1 0, Value.int 0 0, Value.int 0 0, Value.int 3 0, Value.ref 231, Value.bool Bool.true, Value.int 181 0, Value.ref 232, Value.none, Value.ref 233, Value.ref 234, Value.ref 235, Value.int 489 0, Value.int 126 0, Value.str q195 490]) #[]
noncomputable def ho283 : Params → Obj := fun P => Obj.mk (Value.type PySem.W.SL.s7174869446012820540x8) Option.none (Data.func (FuncData.mk q107 q107 (fnParams hst32) (FuncBody.stmts (fnBody hst32)) (fnScope hst32) 3 [] Value.none Value.none Value.none (Value.str q76 399) Option.none (Value.ref 236) Value.none 0)) #[]
noncomputable def ho286 : Params → Obj := fun P => Obj.mk (Value.type PySem.W.SL.s2766695959194262286x5) Option.none (Data.seq #[Value.str q94 495, Value.str q109 496, Value.str q110 497]) #[]
noncomputable def ho288 : Params → Obj := fun P => Obj.mk Value.none Option.none (Data.func (FuncData.mk q108 q108 (fnParams hst33) (FuncBody.stmts (fnBody hst33)) (fnScope hst33) 0 [] Value.none Value.none Value.none Value.none Option.none Value.none Value.none 0)) #[]
noncomputable def ho289 : Params → Obj := fun P => Obj.mk (Value.type PySem.W.SL.s5856160107412720595x4) Option.none (Data.fields #[Value.str q108 492, Value.str q108 493, Value.str q195 494, Value.int 128 0, Value.int 3 0, Value.int 0 0, Value.int 0 0, Value.int 3 0, Value.ref 238, Value.bool Bool.true, Value.int 181 0, Value.ref 239, Value.none, Value.ref 240, Value.ref 241, Value.ref 242, Value.int 498 0, Value.int 128 0, Value.str q195 499]) #[]
noncomputable def ho290 : Params → Obj := fun P => Obj.mk (Value.type PySem.W.SL.s7174869446012820540x8) Option.none (Data.func (FuncData.mk q108 q108 (fnParams hst33) (FuncBody.stmts (fnBody hst33)) (fnScope hst33) 3 [] Value.none Value.none Value.none (Value.str q76 399) Option.none (Value.ref 243) Value.none 0)) #[]
noncomputable def ho295 : Params → Obj := fun P => Obj.mk (Value.type PySem.W.SL.s14018661285674007319x4) Option.none (Data.dict #[DictEntry.mk (PyData.keyHash P q207) (Value.str q207 510) (Value.str q111 501), DictEntry.mk (PyData.keyHash P q208) (Value.str q208 512) (Value.str q112 511), DictEntry.mk (PyData.keyHash P q209) (Value.str q209 514) (Value.int 131 513), DictEntry.mk (PyData.keyHash P q7) (Value.str q7 523) (Value.ref 259), DictEntry.mk (PyData.keyHash P q65) (Value.str q65 531) (Value.ref 266), DictEntry.mk (PyData.keyHash P q210) (Value.str q210 533) (Value.ref 267)] 6) #[]
noncomputable def ho297 : Params → Obj := fun P => Obj.mk Value.none Option.none (Data.fields #[Value.int 133 0, Value.int 4 0, Value.ref 258, Value.int 136 0, Value.int 4 0, Value.ref 265]) #[]
noncomputable def ho298 : Params → Obj := fun P => Obj.mk (Value.type PySem.W.SL.s5856160107412720595x4) Option.none (Data.fields #[Value.str q112 505, Value.str q112 506, Value.str q195 507, Value.int 131 0, Value.int 0 0, Value.int 0 0, Value.int 0 0, Value.int 0 0, Value.ref 248, Value.bool Bool.false, Value.int 181 0, Value.ref 249, Value.none, Value.none, Value.none, Value.none, Value.int 508 0, Value.int 131 0, Value.str q195 509]) #[]
noncomputable def ho299 : Params → Obj := fun P => Obj.mk (Value.type PySem.W.SL.s658472552662922059x5) Option.none Data.plain #[Option.some (Value.ref 250), Option.some (Value.ref 3), Option.some (Value.ref 247), Option.none, Option.some (Value.str q111 501), Option.none, Option.some (Value.ref 0)]
noncomputable def ho300 : Params → Obj := fun P => Obj.mk (Value.type PySem.W.SL.s2766695959194262286x5) Option.none (Data.seq #[Value.int 0 515]) #[]
noncomputable def ho303 : Params → Obj := fun P => Obj.mk (Value.type PySem.W.SL.s2766695959194262286x5) Option.none (Data.seq #[Value.str q8 519, Value.str q113 520]) #[]
noncomputable def ho305 : Params → Obj := fun P => Obj.mk Value.none Option.none (Data.func (FuncData.mk q7 q225 (fnParams (hmeth hst35 0)) (FuncBody.stmts (fnBody (hmeth hst35 0))) (fnScope (hmeth hst35 0)) 0 [] Value.none Value.none Value.none Value.none Option.none Value.none Value.none 0)) #[]
noncomputable def ho306 : Params → Obj := fun P => Obj.mk (Value.type PySem.W.SL.s5856160107412720595x4) Option.none (Data.fields #[Value.str q7 516, Value.str q225 517, Value.str q195 518, Value.int 133 0, Value.int 2 0, Value.int 0 0, Value.int 0 0, Value.int 3 0, Value.ref 253, Value.bool Bool.true, Value.int 181 0, Value.ref 254, Value.none, Value.ref 255, Value.ref 256, Value.ref 257, Value.int 521 0, Value.int 133 0, Value.str q195 522]) #[]
noncomputable def ho307 : Params → Obj := fun P => Obj.mk (Value.type PySem.W.SL.s7174869446012820540x8) Option.none (Data.func (FuncData.mk q7 q225 (fnParams (hmeth hst35 0)) (FuncBody.stmts (fnBody (hmeth hst35 0))) (fnScope (hmeth hst35 0)) 3 [] (Value.ref 252) Value.none Value.none (Value.str q111 501) Option.none (Value.ref 258) Value.none 0)) #[]
noncomputable def ho310 : Params → Obj := fun P => Obj.mk (Value.type PySem.W.SL.s2766695959194262286x5) Option.none (Data.seq #[Value.str q8 527, Value.str q115 528]) #[]
noncomputable def ho312 : Params → Obj := fun P => Obj.mk Value.none Option.none (Data.func (FuncData.mk q65 q226 (fnParams (hmeth hst35 1)) (FuncBody.stmts (fnBody (hmeth hst35 1))) (fnScope (hmeth hst35 1)) 0 [] Value.none Value.none Value.none Value.none Option.none Value.none Value.none 0)) #[]
noncomputable def ho313 : Params → Obj := fun P => Obj.mk (Value.type PySem.W.SL.s5856160107412720595x4) Option.none (Data.fields #[Value.str q65 524, Value.str q226 525, Value.str q195 526, Value.int 136 0, Value.int 1 0, Value.int 0 0, Value.int 0 0, Value.int 3 0, Value.ref 260, Value.bool Bool.true, Value.int 181 0, Value.ref 261, Value.none, Value.ref 262, Value.ref 263, Value.ref 264, Value.int 529 0, Value.int 136 0, Value.str q195 530]) #[]
noncomputable def ho314 : Params → Obj := fun P => Obj.mk (Value.type PySem.W.SL.s7174869446012820540x8) Option.none (Data.func (FuncData.mk q65 q226 (fnParams (hmeth hst35 1)) (FuncBody.stmts (fnBody (hmeth hst35 1))) (fnScope (hmeth hst35 1)) 3 [] Value.none Value.none Value.none (Value.str q111 501) Option.none (Value.ref 265) Value.none 0)) #[]
noncomputable def ho315 : Params → Obj := fun P => Obj.mk (Value.type PySem.W.SL.s2766695959194262286x5) Option.none (Data.seq #[Value.str q114 532]) #[]
noncomputable def ho316 : Params → Obj := fun P => Obj.mk (Value.type PySem.W.SL.s14018661285674007319x4) Option.none (Data.dict #[DictEntry.mk (PyData.keyHash P q207) (Value.str q207 510) (Value.str q111 501), DictEntry.mk (PyData.keyHash P q209) (Value.str q209 514) (Value.int 131 513), DictEntry.mk (PyData.keyHash P q7) (Value.str q7 523) (Value.ref 259), DictEntry.mk (PyData.keyHash P q65) (Value.str q65 531) (Value.ref 266), DictEntry.mk (PyData.keyHash P q210) (Value.str q210 533) (Value.ref 267), DictEntry.mk (PyData.keyHash P q224) (Value.str q224 535) (Value.ref 270), DictEntry.mk (PyData.keyHash P q211) (Value.str q211 537) (Value.ref 271), DictEntry.mk (PyData.keyHash P q199) (Value.str q199 538) Value.none] 4) #[]
noncomputable def ho317 : Params → Obj := fun P => Obj.mk (Value.type PySem.W.SL.s17162191345867700912x4) Option.none (Data.cls (ClassData.mk q112 [Value.type PySem.W.SL.s2742458400755230247x6] [Value.ref 269, Value.type PySem.W.SL.s2742458400755230247x6] 268 q112 Bool.true [] [] Bool.false Option.none Bool.false)) #[Option.none, Option.none, Option.some (Value.str q112 503), Option.some (Value.str q112 511), Option.some (Value.builtin PySem.W.SL.s11443829558043349243x14), Option.some (Value.bool Bool.true)]
noncomputable def ho318 : Params → Obj := fun P => Obj.mk (Value.type PySem.W.SL.s14755015743595814543x17) Option.none (Data.fields #[Value.str q224 534, Value.ref 269, Value.builtin PySem.W.SL.s6511155373996960695x17, Value.builtin PySem.W.SL.s12411053484034534018x21]) #[]
noncomputable def ho319 : Params → Obj := fun P => Obj.mk (Value.type PySem.W.SL.s14755015743595814543x17) Option.none (Data.fields #[Value.str q211 536, Value.ref 269, Value.builtin PySem.W.SL.s10220274742760427390x26, Value.none]) #[]
noncomputable def ho320 : Params → Obj := fun P => Obj.mk (Value.type PySem.W.SL.s4290257624100764138x5) Option.none (Data.fields #[Value.ref 269, Value.ref 269, Value.ref 269]) #[]
noncomputable def ho321 : Params → Obj := fun P => Obj.mk (Value.type PySem.W.SL.s11030030927630378310x26) Option.none (Data.fields #[Value.builtin PySem.W.SL.s4860613602091757760x24, Value.ref 269]) #[]
noncomputable def ho324 : Params → Obj := fun P => Obj.mk (Value.type PySem.W.SL.s2766695959194262286x5) Option.none (Data.seq #[Value.str q92 544, Value.str q57 545, Value.str q103 546]) #[]
noncomputable def ho326 : Params → Obj := fun P => Obj.mk Value.none Option.none (Data.func (FuncData.mk q116 q116 (fnParams hst36) (FuncBody.stmts (fnBody hst36)) (fnScope hst36) 0 [] Value.none Value.none Value.none Value.none Option.none Value.none Value.none 0)) #[]
noncomputable def ho327 : Params → Obj := fun P => Obj.mk (Value.type PySem.W.SL.s5856160107412720595x4) Option.none (Data.fields #[Value.str q116 541, Value.str q116 542, Value.str q195 543, Value.int 140 0, Value.int 2 0, Value.int 0 0, Value.int 0 0, Value.int 3 0, Value.ref 274, Value.bool Bool.true, Value.int 181 0, Value.ref 275, Value.none, Value.ref 276, Value.ref 277, Value.ref 278, Value.int 547 0, Value.int 140 0, Value.str q195 548]) #[]
noncomputable def ho328 : Params → Obj := fun P => Obj.mk (Value.type PySem.W.SL.s7174869446012820540x8) Option.none (Data.func (FuncData.mk q116 q116 (fnParams hst36) (FuncBody.stmts (fnBody hst36)) (fnScope hst36) 3 [] Value.none Value.none Value.none (Value.str q111 501) Option.none (Value.ref 279) Value.none 0)) #[]
noncomputable def ho373 : Params → Obj := fun P => Obj.mk (Value.type PySem.W.SL.s14018661285674007319x4) Option.none (Data.dict #[DictEntry.mk (PyData.keyHash P q2) (Value.str q2 165) (Value.str q160 699), DictEntry.mk (PyData.keyHash P q199) (Value.str q199 166) Value.none, DictEntry.mk (PyData.keyHash P q200) (Value.str q200 167) Value.none, DictEntry.mk (PyData.keyHash P q201) (Value.str q201 168) (Value.builtin PySem.W.SL.s7097527257260152453x26), DictEntry.mk (PyData.keyHash P q202) (Value.str q202 169) Value.none, DictEntry.mk (PyData.keyHash P q203) (Value.str q203 170) (Value.ref 6), DictEntry.mk (PyData.keyHash P q204) (Value.str q204 171) (Value.ref 4), DictEntry.mk (PyData.keyHash P q205) (Value.str q205 173) (Value.str q195 172), DictEntry.mk (PyData.keyHash P q206) (Value.str q206 174) Value.none, DictEntry.mk (PyData.keyHash P q0) (Value.str q0 193) (Value.ref 21), DictEntry.mk (PyData.keyHash P q4) (Value.str q4 215) (Value.ref 31), DictEntry.mk (PyData.keyHash P q6) (Value.str q6 240) (Value.ref 51), DictEntry.mk (PyData.keyHash P q10) (Value.str q10 242) (Value.int 0 241), DictEntry.mk (PyData.keyHash P q11) (Value.str q11 244) (Value.int 8 243), DictEntry.mk (PyData.keyHash P q12) (Value.str q12 246) (Value.int 15 245), DictEntry.mk (PyData.keyHash P q13) (Value.str q13 248) (Value.int 16 247), DictEntry.mk (PyData.keyHash P q14) (Value.str q14 250) (Value.int 25 249), DictEntry.mk (PyData.keyHash P q15) (Value.str q15 252) (Value.int 0 251), DictEntry.mk (PyData.keyHash P q16) (Value.str q16 254) (Value.int 1 253), DictEntry.mk (PyData.keyHash P q17) (Value.str q17 256) (Value.int 2 255), DictEntry.mk (PyData.keyHash P q18) (Value.str q18 258) (Value.int 3 257), DictEntry.mk (PyData.keyHash P q19) (Value.str q19 260) (Value.int 4 259), DictEntry.mk (PyData.keyHash P q20) (Value.str q20 262) (Value.int 9 261), DictEntry.mk (PyData.keyHash P q21) (Value.str q21 264) (Value.int 10 263), DictEntry.mk (PyData.keyHash P q22) (Value.str q22 266) (Value.int 16 265), DictEntry.mk (PyData.keyHash P q23) (Value.str q23 272) (Value.ref 60), DictEntry.mk (PyData.keyHash P q53) (Value.str q53 278) (Value.ref 67), DictEntry.mk (PyData.keyHash P q54) (Value.str q54 398) (Value.ref 154), DictEntry.mk (PyData.keyHash P q77) (Value.str q77 402) (Value.ref 159), DictEntry.mk (PyData.keyHash P q79) (Value.str q79 409) (Value.ref 166), DictEntry.mk (PyData.keyHash P q60) (Value.str q60 416) (Value.ref 173), DictEntry.mk (PyData.keyHash P q81) (Value.str q81 424) (Value.ref 180), DictEntry.mk (PyData.keyHash P q85) (Value.str q85 434) (Value.ref 188), DictEntry.mk (PyData.keyHash P q91) (Value.str q91 442) (Value.ref 195), DictEntry.mk (PyData.keyHash P q93) (Value.str q93 450) (Value.ref 202), DictEntry.mk (PyData.keyHash P q95) (Value.str q95 457) (Value.ref 209), DictEntry.mk (PyData.keyHash P q96) (Value.str q96 466) (Value.ref 216), DictEntry.mk (PyData.keyHash P q100) (Value.str q100 473) (Value.ref 223), DictEntry.mk (PyData.keyHash P q102) (Value.str q102 484) (Value.ref 230), DictEntry.mk (PyData.keyHash P q107) (Value.str q107 491) (Value.ref 237), DictEntry.mk (PyData.keyHash P q108) (Value.str q108 500) (Value.ref 244), DictEntry.mk (PyData.keyHash P q112) (Value.str q112 540) (Value.ref 269), DictEntry.mk (PyData.keyHash P q116) (Value.str q116 549) (Value.ref 280), DictEntry.mk (PyData.keyHash P q118) (Value.str q118 590) (Value.ref 304), DictEntry.mk (PyData.keyHash P q122) (Value.str q122 602) (Value.ref 315), DictEntry.mk (PyData.keyHash P q125) (Value.str q125 614) (Value.ref 322), DictEntry.mk (PyData.keyHash P q127) (Value.str q127 664) (Value.ref 351), DictEntry.mk (PyData.keyHash P q144) (Value.str q144 680) (Value.ref 362), DictEntry.mk (PyData.keyHash P q149) (Value.str q149 686) (Value.ref 367), DictEntry.mk (PyData.keyHash P q155) (Value.str q155 698) (Value.ref 374)] 50) #[]
noncomputable def ho374 : Params → Obj := fun P => Obj.mk Value.none Option.none (Data.fields #[Value.int 1 0, Value.int 0 0, Value.ref 20, Value.int 5 0, Value.int 0 0, Value.ref 27, Value.int 7 0, Value.int 0 0, Value.ref 40, Value.int 24 0, Value.int 0 0, Value.ref 59, Value.int 26 0, Value.int 0 0, Value.ref 66, Value.int 28 0, Value.int 0 0, Value.ref 73, Value.int 87 0, Value.int 0 0, Value.ref 165, Value.int 89 0, Value.int 0 0, Value.ref 172, Value.int 91 0, Value.int 0 0, Value.ref 179, Value.int 93 0, Value.int 0 0, Value.ref 187, Value.int 98 0, Value.int 0 0, Value.ref 194, Value.int 104 0, Value.int 0 0, Value.ref 201, Value.int 108 0, Value.int 0 0, Value.ref 208, Value.int 112 0, Value.int 0 0, Value.ref 215, Value.int 119 0, Value.int 0 0, Value.ref 222, Value.int 121 0, Value.int 0 0, Value.ref 229, Value.int 126 0, Value.int 0 0, Value.ref 236, Value.int 128 0, Value.int 0 0, Value.ref 243, Value.int 131 0, Value.int 0 0, Value.ref 250, Value.int 140 0, Value.int 0 0, Value.ref 279, Value.int 148 0, Value.int 0 0, Value.ref 286, Value.int 159 0, Value.int 0 0, Value.ref 314, Value.int 163 0, Value.int 0 0, Value.ref 321, Value.int 170 0, Value.int 0 0, Value.ref 328, Value.int 205 0, Value.int 0 0, Value.ref 361, Value.int 211 0, Value.int 0 0, Value.ref 366, Value.int 239 0, Value.int 0 0, Value.ref 373]) #[]
noncomputable def ho333 : Params → Obj := fun P => Obj.mk (Value.type PySem.W.SL.s14018661285674007319x4) Option.none (Data.dict #[DictEntry.mk (PyData.keyHash P q207) (Value.str q207 559) (Value.str q117 550), DictEntry.mk (PyData.keyHash P q208) (Value.str q208 561) (Value.str q118 560), DictEntry.mk (PyData.keyHash P q209) (Value.str q209 563) (Value.int 148 562), DictEntry.mk (PyData.keyHash P q7) (Value.str q7 572) (Value.ref 294), DictEntry.mk (PyData.keyHash P q121) (Value.str q121 580) (Value.ref 301), DictEntry.mk (PyData.keyHash P q210) (Value.str q210 583) (Value.ref 302)] 6) #[]
noncomputable def ho335 : Params → Obj := fun P => Obj.mk Value.none Option.none (Data.fields #[Value.int 150 0, Value.int 4 0, Value.ref 293, Value.int 154 0, Value.int 4 0, Value.ref 300]) #[]
noncomputable def ho336 : Params → Obj := fun P => Obj.mk (Value.type PySem.W.SL.s5856160107412720595x4) Option.none (Data.fields #[Value.str q118 554, Value.str q118 555, Value.str q195 556, Value.int 148 0, Value.int 0 0, Value.int 0 0, Value.int 0 0, Value.int 0 0, Value.ref 284, Value.bool Bool.false, Value.int 181 0, Value.ref 285, Value.none, Value.none, Value.none, Value.none, Value.int 557 0, Value.int 148 0, Value.str q195 558]) #[]
noncomputable def ho337 : Params → Obj := fun P => Obj.mk (Value.type PySem.W.SL.s658472552662922059x5) Option.none Data.plain #[Option.some (Value.ref 286), Option.some (Value.ref 3), Option.some (Value.ref 283), Option.none, Option.some (Value.str q117 550), Option.none, Option.some (Value.ref 0)]
noncomputable def ho340 : Params → Obj := fun P => Obj.mk (Value.type PySem.W.SL.s2766695959194262286x5) Option.none (Data.seq #[Value.str q8 567, Value.str q119 568, Value.str q120 569]) #[]
noncomputable def ho342 : Params → Obj := fun P => Obj.mk Value.none Option.none (Data.func (FuncData.mk q7 q227 (fnParams (hmeth hst38 0)) (FuncBody.stmts (fnBody (hmeth hst38 0))) (fnScope (hmeth hst38 0)) 0 [] Value.none Value.none Value.none Value.none Option.none Value.none Value.none 0)) #[]
noncomputable def ho343 : Params → Obj := fun P => Obj.mk (Value.type PySem.W.SL.s5856160107412720595x4) Option.none (Data.fields #[Value.str q7 564, Value.str q227 565, Value.str q195 566, Value.int 150 0, Value.int 3 0, Value.int 0 0, Value.int 0 0, Value.int 3 0, Value.ref 288, Value.bool Bool.true, Value.int 181 0, Value.ref 289, Value.none, Value.ref 290, Value.ref 291, Value.ref 292, Value.int 570 0, Value.int 150 0, Value.str q195 571]) #[]
noncomputable def ho344 : Params → Obj := fun P => Obj.mk (Value.type PySem.W.SL.s7174869446012820540x8) Option.none (Data.func (FuncData.mk q7 q227 (fnParams (hmeth hst38 0)) (FuncBody.stmts (fnBody (hmeth hst38 0))) (fnScope (hmeth hst38 0)) 3 [] Value.none Value.none Value.none (Value.str q117 550) Option.none (Value.ref 293) Value.none 0)) #[]
noncomputable def ho347 : Params → Obj := fun P => Obj.mk (Value.type PySem.W.SL.s2766695959194262286x5) Option.none (Data.seq #[Value.str q8 576, Value.str q1 577]) #[]
noncomputable def ho349 : Params → Obj := fun P => Obj.mk Value.none Option.none (Data.func (FuncData.mk q121 q228 (fnParams (hmeth hst38 1)) (FuncBody.stmts (fnBody (hmeth hst38 1))) (fnScope (hmeth hst38 1)) 0 [] Value.none Value.none Value.none Value.none Option.none Value.none Value.none 0)) #[]
noncomputable def ho350 : Params → Obj := fun P => Obj.mk (Value.type PySem.W.SL.s5856160107412720595x4) Option.none (Data.fields #[Value.str q121 573, Value.str q228 574, Value.str q195 575, Value.int 154 0, Value.int 1 0, Value.int 0 0, Value.int 0 0, Value.int 3 0, Value.ref 295, Value.bool Bool.true, Value.int 181 0, Value.ref 296, Value.none, Value.ref 297, Value.ref 298, Value.ref 299, Value.int 578 0, Value.int 154 0, Value.str q195 579]) #[]
noncomputable def ho351 : Params → Obj := fun P => Obj.mk (Value.type PySem.W.SL.s7174869446012820540x8) Option.none (Data.func (FuncData.mk q121 q228 (fnParams (hmeth hst38 1)) (FuncBody.stmts (fnBody (hmeth hst38 1))) (fnScope (hmeth hst38 1)) 3 [] Value.none Value.none Value.none (Value.str q117 550) Option.none (Value.ref 300) Value.none 0)) #[]
noncomputable def ho352 : Params → Obj := fun P => Obj.mk (Value.type PySem.W.SL.s2766695959194262286x5) Option.none (Data.seq #[Value.str q119 581, Value.str q120 582]) #[]
noncomputable def ho353 : Params → Obj := fun P => Obj.mk (Value.type PySem.W.SL.s14018661285674007319x4) Option.none (Data.dict #[DictEntry.mk (PyData.keyHash P q207) (Value.str q207 559) (Value.str q117 550), DictEntry.mk (PyData.keyHash P q209) (Value.str q209 563) (Value.int 148 562), DictEntry.mk (PyData.keyHash P q7) (Value.str q7 572) (Value.ref 294), DictEntry.mk (PyData.keyHash P q121) (Value.str q121 580) (Value.ref 301), DictEntry.mk (PyData.keyHash P q210) (Value.str q210 583) (Value.ref 302), DictEntry.mk (PyData.keyHash P q224) (Value.str q224 585) (Value.ref 305), DictEntry.mk (PyData.keyHash P q211) (Value.str q211 587) (Value.ref 306), DictEntry.mk (PyData.keyHash P q199) (Value.str q199 588) Value.none] 4) #[]
noncomputable def ho354 : Params → Obj := fun P => Obj.mk (Value.type PySem.W.SL.s17162191345867700912x4) Option.none (Data.cls (ClassData.mk q118 [Value.type PySem.W.SL.s2742458400755230247x6] [Value.ref 304, Value.type PySem.W.SL.s2742458400755230247x6] 303 q118 Bool.true [] [] Bool.false Option.none Bool.false)) #[Option.none, Option.none, Option.some (Value.str q118 552), Option.some (Value.str q118 560), Option.some (Value.builtin PySem.W.SL.s11443829558043349243x14), Option.some (Value.bool Bool.true)]
noncomputable def ho355 : Params → Obj := fun P => Obj.mk (Value.type PySem.W.SL.s14755015743595814543x17) Option.none (Data.fields #[Value.str q224 584, Value.ref 304, Value.builtin PySem.W.SL.s6511155373996960695x17, Value.builtin PySem.W.SL.s12411053484034534018x21]) #[]
noncomputable def ho356 : Params → Obj := fun P => Obj.mk (Value.type PySem.W.SL.s14755015743595814543x17) Option.none (Data.fields #[Value.str q211 586, Value.ref 304, Value.builtin PySem.W.SL.s10220274742760427390x26, Value.none]) #[]
noncomputable def ho357 : Params → Obj := fun P => Obj.mk (Value.type PySem.W.SL.s4290257624100764138x5) Option.none (Data.fields #[Value.ref 304, Value.ref 304, Value.ref 304]) #[]
noncomputable def ho358 : Params → Obj := fun P => Obj.mk (Value.type PySem.W.SL.s11030030927630378310x26) Option.none (Data.fields #[Value.builtin PySem.W.SL.s4860613602091757760x24, Value.ref 304]) #[]
noncomputable def ho361 : Params → Obj := fun P => Obj.mk (Value.type PySem.W.SL.s2766695959194262286x5) Option.none (Data.seq #[Value.str q94 594, Value.str q92 595, Value.str q113 596, Value.str q123 597, Value.str q124 598, Value.str q82 599]) #[]
noncomputable def ho363 : Params → Obj := fun P => Obj.mk Value.none Option.none (Data.func (FuncData.mk q122 q122 (fnParams hst39) (FuncBody.stmts (fnBody hst39)) (fnScope hst39) 0 [] Value.none Value.none Value.none Value.none Option.none Value.none Value.none 0)) #[]
noncomputable def ho364 : Params → Obj := fun P => Obj.mk (Value.type PySem.W.SL.s5856160107412720595x4) Option.none (Data.fields #[Value.str q122 591, Value.str q122 592, Value.str q195 593, Value.int 159 0, Value.int 4 0, Value.int 0 0, Value.int 0 0, Value.int 3 0, Value.ref 309, Value.bool Bool.true, Value.int 181 0, Value.ref 310, Value.none, Value.ref 311, Value.ref 312, Value.ref 313, Value.int 600 0, Value.int 159 0, Value.str q195 601]) #[]
noncomputable def ho365 : Params → Obj := fun P => Obj.mk (Value.type PySem.W.SL.s7174869446012820540x8) Option.none (Data.func (FuncData.mk q122 q122 (fnParams hst39) (FuncBody.stmts (fnBody hst39)) (fnScope hst39) 3 [] Value.none Value.none Value.none (Value.str q117 550) Option.none (Value.ref 314) Value.none 0)) #[]
noncomputable def ho368 : Params → Obj := fun P => Obj.mk (Value.type PySem.W.SL.s2766695959194262286x5) Option.none (Data.seq #[Value.str q94 606, Value.str q92 607, Value.str q113 608, Value.str q123 609, Value.str q86 610, Value.str q87 611]) #[]
noncomputable def ho370 : Params → Obj := fun P => Obj.mk Value.none Option.none (Data.func (FuncData.mk q125 q125 (fnParams hst40) (FuncBody.stmts (fnBody hst40)) (fnScope hst40) 0 [] Value.none Value.none Value.none Value.none Option.none Value.none Value.none 0)) #[]
noncomputable def ho371 : Params → Obj := fun P => Obj.mk (Value.type PySem.W.SL.s5856160107412720595x4) Option.none (Data.fields #[Value.str q125 603, Value.str q125 604, Value.str q195 605, Value.int 163 0, Value.int 4 0, Value.int 0 0, Value.int 0 0, Value.int 3 0, Value.ref 316, Value.bool Bool.true, Value.int 181 0, Value.ref 317, Value.none, Value.ref 318, Value.ref 319, Value.ref 320, Value.int 612 0, Value.int 163 0, Value.str q195 613]) #[]
noncomputable def ho372 : Params → Obj := fun P => Obj.mk (Value.type PySem.W.SL.s7174869446012820540x8) Option.none (Data.func (FuncData.mk q125 q125 (fnParams hst40) (FuncBody.stmts (fnBody hst40)) (fnScope hst40) 3 [] Value.none Value.none Value.none (Value.str q117 550) Option.none (Value.ref 321) Value.none 0)) #[]
noncomputable def ho377 : Params → Obj := fun P => Obj.mk (Value.type PySem.W.SL.s14018661285674007319x4) Option.none (Data.dict #[DictEntry.mk (PyData.keyHash P q207) (Value.str q207 622) (Value.str q117 550), DictEntry.mk (PyData.keyHash P q208) (Value.str q208 624) (Value.str q127 623), DictEntry.mk (PyData.keyHash P q209) (Value.str q209 626) (Value.int 170 625), DictEntry.mk (PyData.keyHash P q7) (Value.str q7 636) (Value.ref 336), DictEntry.mk (PyData.keyHash P q131) (Value.str q131 648) (Value.ref 343), DictEntry.mk (PyData.keyHash P q129) (Value.str q129 654) (Value.ref 348), DictEntry.mk (PyData.keyHash P q210) (Value.str q210 657) (Value.ref 349)] 7) #[]
noncomputable def ho379 : Params → Obj := fun P => Obj.mk Value.none Option.none (Data.fields #[Value.int 172 0, Value.int 4 0, Value.ref 335, Value.int 176 0, Value.int 4 0, Value.ref 342, Value.int 185 0, Value.int 4 0, Value.ref 347]) #[]
noncomputable def ho380 : Params → Obj := fun P => Obj.mk (Value.type PySem.W.SL.s5856160107412720595x4) Option.none (Data.fields #[Value.str q127 617, Value.str q127 618, Value.str q195 619, Value.int 170 0, Value.int 0 0, Value.int 0 0, Value.int 0 0, Value.int 0 0, Value.ref 326, Value.bool Bool.false, Value.int 181 0, Value.ref 327, Value.none, Value.none, Value.none, Value.none, Value.int 620 0, Value.int 170 0, Value.str q195 621]) #[]
noncomputable def ho381 : Params → Obj := fun P => Obj.mk (Value.type PySem.W.SL.s658472552662922059x5) Option.none Data.plain #[Option.some (Value.ref 328), Option.some (Value.ref 3), Option.some (Value.ref 325), Option.none, Option.some (Value.str q117 550), Option.none, Option.some (Value.ref 0)]
noncomputable def ho384 : Params → Obj := fun P => Obj.mk (Value.type PySem.W.SL.s2766695959194262286x5) Option.none (Data.seq #[Value.str q8 630, Value.str q92 631, Value.str q113 632, Value.str q123 633]) #[]
noncomputable def ho386 : Params → Obj := fun P => Obj.mk Value.none Option.none (Data.func (FuncData.mk q7 q229 (fnParams (hmeth hst41 0)) (FuncBody.stmts (fnBody (hmeth hst41 0))) (fnScope (hmeth hst41 0)) 0 [] Value.none Value.none Value.none Value.none Option.none Value.none Value.none 0)) #[]
noncomputable def ho387 : Params → Obj := fun P => Obj.mk (Value.type PySem.W.SL.s5856160107412720595x4) Option.none (Data.fields #[Value.str q7 627, Value.str q229 628, Value.str q195 629, Value.int 172 0, Value.int 4 0, Value.int 0 0, Value.int 0 0, Value.int 3 0, Value.ref 330, Value.bool Bool.true, Value.int 181 0, Value.ref 331, Value.none, Value.ref 332, Value.ref 333, Value.ref 334, Value.int 634 0, Value.int 172 0, Value.str q195 635]) #[]
noncomputable def ho388 : Params → Obj := fun P => Obj.mk (Value.type PySem.W.SL.s7174869446012820540x8) Option.none (Data.func (FuncData.mk q7 q229 (fnParams (hmeth hst41 0)) (FuncBody.stmts (fnBody (hmeth hst41 0))) (fnScope (hmeth hst41 0)) 3 [] Value.none Value.none Value.none (Value.str q117 550) Option.none (Value.ref 335) Value.none 0)) #[]
noncomputable def ho391 : Params → Obj := fun P => Obj.mk (Value.type PySem.W.SL.s2766695959194262286x5) Option.none (Data.seq #[Value.str q8 640, Value.str q132 641, Value.str q103 642, Value.str q133 643, Value.str q104 644, Value.str q134 645]) #[]
noncomputable def ho393 : Params → Obj := fun P => Obj.mk Value.none Option.none (Data.func (FuncData.mk q131 q230 (fnParams (hmeth hst41 1)) (FuncBody.stmts (fnBody (hmeth hst41 1))) (fnScope (hmeth hst41 1)) 0 [] Value.none Value.none Value.none Value.none Option.none Value.none Value.none 0)) #[]
noncomputable def ho394 : Params → Obj := fun P => Obj.mk (Value.type PySem.W.SL.s5856160107412720595x4) Option.none (Data.fields #[Value.str q131 637, Value.str q230 638, Value.str q195 639, Value.int 176 0, Value.int 3 0, Value.int 0 0, Value.int 0 0, Value.int 3 0, Value.ref 337, Value.bool Bool.true, Value.int 181 0, Value.ref 338, Value.none, Value.ref 339, Value.ref 340, Value.ref 341, Value.int 646 0, Value.int 176 0, Value.str q195 647]) #[]
noncomputable def ho395 : Params → Obj := fun P => Obj.mk (Value.type PySem.W.SL.s7174869446012820540x8) Option.none (Data.func (FuncData.mk q131 q230 (fnParams (hmeth hst41 1)) (FuncBody.stmts (fnBody (hmeth hst41 1))) (fnScope (hmeth hst41 1)) 3 [] Value.none Value.none Value.none (Value.str q117 550) Option.none (Value.ref 342) Value.none 0)) #[]
noncomputable def ho398 : Params → Obj := fun P => Obj.mk Value.none Option.none (Data.func (FuncData.mk q129 q231 (fnParams (hmeth hst41 2)) (FuncBody.stmts (fnBody (hmeth hst41 2))) (fnScope (hmeth hst41 2)) 0 [] Value.none Value.none Value.none Value.none Option.none Value.none Value.none 0)) #[]
noncomputable def ho399 : Params → Obj := fun P => Obj.mk (Value.type PySem.W.SL.s5856160107412720595x4) Option.none (Data.fields #[Value.str q129 649, Value.str q231 650, Value.str q195 651, Value.int 185 0, Value.int 1 0, Value.int 0 0, Value.int 0 0, Value.int 3 0, Value.ref 344, Value.bool Bool.true, Value.int 181 0, Value.ref 345, Value.none, Value.none, Value.none, Value.ref 346, Value.int 652 0, Value.int 185 0, Value.str q195 653]) #[]
noncomputable def ho400 : Params → Obj := fun P => Obj.mk (Value.type PySem.W.SL.s7174869446012820540x8) Option.none (Data.func (FuncData.mk q129 q231 (fnParams (hmeth hst41 2)) (FuncBody.stmts (fnBody (hmeth hst41 2))) (fnScope (hmeth hst41 2)) 3 [] Value.none Value.none Value.none (Value.str q117 550) Option.none (Value.ref 347) Value.none 0)) #[]
noncomputable def ho401 : Params → Obj := fun P => Obj.mk (Value.type PySem.W.SL.s2766695959194262286x5) Option.none (Data.seq #[Value.str q128 655, Value.str q130 656]) #[]
noncomputable def ho402 : Params → Obj := fun P => Obj.mk (Value.type PySem.W.SL.s14018661285674007319x4) Option.none (Data.dict #[DictEntry.mk (PyData.keyHash P q207) (Value.str q207 622) (Value.str q117 550), DictEntry.mk (PyData.keyHash P q209) (Value.str q209 626) (Value.int 170 625), DictEntry.mk (PyData.keyHash P q7) (Value.str q7 636) (Value.ref 336), DictEntry.mk (PyData.keyHash P q131) (Value.str q131 648) (Value.ref 343), DictEntry.mk (PyData.keyHash P q129) (Value.str q129 654) (Value.ref 348), DictEntry.mk (PyData.keyHash P q210) (Value.str q210 657) (Value.ref 349), DictEntry.mk (PyData.keyHash P q224) (Value.str q224 659) (Value.ref 352), DictEntry.mk (PyData.keyHash P q211) (Value.str q211 661) (Value.ref 353), DictEntry.mk (PyData.keyHash P q199) (Value.str q199 662) Value.none] 4) #[]
noncomputable def ho403 : Params → Obj := fun P => Obj.mk (Value.type PySem.W.SL.s17162191345867700912x4) Option.none (Data.cls (ClassData.mk q127 [Value.type PySem.W.SL.s2742458400755230247x6] [Value.ref 351, Value.type PySem.W.SL.s2742458400755230247x6] 350 q127 Bool.true [] [] Bool.false Option.none Bool.false)) #[Option.none, Option.none, Option.some (Value.str q127 615), Option.some (Value.str q127 623), Option.some (Value.builtin PySem.W.SL.s11443829558043349243x14), Option.some (Value.bool Bool.true)]
noncomputable def ho404 : Params → Obj := fun P => Obj.mk (Value.type PySem.W.SL.s14755015743595814543x17) Option.none (Data.fields #[Value.str q224 658, Value.ref 351, Value.builtin PySem.W.SL.s6511155373996960695x17, Value.builtin PySem.W.SL.s12411053484034534018x21]) #[]
noncomputable def ho405 : Params → Obj := fun P => Obj.mk (Value.type PySem.W.SL.s14755015743595814543x17) Option.none (Data.fields #[Value.str q211 660, Value.ref 351, Value.builtin PySem.W.SL.s10220274742760427390x26, Value.none]) #[]
noncomputable def ho406 : Params → Obj := fun P => Obj.mk (Value.type PySem.W.SL.s4290257624100764138x5) Option.none (Data.fields #[Value.ref 351, Value.ref 351, Value.ref 351]) #[]
noncomputable def ho407 : Params → Obj := fun P => Obj.mk (Value.type PySem.W.SL.s11030030927630378310x26) Option.none (Data.fields #[Value.builtin PySem.W.SL.s4860613602091757760x24, Value.ref 351]) #[]
noncomputable def ho410 : Params → Obj := fun P => Obj.mk (Value.type PySem.W.SL.s2766695959194262286x5) Option.none (Data.seq #[Value.str q94 668, Value.str q92 669, Value.str q113 670, Value.str q123 671, Value.str q145 672, Value.str q146 673, Value.str q98 674, Value.str q104 675, Value.str q147 676, Value.str q148 677]) #[]
noncomputable def ho412 : Params → Obj := fun P => Obj.mk Value.none Option.none (Data.func (FuncData.mk q144 q144 (fnParams hst42) (FuncBody.stmts (fnBody hst42)) (fnScope hst42) 0 [] Value.none Value.none Value.none Value.none Option.none Value.none Value.none 0)) #[]
noncomputable def ho413 : Params → Obj := fun P => Obj.mk (Value.type PySem.W.SL.s5856160107412720595x4) Option.none (Data.fields #[Value.str q144 665, Value.str q144 666, Value.str q195 667, Value.int 205 0, Value.int 5 0, Value.int 0 0, Value.int 0 0, Value.int 3 0, Value.ref 356, Value.bool Bool.true, Value.int 181 0, Value.ref 357, Value.none, Value.ref 358, Value.ref 359, Value.ref 360, Value.int 678 0, Value.int 205 0, Value.str q195 679]) #[]
noncomputable def ho414 : Params → Obj := fun P => Obj.mk (Value.type PySem.W.SL.s7174869446012820540x8) Option.none (Data.func (FuncData.mk q144 q144 (fnParams hst42) (FuncBody.stmts (fnBody hst42)) (fnScope hst42) 3 [] Value.none Value.none Value.none (Value.str q117 550) Option.none (Value.ref 361) Value.none 0)) #[]
noncomputable def ho417 : Params → Obj := fun P => Obj.mk Value.none Option.none (Data.func (FuncData.mk q149 q149 (fnParams hst43) (FuncBody.stmts (fnBody hst43)) (fnScope hst43) 0 [] Value.none Value.none Value.none Value.none Option.none Value.none Value.none 0)) #[]
noncomputable def ho418 : Params → Obj := fun P => Obj.mk (Value.type PySem.W.SL.s5856160107412720595x4) Option.none (Data.fields #[Value.str q149 681, Value.str q149 682, Value.str q195 683, Value.int 211 0, Value.int 6 0, Value.int 0 0, Value.int 0 0, Value.int 3 0, Value.ref 363, Value.bool Bool.true, Value.int 181 0, Value.ref 364, Value.none, Value.none, Value.none, Value.ref 365, Value.int 684 0, Value.int 211 0, Value.str q195 685]) #[]
noncomputable def ho419 : Params → Obj := fun P => Obj.mk (Value.type PySem.W.SL.s7174869446012820540x8) Option.none (Data.func (FuncData.mk q149 q149 (fnParams hst43) (FuncBody.stmts (fnBody hst43)) (fnScope hst43) 3 [] Value.none Value.none Value.none (Value.str q117 550) Option.none (Value.ref 366) Value.none 0)) #[]
noncomputable def ho422 : Params → Obj := fun P => Obj.mk (Value.type PySem.W.SL.s2766695959194262286x5) Option.none (Data.seq #[Value.str q94 690, Value.str q92 691, Value.str q113 692, Value.str q123 693, Value.str q156 694, Value.str q124 695]) #[]
noncomputable def ho424 : Params → Obj := fun P => Obj.mk Value.none Option.none (Data.func (FuncData.mk q155 q155 (fnParams hst44) (FuncBody.stmts (fnBody hst44)) (fnScope hst44) 0 [] Value.none Value.none Value.none Value.none Option.none Value.none Value.none 0)) #[]
noncomputable def ho425 : Params → Obj := fun P => Obj.mk (Value.type PySem.W.SL.s5856160107412720595x4) Option.none (Data.fields #[Value.str q155 687, Value.str q155 688, Value.str q195 689, Value.int 239 0, Value.int 4 0, Value.int 0 0, Value.int 0 0, Value.int 3 0, Value.ref 368, Value.bool Bool.true, Value.int 181 0, Value.ref 369, Value.none, Value.ref 370, Value.ref 371, Value.ref 372, Value.int 696 0, Value.int 239 0, Value.str q195 697]) #[]
noncomputable def ho426 : Params → Obj := fun P => Obj.mk (Value.type PySem.W.SL.s7174869446012820540x8) Option.none (Data.func (FuncData.mk q155 q155 (fnParams hst44) (FuncBody.stmts (fnBody hst44)) (fnScope hst44) 3 [] Value.none Value.none Value.none (Value.str q117 550) Option.none (Value.ref 373) Value.none 0)) #[]
noncomputable def ho427 : Params → Obj := fun P => Obj.mk (Value.type PySem.W.SL.s14018661285674007319x4) Option.none (Data.dict #[DictEntry.mk (PyData.keyHash P q2) (Value.str q2 165) (Value.str q160 699), DictEntry.mk (PyData.keyHash P q199) (Value.str q199 166) Value.none, DictEntry.mk (PyData.keyHash P q200) (Value.str q200 167) Value.none, DictEntry.mk (PyData.keyHash P q201) (Value.str q201 168) (Value.builtin PySem.W.SL.s7097527257260152453x26), DictEntry.mk (PyData.keyHash P q202) (Value.str q202 169) Value.none, DictEntry.mk (PyData.keyHash P q203) (Value.str q203 170) (Value.ref 6), DictEntry.mk (PyData.keyHash P q204) (Value.str q204 171) (Value.ref 4), DictEntry.mk (PyData.keyHash P q205) (Value.str q205 173) (Value.str q195 172), DictEntry.mk (PyData.keyHash P q206) (Value.str q206 174) Value.none, DictEntry.mk (PyData.keyHash P q0) (Value.str q0 193) (Value.ref 21), DictEntry.mk (PyData.keyHash P q4) (Value.str q4 215) (Value.ref 31), DictEntry.mk (PyData.keyHash P q6) (Value.str q6 240) (Value.ref 51), DictEntry.mk (PyData.keyHash P q10) (Value.str q10 242) (Value.int 0 241), DictEntry.mk (PyData.keyHash P q11) (Value.str q11 244) (Value.int 8 243), DictEntry.mk (PyData.keyHash P q12) (Value.str q12 246) (Value.int 15 245), DictEntry.mk (PyData.keyHash P q13) (Value.str q13 248) (Value.int 16 247), DictEntry.mk (PyData.keyHash P q14) (Value.str q14 250) (Value.int 25 249), DictEntry.mk (PyData.keyHash P q15) (Value.str q15 252) (Value.int 0 251), DictEntry.mk (PyData.keyHash P q16) (Value.str q16 254) (Value.int 1 253), DictEntry.mk (PyData.keyHash P q17) (Value.str q17 256) (Value.int 2 255), DictEntry.mk (PyData.keyHash P q18) (Value.str q18 258) (Value.int 3 257), DictEntry.mk (PyData.keyHash P q19) (Value.str q19 260) (Value.int 4 259), DictEntry.mk (PyData.keyHash P q20) (Value.str q20 262) (Value.int 9 261), DictEntry.mk (PyData.keyHash P q21) (Value.str q21 264) (Value.int 10 263), DictEntry.mk (PyData.keyHash P q22) (Value.str q22 266) (Value.int 16 265), DictEntry.mk (PyData.keyHash P q23) (Value.str q23 272) (Value.ref 60), DictEntry.mk (PyData.keyHash P q53) (Value.str q53 278) (Value.ref 67), DictEntry.mk (PyData.keyHash P q54) (Value.str q54 398) (Value.ref 154), DictEntry.mk (PyData.keyHash P q77) (Value.str q77 402) (Value.ref 159), DictEntry.mk (PyData.keyHash P q79) (Value.str q79 409) (Value.ref 166), DictEntry.mk (PyData.keyHash P q60) (Value.str q60 416) (Value.ref 173), DictEntry.mk (PyData.keyHash P q81) (Value.str q81 424) (Value.ref 180), DictEntry.mk (PyData.keyHash P q85) (Value.str q85 434) (Value.ref 188), DictEntry.mk (PyData.keyHash P q91) (Value.str q91 442) (Value.ref 195), DictEntry.mk (PyData.keyHash P q93) (Value.str q93 450) (Value.ref 202), DictEntry.mk (PyData.keyHash P q95) (Value.str q95 457) (Value.ref 209), DictEntry.mk (PyData.keyHash P q96) (Value.str q96 466) (Value.ref 216), DictEntry.mk (PyData.keyHash P q100) (Value.str q100 473) (Value.ref 223), DictEntry.mk (PyData.keyHash P q102) (Value.str q102 484) (Value.ref 230), DictEntry.mk (PyData.keyHash P q107) (Value.str q107 491) (Value.ref 237), DictEntry.mk (PyData.keyHash P q108) (Value.str q108 500) (Value.ref 244), DictEntry.mk (PyData.keyHash P q112) (Value.str q112 540) (Value.ref 269), DictEntry.mk (PyData.keyHash P q116) (Value.str q116 549) (Value.ref 280), DictEntry.mk (PyData.keyHash P q118) (Value.str q118 590) (Value.ref 304), DictEntry.mk (PyData.keyHash P q122) (Value.str q122 602) (Value.ref 315), DictEntry.mk (PyData.keyHash P q125) (Value.str q125 614) (Value.ref 322), DictEntry.mk (PyData.keyHash P q127) (Value.str q127 664) (Value.ref 351), DictEntry.mk (PyData.keyHash P q144) (Value.str q144 680) (Value.ref 362), DictEntry.mk (PyData.keyHash P q149) (Value.str q149 686) (Value.ref 367), DictEntry.mk (PyData.keyHash P q155) (Value.str q155 698) (Value.ref 374), DictEntry.mk (PyData.keyHash P q161) (Value.str q161 711) (Value.ref 381), DictEntry.mk (PyData.keyHash P q169) (Value.str q169 719) (Value.ref 388), DictEntry.mk (PyData.keyHash P q171) (Value.str q171 729) (Value.ref 395), DictEntry.mk (PyData.keyHash P q178) (Value.str q178 743) (Value.ref 402), DictEntry.mk (PyData.keyHash P q183) (Value.str q183 749) (Value.ref 407), DictEntry.mk (PyData.keyHash P q187) (Value.str q187 759) (Value.ref 414), DictEntry.mk (PyData.keyHash P q190) (Value.str q190 765) (Value.ref 419)] 57) #[]
noncomputable def ho428 : Params → Obj := fun P => Obj.mk Value.none Option.none (Data.fields #[Value.int 1 0, Value.int 0 0, Value.ref 20, Value.int 5 0, Value.int 0 0, Value.ref 27, Value.int 7 0, Value.int 0 0, Value.ref 40, Value.int 24 0, Value.int 0 0, Value.ref 59, Value.int 26 0, Value.int 0 0, Value.ref 66, Value.int 28 0, Value.int 0 0, Value.ref 73, Value.int 87 0, Value.int 0 0, Value.ref 165, Value.int 89 0, Value.int 0 0, Value.ref 172, Value.int 91 0, Value.int 0 0, Value.ref 179, Value.int 93 0, Value.int 0 0, Value.ref 187, Value.int 98 0, Value.int 0 0, Value.ref 194, Value.int 104 0, Value.int 0 0, Value.ref 201, Value.int 108 0, Value.int 0 0, Value.ref 208, Value.int 112 0, Value.int 0 0, Value.ref 215, Value.int 119 0, Value.int 0 0, Value.ref 222, Value.int 121 0, Value.int 0 0, Value.ref 229, Value.int 126 0, Value.int 0 0, Value.ref 236, Value.int 128 0, Value.int 0 0, Value.ref 243, Value.int 131 0, Value.int 0 0, Value.ref 250, Value.int 140 0, Value.int 0 0, Value.ref 279, Value.int 148 0, Value.int 0 0, Value.ref 286, Value.int 159 0, Value.int 0 0, Value.ref 314, Value.int 163 0, Value.int 0 0, Value.ref 321, Value.int 170 0, Value.int 0 0, Value.ref 328, Value.int 205 0, Value.int 0 0, Value.ref 361, Value.int 211 0, Value.int 0 0, Value.ref 366, Value.int 239 0, Value.int 0 0, Value.ref 373, Value.int 258 0, Value.int 0 0, Value.ref 380, Value.int 271 0, Value.int 0 0, Value.ref 387, Value.int 273 0, Value.int 0 0, Value.ref 394, Value.int 287 0, Value.int 0 0, Value.ref 401, Value.int 300 0, Value.int 0 0, Value.ref 406, Value.int 313 0, Value.int 0 0, Value.ref 413, Value.int 328 0, Value.int 0 0, Value.ref 418]) #[]
noncomputable def ho431 : Params → Obj := fun P => Obj.mk (Value.type PySem.W.SL.s2766695959194262286x5) Option.none (Data.seq #[Value.str q162 704, Value.str q163 705, Value.str q164 706, Value.str q165 707, Value.str q167 708]) #[]
noncomputable def ho433 : Params → Obj := fun P => Obj.mk Value.none Option.none (Data.func (FuncData.mk q161 q161 (fnParams hst46) (FuncBody.stmts (fnBody hst46)) (fnScope hst46) 0 [] Value.none Value.none Value.none Value.none Option.none Value.none Value.none 0)) #[]
noncomputable def ho434 : Params → Obj := fun P => Obj.mk (Value.type PySem.W.SL.s5856160107412720595x4) Option.none (Data.fields #[Value.str q161 701, Value.str q161 702, Value.str q195 703, Value.int 258 0, Value.int 1 0, Value.int 0 0, Value.int 0 0, Value.int 3 0, Value.ref 375, Value.bool Bool.true, Value.int 181 0, Value.ref 376, Value.none, Value.ref 377, Value.ref 378, Value.ref 379, Value.int 709 0, Value.int 258 0, Value.str q195 710]) #[]
noncomputable def ho435 : Params → Obj := fun P => Obj.mk (Value.type PySem.W.SL.s7174869446012820540x8) Option.none (Data.func (FuncData.mk q161 q161 (fnParams hst46) (FuncBody.stmts (fnBody hst46)) (fnScope hst46) 3 [] Value.none Value.none Value.none (Value.str q160 699) Option.none (Value.ref 380) Value.none 0)) #[]
noncomputable def ho438 : Params → Obj := fun P => Obj.mk (Value.type PySem.W.SL.s2766695959194262286x5) Option.none (Data.seq #[Value.str q163 715, Value.str q170 716]) #[]
noncomputable def ho440 : Params → Obj := fun P => Obj.mk Value.none Option.none (Data.func (FuncData.mk q169 q169 (fnParams hst47) (FuncBody.stmts (fnBody hst47)) (fnScope hst47) 0 [] Value.none Value.none Value.none Value.none Option.none Value.none Value.none 0)) #[]
noncomputable def ho441 : Params → Obj := fun P => Obj.mk (Value.type PySem.W.SL.s5856160107412720595x4) Option.none (Data.fields #[Value.str q169 712, Value.str q169 713, Value.str q195 714, Value.int 271 0, Value.int 2 0, Value.int 0 0, Value.int 0 0, Value.int 3 0, Value.ref 382, Value.bool Bool.true, Value.int 181 0, Value.ref 383, Value.none, Value.ref 384, Value.ref 385, Value.ref 386, Value.int 717 0, Value.int 271 0, Value.str q195 718]) #[]
noncomputable def ho442 : Params → Obj := fun P => Obj.mk (Value.type PySem.W.SL.s7174869446012820540x8) Option.none (Data.func (FuncData.mk q169 q169 (fnParams hst47) (FuncBody.stmts (fnBody hst47)) (fnScope hst47) 3 [] Value.none Value.none Value.none (Value.str q160 699) Option.none (Value.ref 387) Value.none 0)) #[]
noncomputable def ho445 : Params → Obj := fun P => Obj.mk (Value.type PySem.W.SL.s2766695959194262286x5) Option.none (Data.seq #[Value.str q163 723, Value.str q172 724, Value.str q173 725, Value.str q174 726]) #[]
noncomputable def ho447 : Params → Obj := fun P => Obj.mk Value.none Option.none (Data.func (FuncData.mk q171 q171 (fnParams hst48) (FuncBody.stmts (fnBody hst48)) (fnScope hst48) 0 [] Value.none Value.none Value.none Value.none Option.none Value.none Value.none 0)) #[]
noncomputable def ho448 : Params → Obj := fun P => Obj.mk (Value.type PySem.W.SL.s5856160107412720595x4) Option.none (Data.fields #[Value.str q171 720, Value.str q171 721, Value.str q195 722, Value.int 273 0, Value.int 2 0, Value.int 0 0, Value.int 0 0, Value.int 3 0, Value.ref 389, Value.bool Bool.true, Value.int 181 0, Value.ref 390, Value.none, Value.ref 391, Value.ref 392, Value.ref 393, Value.int 727 0, Value.int 273 0, Value.str q195 728]) #[]
noncomputable def ho449 : Params → Obj := fun P => Obj.mk (Value.type PySem.W.SL.s7174869446012820540x8) Option.none (Data.func (FuncData.mk q171 q171 (fnParams hst48) (FuncBody.stmts (fnBody hst48)) (fnScope hst48) 3 [] Value.none Value.none Value.none (Value.str q160 699) Option.none (Value.ref 394) Value.none 0)) #[]
noncomputable def ho452 : Params → Obj := fun P => Obj.mk (Value.type PySem.W.SL.s2766695959194262286x5) Option.none (Data.seq #[Value.str q163 733, Value.str q172 734, Value.str q179 735, Value.str q180 736, Value.str q61 737, Value.str q167 738, Value.str q173 739, Value.str q135 740]) #[]
noncomputable def ho454 : Params → Obj := fun P => Obj.mk Value.none Option.none (Data.func (FuncData.mk q178 q178 (fnParams hst49) (FuncBody.stmts (fnBody hst49)) (fnScope hst49) 0 [] Value.none Value.none Value.none Value.none Option.none Value.none Value.none 0)) #[]
noncomputable def ho455 : Params → Obj := fun P => Obj.mk (Value.type PySem.W.SL.s5856160107412720595x4) Option.none (Data.fields #[Value.str q178 730, Value.str q178 731, Value.str q195 732, Value.int 287 0, Value.int 4 0, Value.int 0 0, Value.int 0 0, Value.int 3 0, Value.ref 396, Value.bool Bool.true, Value.int 181 0, Value.ref 397, Value.none, Value.ref 398, Value.ref 399, Value.ref 400, Value.int 741 0, Value.int 287 0, Value.str q195 742]) #[]
noncomputable def ho456 : Params → Obj := fun P => Obj.mk (Value.type PySem.W.SL.s7174869446012820540x8) Option.none (Data.func (FuncData.mk q178 q178 (fnParams hst49) (FuncBody.stmts (fnBody hst49)) (fnScope hst49) 3 [] Value.none Value.none Value.none (Value.str q160 699) Option.none (Value.ref 401) Value.none 0)) #[]
noncomputable def ho459 : Params → Obj := fun P => Obj.mk Value.none Option.none (Data.func (FuncData.mk q183 q183 (fnParams hst50) (FuncBody.stmts (fnBody hst50)) (fnScope hst50) 0 [] Value.none Value.none Value.none Value.none Option.none Value.none Value.none 0)) #[]
noncomputable def ho460 : Params → Obj := fun P => Obj.mk (Value.type PySem.W.SL.s5856160107412720595x4) Option.none (Data.fields #[Value.str q183 744, Value.str q183 745, Value.str q195 746, Value.int 300 0, Value.int 4 0, Value.int 0 0, Value.int 0 0, Value.int 3 0, Value.ref 403, Value.bool Bool.true, Value.int 181 0, Value.ref 404, Value.none, Value.none, Value.none, Value.ref 405, Value.int 747 0, Value.int 300 0, Value.str q195 748]) #[]
noncomputable def ho461 : Params → Obj := fun P => Obj.mk (Value.type PySem.W.SL.s7174869446012820540x8) Option.none (Data.func (FuncData.mk q183 q183 (fnParams hst50) (FuncBody.stmts (fnBody hst50)) (fnScope hst50) 3 [] Value.none Value.none Value.none (Value.str q160 699) Option.none (Value.ref 406) Value.none 0)) #[]
noncomputable def ho464 : Params → Obj := fun P => Obj.mk (Value.type PySem.W.SL.s2766695959194262286x5) Option.none (Data.seq #[Value.str q92 753, Value.str q188 754, Value.str q189 755, Value.str q104 756]) #[]
noncomputable def ho466 : Params → Obj := fun P => Obj.mk Value.none Option.none (Data.func (FuncData.mk q187 q187 (fnParams hst51) (FuncBody.stmts (fnBody hst51)) (fnScope hst51) 0 [] Value.none Value.none Value.none Value.none Option.none Value.none Value.none 0)) #[]
noncomputable def ho467 : Params → Obj := fun P => Obj.mk (Value.type PySem.W.SL.s5856160107412720595x4) Option.none (Data.fields #[Value.str q187 750, Value.str q187 751, Value.str q195 752, Value.int 313 0, Value.int 3 0, Value.int 0 0, Value.int 0 0, Value.int 3 0, Value.ref 408, Value.bool Bool.true, Value.int 181 0, Value.ref 409, Value.none, Value.ref 410, Value.ref 411, Value.ref 412, Value.int 757 0, Value.int 313 0, Value.str q195 758]) #[]
noncomputable def ho468 : Params → Obj := fun P => Obj.mk (Value.type PySem.W.SL.s7174869446012820540x8) Option.none (Data.func (FuncData.mk q187 q187 (fnParams hst51) (FuncBody.stmts (fnBody hst51)) (fnScope hst51) 3 [] Value.none Value.none Value.none (Value.str q160 699) Option.none (Value.ref 413) Value.none 0)) #[]
noncomputable def ho471 : Params → Obj := fun P => Obj.mk Value.none Option.none (Data.func (FuncData.mk q190 q190 (fnParams hst52) (FuncBody.stmts (fnBody hst52)) (fnScope hst52) 0 [] Value.none Value.none Value.none Value.none Option.none Value.none Value.none 0)) #[]
noncomputable def ho472 : Params → Obj := fun P => Obj.mk (Value.type PySem.W.SL.s5856160107412720595x4) Option.none (Data.fields #[Value.str q190 760, Value.str q190 761, Value.str q195 762, Value.int 328 0, Value.int 1 0, Value.int 0 0, Value.int 0 0, Value.int 3 0, Value.ref 415, Value.bool Bool.true, Value.int 181 0, Value.ref 416, Value.none, Value.none, Value.none, Value.ref 417, Value.int 763 0, Value.int 328 0, Value.str q195 764]) #[]
noncomputable def ho473 : Params → Obj := fun P => Obj.mk (Value.type PySem.W.SL.s7174869446012820540x8) Option.none (Data.func (FuncData.mk q190 q190 (fnParams hst52) (FuncBody.stmts (fnBody hst52)) (fnScope hst52) 3 [] Value.none Value.none Value.none (Value.str q160 699) Option.none (Value.ref 418) Value.none 0)) #[]
noncomputable def hc0 : Params → BT := fun P => .node (boot_o_7 P) .nil .nil
noncomputable def hc1 : Params → BT := fun P => .node (ho43 P) .nil .nil
noncomputable def hc2 : Params → BT := fun P => .node (boot_o_9 P) .nil .nil
noncomputable def hc3 : Params → BT := fun P => .node (ho45 P) .nil .nil
noncomputable def hc4 : Params → BT := fun P => .node (boot_o_8 P) .nil .nil
noncomputable def hc5 : Params → BT := fun P => .node (ho44 P) .nil .nil
noncomputable def hc6 : Params → BT := fun P => .node (boot_o_10 P) .nil .nil
noncomputable def hc7 : Params → BT := fun P => .node (ho46 P) .nil .nil
noncomputable def htree_47 : Params → BT := fun P => .node (boot_o_0 P) (.node (boot_o_1 P) (.node (boot_o_3 P) (hc0 P) (hc1 P)) (.node (boot_o_5 P) (hc2 P) (hc3 P))) (.node (boot_o_2 P) (.node (boot_o_4 P) (hc4 P) (hc5 P)) (.node (boot_o_6 P) (hc6 P) (hc7 P)))
noncomputable def hc8 : Params → BT := fun P => .node (boot_o_7 P) (.node (ho43 P) (.node (ho74 P) (hc1 P) .nil) (.node (ho87 P) .nil .nil)) (.node (ho60 P) (.node (ho79 P) .nil .nil) (.node (ho44 P) .nil .nil))
noncomputable def hc9 : Params → BT := fun P => .node (ho109 P) .nil .nil
noncomputable def hc10 : Params → BT := fun P => .node (ho43 P) (.node (ho56 P) (.node (ho75 P) (hc9 P) .nil) (.node (ho91 P) .nil .nil)) (.node (ho64 P) (.node (ho44 P) .nil .nil) (.node (ho99 P) .nil .nil))
noncomputable def hc11 : Params → BT := fun P => .node (ho107 P) .nil .nil
noncomputable def hc12 : Params → BT := fun P => .node (boot_o_9 P) (.node (ho54 P) (.node (ho70 P) (hc11 P) .nil) (.node (ho89 P) .nil .nil)) (.node (ho43 P) (.node (ho81 P) .nil .nil) (.node (ho43 P) .nil .nil))
noncomputable def hc13 : Params → BT := fun P => .node (ho45 P) (.node (ho58 P) (.node (ho77 P) .nil .nil) (.node (ho93 P) .nil .nil)) (.node (ho43 P) (.node (ho43 P) .nil .nil) (.node (ho43 P) .nil .nil))
noncomputable def hc14 : Params → BT := fun P => .node (boot_o_8 P) (.node (ho44 P) (.node (ho69 P) (hc1 P) .nil) (.node (ho88 P) .nil .nil)) (.node (ho61 P) (.node (ho80 P) .nil .nil) (.node (ho43 P) .nil .nil))
noncomputable def hc15 : Params → BT := fun P => .node (ho102 P) (.node (ho57 P) (.node (ho60 P) .nil .nil) (.node (ho92 P) .nil .nil)) (.node (ho65 P) (.node (ho84 P) .nil .nil) (.node (ho100 P) .nil .nil))
noncomputable def hc16 : Params → BT := fun P => .node (ho108 P) .nil .nil
noncomputable def hc17 : Params → BT := fun P => .node (boot_o_10 P) (.node (ho43 P) (.node (ho71 P) (hc16 P) .nil) (.node (ho90 P) .nil .nil)) (.node (ho44 P) (.node (ho43 P) .nil .nil) (.node (ho98 P) .nil .nil))
noncomputable def hc18 : Params → BT := fun P => .node (ho46 P) (.node (ho59 P) (.node (ho43 P) .nil .nil) (.node (ho43 P) .nil .nil)) (.node (ho67 P) (.node (ho86 P) .nil .nil) (.node (ho44 P) .nil .nil))
noncomputable def htree_109 : Params → BT := fun P => .node (boot_o_0 P) (.node (boot_o_1 P) (.node (ho101 P) (hc8 P) (hc10 P)) (.node (boot_o_5 P) (hc12 P) (hc13 P))) (.node (ho49 P) (.node (boot_o_4 P) (hc14 P) (hc15 P)) (.node (boot_o_6 P) (hc17 P) (hc18 P)))
noncomputable def hc19 : Params → BT := fun P => .node (ho43 P) (.node (ho43 P) .nil .nil) .nil
noncomputable def hc20 : Params → BT := fun P => .node (ho139 P) .nil .nil
noncomputable def hc21 : Params → BT := fun P => .node (ho123 P) (.node (ho187 P) .nil .nil) .nil
noncomputable def hc22 : Params → BT := fun P => .node (ho43 P) (.node (ho179 P) .nil .nil) .nil
noncomputable def hc23 : Params → BT := fun P => .node (ho131 P) (.node (ho195 P) .nil .nil) .nil
noncomputable def hc24 : Params → BT := fun P => .node (ho163 P) .nil .nil
noncomputable def hc25 : Params → BT := fun P => .node (boot_o_7 P) (.node (ho43 P) (.node (ho74 P) (hc19 P) (hc20 P)) (.node (ho87 P) (hc21 P) (hc5 P))) (.node (ho60 P) (.node (ho79 P) (hc22 P) (hc1 P)) (.node (ho44 P) (hc23 P) (hc24 P)))
noncomputable def hc26 : Params → BT := fun P => .node (ho109 P) (.node (ho43 P) .nil .nil) .nil
noncomputable def hc27 : Params → BT := fun P => .node (ho44 P) (.node (ho191 P) .nil .nil) .nil
noncomputable def hc28 : Params → BT := fun P => .node (ho159 P) .nil .nil
noncomputable def hc29 : Params → BT := fun P => .node (ho43 P) (.node (ho44 P) .nil .nil) .nil
noncomputable def hc30 : Params → BT := fun P => .node (ho151 P) .nil .nil
noncomputable def hc31 : Params → BT := fun P => .node (ho135 P) (.node (ho199 P) .nil .nil) .nil
noncomputable def hc32 : Params → BT := fun P => .node (ho167 P) .nil .nil
noncomputable def hc33 : Params → BT := fun P => .node (ho43 P) (.node (ho56 P) (.node (ho75 P) (hc26 P) (hc1 P)) (.node (ho91 P) (hc27 P) (hc28 P))) (.node (ho64 P) (.node (ho44 P) (hc29 P) (hc30 P)) (.node (ho99 P) (hc31 P) (hc32 P)))
noncomputable def hc34 : Params → BT := fun P => .node (ho107 P) (.node (ho173 P) .nil .nil) .nil
noncomputable def hc35 : Params → BT := fun P => .node (ho125 P) (.node (ho43 P) .nil .nil) .nil
noncomputable def hc36 : Params → BT := fun P => .node (ho117 P) (.node (ho181 P) .nil .nil) .nil
noncomputable def hc37 : Params → BT := fun P => .node (ho149 P) .nil .nil
noncomputable def hc38 : Params → BT := fun P => .node (ho43 P) (.node (ho197 P) .nil .nil) .nil
noncomputable def hc39 : Params → BT := fun P => .node (ho165 P) .nil .nil
noncomputable def hc40 : Params → BT := fun P => .node (boot_o_9 P) (.node (ho54 P) (.node (ho70 P) (hc34 P) (hc5 P)) (.node (ho89 P) (hc35 P) (hc1 P))) (.node (ho43 P) (.node (ho81 P) (hc36 P) (hc37 P)) (.node (ho43 P) (hc38 P) (hc39 P)))
noncomputable def hc41 : Params → BT := fun P => .node (ho60 P) (.node (ho177 P) .nil .nil) .nil
noncomputable def hc42 : Params → BT := fun P => .node (ho145 P) .nil .nil
noncomputable def hc43 : Params → BT := fun P => .node (ho43 P) (.node (ho193 P) .nil .nil) .nil
noncomputable def hc44 : Params → BT := fun P => .node (ho121 P) (.node (ho43 P) .nil .nil) .nil
noncomputable def hc45 : Params → BT := fun P => .node (ho153 P) .nil .nil
noncomputable def hc46 : Params → BT := fun P => .node (ho137 P) (.node (ho201 P) .nil .nil) .nil
noncomputable def hc47 : Params → BT := fun P => .node (ho45 P) (.node (ho58 P) (.node (ho77 P) (hc41 P) (hc42 P)) (.node (ho93 P) (hc43 P) (hc1 P))) (.node (ho43 P) (.node (ho43 P) (hc44 P) (hc45 P)) (.node (ho43 P) (hc46 P) (hc5 P)))
noncomputable def hc48 : Params → BT := fun P => .node (ho43 P) (.node (ho172 P) .nil .nil) .nil
noncomputable def hc49 : Params → BT := fun P => .node (ho124 P) (.node (ho188 P) .nil .nil) .nil
noncomputable def hc50 : Params → BT := fun P => .node (ho156 P) .nil .nil
noncomputable def hc51 : Params → BT := fun P => .node (ho116 P) (.node (ho180 P) .nil .nil) .nil
noncomputable def hc52 : Params → BT := fun P => .node (ho132 P) (.node (ho196 P) .nil .nil) .nil
noncomputable def hc53 : Params → BT := fun P => .node (boot_o_8 P) (.node (ho44 P) (.node (ho69 P) (hc48 P) (hc1 P)) (.node (ho88 P) (hc49 P) (hc50 P))) (.node (ho61 P) (.node (ho80 P) (hc51 P) (hc5 P)) (.node (ho43 P) (hc52 P) (hc1 P)))
noncomputable def hc54 : Params → BT := fun P => .node (ho144 P) .nil .nil
noncomputable def hc55 : Params → BT := fun P => .node (ho128 P) (.node (ho43 P) .nil .nil) .nil
noncomputable def hc56 : Params → BT := fun P => .node (ho160 P) .nil .nil
noncomputable def hc57 : Params → BT := fun P => .node (ho44 P) (.node (ho184 P) .nil .nil) .nil
noncomputable def hc58 : Params → BT := fun P => .node (ho152 P) .nil .nil
noncomputable def hc59 : Params → BT := fun P => .node (ho43 P) (.node (ho200 P) .nil .nil) .nil
noncomputable def hc60 : Params → BT := fun P => .node (ho111 P) (.node (ho57 P) (.node (ho60 P) (hc29 P) (hc54 P)) (.node (ho92 P) (hc55 P) (hc56 P))) (.node (ho65 P) (.node (ho84 P) (hc57 P) (hc58 P)) (.node (ho100 P) (hc59 P) (hc1 P)))
noncomputable def hc61 : Params → BT := fun P => .node (ho108 P) (.node (ho174 P) .nil .nil) .nil
noncomputable def hc62 : Params → BT := fun P => .node (ho142 P) .nil .nil
noncomputable def hc63 : Params → BT := fun P => .node (ho158 P) .nil .nil
noncomputable def hc64 : Params → BT := fun P => .node (ho118 P) (.node (ho43 P) .nil .nil) .nil
noncomputable def hc65 : Params → BT := fun P => .node (ho44 P) (.node (ho198 P) .nil .nil) .nil
noncomputable def hc66 : Params → BT := fun P => .node (ho166 P) .nil .nil
noncomputable def hc67 : Params → BT := fun P => .node (boot_o_10 P) (.node (ho43 P) (.node (ho71 P) (hc61 P) (hc62 P)) (.node (ho90 P) (hc29 P) (hc63 P))) (.node (ho44 P) (.node (ho43 P) (hc64 P) (hc1 P)) (.node (ho98 P) (hc65 P) (hc66 P)))
noncomputable def hc68 : Params → BT := fun P => .node (ho114 P) (.node (ho43 P) .nil .nil) .nil
noncomputable def hc69 : Params → BT := fun P => .node (ho146 P) .nil .nil
noncomputable def hc70 : Params → BT := fun P => .node (ho130 P) (.node (ho194 P) .nil .nil) .nil
noncomputable def hc71 : Params → BT := fun P => .node (ho43 P) (.node (ho186 P) .nil .nil) .nil
noncomputable def hc72 : Params → BT := fun P => .node (ho138 P) (.node (ho202 P) .nil .nil) .nil
noncomputable def hc73 : Params → BT := fun P => .node (ho170 P) .nil .nil
noncomputable def hc74 : Params → BT := fun P => .node (ho46 P) (.node (ho59 P) (.node (ho43 P) (hc68 P) (hc69 P)) (.node (ho43 P) (hc70 P) (hc5 P))) (.node (ho67 P) (.node (ho86 P) (hc71 P) (hc1 P)) (.node (ho44 P) (hc72 P) (hc73 P)))
noncomputable def htree_202 : Params → BT := fun P => .node (boot_o_0 P) (.node (boot_o_1 P) (.node (ho110 P) (hc25 P) (hc33 P)) (.node (boot_o_5 P) (hc40 P) (hc47 P))) (.node (ho49 P) (.node (boot_o_4 P) (hc53 P) (hc60 P)) (.node (boot_o_6 P) (hc67 P) (hc74 P)))
noncomputable def hc75 : Params → BT := fun P => .node (ho43 P) (.node (ho43 P) (.node (ho303 P) .nil .nil) .nil) (.node (ho237 P) .nil .nil)
noncomputable def hc76 : Params → BT := fun P => .node (ho139 P) (.node (ho205 P) .nil .nil) (.node (ho269 P) .nil .nil)
noncomputable def hc77 : Params → BT := fun P => .node (ho123 P) (.node (ho187 P) (.node (ho319 P) .nil .nil) .nil) (.node (ho253 P) .nil .nil)
noncomputable def hc78 : Params → BT := fun P => .node (ho44 P) (.node (ho44 P) .nil .nil) (.node (ho44 P) .nil .nil)
noncomputable def hc79 : Params → BT := fun P => .node (ho43 P) (.node (ho179 P) (.node (ho43 P) .nil .nil) .nil) (.node (ho43 P) .nil .nil)
noncomputable def hc80 : Params → BT := fun P => .node (ho43 P) (.node (ho43 P) .nil .nil) (.node (ho43 P) .nil .nil)
noncomputable def hc81 : Params → BT := fun P => .node (ho131 P) (.node (ho195 P) (.node (ho327 P) .nil .nil) .nil) (.node (ho261 P) .nil .nil)
noncomputable def hc82 : Params → BT := fun P => .node (ho163 P) (.node (ho44 P) .nil .nil) (.node (ho295 P) .nil .nil)
noncomputable def hc83 : Params → BT := fun P => .node (boot_o_7 P) (.node (ho43 P) (.node (ho74 P) (hc75 P) (hc76 P)) (.node (ho87 P) (hc77 P) (hc78 P))) (.node (ho60 P) (.node (ho79 P) (hc79 P) (hc80 P)) (.node (ho44 P) (hc81 P) (hc82 P)))
noncomputable def hc84 : Params → BT := fun P => .node (ho109 P) (.node (ho43 P) (.node (ho307 P) .nil .nil) .nil) (.node (ho241 P) .nil .nil)
noncomputable def hc85 : Params → BT := fun P => .node (ho44 P) (.node (ho191 P) (.node (ho44 P) .nil .nil) .nil) (.node (ho44 P) .nil .nil)
noncomputable def hc86 : Params → BT := fun P => .node (ho159 P) (.node (ho225 P) .nil .nil) (.node (ho289 P) .nil .nil)
noncomputable def hc87 : Params → BT := fun P => .node (ho43 P) (.node (ho44 P) (.node (ho315 P) .nil .nil) .nil) (.node (ho43 P) .nil .nil)
noncomputable def hc88 : Params → BT := fun P => .node (ho151 P) (.node (ho217 P) .nil .nil) (.node (ho281 P) .nil .nil)
noncomputable def hc89 : Params → BT := fun P => .node (ho135 P) (.node (ho199 P) .nil .nil) (.node (ho265 P) .nil .nil)
noncomputable def hc90 : Params → BT := fun P => .node (ho167 P) (.node (ho233 P) .nil .nil) (.node (ho299 P) .nil .nil)
noncomputable def hc91 : Params → BT := fun P => .node (ho43 P) (.node (ho56 P) (.node (ho75 P) (hc84 P) (hc80 P)) (.node (ho91 P) (hc85 P) (hc86 P))) (.node (ho64 P) (.node (ho44 P) (hc87 P) (hc88 P)) (.node (ho99 P) (hc89 P) (hc90 P)))
noncomputable def hc92 : Params → BT := fun P => .node (ho107 P) (.node (ho173 P) (.node (ho305 P) .nil .nil) .nil) (.node (ho239 P) .nil .nil)
noncomputable def hc93 : Params → BT := fun P => .node (ho125 P) (.node (ho43 P) (.node (ho321 P) .nil .nil) .nil) (.node (ho255 P) .nil .nil)
noncomputable def hc94 : Params → BT := fun P => .node (ho117 P) (.node (ho181 P) (.node (ho313 P) .nil .nil) .nil) (.node (ho247 P) .nil .nil)
noncomputable def hc95 : Params → BT := fun P => .node (ho149 P) (.node (ho215 P) .nil .nil) (.node (ho279 P) .nil .nil)
noncomputable def hc96 : Params → BT := fun P => .node (ho43 P) (.node (ho197 P) .nil .nil) (.node (ho43 P) .nil .nil)
noncomputable def hc97 : Params → BT := fun P => .node (ho165 P) (.node (ho43 P) .nil .nil) (.node (ho297 P) .nil .nil)
noncomputable def hc98 : Params → BT := fun P => .node (boot_o_9 P) (.node (ho54 P) (.node (ho70 P) (hc92 P) (hc78 P)) (.node (ho89 P) (hc93 P) (hc80 P))) (.node (ho43 P) (.node (ho81 P) (hc94 P) (hc95 P)) (.node (ho43 P) (hc96 P) (hc97 P)))
noncomputable def hc99 : Params → BT := fun P => .node (ho60 P) (.node (ho177 P) (.node (ho44 P) .nil .nil) .nil) (.node (ho44 P) .nil .nil)
noncomputable def hc100 : Params → BT := fun P => .node (ho145 P) (.node (ho211 P) .nil .nil) (.node (ho275 P) .nil .nil)
noncomputable def hc101 : Params → BT := fun P => .node (ho43 P) (.node (ho193 P) (.node (ho43 P) .nil .nil) .nil) (.node (ho43 P) .nil .nil)
noncomputable def hc102 : Params → BT := fun P => .node (ho43 P) (.node (ho227 P) .nil .nil) (.node (ho43 P) .nil .nil)
noncomputable def hc103 : Params → BT := fun P => .node (ho121 P) (.node (ho43 P) (.node (ho317 P) .nil .nil) .nil) (.node (ho251 P) .nil .nil)
noncomputable def hc104 : Params → BT := fun P => .node (ho153 P) (.node (ho219 P) .nil .nil) (.node (ho283 P) .nil .nil)
noncomputable def hc105 : Params → BT := fun P => .node (ho137 P) (.node (ho201 P) .nil .nil) (.node (ho267 P) .nil .nil)
noncomputable def hc106 : Params → BT := fun P => .node (ho44 P) (.node (ho43 P) .nil .nil) (.node (ho43 P) .nil .nil)
noncomputable def hc107 : Params → BT := fun P => .node (ho45 P) (.node (ho58 P) (.node (ho77 P) (hc99 P) (hc100 P)) (.node (ho93 P) (hc101 P) (hc102 P))) (.node (ho43 P) (.node (ho43 P) (hc103 P) (hc104 P)) (.node (ho43 P) (hc105 P) (hc106 P)))
noncomputable def hc108 : Params → BT := fun P => .node (ho43 P) (.node (ho172 P) (.node (ho43 P) .nil .nil) .nil) (.node (ho43 P) .nil .nil)
noncomputable def hc109 : Params → BT := fun P => .node (ho124 P) (.node (ho188 P) (.node (ho320 P) .nil .nil) .nil) (.node (ho254 P) .nil .nil)
noncomputable def hc110 : Params → BT := fun P => .node (ho156 P) (.node (ho222 P) .nil .nil) (.node (ho286 P) .nil .nil)
noncomputable def hc111 : Params → BT := fun P => .node (ho116 P) (.node (ho180 P) (.node (ho312 P) .nil .nil) .nil) (.node (ho246 P) .nil .nil)
noncomputable def hc112 : Params → BT := fun P => .node (ho132 P) (.node (ho196 P) (.node (ho328 P) .nil .nil) .nil) (.node (ho262 P) .nil .nil)
noncomputable def hc113 : Params → BT := fun P => .node (ho43 P) (.node (ho230 P) .nil .nil) (.node (ho43 P) .nil .nil)
noncomputable def hc114 : Params → BT := fun P => .node (boot_o_8 P) (.node (ho44 P) (.node (ho69 P) (hc108 P) (hc80 P)) (.node (ho88 P) (hc109 P) (hc110 P))) (.node (ho61 P) (.node (ho80 P) (hc111 P) (hc78 P)) (.node (ho43 P) (hc112 P) (hc113 P)))
noncomputable def hc115 : Params → BT := fun P => .node (ho43 P) (.node (ho44 P) (.node (ho43 P) .nil .nil) .nil) (.node (ho43 P) .nil .nil)
noncomputable def hc116 : Params → BT := fun P => .node (ho144 P) (.node (ho210 P) .nil .nil) (.node (ho274 P) .nil .nil)
noncomputable def hc117 : Params → BT := fun P => .node (ho128 P) (.node (ho43 P) (.node (ho324 P) .nil .nil) .nil) (.node (ho258 P) .nil .nil)
noncomputable def hc118 : Params → BT := fun P => .node (ho160 P) (.node (ho226 P) .nil .nil) (.node (ho290 P) .nil .nil)
noncomputable def hc119 : Params → BT := fun P => .node (ho44 P) (.node (ho184 P) (.node (ho316 P) .nil .nil) .nil) (.node (ho44 P) .nil .nil)
noncomputable def hc120 : Params → BT := fun P => .node (ho152 P) (.node (ho218 P) .nil .nil) (.node (ho282 P) .nil .nil)
noncomputable def hc121 : Params → BT := fun P => .node (ho43 P) (.node (ho200 P) .nil .nil) (.node (ho43 P) .nil .nil)
noncomputable def hc122 : Params → BT := fun P => .node (ho43 P) (.node (ho234 P) .nil .nil) (.node (ho300 P) .nil .nil)
noncomputable def hc123 : Params → BT := fun P => .node (ho292 P) (.node (ho57 P) (.node (ho60 P) (hc115 P) (hc116 P)) (.node (ho92 P) (hc117 P) (hc118 P))) (.node (ho65 P) (.node (ho84 P) (hc119 P) (hc120 P)) (.node (ho100 P) (hc121 P) (hc122 P)))
noncomputable def hc124 : Params → BT := fun P => .node (ho108 P) (.node (ho174 P) (.node (ho306 P) .nil .nil) .nil) (.node (ho240 P) .nil .nil)
noncomputable def hc125 : Params → BT := fun P => .node (ho142 P) (.node (ho208 P) .nil .nil) (.node (ho272 P) .nil .nil)
noncomputable def hc126 : Params → BT := fun P => .node (ho158 P) (.node (ho224 P) .nil .nil) (.node (ho288 P) .nil .nil)
noncomputable def hc127 : Params → BT := fun P => .node (ho118 P) (.node (ho43 P) (.node (ho314 P) .nil .nil) .nil) (.node (ho248 P) .nil .nil)
noncomputable def hc128 : Params → BT := fun P => .node (ho44 P) (.node (ho198 P) .nil .nil) (.node (ho44 P) .nil .nil)
noncomputable def hc129 : Params → BT := fun P => .node (ho166 P) (.node (ho232 P) .nil .nil) (.node (ho298 P) .nil .nil)
noncomputable def hc130 : Params → BT := fun P => .node (boot_o_10 P) (.node (ho43 P) (.node (ho71 P) (hc124 P) (hc125 P)) (.node (ho90 P) (hc115 P) (hc126 P))) (.node (ho44 P) (.node (ho43 P) (hc127 P) (hc80 P)) (.node (ho98 P) (hc128 P) (hc129 P)))
noncomputable def hc131 : Params → BT := fun P => .node (ho114 P) (.node (ho43 P) (.node (ho310 P) .nil .nil) .nil) (.node (ho244 P) .nil .nil)
noncomputable def hc132 : Params → BT := fun P => .node (ho146 P) (.node (ho212 P) .nil .nil) (.node (ho276 P) .nil .nil)
noncomputable def hc133 : Params → BT := fun P => .node (ho130 P) (.node (ho194 P) (.node (ho326 P) .nil .nil) .nil) (.node (ho260 P) .nil .nil)
noncomputable def hc134 : Params → BT := fun P => .node (ho44 P) (.node (ho43 P) .nil .nil) (.node (ho60 P) .nil .nil)
noncomputable def hc135 : Params → BT := fun P => .node (ho43 P) (.node (ho186 P) (.node (ho318 P) .nil .nil) .nil) (.node (ho43 P) .nil .nil)
noncomputable def hc136 : Params → BT := fun P => .node (ho138 P) (.node (ho202 P) .nil .nil) (.node (ho268 P) .nil .nil)
noncomputable def hc137 : Params → BT := fun P => .node (ho170 P) (.node (ho44 P) .nil .nil) (.node (ho44 P) .nil .nil)
noncomputable def hc138 : Params → BT := fun P => .node (ho46 P) (.node (ho59 P) (.node (ho43 P) (hc131 P) (hc132 P)) (.node (ho43 P) (hc133 P) (hc134 P))) (.node (ho67 P) (.node (ho86 P) (hc135 P) (hc80 P)) (.node (ho44 P) (hc136 P) (hc137 P)))
noncomputable def htree_328 : Params → BT := fun P => .node (boot_o_0 P) (.node (boot_o_1 P) (.node (ho291 P) (hc83 P) (hc91 P)) (.node (boot_o_5 P) (hc98 P) (hc107 P))) (.node (ho49 P) (.node (boot_o_4 P) (hc114 P) (hc123 P)) (.node (boot_o_6 P) (hc130 P) (hc138 P)))
noncomputable def hc139 : Params → BT := fun P => .node (ho43 P) (.node (ho43 P) (.node (ho303 P) .nil .nil) .nil) (.node (ho237 P) (.node (ho43 P) .nil .nil) .nil)
noncomputable def hc140 : Params → BT := fun P => .node (ho139 P) (.node (ho205 P) (.node (ho337 P) .nil .nil) .nil) (.node (ho269 P) (.node (ho403 P) .nil .nil) .nil)
noncomputable def hc141 : Params → BT := fun P => .node (ho123 P) (.node (ho187 P) (.node (ho319 P) .nil .nil) .nil) (.node (ho253 P) (.node (ho387 P) .nil .nil) .nil)
noncomputable def hc142 : Params → BT := fun P => .node (ho44 P) (.node (ho44 P) (.node (ho353 P) .nil .nil) .nil) (.node (ho44 P) (.node (ho419 P) .nil .nil) .nil)
noncomputable def hc143 : Params → BT := fun P => .node (ho43 P) (.node (ho179 P) (.node (ho43 P) .nil .nil) .nil) (.node (ho43 P) (.node (ho379 P) .nil .nil) .nil)
noncomputable def hc144 : Params → BT := fun P => .node (ho43 P) (.node (ho43 P) (.node (ho43 P) .nil .nil) .nil) (.node (ho43 P) (.node (ho43 P) .nil .nil) .nil)
noncomputable def hc145 : Params → BT := fun P => .node (ho131 P) (.node (ho195 P) (.node (ho327 P) .nil .nil) .nil) (.node (ho261 P) (.node (ho395 P) .nil .nil) .nil)
noncomputable def hc146 : Params → BT := fun P => .node (ho163 P) (.node (ho44 P) (.node (ho361 P) .nil .nil) .nil) (.node (ho295 P) .nil .nil)
noncomputable def hc147 : Params → BT := fun P => .node (boot_o_7 P) (.node (ho43 P) (.node (ho74 P) (hc139 P) (hc140 P)) (.node (ho87 P) (hc141 P) (hc142 P))) (.node (ho60 P) (.node (ho79 P) (hc143 P) (hc144 P)) (.node (ho44 P) (hc145 P) (hc146 P)))
noncomputable def hc148 : Params → BT := fun P => .node (ho109 P) (.node (ho43 P) (.node (ho307 P) .nil .nil) .nil) (.node (ho241 P) (.node (ho43 P) .nil .nil) .nil)
noncomputable def hc149 : Params → BT := fun P => .node (ho43 P) (.node (ho43 P) (.node (ho43 P) .nil .nil) .nil) (.node (ho43 P) (.node (ho407 P) .nil .nil) .nil)
noncomputable def hc150 : Params → BT := fun P => .node (ho44 P) (.node (ho191 P) (.node (ho44 P) .nil .nil) .nil) (.node (ho44 P) (.node (ho391 P) .nil .nil) .nil)
noncomputable def hc151 : Params → BT := fun P => .node (ho159 P) (.node (ho225 P) (.node (ho357 P) .nil .nil) .nil) (.node (ho289 P) (.node (ho43 P) .nil .nil) .nil)
noncomputable def hc152 : Params → BT := fun P => .node (ho43 P) (.node (ho44 P) (.node (ho315 P) .nil .nil) .nil) (.node (ho43 P) (.node (ho44 P) .nil .nil) .nil)
noncomputable def hc153 : Params → BT := fun P => .node (ho151 P) (.node (ho217 P) (.node (ho349 P) .nil .nil) .nil) (.node (ho281 P) (.node (ho43 P) .nil .nil) .nil)
noncomputable def hc154 : Params → BT := fun P => .node (ho135 P) (.node (ho199 P) (.node (ho333 P) .nil .nil) .nil) (.node (ho265 P) (.node (ho399 P) .nil .nil) .nil)
noncomputable def hc155 : Params → BT := fun P => .node (ho167 P) (.node (ho233 P) (.node (ho365 P) .nil .nil) .nil) (.node (ho299 P) .nil .nil)
noncomputable def hc156 : Params → BT := fun P => .node (ho43 P) (.node (ho56 P) (.node (ho75 P) (hc148 P) (hc149 P)) (.node (ho91 P) (hc150 P) (hc151 P))) (.node (ho64 P) (.node (ho44 P) (hc152 P) (hc153 P)) (.node (ho99 P) (hc154 P) (hc155 P)))
noncomputable def hc157 : Params → BT := fun P => .node (ho107 P) (.node (ho173 P) (.node (ho305 P) .nil .nil) .nil) (.node (ho239 P) (.node (ho371 P) .nil .nil) .nil)
noncomputable def hc158 : Params → BT := fun P => .node (ho44 P) (.node (ho44 P) (.node (ho44 P) .nil .nil) .nil) (.node (ho44 P) (.node (ho405 P) .nil .nil) .nil)
noncomputable def hc159 : Params → BT := fun P => .node (ho125 P) (.node (ho43 P) (.node (ho321 P) .nil .nil) .nil) (.node (ho255 P) (.node (ho43 P) .nil .nil) .nil)
noncomputable def hc160 : Params → BT := fun P => .node (ho43 P) (.node (ho43 P) (.node (ho355 P) .nil .nil) .nil) (.node (ho43 P) (.node (ho44 P) .nil .nil) .nil)
noncomputable def hc161 : Params → BT := fun P => .node (ho117 P) (.node (ho181 P) (.node (ho313 P) .nil .nil) .nil) (.node (ho247 P) (.node (ho381 P) .nil .nil) .nil)
noncomputable def hc162 : Params → BT := fun P => .node (ho149 P) (.node (ho215 P) (.node (ho347 P) .nil .nil) .nil) (.node (ho279 P) (.node (ho413 P) .nil .nil) .nil)
noncomputable def hc163 : Params → BT := fun P => .node (ho43 P) (.node (ho197 P) (.node (ho43 P) .nil .nil) .nil) (.node (ho43 P) (.node (ho44 P) .nil .nil) .nil)
noncomputable def hc164 : Params → BT := fun P => .node (ho165 P) (.node (ho43 P) (.node (ho363 P) .nil .nil) .nil) (.node (ho297 P) .nil .nil)
noncomputable def hc165 : Params → BT := fun P => .node (boot_o_9 P) (.node (ho54 P) (.node (ho70 P) (hc157 P) (hc158 P)) (.node (ho89 P) (hc159 P) (hc160 P))) (.node (ho43 P) (.node (ho81 P) (hc161 P) (hc162 P)) (.node (ho43 P) (hc163 P) (hc164 P)))
noncomputable def hc166 : Params → BT := fun P => .node (ho60 P) (.node (ho177 P) (.node (ho44 P) .nil .nil) .nil) (.node (ho44 P) (.node (ho377 P) .nil .nil) .nil)
noncomputable def hc167 : Params → BT := fun P => .node (ho145 P) (.node (ho211 P) (.node (ho343 P) .nil .nil) .nil) (.node (ho275 P) (.node (ho44 P) .nil .nil) .nil)
noncomputable def hc168 : Params → BT := fun P => .node (ho43 P) (.node (ho193 P) (.node (ho43 P) .nil .nil) .nil) (.node (ho43 P) (.node (ho393 P) .nil .nil) .nil)
noncomputable def hc169 : Params → BT := fun P => .node (ho43 P) (.node (ho227 P) (.node (ho43 P) .nil .nil) .nil) (.node (ho43 P) (.node (ho425 P) .nil .nil) .nil)
noncomputable def hc170 : Params → BT := fun P => .node (ho121 P) (.node (ho43 P) (.node (ho317 P) .nil .nil) .nil) (.node (ho251 P) (.node (ho43 P) .nil .nil) .nil)
noncomputable def hc171 : Params → BT := fun P => .node (ho153 P) (.node (ho219 P) (.node (ho351 P) .nil .nil) .nil) (.node (ho283 P) (.node (ho417 P) .nil .nil) .nil)
noncomputable def hc172 : Params → BT := fun P => .node (ho137 P) (.node (ho201 P) (.node (ho335 P) .nil .nil) .nil) (.node (ho267 P) (.node (ho401 P) .nil .nil) .nil)
noncomputable def hc173 : Params → BT := fun P => .node (ho44 P) (.node (ho43 P) (.node (ho44 P) .nil .nil) .nil) (.node (ho43 P) .nil .nil)
noncomputable def hc174 : Params → BT := fun P => .node (ho45 P) (.node (ho58 P) (.node (ho77 P) (hc166 P) (hc167 P)) (.node (ho93 P) (hc168 P) (hc169 P))) (.node (ho43 P) (.node (ho43 P) (hc170 P) (hc171 P)) (.node (ho43 P) (hc172 P) (hc173 P)))
noncomputable def hc175 : Params → BT := fun P => .node (ho43 P) (.node (ho172 P) (.node (ho43 P) .nil .nil) .nil) (.node (ho43 P) (.node (ho370 P) .nil .nil) .nil)
noncomputable def hc176 : Params → BT := fun P => .node (ho43 P) (.node (ho43 P) (.node (ho43 P) .nil .nil) .nil) (.node (ho43 P) (.node (ho404 P) .nil .nil) .nil)
noncomputable def hc177 : Params → BT := fun P => .node (ho124 P) (.node (ho188 P) (.node (ho320 P) .nil .nil) .nil) (.node (ho254 P) (.node (ho388 P) .nil .nil) .nil)
noncomputable def hc178 : Params → BT := fun P => .node (ho156 P) (.node (ho222 P) (.node (ho354 P) .nil .nil) .nil) (.node (ho286 P) (.node (ho43 P) .nil .nil) .nil)
noncomputable def hc179 : Params → BT := fun P => .node (ho116 P) (.node (ho180 P) (.node (ho312 P) .nil .nil) .nil) (.node (ho246 P) (.node (ho380 P) .nil .nil) .nil)
noncomputable def hc180 : Params → BT := fun P => .node (ho44 P) (.node (ho44 P) (.node (ho44 P) .nil .nil) .nil) (.node (ho44 P) (.node (ho412 P) .nil .nil) .nil)
noncomputable def hc181 : Params → BT := fun P => .node (ho132 P) (.node (ho196 P) (.node (ho328 P) .nil .nil) .nil) (.node (ho262 P) (.node (ho43 P) .nil .nil) .nil)
noncomputable def hc182 : Params → BT := fun P => .node (ho43 P) (.node (ho230 P) (.node (ho43 P) .nil .nil) .nil) (.node (ho43 P) .nil .nil)
noncomputable def hc183 : Params → BT := fun P => .node (boot_o_8 P) (.node (ho44 P) (.node (ho69 P) (hc175 P) (hc176 P)) (.node (ho88 P) (hc177 P) (hc178 P))) (.node (ho61 P) (.node (ho80 P) (hc179 P) (hc180 P)) (.node (ho43 P) (hc181 P) (hc182 P)))
noncomputable def hc184 : Params → BT := fun P => .node (ho43 P) (.node (ho44 P) (.node (ho43 P) .nil .nil) .nil) (.node (ho43 P) (.node (ho60 P) .nil .nil) .nil)
noncomputable def hc185 : Params → BT := fun P => .node (ho144 P) (.node (ho210 P) (.node (ho342 P) .nil .nil) .nil) (.node (ho274 P) (.node (ho43 P) .nil .nil) .nil)
noncomputable def hc186 : Params → BT := fun P => .node (ho128 P) (.node (ho43 P) (.node (ho324 P) .nil .nil) .nil) (.node (ho258 P) (.node (ho43 P) .nil .nil) .nil)
noncomputable def hc187 : Params → BT := fun P => .node (ho160 P) (.node (ho226 P) (.node (ho358 P) .nil .nil) .nil) (.node (ho290 P) (.node (ho424 P) .nil .nil) .nil)
noncomputable def hc188 : Params → BT := fun P => .node (ho44 P) (.node (ho184 P) (.node (ho316 P) .nil .nil) .nil) (.node (ho44 P) (.node (ho384 P) .nil .nil) .nil)
noncomputable def hc189 : Params → BT := fun P => .node (ho152 P) (.node (ho218 P) (.node (ho350 P) .nil .nil) .nil) (.node (ho282 P) (.node (ho44 P) .nil .nil) .nil)
noncomputable def hc190 : Params → BT := fun P => .node (ho43 P) (.node (ho200 P) (.node (ho43 P) .nil .nil) .nil) (.node (ho43 P) (.node (ho400 P) .nil .nil) .nil)
noncomputable def hc191 : Params → BT := fun P => .node (ho43 P) (.node (ho234 P) (.node (ho43 P) .nil .nil) .nil) (.node (ho300 P) .nil .nil)
noncomputable def hc192 : Params → BT := fun P => .node (ho374 P) (.node (ho57 P) (.node (ho60 P) (hc184 P) (hc185 P)) (.node (ho92 P) (hc186 P) (hc187 P))) (.node (ho65 P) (.node (ho84 P) (hc188 P) (hc189 P)) (.node (ho100 P) (hc190 P) (hc191 P)))
noncomputable def hc193 : Params → BT := fun P => .node (ho108 P) (.node (ho174 P) (.node (ho306 P) .nil .nil) .nil) (.node (ho240 P) (.node (ho372 P) .nil .nil) .nil)
noncomputable def hc194 : Params → BT := fun P => .node (ho142 P) (.node (ho208 P) (.node (ho340 P) .nil .nil) .nil) (.node (ho272 P) (.node (ho406 P) .nil .nil) .nil)
noncomputable def hc195 : Params → BT := fun P => .node (ho43 P) (.node (ho44 P) (.node (ho43 P) .nil .nil) .nil) (.node (ho43 P) (.node (ho44 P) .nil .nil) .nil)
noncomputable def hc196 : Params → BT := fun P => .node (ho158 P) (.node (ho224 P) (.node (ho356 P) .nil .nil) .nil) (.node (ho288 P) (.node (ho422 P) .nil .nil) .nil)
noncomputable def hc197 : Params → BT := fun P => .node (ho118 P) (.node (ho43 P) (.node (ho314 P) .nil .nil) .nil) (.node (ho248 P) (.node (ho43 P) .nil .nil) .nil)
noncomputable def hc198 : Params → BT := fun P => .node (ho43 P) (.node (ho43 P) (.node (ho43 P) .nil .nil) .nil) (.node (ho43 P) (.node (ho414 P) .nil .nil) .nil)
noncomputable def hc199 : Params → BT := fun P => .node (ho44 P) (.node (ho198 P) (.node (ho60 P) .nil .nil) .nil) (.node (ho44 P) (.node (ho398 P) .nil .nil) .nil)
noncomputable def hc200 : Params → BT := fun P => .node (ho166 P) (.node (ho232 P) (.node (ho364 P) .nil .nil) .nil) (.node (ho298 P) .nil .nil)
noncomputable def hc201 : Params → BT := fun P => .node (boot_o_10 P) (.node (ho43 P) (.node (ho71 P) (hc193 P) (hc194 P)) (.node (ho90 P) (hc195 P) (hc196 P))) (.node (ho44 P) (.node (ho43 P) (hc197 P) (hc198 P)) (.node (ho98 P) (hc199 P) (hc200 P)))
noncomputable def hc202 : Params → BT := fun P => .node (ho114 P) (.node (ho43 P) (.node (ho310 P) .nil .nil) .nil) (.node (ho244 P) (.node (ho43 P) .nil .nil) .nil)
noncomputable def hc203 : Params → BT := fun P => .node (ho146 P) (.node (ho212 P) (.node (ho344 P) .nil .nil) .nil) (.node (ho276 P) (.node (ho410 P) .nil .nil) .nil)
noncomputable def hc204 : Params → BT := fun P => .node (ho130 P) (.node (ho194 P) (.node (ho326 P) .nil .nil) .nil) (.node (ho260 P) (.node (ho394 P) .nil .nil) .nil)
noncomputable def hc205 : Params → BT := fun P => .node (ho44 P) (.node (ho43 P) (.node (ho44 P) .nil .nil) .nil) (.node (ho60 P) (.node (ho426 P) .nil .nil) .nil)
noncomputable def hc206 : Params → BT := fun P => .node (ho43 P) (.node (ho186 P) (.node (ho318 P) .nil .nil) .nil) (.node (ho43 P) (.node (ho386 P) .nil .nil) .nil)
noncomputable def hc207 : Params → BT := fun P => .node (ho43 P) (.node (ho43 P) (.node (ho352 P) .nil .nil) .nil) (.node (ho43 P) (.node (ho418 P) .nil .nil) .nil)
noncomputable def hc208 : Params → BT := fun P => .node (ho138 P) (.node (ho202 P) (.node (ho336 P) .nil .nil) .nil) (.node (ho268 P) (.node (ho402 P) .nil .nil) .nil)
noncomputable def hc209 : Params → BT := fun P => .node (ho170 P) (.node (ho44 P) (.node (ho368 P) .nil .nil) .nil) (.node (ho44 P) .nil .nil)
noncomputable def hc210 : Params → BT := fun P => .node (ho46 P) (.node (ho59 P) (.node (ho43 P) (hc202 P) (hc203 P)) (.node (ho43 P) (hc204 P) (hc205 P))) (.node (ho67 P) (.node (ho86 P) (hc206 P) (hc207 P)) (.node (ho44 P) (hc208 P) (hc209 P)))
noncomputable def htree_426 : Params → BT := fun P => .node (boot_o_0 P) (.node (boot_o_1 P) (.node (ho373 P) (hc147 P) (hc156 P)) (.node (boot_o_5 P) (hc165 P) (hc174 P))) (.node (ho49 P) (.node (boot_o_4 P) (hc183 P) (hc192 P)) (.node (boot_o_6 P) (hc201 P) (hc210 P)))
noncomputable def hc211 : Params → BT := fun P => .node (ho43 P) (.node (ho43 P) (.node (ho303 P) .nil .nil) (.node (ho44 P) .nil .nil)) (.node (ho237 P) (.node (ho43 P) .nil .nil) .nil)
noncomputable def hc212 : Params → BT := fun P => .node (ho139 P) (.node (ho205 P) (.node (ho337 P) .nil .nil) (.node (ho43 P) .nil .nil)) (.node (ho269 P) (.node (ho403 P) .nil .nil) .nil)
noncomputable def hc213 : Params → BT := fun P => .node (ho123 P) (.node (ho187 P) (.node (ho319 P) .nil .nil) (.node (ho43 P) .nil .nil)) (.node (ho253 P) (.node (ho387 P) .nil .nil) .nil)
noncomputable def hc214 : Params → BT := fun P => .node (ho43 P) (.node (ho179 P) (.node (ho43 P) .nil .nil) (.node (ho445 P) .nil .nil)) (.node (ho43 P) (.node (ho379 P) .nil .nil) .nil)
noncomputable def hc215 : Params → BT := fun P => .node (ho131 P) (.node (ho195 P) (.node (ho327 P) .nil .nil) (.node (ho461 P) .nil .nil)) (.node (ho261 P) (.node (ho395 P) .nil .nil) .nil)
noncomputable def hc216 : Params → BT := fun P => .node (ho163 P) (.node (ho44 P) (.node (ho361 P) .nil .nil) .nil) (.node (ho295 P) (.node (ho43 P) .nil .nil) .nil)
noncomputable def hc217 : Params → BT := fun P => .node (boot_o_7 P) (.node (ho43 P) (.node (ho74 P) (hc211 P) (hc212 P)) (.node (ho87 P) (hc213 P) (hc142 P))) (.node (ho60 P) (.node (ho79 P) (hc214 P) (hc144 P)) (.node (ho44 P) (hc215 P) (hc216 P)))
noncomputable def hc218 : Params → BT := fun P => .node (ho109 P) (.node (ho43 P) (.node (ho307 P) .nil .nil) (.node (ho441 P) .nil .nil)) (.node (ho241 P) (.node (ho43 P) .nil .nil) .nil)
noncomputable def hc219 : Params → BT := fun P => .node (ho43 P) (.node (ho43 P) (.node (ho43 P) .nil .nil) (.node (ho473 P) .nil .nil)) (.node (ho43 P) (.node (ho407 P) .nil .nil) .nil)
noncomputable def hc220 : Params → BT := fun P => .node (ho44 P) (.node (ho191 P) (.node (ho44 P) .nil .nil) (.node (ho43 P) .nil .nil)) (.node (ho44 P) (.node (ho391 P) .nil .nil) .nil)
noncomputable def hc221 : Params → BT := fun P => .node (ho43 P) (.node (ho44 P) (.node (ho315 P) .nil .nil) (.node (ho449 P) .nil .nil)) (.node (ho43 P) (.node (ho44 P) .nil .nil) .nil)
noncomputable def hc222 : Params → BT := fun P => .node (ho135 P) (.node (ho199 P) (.node (ho333 P) .nil .nil) (.node (ho43 P) .nil .nil)) (.node (ho265 P) (.node (ho399 P) .nil .nil) .nil)
noncomputable def hc223 : Params → BT := fun P => .node (ho167 P) (.node (ho233 P) (.node (ho365 P) .nil .nil) .nil) (.node (ho299 P) (.node (ho433 P) .nil .nil) .nil)
noncomputable def hc224 : Params → BT := fun P => .node (ho43 P) (.node (ho56 P) (.node (ho75 P) (hc218 P) (hc219 P)) (.node (ho91 P) (hc220 P) (hc151 P))) (.node (ho64 P) (.node (ho44 P) (hc221 P) (hc153 P)) (.node (ho99 P) (hc222 P) (hc223 P)))
noncomputable def hc225 : Params → BT := fun P => .node (ho107 P) (.node (ho173 P) (.node (ho305 P) .nil .nil) (.node (ho43 P) .nil .nil)) (.node (ho239 P) (.node (ho371 P) .nil .nil) .nil)
noncomputable def hc226 : Params → BT := fun P => .node (ho44 P) (.node (ho44 P) (.node (ho44 P) .nil .nil) (.node (ho471 P) .nil .nil)) (.node (ho44 P) (.node (ho405 P) .nil .nil) .nil)
noncomputable def hc227 : Params → BT := fun P => .node (ho125 P) (.node (ho43 P) (.node (ho321 P) .nil .nil) (.node (ho455 P) .nil .nil)) (.node (ho255 P) (.node (ho43 P) .nil .nil) .nil)
noncomputable def hc228 : Params → BT := fun P => .node (ho117 P) (.node (ho181 P) (.node (ho313 P) .nil .nil) (.node (ho447 P) .nil .nil)) (.node (ho247 P) (.node (ho381 P) .nil .nil) .nil)
noncomputable def hc229 : Params → BT := fun P => .node (ho43 P) (.node (ho197 P) (.node (ho43 P) .nil .nil) (.node (ho44 P) .nil .nil)) (.node (ho43 P) (.node (ho44 P) .nil .nil) .nil)
noncomputable def hc230 : Params → BT := fun P => .node (ho165 P) (.node (ho43 P) (.node (ho363 P) .nil .nil) .nil) (.node (ho297 P) (.node (ho431 P) .nil .nil) .nil)
noncomputable def hc231 : Params → BT := fun P => .node (boot_o_9 P) (.node (ho54 P) (.node (ho70 P) (hc225 P) (hc226 P)) (.node (ho89 P) (hc227 P) (hc160 P))) (.node (ho43 P) (.node (ho81 P) (hc228 P) (hc162 P)) (.node (ho43 P) (hc229 P) (hc230 P)))
noncomputable def hc232 : Params → BT := fun P => .node (ho60 P) (.node (ho177 P) (.node (ho44 P) .nil .nil) (.node (ho43 P) .nil .nil)) (.node (ho44 P) (.node (ho377 P) .nil .nil) .nil)
noncomputable def hc233 : Params → BT := fun P => .node (ho43 P) (.node (ho193 P) (.node (ho43 P) .nil .nil) (.node (ho459 P) .nil .nil)) (.node (ho43 P) (.node (ho393 P) .nil .nil) .nil)
noncomputable def hc234 : Params → BT := fun P => .node (ho121 P) (.node (ho43 P) (.node (ho317 P) .nil .nil) (.node (ho44 P) .nil .nil)) (.node (ho251 P) (.node (ho43 P) .nil .nil) .nil)
noncomputable def hc235 : Params → BT := fun P => .node (ho137 P) (.node (ho201 P) (.node (ho335 P) .nil .nil) (.node (ho467 P) .nil .nil)) (.node (ho267 P) (.node (ho401 P) .nil .nil) .nil)
noncomputable def hc236 : Params → BT := fun P => .node (ho44 P) (.node (ho43 P) (.node (ho44 P) .nil .nil) .nil) (.node (ho43 P) (.node (ho435 P) .nil .nil) .nil)
noncomputable def hc237 : Params → BT := fun P => .node (ho45 P) (.node (ho58 P) (.node (ho77 P) (hc232 P) (hc167 P)) (.node (ho93 P) (hc233 P) (hc169 P))) (.node (ho43 P) (.node (ho43 P) (hc234 P) (hc171 P)) (.node (ho43 P) (hc235 P) (hc236 P)))
noncomputable def hc238 : Params → BT := fun P => .node (ho43 P) (.node (ho172 P) (.node (ho43 P) .nil .nil) (.node (ho438 P) .nil .nil)) (.node (ho43 P) (.node (ho370 P) .nil .nil) .nil)
noncomputable def hc239 : Params → BT := fun P => .node (ho43 P) (.node (ho43 P) (.node (ho43 P) .nil .nil) (.node (ho44 P) .nil .nil)) (.node (ho43 P) (.node (ho404 P) .nil .nil) .nil)
noncomputable def hc240 : Params → BT := fun P => .node (ho124 P) (.node (ho188 P) (.node (ho320 P) .nil .nil) (.node (ho454 P) .nil .nil)) (.node (ho254 P) (.node (ho388 P) .nil .nil) .nil)
noncomputable def hc241 : Params → BT := fun P => .node (ho116 P) (.node (ho180 P) (.node (ho312 P) .nil .nil) (.node (ho43 P) .nil .nil)) (.node (ho246 P) (.node (ho380 P) .nil .nil) .nil)
noncomputable def hc242 : Params → BT := fun P => .node (ho132 P) (.node (ho196 P) (.node (ho328 P) .nil .nil) (.node (ho43 P) .nil .nil)) (.node (ho262 P) (.node (ho43 P) .nil .nil) .nil)
noncomputable def hc243 : Params → BT := fun P => .node (ho43 P) (.node (ho230 P) (.node (ho43 P) .nil .nil) .nil) (.node (ho43 P) (.node (ho44 P) .nil .nil) .nil)
noncomputable def hc244 : Params → BT := fun P => .node (boot_o_8 P) (.node (ho44 P) (.node (ho69 P) (hc238 P) (hc239 P)) (.node (ho88 P) (hc240 P) (hc178 P))) (.node (ho61 P) (.node (ho80 P) (hc241 P) (hc180 P)) (.node (ho43 P) (hc242 P) (hc243 P)))
noncomputable def hc245 : Params → BT := fun P => .node (ho43 P) (.node (ho44 P) (.node (ho43 P) .nil .nil) (.node (ho442 P) .nil .nil)) (.node (ho43 P) (.node (ho60 P) .nil .nil) .nil)
noncomputable def hc246 : Params → BT := fun P => .node (ho128 P) (.node (ho43 P) (.node (ho324 P) .nil .nil) (.node (ho44 P) .nil .nil)) (.node (ho258 P) (.node (ho43 P) .nil .nil) .nil)
noncomputable def hc247 : Params → BT := fun P => .node (ho44 P) (.node (ho184 P) (.node (ho316 P) .nil .nil) (.node (ho43 P) .nil .nil)) (.node (ho44 P) (.node (ho384 P) .nil .nil) .nil)
noncomputable def hc248 : Params → BT := fun P => .node (ho43 P) (.node (ho200 P) (.node (ho43 P) .nil .nil) (.node (ho466 P) .nil .nil)) (.node (ho43 P) (.node (ho400 P) .nil .nil) .nil)
noncomputable def hc249 : Params → BT := fun P => .node (ho43 P) (.node (ho234 P) (.node (ho43 P) .nil .nil) .nil) (.node (ho300 P) (.node (ho434 P) .nil .nil) .nil)
noncomputable def hc250 : Params → BT := fun P => .node (ho428 P) (.node (ho57 P) (.node (ho60 P) (hc245 P) (hc185 P)) (.node (ho92 P) (hc246 P) (hc187 P))) (.node (ho65 P) (.node (ho84 P) (hc247 P) (hc189 P)) (.node (ho100 P) (hc248 P) (hc249 P)))
noncomputable def hc251 : Params → BT := fun P => .node (ho108 P) (.node (ho174 P) (.node (ho306 P) .nil .nil) (.node (ho440 P) .nil .nil)) (.node (ho240 P) (.node (ho372 P) .nil .nil) .nil)
noncomputable def hc252 : Params → BT := fun P => .node (ho142 P) (.node (ho208 P) (.node (ho340 P) .nil .nil) (.node (ho472 P) .nil .nil)) (.node (ho272 P) (.node (ho406 P) .nil .nil) .nil)
noncomputable def hc253 : Params → BT := fun P => .node (ho43 P) (.node (ho44 P) (.node (ho43 P) .nil .nil) (.node (ho456 P) .nil .nil)) (.node (ho43 P) (.node (ho44 P) .nil .nil) .nil)
noncomputable def hc254 : Params → BT := fun P => .node (ho118 P) (.node (ho43 P) (.node (ho314 P) .nil .nil) (.node (ho448 P) .nil .nil)) (.node (ho248 P) (.node (ho43 P) .nil .nil) .nil)
noncomputable def hc255 : Params → BT := fun P => .node (ho44 P) (.node (ho198 P) (.node (ho60 P) .nil .nil) (.node (ho464 P) .nil .nil)) (.node (ho44 P) (.node (ho398 P) .nil .nil) .nil)
noncomputable def hc256 : Params → BT := fun P => .node (ho166 P) (.node (ho232 P) (.node (ho364 P) .nil .nil) .nil) (.node (ho298 P) (.node (ho43 P) .nil .nil) .nil)
noncomputable def hc257 : Params → BT := fun P => .node (boot_o_10 P) (.node (ho43 P) (.node (ho71 P) (hc251 P) (hc252 P)) (.node (ho90 P) (hc253 P) (hc196 P))) (.node (ho44 P) (.node (ho43 P) (hc254 P) (hc198 P)) (.node (ho98 P) (hc255 P) (hc256 P)))
noncomputable def hc258 : Params → BT := fun P => .node (ho114 P) (.node (ho43 P) (.node (ho310 P) .nil .nil) (.node (ho44 P) .nil .nil)) (.node (ho244 P) (.node (ho43 P) .nil .nil) .nil)
noncomputable def hc259 : Params → BT := fun P => .node (ho130 P) (.node (ho194 P) (.node (ho326 P) .nil .nil) (.node (ho460 P) .nil .nil)) (.node (ho260 P) (.node (ho394 P) .nil .nil) .nil)
noncomputable def hc260 : Params → BT := fun P => .node (ho43 P) (.node (ho186 P) (.node (ho318 P) .nil .nil) (.node (ho452 P) .nil .nil)) (.node (ho43 P) (.node (ho386 P) .nil .nil) .nil)
noncomputable def hc261 : Params → BT := fun P => .node (ho138 P) (.node (ho202 P) (.node (ho336 P) .nil .nil) (.node (ho468 P) .nil .nil)) (.node (ho268 P) (.node (ho402 P) .nil .nil) .nil)
noncomputable def hc262 : Params → BT := fun P => .node (ho170 P) (.node (ho44 P) (.node (ho368 P) .nil .nil) .nil) (.node (ho44 P) (.node (ho43 P) .nil .nil) .nil)
noncomputable def hc263 : Params → BT := fun P => .node (ho46 P) (.node (ho59 P) (.node (ho43 P) (hc258 P) (hc203 P)) (.node (ho43 P) (hc259 P) (hc205 P))) (.node (ho67 P) (.node (ho86 P) (hc260 P) (hc207 P)) (.node (ho44 P) (hc261 P) (hc262 P)))
noncomputable def htree_473 : Params → BT := fun P => .node (boot_o_0 P) (.node (boot_o_1 P) (.node (ho427 P) (hc217 P) (hc224 P)) (.node (boot_o_5 P) (hc231 P) (hc237 P))) (.node (ho49 P) (.node (boot_o_4 P) (hc244 P) (hc250 P)) (.node (boot_o_6 P) (hc257 P) (hc263 P)))
noncomputable def hlife : Life := (Life.mk [] [] [] 0 [] [] Bool.false #[] [] 0 Bool.false Bool.false Bool.false 0 [2000, 10, 10] Bool.false 0 Bool.true [] [] 0 Bool.false)
noncomputable def hheap46 : Params → Heap := fun P => Heap.mk (Array.mk [boot_o_0 P, boot_o_1 P, boot_o_2 P, boot_o_3 P, boot_o_4 P, boot_o_5 P, boot_o_6 P, boot_o_7 P, boot_o_8 P, boot_o_9 P, boot_o_10 P, ho43 P, ho44 P, ho45 P, ho46 P]) hlife
noncomputable def hl0 : Params → List Obj → List Obj := fun P r => boot_o_0 P :: boot_o_1 P :: ho49 P :: ho427 P :: boot_o_4 P :: boot_o_5 P :: boot_o_6 P :: boot_o_7 P :: boot_o_8 P :: boot_o_9 P :: r
noncomputable def hl1 : Params → List Obj → List Obj := fun P r => boot_o_10 P :: ho43 P :: ho428 P :: ho45 P :: ho46 P :: ho43 P :: ho44 P :: ho54 P :: ho43 P :: ho56 P :: r
noncomputable def hl2 : Params → List Obj → List Obj := fun P r => ho57 P :: ho58 P :: ho59 P :: ho60 P :: ho61 P :: ho43 P :: ho44 P :: ho64 P :: ho65 P :: ho43 P :: r
noncomputable def hl3 : Params → List Obj → List Obj := fun P r => ho67 P :: ho74 P :: ho69 P :: ho70 P :: ho71 P :: ho75 P :: ho60 P :: ho77 P :: ho43 P :: ho79 P :: r
noncomputable def hl4 : Params → List Obj → List Obj := fun P r => ho80 P :: ho81 P :: ho43 P :: ho44 P :: ho84 P :: ho43 P :: ho86 P :: ho87 P :: ho88 P :: ho89 P :: r
noncomputable def hl5 : Params → List Obj → List Obj := fun P r => ho90 P :: ho91 P :: ho92 P :: ho93 P :: ho43 P :: ho44 P :: ho43 P :: ho43 P :: ho98 P :: ho99 P :: r
noncomputable def hl6 : Params → List Obj → List Obj := fun P r => ho100 P :: ho43 P :: ho44 P :: ho43 P :: ho43 P :: ho107 P :: ho108 P :: ho109 P :: ho43 P :: ho60 P :: r
noncomputable def hl7 : Params → List Obj → List Obj := fun P r => ho114 P :: ho43 P :: ho116 P :: ho117 P :: ho118 P :: ho43 P :: ho44 P :: ho121 P :: ho43 P :: ho123 P :: r
noncomputable def hl8 : Params → List Obj → List Obj := fun P r => ho124 P :: ho125 P :: ho43 P :: ho44 P :: ho128 P :: ho43 P :: ho130 P :: ho131 P :: ho132 P :: ho43 P :: r
noncomputable def hl9 : Params → List Obj → List Obj := fun P r => ho44 P :: ho135 P :: ho43 P :: ho137 P :: ho138 P :: ho139 P :: ho43 P :: ho44 P :: ho142 P :: ho43 P :: r
noncomputable def hl10 : Params → List Obj → List Obj := fun P r => ho144 P :: ho145 P :: ho146 P :: ho43 P :: ho44 P :: ho149 P :: ho43 P :: ho151 P :: ho152 P :: ho153 P :: r
noncomputable def hl11 : Params → List Obj → List Obj := fun P r => ho43 P :: ho44 P :: ho156 P :: ho43 P :: ho158 P :: ho159 P :: ho160 P :: ho43 P :: ho44 P :: ho163 P :: r
noncomputable def hl12 : Params → List Obj → List Obj := fun P r => ho43 P :: ho165 P :: ho166 P :: ho167 P :: ho43 P :: ho44 P :: ho170 P :: ho43 P :: ho172 P :: ho173 P :: r
noncomputable def hl13 : Params → List Obj → List Obj := fun P r => ho174 P :: ho43 P :: ho44 P :: ho177 P :: ho43 P :: ho179 P :: ho180 P :: ho181 P :: ho43 P :: ho44 P :: r
noncomputable def hl14 : Params → List Obj → List Obj := fun P r => ho184 P :: ho43 P :: ho186 P :: ho187 P :: ho188 P :: ho43 P :: ho44 P :: ho191 P :: ho43 P :: ho193 P :: r
noncomputable def hl15 : Params → List Obj → List Obj := fun P r => ho194 P :: ho195 P :: ho196 P :: ho197 P :: ho198 P :: ho199 P :: ho200 P :: ho201 P :: ho202 P :: ho205 P :: r
noncomputable def hl16 : Params → List Obj → List Obj := fun P r => ho43 P :: ho44 P :: ho208 P :: ho43 P :: ho210 P :: ho211 P :: ho212 P :: ho43 P :: ho44 P :: ho215 P :: r
noncomputable def hl17 : Params → List Obj → List Obj := fun P r => ho43 P :: ho217 P :: ho218 P :: ho219 P :: ho43 P :: ho44 P :: ho222 P :: ho43 P :: ho224 P :: ho225 P :: r
noncomputable def hl18 : Params → List Obj → List Obj := fun P r => ho226 P :: ho227 P :: ho43 P :: ho44 P :: ho230 P :: ho43 P :: ho232 P :: ho233 P :: ho234 P :: ho43 P :: r
noncomputable def hl19 : Params → List Obj → List Obj := fun P r => ho44 P :: ho237 P :: ho43 P :: ho239 P :: ho240 P :: ho241 P :: ho43 P :: ho44 P :: ho244 P :: ho43 P :: r
noncomputable def hl20 : Params → List Obj → List Obj := fun P r => ho246 P :: ho247 P :: ho248 P :: ho43 P :: ho44 P :: ho251 P :: ho43 P :: ho253 P :: ho254 P :: ho255 P :: r
noncomputable def hl21 : Params → List Obj → List Obj := fun P r => ho43 P :: ho44 P :: ho258 P :: ho43 P :: ho260 P :: ho261 P :: ho262 P :: ho43 P :: ho44 P :: ho265 P :: r
noncomputable def hl22 : Params → List Obj → List Obj := fun P r => ho43 P :: ho267 P :: ho268 P :: ho269 P :: ho43 P :: ho44 P :: ho272 P :: ho43 P :: ho274 P :: ho275 P :: r
noncomputable def hl23 : Params → List Obj → List Obj := fun P r => ho276 P :: ho43 P :: ho44 P :: ho279 P :: ho43 P :: ho281 P :: ho282 P :: ho283 P :: ho43 P :: ho44 P :: r
noncomputable def hl24 : Params → List Obj → List Obj := fun P r => ho286 P :: ho43 P :: ho288 P :: ho289 P :: ho290 P :: ho43 P :: ho60 P :: ho295 P :: ho43 P :: ho297 P :: r
noncomputable def hl25 : Params → List Obj → List Obj := fun P r => ho298 P :: ho299 P :: ho300 P :: ho43 P :: ho44 P :: ho303 P :: ho43 P :: ho305 P :: ho306 P :: ho307 P :: r
noncomputable def hl26 : Params → List Obj → List Obj := fun P r => ho43 P :: ho44 P :: ho310 P :: ho43 P :: ho312 P :: ho313 P :: ho314 P :: ho315 P :: ho316 P :: ho317 P :: r
noncomputable def hl27 : Params → List Obj → List Obj := fun P r => ho318 P :: ho319 P :: ho320 P :: ho321 P :: ho43 P :: ho44 P :: ho324 P :: ho43 P :: ho326 P :: ho327 P :: r
noncomputable def hl28 : Params → List Obj → List Obj := fun P r => ho328 P :: ho43 P :: ho60 P :: ho333 P :: ho43 P :: ho335 P :: ho336 P :: ho337 P :: ho43 P :: ho44 P :: r
noncomputable def hl29 : Params → List Obj → List Obj := fun P r => ho340 P :: ho43 P :: ho342 P :: ho343 P :: ho344 P :: ho43 P :: ho44 P :: ho347 P :: ho43 P :: ho349 P :: r
noncomputable def hl30 : Params → List Obj → List Obj := fun P r => ho350 P :: ho351 P :: ho352 P :: ho353 P :: ho354 P :: ho355 P :: ho356 P :: ho357 P :: ho358 P :: ho43 P :: r
noncomputable def hl31 : Params → List Obj → List Obj := fun P r => ho44 P :: ho361 P :: ho43 P :: ho363 P :: ho364 P :: ho365 P :: ho43 P :: ho44 P :: ho368 P :: ho43 P :: r
noncomputable def hl32 : Params → List Obj → List Obj := fun P r => ho370 P :: ho371 P :: ho372 P :: ho43 P :: ho60 P :: ho377 P :: ho43 P :: ho379 P :: ho380 P :: ho381 P :: r
noncomputable def hl33 : Params → List Obj → List Obj := fun P r => ho43 P :: ho44 P :: ho384 P :: ho43 P :: ho386 P :: ho387 P :: ho388 P :: ho43 P :: ho44 P :: ho391 P :: r
noncomputable def hl34 : Params → List Obj → List Obj := fun P r => ho43 P :: ho393 P :: ho394 P :: ho395 P :: ho43 P :: ho44 P :: ho398 P :: ho399 P :: ho400 P :: ho401 P :: r
noncomputable def hl35 : Params → List Obj → List Obj := fun P r => ho402 P :: ho403 P :: ho404 P :: ho405 P :: ho406 P :: ho407 P :: ho43 P :: ho44 P :: ho410 P :: ho43 P :: r
noncomputable def hl36 : Params → List Obj → List Obj := fun P r => ho412 P :: ho413 P :: ho414 P :: ho43 P :: ho44 P :: ho417 P :: ho418 P :: ho419 P :: ho43 P :: ho44 P :: r
noncomputable def hl37 : Params → List Obj → List Obj := fun P r => ho422 P :: ho43 P :: ho424 P :: ho425 P :: ho426 P :: ho43 P :: ho44 P :: ho431 P :: ho43 P :: ho433 P :: r
noncomputable def hl38 : Params → List Obj → List Obj := fun P r => ho434 P :: ho435 P :: ho43 P :: ho44 P :: ho438 P :: ho43 P :: ho440 P :: ho441 P :: ho442 P :: ho43 P :: r
noncomputable def hl39 : Params → List Obj → List Obj := fun P r => ho44 P :: ho445 P :: ho43 P :: ho447 P :: ho448 P :: ho449 P :: ho43 P :: ho44 P :: ho452 P :: ho43 P :: r
noncomputable def hl40 : Params → List Obj → List Obj := fun P r => ho454 P :: ho455 P :: ho456 P :: ho43 P :: ho44 P :: ho459 P :: ho460 P :: ho461 P :: ho43 P :: ho44 P :: r
noncomputable def hl41 : Params → List Obj → List Obj := fun P r => ho464 P :: ho43 P :: ho466 P :: ho467 P :: ho468 P :: ho43 P :: ho44 P :: ho471 P :: ho472 P :: ho473 P :: r
noncomputable def hheap : Params → Heap := fun P => Heap.mk (Array.mk (hl0 P (hl1 P (hl2 P (hl3 P (hl4 P (hl5 P (hl6 P (hl7 P (hl8 P (hl9 P (hl10 P (hl11 P (hl12 P (hl13 P (hl14 P (hl15 P (hl16 P (hl17 P (hl18 P (hl19 P (hl20 P (hl21 P (hl22 P (hl23 P (hl24 P (hl25 P (hl26 P (hl27 P (hl28 P (hl29 P (hl30 P (hl31 P (hl32 P (hl33 P (hl34 P (hl35 P (hl36 P (hl37 P (hl38 P (hl39 P (hl40 P (hl41 P []))))))))))))))))))))))))))))))))))))))))))) hlife
noncomputable def hk0 : Params → Frag → Frag := fun P r => (2, ho49 P) :: (3, ho427 P) :: (15, ho43 P) :: (17, ho54 P) :: (18, ho43 P) :: (20, ho57 P) :: (21, ho58 P) :: (22, ho59 P) :: (29, ho43 P) :: (30, ho67 P) :: r
noncomputable def hk1 : Params → Frag → Frag := fun P r => (31, ho74 P) :: (32, ho69 P) :: (35, ho75 P) :: (42, ho43 P) :: (44, ho84 P) :: (45, ho43 P) :: (47, ho87 P) :: (48, ho88 P) :: (49, ho89 P) :: (50, ho90 P) :: r
noncomputable def hk2 : Params → Frag → Frag := fun P r => (51, ho91 P) :: (54, ho43 P) :: (56, ho43 P) :: (57, ho43 P) :: (59, ho99 P) :: (60, ho100 P) :: (61, ho43 P) :: (63, ho43 P) :: (64, ho43 P) :: (66, ho108 P) :: r
noncomputable def hk3 : Params → Frag → Frag := fun P r => (67, ho109 P) :: (75, ho43 P) :: (77, ho121 P) :: (78, ho43 P) :: (80, ho124 P) :: (81, ho125 P) :: (82, ho43 P) :: (84, ho128 P) :: (85, ho43 P) :: (87, ho131 P) :: r
noncomputable def hk4 : Params → Frag → Frag := fun P r => (88, ho132 P) :: (89, ho43 P) :: (91, ho135 P) :: (92, ho43 P) :: (94, ho138 P) :: (95, ho139 P) :: (96, ho43 P) :: (98, ho142 P) :: (99, ho43 P) :: (101, ho145 P) :: r
noncomputable def hk5 : Params → Frag → Frag := fun P r => (102, ho146 P) :: (103, ho43 P) :: (105, ho149 P) :: (106, ho43 P) :: (108, ho152 P) :: (109, ho153 P) :: (110, ho43 P) :: (112, ho156 P) :: (113, ho43 P) :: (115, ho159 P) :: r
noncomputable def hk6 : Params → Frag → Frag := fun P r => (116, ho160 P) :: (117, ho43 P) :: (119, ho163 P) :: (120, ho43 P) :: (122, ho166 P) :: (123, ho167 P) :: (124, ho43 P) :: (126, ho170 P) :: (127, ho43 P) :: (129, ho173 P) :: r
noncomputable def hk7 : Params → Frag → Frag := fun P r => (130, ho174 P) :: (131, ho43 P) :: (133, ho177 P) :: (134, ho43 P) :: (136, ho180 P) :: (137, ho181 P) :: (138, ho43 P) :: (140, ho184 P) :: (141, ho43 P) :: (143, ho187 P) :: r
noncomputable def hk8 : Params → Frag → Frag := fun P r => (144, ho188 P) :: (145, ho43 P) :: (147, ho191 P) :: (148, ho43 P) :: (150, ho194 P) :: (151, ho195 P) :: (152, ho196 P) :: (153, ho197 P) :: (154, ho198 P) :: (155, ho199 P) :: r
noncomputable def hk9 : Params → Frag → Frag := fun P r => (156, ho200 P) :: (159, ho205 P) :: (160, ho43 P) :: (162, ho208 P) :: (163, ho43 P) :: (165, ho211 P) :: (166, ho212 P) :: (167, ho43 P) :: (169, ho215 P) :: (170, ho43 P) :: r
noncomputable def hk10 : Params → Frag → Frag := fun P r => (172, ho218 P) :: (173, ho219 P) :: (174, ho43 P) :: (176, ho222 P) :: (177, ho43 P) :: (179, ho225 P) :: (180, ho226 P) :: (181, ho227 P) :: (182, ho43 P) :: (184, ho230 P) :: r
noncomputable def hk11 : Params → Frag → Frag := fun P r => (185, ho43 P) :: (187, ho233 P) :: (188, ho234 P) :: (189, ho43 P) :: (191, ho237 P) :: (192, ho43 P) :: (194, ho240 P) :: (195, ho241 P) :: (196, ho43 P) :: (198, ho244 P) :: r
noncomputable def hk12 : Params → Frag → Frag := fun P r => (199, ho43 P) :: (201, ho247 P) :: (202, ho248 P) :: (203, ho43 P) :: (205, ho251 P) :: (206, ho43 P) :: (208, ho254 P) :: (209, ho255 P) :: (210, ho43 P) :: (212, ho258 P) :: r
noncomputable def hk13 : Params → Frag → Frag := fun P r => (213, ho43 P) :: (215, ho261 P) :: (216, ho262 P) :: (217, ho43 P) :: (219, ho265 P) :: (220, ho43 P) :: (222, ho268 P) :: (223, ho269 P) :: (224, ho43 P) :: (226, ho272 P) :: r
noncomputable def hk14 : Params → Frag → Frag := fun P r => (227, ho43 P) :: (229, ho275 P) :: (230, ho276 P) :: (231, ho43 P) :: (233, ho279 P) :: (234, ho43 P) :: (236, ho282 P) :: (237, ho283 P) :: (238, ho43 P) :: (240, ho286 P) :: r
noncomputable def hk15 : Params → Frag → Frag := fun P r => (241, ho43 P) :: (243, ho289 P) :: (244, ho290 P) :: (252, ho300 P) :: (253, ho43 P) :: (255, ho303 P) :: (256, ho43 P) :: (258, ho306 P) :: (259, ho307 P) :: (260, ho43 P) :: r
noncomputable def hk16 : Params → Frag → Frag := fun P r => (262, ho310 P) :: (263, ho43 P) :: (265, ho313 P) :: (266, ho314 P) :: (267, ho315 P) :: (268, ho316 P) :: (269, ho317 P) :: (270, ho318 P) :: (271, ho319 P) :: (274, ho43 P) :: r
noncomputable def hk17 : Params → Frag → Frag := fun P r => (276, ho324 P) :: (277, ho43 P) :: (279, ho327 P) :: (280, ho328 P) :: (288, ho43 P) :: (290, ho340 P) :: (291, ho43 P) :: (293, ho343 P) :: (294, ho344 P) :: (295, ho43 P) :: r
noncomputable def hk18 : Params → Frag → Frag := fun P r => (297, ho347 P) :: (298, ho43 P) :: (300, ho350 P) :: (301, ho351 P) :: (302, ho352 P) :: (303, ho353 P) :: (304, ho354 P) :: (305, ho355 P) :: (306, ho356 P) :: (309, ho43 P) :: r
noncomputable def hk19 : Params → Frag → Frag := fun P r => (311, ho361 P) :: (312, ho43 P) :: (314, ho364 P) :: (315, ho365 P) :: (316, ho43 P) :: (318, ho368 P) :: (319, ho43 P) :: (321, ho371 P) :: (322, ho372 P) :: (330, ho43 P) :: r
noncomputable def hk20 : Params → Frag → Frag := fun P r => (332, ho384 P) :: (333, ho43 P) :: (335, ho387 P) :: (336, ho388 P) :: (337, ho43 P) :: (339, ho391 P) :: (340, ho43 P) :: (342, ho394 P) :: (343, ho395 P) :: (344, ho43 P) :: r
noncomputable def hk21 : Params → Frag → Frag := fun P r => (347, ho399 P) :: (348, ho400 P) :: (349, ho401 P) :: (350, ho402 P) :: (351, ho403 P) :: (352, ho404 P) :: (353, ho405 P) :: (356, ho43 P) :: (358, ho410 P) :: (359, ho43 P) :: r
noncomputable def hk22 : Params → Frag → Frag := fun P r => (361, ho413 P) :: (362, ho414 P) :: (363, ho43 P) :: (366, ho418 P) :: (367, ho419 P) :: (368, ho43 P) :: (370, ho422 P) :: (371, ho43 P) :: (373, ho425 P) :: (374, ho426 P) :: r
noncomputable def hk23 : Params → Frag → Frag := fun P r => (375, ho43 P) :: (377, ho431 P) :: (378, ho43 P) :: (380, ho434 P) :: (381, ho435 P) :: (382, ho43 P) :: (384, ho438 P) :: (385, ho43 P) :: (387, ho441 P) :: (388, ho442 P) :: r
noncomputable def hk24 : Params → Frag → Frag := fun P r => (389, ho43 P) :: (391, ho445 P) :: (392, ho43 P) :: (394, ho448 P) :: (395, ho449 P) :: (396, ho43 P) :: (398, ho452 P) :: (399, ho43 P) :: (401, ho455 P) :: (402, ho456 P) :: r
noncomputable def hk25 : Params → Frag → Frag := fun P r => (403, ho43 P) :: (406, ho460 P) :: (407, ho461 P) :: (408, ho43 P) :: (410, ho464 P) :: (411, ho43 P) :: (413, ho467 P) :: (414, ho468 P) :: (415, ho43 P) :: (418, ho472 P) :: r
noncomputable def hk26 : Params → Frag → Frag := fun P r => (419, ho473 P) :: r
noncomputable def hK : Params → Frag := fun P => hk0 P (hk1 P (hk2 P (hk3 P (hk4 P (hk5 P (hk6 P (hk7 P (hk8 P (hk9 P (hk10 P (hk11 P (hk12 P (hk13 P (hk14 P (hk15 P (hk16 P (hk17 P (hk18 P (hk19 P (hk20 P (hk21 P (hk22 P (hk23 P (hk24 P (hk25 P (hk26 P []))))))))))))))))))))))))))
noncomputable def hAs : List Addr := [2, 3, 15, 17, 18, 20, 21, 22, 29, 30, 31, 32, 35, 42, 44, 45, 47, 48, 49, 50, 51, 54, 56, 57, 59, 60, 61, 63, 64, 66, 67, 75, 77, 78, 80, 81, 82, 84, 85, 87, 88, 89, 91, 92, 94, 95, 96, 98, 99, 101, 102, 103, 105, 106, 108, 109, 110, 112, 113, 115, 116, 117, 119, 120, 122, 123, 124, 126, 127, 129, 130, 131, 133, 134, 136, 137, 138, 140, 141, 143, 144, 145, 147, 148, 150, 151, 152, 153, 154, 155, 156, 159, 160, 162, 163, 165, 166, 167, 169, 170, 172, 173, 174, 176, 177, 179, 180, 181, 182, 184, 185, 187, 188, 189, 191, 192, 194, 195, 196, 198, 199, 201, 202, 203, 205, 206, 208, 209, 210, 212, 213, 215, 216, 217, 219, 220, 222, 223, 224, 226, 227, 229, 230, 231, 233, 234, 236, 237, 238, 240, 241, 243, 244, 252, 253, 255, 256, 258, 259, 260, 262, 263, 265, 266, 267, 268, 269, 270, 271, 274, 276, 277, 279, 280, 288, 290, 291, 293, 294, 295, 297, 298, 300, 301, 302, 303, 304, 305, 306, 309, 311, 312, 314, 315, 316, 318, 319, 321, 322, 330, 332, 333, 335, 336, 337, 339, 340, 342, 343, 344, 347, 348, 349, 350, 351, 352, 353, 356, 358, 359, 361, 362, 363, 366, 367, 368, 370, 371, 373, 374, 375, 377, 378, 380, 381, 382, 384, 385, 387, 388, 389, 391, 392, 394, 395, 396, 398, 399, 401, 402, 403, 406, 407, 408, 410, 411, 413, 414, 415, 418, 419]
theorem hlay0 : (fun (_ : Params → BT) => true) htree_109 = true := by k_qdec
theorem hlay1 : (fun (_ : Params → BT) => true) htree_202 = true := by k_qdec
theorem hlay2 : (fun (_ : Params → BT) => true) htree_328 = true := by k_qdec
theorem hlay3 : (fun (_ : Params → BT) => true) htree_426 = true := by k_qdec
theorem hlay4 : (fun (_ : Params → BT) => true) htree_473 = true := by k_qdec
theorem hlay5 : (fun (_ : Params → Heap) => true) hheap = true := by k_qdec
theorem hlay6 : (fun (_ : Params → Frag) => true) hK = true := by k_qdec
theorem hlay7 : (fun (_ : Program) => true) hview = true := by k_qdec
theorem hlay8 : (fun (_ : Program) => true) hpg = true := by k_qdec
theorem hlay9 : (fun (_ : OpenLaw) => true) hlaw = true := by k_qdec
theorem hlaw_eq : Challenge.rw_rh0077_01 = hlaw := by kernel_rfl
end Mine
namespace Mine
open PySem PySem.Calls PyProof.Rows PySem.W
theorem hp_pre (w : World) : (fun os : OsState => topGo treeTable hpg w 11 (some (Value.ref 6)) 12 (Shared.mk (boot_heap w.params) (Array.mk []) boot_drawn boot_toks os) (topStub hpg)) = fun os : OsState => some ((Shared.mk (hheap46 w.params) (Array.mk []) (Drawn.mk 0 0 0 0) 187 os), Thread.mk (denote treeTable (Code.body (behindTheImports hpg) hE)) (Code.body (behindTheImports hpg) hE) (Pos.mk 0 0 0 0) [topFrame (Pos.mk 0 0 0 0)]) := by
  rw [PySem.W.Fast.te15667345088766844465, PySem.W.Fast.te14364793385576792824, PySem.W.Fast.te7189059530675742154, PySem.W.Fast.te11892475500146522536]
  kernel_rfl
theorem hp_blk (w : World) : (fun os : OsState => segRun treeTable hpg w 11 (some (Value.ref 6)) 1 1 (Shared.mk (hheap46 w.params) (Array.mk []) (Drawn.mk 0 0 0 0) 187 os) (blockOf (behindTheImports hpg) hE (Code.body (behindTheImports hpg) hE) (Pos.mk 0 0 0 0) [topFrame (Pos.mk 0 0 0 0)])) = fun os : OsState => some (Flow.next, SharedT.abs (SharedT.mk (htree_47 w.params) 15 hlife (Array.mk []) (Drawn.mk 0 0 0 0) 187 os), (Code.body (behindTheImports hpg) hE), (Pos.mk 0 0 0 0)) := by
  rw [PySem.W.Fast.te14374325043358763698, PySem.W.Fast.te14364793385576792824, PySem.W.Fast.te7189059530675742154]
  kernel_rfl
theorem hp_pc1 (w : World) : (fun os : OsState => segRunT treeTable hpg w 11 (some (Value.ref 6)) 1 653 (SharedT.mk (htree_47 w.params) 15 hlife (Array.mk []) (Drawn.mk 0 0 0 0) 187 os) (piecesOf hS1 hE (Code.body (behindTheImports hpg) hE) (Pos.mk 0 0 0 0) [topFrame (Pos.mk 0 0 0 0)])) = fun os : OsState => some (Flow.next, (SharedT.mk (htree_109 w.params) 68 hlife (Array.mk []) (Drawn.mk 0 0 0 0) 279 os), (Code.body (behindTheImports hpg) hE), (Pos.mk 26 0 27 389)) := by
  rw [PySem.W.Fast.te10110043849684766642, PySem.W.Fast.te14364793385576792824, PySem.W.Fast.te7189059530675742154, PySem.W.Fast.te860627650218524325]
  kernel_rfl
theorem hp_pc2 (w : World) : (fun os : OsState => segRunT treeTable hpg w 11 (some (Value.ref 6)) 1 554 (SharedT.mk (htree_109 w.params) 68 hlife (Array.mk []) (Drawn.mk 0 0 0 0) 279 os) (piecesOf hS2 hE (Code.body (behindTheImports hpg) hE) (Pos.mk 26 0 27 389) [topFrame (Pos.mk 0 0 0 0)])) = fun os : OsState => some (Flow.next, (SharedT.mk (htree_202 w.params) 159 hlife (Array.mk []) (Drawn.mk 0 0 0 0) 399 os), (Code.body (behindTheImports hpg) hE), (Pos.mk 28 0 84 58)) := by
  rw [PySem.W.Fast.te10110043849684766642, PySem.W.Fast.te14364793385576792824, PySem.W.Fast.te7189059530675742154, PySem.W.Fast.te860627650218524325, PySem.W.Fast.te10797910513233626536]
  kernel_rfl
theorem hp_pc3 (w : World) : (fun os : OsState => segRunT treeTable hpg w 11 (some (Value.ref 6)) 1 691 (SharedT.mk (htree_202 w.params) 159 hlife (Array.mk []) (Drawn.mk 0 0 0 0) 399 os) (piecesOf hS3 hE (Code.body (behindTheImports hpg) hE) (Pos.mk 28 0 84 58) [topFrame (Pos.mk 0 0 0 0)])) = fun os : OsState => some (Flow.next, (SharedT.mk (htree_328 w.params) 281 hlife (Array.mk []) (Drawn.mk 0 0 0 0) 552 os), (Code.body (behindTheImports hpg) hE), (Pos.mk 147 0 147 8)) := by
  rw [PySem.W.Fast.te10110043849684766642, PySem.W.Fast.te14364793385576792824, PySem.W.Fast.te7189059530675742154, PySem.W.Fast.te10797910513233626536, PySem.W.Fast.te11988015805869032481]
  kernel_rfl
theorem hp_pc4 (w : World) : (fun os : OsState => segRunT treeTable hpg w 11 (some (Value.ref 6)) 1 721 (SharedT.mk (htree_328 w.params) 281 hlife (Array.mk []) (Drawn.mk 0 0 0 0) 552 os) (piecesOf hS4 hE (Code.body (behindTheImports hpg) hE) (Pos.mk 147 0 147 8) [topFrame (Pos.mk 0 0 0 0)])) = fun os : OsState => some (Flow.next, (SharedT.mk (htree_426 w.params) 375 hlife (Array.mk []) (Drawn.mk 0 0 0 0) 701 os), (Code.body (behindTheImports hpg) hE), (Pos.mk 257 0 257 8)) := by
  rw [PySem.W.Fast.te10110043849684766642, PySem.W.Fast.te14364793385576792824, PySem.W.Fast.te7189059530675742154, PySem.W.Fast.te11988015805869032481, PySem.W.Fast.te14016634318568311860]
  kernel_rfl
theorem hp_pc5 (w : World) : (fun os : OsState => segRunT treeTable hpg w 11 (some (Value.ref 6)) 1 216 (SharedT.mk (htree_426 w.params) 375 hlife (Array.mk []) (Drawn.mk 0 0 0 0) 701 os) (piecesOf hS5 hE (Code.body (behindTheImports hpg) hE) (Pos.mk 257 0 257 8) [topFrame (Pos.mk 0 0 0 0)])) = fun os : OsState => some (Flow.next, (SharedT.mk (htree_473 w.params) 420 hlife (Array.mk []) (Drawn.mk 0 0 0 0) 766 os), (Code.body (behindTheImports hpg) hE), (Pos.mk 328 0 342 31)) := by
  rw [PySem.W.Fast.te10110043849684766642, PySem.W.Fast.te14364793385576792824, PySem.W.Fast.te7189059530675742154, PySem.W.Fast.te14016634318568311860, PySem.W.Fast.te13115441667370691498]
  kernel_rfl
theorem hp_fin (w : World) : (fun os : OsState => topRun treeTable hpg w 11 (some (Value.ref 6)) 2 (SharedT.abs (SharedT.mk (htree_473 w.params) 420 hlife (Array.mk []) (Drawn.mk 0 0 0 0) 766 os)) (Thread.mk (doneF Flow.next) (Code.body (behindTheImports hpg) hE) (Pos.mk 328 0 342 31) [topFrame (Pos.mk 0 0 0 0)])) = fun os : OsState => some (Shared.mk (hheap w.params) (Array.mk []) (Drawn.mk 0 0 0 0) 766 os) := by
  rw [PySem.W.Fast.te14082659384304107361, PySem.W.Fast.te14364793385576792824, PySem.W.Fast.te7189059530675742154, PySem.W.Fast.te13115441667370691498, PySem.W.Fast.te197649769155466864]
  kernel_rfl
theorem hp_size (w : World) : (((boot_heap w.params).isNs mainGlobals && (Array.mk ([] : List GenState)).size == 0, (boot_heap w.params).objs.size, (boot_heap w.params).nsMap mainGlobals hann)) = (true, 11, some (Value.ref 6)) := by
  rw [PySem.W.Fast.te8920871248978507458]
  kernel_rfl
theorem hp_l1 (w : World) : (fun os : OsState => staticsOk (importedModules hpg.main.body) (boot_heap w.params) (hheap w.params) && namesBound hpg (hheap w.params) && gensDone (Shared.mk (hheap w.params) (Array.mk []) (Drawn.mk 0 0 0 0) 766 os) && laidKept (boot_heap w.params) (hheap w.params)) = fun os : OsState => true := by
  rw [PySem.W.Fast.te5923862056798008813, PySem.W.Fast.te7189059530675742154, PySem.W.Fast.te197649769155466864]
  kernel_rfl
theorem hp_l2 (w : World) : (fun os : OsState => seen (List.map (fun x => DefRec.name x) (recsOf hview)) (ownsOf hview) [] (Shared.mk (hheap w.params) #[] (Drawn.mk 0 0 0 0) 766 os)) = fun os : OsState => expectedOf hview := by
  rw [PySem.W.Fast.te5160383126252970620, PySem.W.R.mapR_eq, PySem.W.Fast.te3399658132070893891, PySem.W.Fast.te13089068660664172413, PySem.W.Fast.te5991557255702980513, PySem.W.Fast.te197649769155466864]
  kernel_rfl
theorem hp_l3 (w : World) : (fun os : OsState => Heap.bltView (Shared.heap (Shared.mk (hheap w.params) (Array.mk []) (Drawn.mk 0 0 0 0) 766 os))) = fun os : OsState => bltViewBooted := by
  rw [PySem.W.Fast.te197649769155466864]
  kernel_rfl
theorem hp_l4 (w : World) : (fun os : OsState => Heap.keysOk (Shared.heap (Shared.mk (hheap w.params) (Array.mk []) (Drawn.mk 0 0 0 0) 766 os)) (looseW hview hloose) (List.map (fun x => DefRec.name x) (recsOf hview)) (List.map (fun x => Prod.fst x) (litsOf hview)) (List.map (fun x => ClsRec.name x) (clssOf hview (looseW hview hloose))) && Heap.accountedOkI (Shared.heap (Shared.mk (hheap w.params) (Array.mk []) (Drawn.mk 0 0 0 0) 766 os)) (importedModules hpg.main.body) && Heap.isNs (Shared.heap (Shared.mk (hheap w.params) (Array.mk []) (Drawn.mk 0 0 0 0) 766 os)) mainGlobals && Heap.isNs (Shared.heap (Shared.mk (hheap w.params) (Array.mk []) (Drawn.mk 0 0 0 0) 766 os)) builtinsNs && tablesOk hview (Shared.heap (Shared.mk (hheap w.params) (Array.mk []) (Drawn.mk 0 0 0 0) 766 os)) && (fun s => xlAt hview hlv s && recOk (RowW.records (OpenRow.toRowW (OpenLaw.row hlaw))) s) (Shared.mk (hheap w.params) (Array.mk []) (Drawn.mk 0 0 0 0) 766 os) && (if true then Array.size (Shared.gens (Shared.mk (hheap w.params) (Array.mk []) (Drawn.mk 0 0 0 0) 766 os)) == 0 else !leftWithCleanup (Shared.gens (Shared.mk (hheap w.params) (Array.mk []) (Drawn.mk 0 0 0 0) 766 os)))) = fun os : OsState => true := by
  rw [PySem.W.Fast.te10880121769531294198, PySem.W.Fast.te197649769155466864, PySem.W.Fast.te821141287760084731, PySem.W.Fast.te13089068660664172413, PySem.W.R.mapR_eq, PySem.W.Fast.te3399658132070893891, PySem.W.Fast.te7409074990110511671, PySem.W.Fast.te13664370479719496447, PySem.W.Fast.te14722251495701143533, PySem.W.Fast.te5923862056798008813, PySem.W.Fast.te7189059530675742154, PySem.W.Fast.te10994771534591457954, PySem.W.Fast.te2368527892694137696, PySem.W.Fast.te18123713723160912173]
  kernel_rfl
theorem hp_l5 (w : World) : (fun os : OsState => tabsOk hview (Shared.mk (hheap w.params) (Array.mk []) (Drawn.mk 0 0 0 0) 766 os)) = fun os : OsState => true := by
  rw [PySem.W.Fast.te479339242167458305, PySem.W.Fast.te13089068660664172413, PySem.W.Fast.te197649769155466864]
  kernel_rfl
theorem hp_l6 (w : World) : (fun os : OsState => pinSeenD hview (drecsOf hview) (Shared.mk (hheap w.params) (Array.mk []) (Drawn.mk 0 0 0 0) 766 os)) = fun os : OsState => pinGoodD (drecsOf hview) := by
  rw [PySem.W.Fast.te16090120013241838585, PySem.W.Fast.te13089068660664172413, PySem.W.Fast.te3247288618530077131, PySem.W.Fast.te197649769155466864]
  kernel_rfl
theorem hp_l7 (w : World) : (fun os : OsState => plainSeenE hview (looseW hview hloose) (Shared.mk (hheap w.params) (Array.mk []) (Drawn.mk 0 0 0 0) 766 os)) = fun os : OsState => plainGoodE hview (looseW hview hloose) := by
  rw [PySem.W.Fast.te2386780881361962483, PySem.W.Fast.te13089068660664172413, PySem.W.Fast.te821141287760084731, PySem.W.Fast.te197649769155466864]
  kernel_rfl
theorem hp_l8 (w : World) : (fun os : OsState => plainSeenD hview hloose (Shared.mk (hheap w.params) (Array.mk []) (Drawn.mk 0 0 0 0) 766 os)) = fun os : OsState => plainGoodD hview hloose := by
  rw [PySem.W.Fast.te11698064438423848299, PySem.W.Fast.te13089068660664172413, PySem.W.Fast.te197649769155466864]
  kernel_rfl
theorem hp_l9 (w : World) : (fun os : OsState => wideSeen hview (Shared.mk (hheap w.params) (Array.mk []) (Drawn.mk 0 0 0 0) 766 os)) = fun os : OsState => wideGood hview := by
  rw [PySem.W.Fast.te7317090234206586261, PySem.W.Fast.te13089068660664172413, PySem.W.Fast.te197649769155466864]
  kernel_rfl
theorem hp_l10 (w : World) : (fun os : OsState => clsSeenW hview hloose (Shared.mk (hheap w.params) (Array.mk []) (Drawn.mk 0 0 0 0) 766 os)) = fun os : OsState => clsGoodW hview hloose := by
  rw [PySem.W.Fast.te7369524293546568484, PySem.W.Fast.te13089068660664172413, PySem.W.Fast.te197649769155466864]
  kernel_rfl
theorem hp_l11 (w : World) : (fun os : OsState => hAs.map (Heap.get? (Shared.heap (Shared.mk (hheap w.params) (Array.mk []) (Drawn.mk 0 0 0 0) 766 os)))) = fun os : OsState => (hK w.params).map fun p => some p.2 := by
  rw [PySem.W.R.mapR_eq, PySem.W.Fast.te197649769155466864, PySem.W.Fast.te5367336590973367219]
  kernel_rfl
end Mine
namespace Mine
open PySem PySem.Calls PyProof.Rows PySem.W
theorem hrun (w : World) (os : OsState) : topRun treeTable hpg w 11 (some (.ref 6)) (Nat.add 12 (Nat.add 1 (Nat.add 653 (Nat.add 554 (Nat.add 691 (Nat.add 721 (Nat.add 216 2))))))) ⟨boot_heap w.params, Array.mk [], boot_drawn, boot_toks, os⟩ (topStub hpg) = some ⟨hheap w.params, Array.mk [], ⟨0, 0, 0, 0⟩, 766, os⟩ := by
  refine go_top (congrFun (hp_pre w) os) (piece_block (congrFun (hp_blk w) os) ?_)
  show topRun _ _ _ _ _ _ _ (restOf (hS1 ++ (hS2 ++ (hS3 ++ (hS4 ++ (hS5 ++ []))))) hE _ _ _) = _
  exact piece_app (segRun_of (congrFun (hp_pc1 w) os)) (piece_app (segRun_of (congrFun (hp_pc2 w) os)) (piece_app (segRun_of (congrFun (hp_pc3 w) os)) (piece_app (segRun_of (congrFun (hp_pc4 w) os)) (piece_app (segRun_of (congrFun (hp_pc5 w) os)) (congrFun (hp_fin w) os)))))
theorem hAs_eq (P : Params) : hAs = (hK P).map (·.1) := by kernel_rfl
noncomputable def hHook : Hook := kHook hK hAs hAs_eq
theorem hlooks (w : World) : (fun os => ((staticsOk (importedModules hpg.main.body) (boot_heap w.params) (hheap w.params) && namesBound hpg (hheap w.params) && gensDone ⟨hheap w.params, Array.mk [], ⟨0, 0, 0, 0⟩, 766, os⟩ && laidKept (boot_heap w.params) (hheap w.params)),
    openSeen hview hloose (importedModules hpg.main.body) (fun s => xlAt hview hlv s && recOk (RowW.records (OpenRow.toRowW (OpenLaw.row hlaw))) s) true ⟨hheap w.params, Array.mk [], ⟨0, 0, 0, 0⟩, 766, os⟩, hHook.obs ⟨hheap w.params, Array.mk [], ⟨0, 0, 0, 0⟩, 766, os⟩)) = fun _ => (true, openGood hview hloose, hHook.val w) := by
  funext os
  exact looks_pair (congrFun (hp_l1 w) os) (looks_pair (looks_pair (congrFun (hp_l2 w) os) (looks_pair (congrFun (hp_l3 w) os) (looks_pair (congrFun (hp_l4 w) os) (looks_pair (congrFun (hp_l5 w) os) (looks_pair (congrFun (hp_l6 w) os) (looks_pair (congrFun (hp_l7 w) os) (looks_pair (congrFun (hp_l8 w) os) (looks_pair (congrFun (hp_l9 w) os) (congrFun (hp_l10 w) os))))))))) (congrFun (hp_l11 w) os))
theorem hleft : LeftO hpg hview hloose (fun s => xlAt hview hlv s && recOk (RowW.records (OpenRow.toRowW (OpenLaw.row hlaw))) s) hHook.obs hHook.val 5786 :=
  LeftO.of_pieces (boot_open rfl rfl fun _ => rfl) hp_size hrun (by decide) hlooks
end Mine
namespace Mine
open PySem PySem.Calls PyProof.Rows PySem.W
theorem fxOf (P : Params) : Fx (hK P) where
  gl := by repeat (first | exact allN | refine allL rfl ?_)
  al := by repeat (first | exact allN | refine allL ⟨rfl, rfl, rfl, rfl, rfl⟩ ?_)
  ml := by repeat (first | exact allN | refine allL ⟨rfl, rfl, rfl⟩ ?_)
  bl := by repeat (first | exact allN | refine allL rfl ?_)
  f_fixed_atoms := mkFn rfl rfl
  f_fixed_functors := mkFn rfl rfl
  f_var := mkFn rfl rfl
  f_atom := mkFn rfl rfl
  f_struct := mkFn rfl rfl
  f_list_term := mkFn rfl rfl
  f_list_items := mkFn rfl rfl
  f_functor_in := mkFn rfl rfl
  f_arguments := mkFn rfl rfl
  f_conjunction := mkFn rfl rfl
  f_right_spine := mkFn rfl rfl
  f_nonterminal := mkFn rfl rfl
  f_terminals := mkFn rfl rfl
  f_grammar_body := mkFn rfl rfl
  f_grammar_part := mkFn rfl rfl
  f_plain_goal := mkFn rfl rfl
  f__law_coins := mkFn rfl rfl
  f__law_coin := mkFn rfl rfl
  f__law_leaf := mkFn rfl rfl
  f__law_row := mkFn rfl rfl
  f__law_written := mkFn rfl rfl
  f__law_line := mkFn rfl rfl
  c_Symbols := ⟨rfl, rfl, rfl, rfl⟩
  f_Symbols___init__ := mkFn rfl rfl
  f_Symbols_atom := mkFn rfl rfl
  f_Symbols_functor := mkFn rfl rfl
  f_Symbols_func := mkFn rfl rfl
  f_Symbols_name := mkFn rfl rfl
  c_Fresh := ⟨rfl, rfl, rfl, rfl⟩
  f_Fresh___init__ := mkFn rfl rfl
  f_Fresh_number := mkFn rfl rfl
  c_GrammarVariables := ⟨rfl, rfl, rfl, rfl⟩
  f_GrammarVariables___init__ := mkFn rfl rfl
  f_GrammarVariables_variable := mkFn rfl rfl
  c_GrammarTree := ⟨rfl, rfl, rfl, rfl⟩
  f_GrammarTree___init__ := mkFn rfl rfl
  f_GrammarTree_hold := mkFn rfl rfl
  f_GrammarTree_goal := mkFn rfl rfl
  d_list_term := ⟨_, rfl⟩
  d_Fresh := ⟨_, rfl⟩
theorem f_law (P : Params) : FnFact (hK P) 419 "law" (topAt 52) := mkFn rfl rfl
theorem n_law (P : Params) : nsIn (hK P) mainGlobals "law" = some (some (.ref 419)) := rfl
theorem post_true (l : OpenLaw) (args : List WData) : l.row.claim.post args (.bool true) args = true := by
  simp only [RowW.claim, OpenLaw.row]
  simp [WShape.has, WTm.holds, WTm.value, WShape.arms, same]
theorem join {prog : Program} {w : World} {s₀ s₁ : Shared} {mg mb : Str → Option Value} {q : Program} {loose : List Str} {R : WRecords} {XP : (Str → Option Value) → Heap → Prop} {K : Frag} (G : Ground q loose R XP w s₀ mg mb s₁.heap) (KX : K.In s₁.heap) (fx : Fx K)
    {la fa sc : Addr} (fl : FnFact K la "law" (topAt 52)) (nl : nsIn K mainGlobals "law" = some (some (.ref la))) (hmg : mg "law" = some (.ref fa)) {vs : List Value} {ns : List Int} (hsc : s₁.heap.IsList sc vs.toArray) (hvs : IntsAre vs ns) (hz : vs.length ≤ sizeLine)
    {Q : Value → Shared → Prop} {E : Value → Shared → Prop} (hQ : ∀ h' tk', (∀ b o, s₁.heap.get? b = some o → h'.get? b = some o) → Q (.bool true) { s₁ with heap := h', toks := tk' }) :
    wpAny (model prog w) callerA (PySem.call (.ref fa) [.ref sc]) Q E s₁ := by
  have gx : GX prog w s₁.heap K mg mb := { X := KX, hg := G.T.g, hb := G.T.b, lim := G.T.nolimit, sys := G.low, bi := G.T.builtins, toFx := fx }
  have e : fa = la := by
    have := mg_of KX G.T.g nl
    rw [hmg] at this; simpa using this
  subst e
  refine wpAny_call (law_fn gx fl hsc hvs hz (fun _ => none) callerA s₁ _ ?_ ?_ ?_ ⟨fun _ _ e => e, Nat.le_refl _, fun _ _ e => nomatch e⟩ (fun _ _ e => nomatch e) fun v V' h' tk' G' _ hv => ?_)
  · rfl
  · decide
  · decide
  · subst hv; exact hQ h' tk' G'.keep
end Mine

open PySem PySem.W PyProof.Rows
theorem PySem.Challenge.cw_rh0077_01_holds : PySem.Challenge.rw_rh0077_01.Holds := by
  show OpenLaw.Holds Mine.hlaw
  w_on
  o_law
  refine holds_open (q := Mine.hview) (loose := Mine.hloose) (Xt := fun s => xlAt Mine.hview Mine.hlv s && recOk (RowW.records (OpenRow.toRowW (OpenLaw.row Mine.hlaw))) s) (XP := XL Mine.hview Mine.hlv) (Yf := Hook.obs Mine.hHook) (Ya := Hook.val Mine.hHook) (YP := Hook.says Mine.hHook) (N := 5786) Mine.hleft (Hook.of Mine.hHook) (Hook.keeps Mine.hHook) (fun s e => xl_of s (Bool.and_eq_true_iff.mp e).1) XL.keeps (by rfl) (by rfl) (by rfl) (fun s e => recFacts_of (Bool.and_eq_true_iff.mp e).2) (by rfl) (by first | assumption | decide +kernel) (by decide +kernel) ⟨rfl, rfl, rfl, rfl, rfl, by decide +kernel⟩ ?hw ?hc
  case hw => exact ⟨[WData.list []], by decide +kernel, by decide +kernel⟩
  case hc =>
    intro w s₀ s₁ mg mb G Y fa o pm cd doc dV kV ho hd' hcd hD hmg hg args vals as hpre hlay hrd hwl hlo
    have KX := kIn_of Y
    clear Y ho hd' hcd hD
    refine Ground.open G ?_
    intro T B D TE TW
    clear T B D TE TW
    wrow_args hpre hlay hrd hwl hlo
    rename_i hL _ _ _ hI _ hc _
    refine Mine.join G KX (Mine.fxOf _) (Mine.f_law _) (Mine.n_law _) hmg hL hI ?_ fun h' tk' hk => ?_
    · rw [hI.length]; refine Nat.le_trans (m := 63) (by omega) (by decide)
    · exact GoodW.toG ⟨.inl ⟨_, .bool true, [], rfl, fun _ => rfl, .bool true, Mine.post_true _ _, fun _ => ⟨List.nodup_nil, fun a ha => nomatch ha⟩⟩, hk, rfl, hg⟩
