import PyProof.Rows.All
import Wide.All
import OpenK.AllK
import Wide.FinOn
import PySem.Challenge.RW_or0069_01
open PySem PySem.W PyProof.Rows PySem.Calls
set_option maxRecDepth 100000
set_option linter.all false
set_option Elab.async false
set_option bootstrap.genMatcherCode false
namespace Mine
noncomputable section
set_option backward.match.sparseCases false
set_option genSizeOf false
set_option genInjectivity false
abbrev pw : Program := PySem.Challenge.pw_or0069_01

/-- the built-ins that the text calls -/
inductive Bf where
  | len | min | max | bytes | chr | ord | list | range | reversed
  deriving DecidableEq
noncomputable def Bf.val : Bf → Value
  | .len => .builtin "len" | .min => .builtin "min" | .max => .builtin "max" | .bytes => .type "bytes" | .chr => .builtin "chr" | .ord => .builtin "ord"
  | .list => .type "list" | .range => .type "range" | .reversed => .type "reversed"
/-- the tuples that the text's top lays -/
inductive Con where
  | whiteH | charsets | never | whiteP | openE | lines
  deriving DecidableEq
noncomputable def Con.addr : Con → Addr
  | .whiteH => 133 | .charsets => 275 | .never => 339 | .whiteP => 368 | .openE => 531 | .lines => 617

/-- abstract values: no tokens -/
inductive AV where
  | none
  | bool (b : Bool)
  | int (i : Int)
  | str (l : List Nat)
  | bytes (l : List UInt8)
  | ref (a : Addr)
  | fn (b : Bf)
  | con (c : Con)
  deriving DecidableEq
noncomputable def Con.items : Con → List AV
  | .whiteH => [.int 32, .int 9]
  | .charsets => [.str [117, 115, 45, 97, 115, 99, 105, 105], .str [105, 115, 111, 45, 56, 56, 53, 57, 45, 49], .str [117, 116, 102, 45, 56]]
  | .never => [.int 0, .int 10, .int 13]
  | .whiteP => [.int 9, .int 10, .int 13, .int 32]
  | .openE => [.str [55, 98, 105, 116], .str [56, 98, 105, 116], .str [98, 105, 110, 97, 114, 121]]
  | .lines => [.bytes [67, 111, 110, 116, 101, 110, 116, 45, 84, 121, 112, 101, 58, 32, 109, 117, 108, 116, 105, 112, 97, 114, 116, 47, 109, 105, 120, 101, 100, 59, 32, 98, 111, 117, 110, 100, 97, 114, 121, 61, 113],
      .bytes [67, 111, 110, 116, 101, 110, 116, 45, 84, 121, 112, 101, 58, 32, 109, 101, 115, 115, 97, 103, 101, 47, 114, 102, 99, 56, 50, 50],
      .bytes [99, 111, 110, 116, 101, 110, 116, 45, 116, 121, 112, 101, 58, 32, 77, 85, 76, 84, 73, 80, 65, 82, 84, 47, 100, 105, 103, 101, 115, 116, 59, 32, 98, 111, 117, 110, 100, 97, 114, 121, 61, 34, 114, 32, 115, 34],
      .bytes [], .bytes [45, 45, 113], .bytes [45, 45, 113, 45, 45], .bytes [45, 45, 114, 32, 115], .bytes [45, 45, 114, 32, 115, 45, 45], .bytes [120], .bytes [65, 58, 32, 98],
      .bytes [67, 111, 110, 116, 101, 110, 116, 45, 84, 114, 97, 110, 115, 102, 101, 114, 45, 69, 110, 99, 111, 100, 105, 110, 103, 58, 32, 98, 97, 115, 101, 54, 52],
      .bytes [67, 111, 110, 116, 101, 110, 116, 45, 84, 121, 112, 101, 58, 32, 109, 117, 108, 116, 105, 112, 97, 114, 116, 47, 120]]

noncomputable def RV : AV → Value → Prop
  | .none, v => v = .none
  | .bool b, v => v = .bool b
  | .int i, v => ∃ t, v = .int i t
  | .str l, v => ∃ t, v = .str ⟨l.toArray⟩ t
  | .bytes l, v => ∃ t, v = .bytes l.toArray t
  | .ref a, v => v = .ref a
  | .fn b, v => v = b.val
  | .con c, v => v = .ref c.addr

noncomputable def RVs : List AV → List Value → Prop
  | [], [] => True
  | a :: as, v :: vs => RV a v ∧ RVs as vs
  | _, _ => False

theorem RVs.length : ∀ {as : List AV} {vs : List Value}, RVs as vs → as.length = vs.length
  | [], [], _ => rfl
  | _ :: _, _ :: _, h => by simp [RVs.length h.2]
  | [], _ :: _, h => h.elim
  | _ :: _, [], h => h.elim
theorem RVs.get : ∀ {as : List AV} {vs : List Value}, RVs as vs → ∀ (i : Nat) (a : AV), as[i]? = some a → ∃ v, vs[i]? = some v ∧ RV a v
  | [], [], _, i, a, e => by simp at e
  | a :: as, v :: vs, h, 0, b, e => by simp at e; subst e; exact ⟨v, rfl, h.1⟩
  | a :: as, v :: vs, h, i + 1, b, e => by simp at e; simpa using RVs.get h.2 i b e
  | [], _ :: _, h, _, _, _ => h.elim
  | _ :: _, [], h, _, _, _ => h.elim
theorem RVs.append : ∀ {as bs : List AV} {vs ws : List Value}, RVs as vs → RVs bs ws → RVs (as ++ bs) (vs ++ ws)
  | [], _, [], _, _, h => h
  | _ :: _, _, _ :: _, _, h, h' => ⟨h.1, RVs.append h.2 h'⟩
  | [], _, _ :: _, _, h, _ => h.elim
  | _ :: _, _, [], _, h, _ => h.elim
theorem RVs.nil_left {vs : List Value} (h : RVs [] vs) : vs = [] := by cases vs with | nil => rfl | cons => exact h.elim
theorem RVs.cons_left {a : AV} {as : List AV} {vs : List Value} (h : RVs (a :: as) vs) : ∃ v vs', vs = v :: vs' ∧ RV a v ∧ RVs as vs' := by
  cases vs with
  | nil => exact h.elim
  | cons v vs => exact ⟨v, vs, rfl, h.1, h.2⟩

/-- the attributes of the text's classes -/
inductive At where
  | data | pos | fin | name | raw | top | sub | params | beg | body | fields | kind | enc | kids | inner
  deriving DecidableEq
noncomputable def At.str : At → Str
  | .data => "data" | .pos => "at" | .fin => "end" | .name => "name" | .raw => "raw" | .top => "top" | .sub => "sub" | .params => "params"
  | .beg => "begin" | .body => "body" | .fields => "fields" | .kind => "kind" | .enc => "encoding" | .kids => "kids" | .inner => "inner"

/-- abstract objects -/
inductive AO where
  | list (xs : List AV)
  | olist (xs : List AV)
  | tup (xs : List AV)
  | inst (c d : Addr)
  | attrs (kvs : List (At × AV))
  | dict (kvs : List (List Nat × AV))
  | cell (v : AV)
  | ucell
  | rng (lo hi : Int)
  | rev (l : Addr) (i : Int)
  | junk
  | fix (ob : Obj) (xs : List AV)

/-- the entries of an object's own dict -/
noncomputable def REnts : List (At × AV) → List DictEntry → Prop
  | [], [] => True
  | (k, v) :: r, e :: es => ((∃ t, e.key = .str k.str t) ∧ RV v e.val) ∧ REnts r es
  | _, _ => False
/-- a dict's pairs -/
noncomputable def RPairs : List (List Nat × AV) → List (Str × Value) → Prop
  | [], [] => True
  | (k, v) :: r, e :: es => (e.1 = ⟨k.toArray⟩ ∧ RV v e.2) ∧ RPairs r es
  | _, _ => False
noncomputable def DictLike (w : World) (o : Obj) (vals : List (Str × Value)) : Prop :=
  o.ExactDict ∧ ∃ es ep, o.data = .dict es ep ∧ KeysOf (strKind pw w) es ∧ Pairs (strKind pw w) es.toList vals ∧ (vals.map (·.1)).Nodup

/-- the text's classes -/
noncomputable def isCls (c : Addr) : Bool := c == 103 || c == 162 || c == 413 || c == 555

noncomputable def RO (w : World) : AO → Obj → Prop
  | .list xs, o => ∃ vs n, o = { cls := .type "list", data := .seq vs n } ∧ RVs xs vs.toList
  | .olist xs, o => o.cls = .type "list" ∧ ∃ vs n, o.data = .seq vs n ∧ RVs xs vs.toList
  | .tup xs, o => ∃ vs n, o = { cls := .type "tuple", data := .seq vs n } ∧ RVs xs vs.toList
  | .inst c d, o => isCls c = true ∧ o = instObj c d
  | .attrs kvs, o => ∃ es n, o = dictOf es n ∧ REnts kvs es
  | .dict kvs, o => ∃ vals, DictLike w o vals ∧ RPairs kvs vals
  | .cell v, o => ∃ v', o.data = .cell (some v') ∧ RV v v'
  | .ucell, o => o.data = .cell none
  | .rng lo hi, o => ∃ t u v, o = { cls := .type "range", data := .fields #[.int lo t, .int hi u, .int 1 v] }
  | .rev l i, o => o = revObj l i
  | .junk, _ => True
  | .fix ob xs, o => o = ob ∧ o.cls = .type "list" ∧ ∃ vs n, o.data = .seq vs n ∧ RVs xs vs.toList

abbrev AHeap := Addr → Option AO
noncomputable def upd (H : AHeap) (a : Addr) (o : AO) : AHeap := fun b => if b = a then some o else H b
theorem upd_self {H : AHeap} {a : Addr} {o : AO} : upd H a o a = some o := by simp [upd]
theorem upd_ne {H : AHeap} {a b : Addr} {o : AO} (h : b ≠ a) : upd H a o b = H b := by simp [upd, h]
/-- what stood ahead of a new object stands behind it -/
theorem upd_old {H : AHeap} {a b : Addr} {o o' : AO} (hb : H b = some o') (ha : H a = none) : upd H a o b = some o' := by
  rw [upd_ne]
  · exact hb
  · rintro rfl; rw [ha] at hb; cases hb

structure RepH (w : World) (h : Heap) (H : AHeap) : Prop where
  get : ∀ a o, H a = some o → ∃ ob, h.get? a = some ob ∧ RO w o ob

structure Step (w : World) (h : Heap) (H : AHeap) (h' : Heap) (H' : AHeap) : Prop where
  keep : ∀ b o, h.get? b = some o → H b = none → h'.get? b = some o
  fresh : ∀ b, H b = none → H' b ≠ none → h.get? b = none
  rep : RepH w h' H'

section
variable {w : World} {h h' h'' : Heap} {H H' H'' : AHeap}
theorem Step.refl (R : RepH w h H) : Step w h H h H := ⟨fun _ _ e _ => e, fun _ e n => absurd e n, R⟩
theorem Step.trans (S : Step w h H h' H') (T : Step w h' H' h'' H'') : Step w h H h'' H'' where
  keep := fun b o e n => T.keep b o (S.keep b o e n) (by
    cases q : H' b with
    | none => rfl
    | some x => have := S.fresh b n (by rw [q]; simp); rw [this] at e; cases e)
  fresh := fun b n x => by
    cases q : H' b with
    | none =>
      have := T.fresh b q x
      cases z : h.get? b with
      | none => rfl
      | some o => rw [S.keep b o z n] at this; cases this
    | some y => exact S.fresh b n (by rw [q]; simp)
  rep := T.rep
theorem RepH.none_of (R : RepH w h H) {a : Addr} (e : h.get? a = none) : H a = none := by
  cases q : H a with
  | none => rfl
  | some o => obtain ⟨ob, x, _⟩ := R.get a o q; rw [e] at x; cases x
theorem size_none (h : Heap) : h.get? h.objs.size = none := by
  cases q : h.get? h.objs.size with
  | none => rfl
  | some o => exact absurd (Heap.lt_size q) (Nat.lt_irrefl _)
theorem RepH.size_none (R : RepH w h H) : H h.objs.size = none := R.none_of (Mine.size_none h)
/-- a new object -/
theorem Step.push (R : RepH w h H) {ob : Obj} {o : AO} (ro : RO w o ob) (hf : ob.isFreed = false) : Step w h H (h.push ob) (upd H h.objs.size o) where
  keep := fun b o e _ => Heap.get?_push_of_some _ e
  fresh := fun b n x => by
    by_cases hb : b = h.objs.size
    · subst hb; exact Mine.size_none h
    · rw [upd_ne hb] at x; exact absurd n x
  rep := ⟨fun a x e => by
    by_cases ha : a = h.objs.size
    · subst ha
      rw [upd_self] at e; cases e
      exact ⟨ob, Heap.get?_push_size _ hf, ro⟩
    · rw [upd_ne ha] at e
      obtain ⟨ob', e1, e2⟩ := R.get a x e
      exact ⟨ob', Heap.get?_push_of_some _ e1, e2⟩⟩
/-- a new object that nobody names -/
theorem Step.pushJunk (R : RepH w h H) (ob : Obj) : Step w h H (h.push ob) H where
  keep := fun b o e _ => Heap.get?_push_of_some _ e
  fresh := fun b n x => absurd n x
  rep := ⟨fun a x e => by
    obtain ⟨ob', e1, e2⟩ := R.get a x e
    exact ⟨ob', Heap.get?_push_of_some _ e1, e2⟩⟩
/-- an object changed -/
theorem Step.change (R : RepH w h H) {a : Addr} {o' : AO} {ob' : Obj} (ha : H a ≠ none) (hs : Heap.SameBut a h h') (e : h'.get? a = some ob') (ro : RO w o' ob') : Step w h H h' (upd H a o') where
  keep := fun b o e n => by
    have : b ≠ a := by rintro rfl; exact ha n
    rw [hs.2 b this]; exact e
  fresh := fun b n x => by
    by_cases hb : b = a
    · subst hb; exact absurd n ha
    · rw [upd_ne hb] at x; exact absurd n x
  rep := ⟨fun b x q => by
    by_cases hb : b = a
    · subst hb
      rw [upd_self] at q; cases q
      exact ⟨ob', e, ro⟩
    · rw [upd_ne hb] at q
      obtain ⟨ob, e1, e2⟩ := R.get b x q
      exact ⟨ob, (hs.2 b hb).trans e1, e2⟩⟩
/-- what is forgotten stands still -/
theorem Step.forget (S : Step w h H h' H') {H'' : AHeap} (sub : ∀ b o, H'' b = some o → H' b = some o) : Step w h H h' H'' where
  keep := S.keep
  fresh := fun b n x => by
    cases q : H'' b with
    | none => exact absurd q x
    | some o => exact S.fresh b n (by rw [sub b o q]; simp)
  rep := ⟨fun a o e => S.rep.get a o (sub a o e)⟩
theorem Heap.SameBut_update (h : Heap) (a : Addr) (f : Obj → Obj) : Heap.SameBut a h (h.update a f) := Heap.SameBut.update ..
end

/-- what comes back -/
inductive PostR {α β : Type} (w : World) (rel : β → α → Prop) (s : Shared) (H : AHeap) (Q : β → AHeap → Prop) (a : α) (s' : Shared) : Prop
  | mk (b : β) (H' : AHeap) (h' : Heap) (tk : Nat) (e : s' = { s with heap := h', toks := tk }) (S : Step w s.heap H h' H') (r : rel b a) (q : Q b H')
abbrev NoE : Value → Shared → Prop := fun _ _ => False
/-- a tree gives what Q says -/
noncomputable def TR {α β : Type} (prog : Program) (w : World) (A : Around) (rel : β → α → Prop) (t : Sem α) (s : Shared) (H : AHeap) (Q : β → AHeap → Prop) : Prop :=
  wpAny (model prog w) A t (PostR w rel s H Q) NoE s
abbrev TV (prog : Program) (w : World) (A : Around) (t : Sem Value) (s : Shared) (H : AHeap) (Q : AV → AHeap → Prop) : Prop := TR prog w A RV t s H Q

section
variable {prog : Program} {w : World} {A : Around} {α β γ δ : Type} {rel : β → α → Prop} {rel' : δ → γ → Prop} {s : Shared} {H : AHeap}
theorem TR.mono {t : Sem α} {Q Q' : β → AHeap → Prop} (h : TR prog w A rel t s H Q) (k : ∀ b H', Q b H' → Q' b H') : TR prog w A rel t s H Q' :=
  wpAny_mono h (fun _ _ ⟨b, H', h', tk, e, S, r, q⟩ => ⟨b, H', h', tk, e, S, r, k _ _ q⟩) fun _ _ x => x
theorem TR.bind {t : Sem α} {k : α → Sem γ} {Q : β → AHeap → Prop} {Q' : δ → AHeap → Prop} (h : TR prog w A rel t s H Q)
    (hk : ∀ b a H' h' tk, Step w s.heap H h' H' → rel b a → Q b H' → TR prog w A rel' (k a) { s with heap := h', toks := tk } H' Q') : TR prog w A rel' (t >>= k) s H Q' := by
  refine wpAny_bind (wpAny_mono h ?_ fun _ _ x => x)
  rintro a _ ⟨b, H', h', tk, rfl, S, r, q⟩
  refine wpAny_mono (hk b a H' h' tk S r q) ?_ fun _ _ x => x
  rintro c _ ⟨d, H'', h'', tk', rfl, S', r', q'⟩
  exact ⟨d, H'', h'', tk', rfl, S.trans S', r', q'⟩
theorem TR.ret {a : α} {b : β} {Q : β → AHeap → Prop} (R : RepH w s.heap H) (r : rel b a) (q : Q b H) : PostR w rel s H Q a s := ⟨b, H, s.heap, s.toks, rfl, .refl R, r, q⟩
theorem TR.retk {a : α} {b : β} {tk : Nat} {Q : β → AHeap → Prop} (R : RepH w s.heap H) (r : rel b a) (q : Q b H) : PostR w rel s H Q a { s with toks := tk } := ⟨b, H, s.heap, tk, rfl, .refl R, r, q⟩
theorem TR.pure {a : α} {b : β} {Q : β → AHeap → Prop} (R : RepH w s.heap H) (r : rel b a) (q : Q b H) : TR prog w A rel (Pure.pure a) s H Q := wpAny_pure (TR.ret R r q)
/-- out of the library's continuation style -/
theorem TR.use {t : Sem α} {Q : β → AHeap → Prop} {Q' : α → Shared → Prop} {E : Value → Shared → Prop} (h : TR prog w A rel t s H Q)
    (k : ∀ b a H' h' tk, Step w s.heap H h' H' → rel b a → Q b H' → Q' a { s with heap := h', toks := tk }) : wpAny (model prog w) A t Q' E s :=
  wpAny_mono h (fun _ _ ⟨b, H', h', tk, e, S, r, q⟩ => by subst e; exact k b _ H' h' tk S r q) fun _ _ x => x.elim
/-- behind a step -/
theorem PostR.behind {a : α} {h' : Heap} {H' : AHeap} {tk : Nat} {s' : Shared} {Q : β → AHeap → Prop} (S : Step w s.heap H h' H') (p : PostR w rel { s with heap := h', toks := tk } H' Q a s') : PostR w rel s H Q a s' := by
  obtain ⟨b, H'', h'', tk', rfl, S', r, q⟩ := p
  exact ⟨b, H'', h'', tk', rfl, S.trans S', r, q⟩
end
end
end Mine
namespace Mine
noncomputable section
set_option backward.match.sparseCases false
set_option genSizeOf false
set_option genInjectivity false

/-- the methods that the text calls -/
inductive Mt where
  | find | strip | rstrip | join | append | pop | extend | get | word | isDone | peek | take | starts | skip | isMulti | isLetter
  deriving DecidableEq
noncomputable def Mt.str : Mt → Str
  | .find => "find" | .strip => "strip" | .rstrip => "rstrip" | .join => "join" | .append => "append" | .pop => "pop" | .extend => "extend" | .get => "get"
  | .word => "word" | .isDone => "is_done" | .peek => "peek" | .take => "take" | .starts => "starts" | .skip => "skip" | .isMulti => "is_multi" | .isLetter => "is_letter"

/-- a pattern of names: their places -/
inductive Pt where
  | one (i : Nat)
  | tup (is : List Nat)

/-- the text's expressions, names resolved -/
inductive E where
  | bad
  | lit (v : AV)
  | glo (v : AV)
  | loc (i : Nat)
  | cel (i : Nat)
  | bin (o : Operator) (a b : E)
  | neg (a : E)
  | not (a : E)
  | and_ (l : E)
  | or_ (l : E)
  | ite (c a b : E)
  | cmp (a l : E)
  | call (f args : E)
  | meth (o : E) (m : Mt) (args : E)
  | attr (o : E) (a : At)
  | item (o i : E)
  | slice (o lo hi : E)
  | tup (l : E)
  | lst (l : E)
  | dct0
  | dct1 (k v : List Nat)
  | comp (elt : E) (p : Pt) (iter cond : E)
  | absent
  | nil
  | cons (a r : E)
  | ccons (o : CmpOp) (a r : E)

inductive Tg where
  | loc (i : Nat)
  | cel (i : Nat)
  | attr (o : E) (a : At)
  | item (o i : E)
  | tup (l : Tg)
  | nil
  | cons (t r : Tg)

inductive S where
  | bad
  | nil
  | cons (s r : S)
  | asg (t : Tg) (e : E)
  | exp (e : E)
  | iff (c : E) (a b : S)
  | whl (c : E) (b : S)
  | for_ (p : Pt) (e : E) (b : S)
  | ret (e : E)
  | ret0
  | try_ (b : S)
  | pass_

/-- the global names: what they stand for -/
noncomputable def gtab : List (Str × AV) := [
  (Str.ofString "len", .fn .len), (Str.ofString "min", .fn .min), (Str.ofString "max", .fn .max), (Str.ofString "bytes", .fn .bytes), (Str.ofString "chr", .fn .chr), (Str.ofString "ord", .fn .ord), (Str.ofString "list", .fn .list), (Str.ofString "range", .fn .range), (Str.ofString "reversed", .fn .reversed),
  (Str.ofString "RETURN", .int 13), (Str.ofString "Cursor", .ref 103), (Str.ofString "lower_code", .ref 114), (Str.ofString "lower", .ref 119), (Str.ofString "lower_text", .ref 124), (Str.ofString "line_spans", .ref 132), (Str.ofString "WHITE_headers", .con .whiteH), (Str.ofString "Field", .ref 162),
  (Str.ofString "line_at", .ref 173), (Str.ofString "is_name", .ref 180), (Str.ofString "colon_in", .ref 187), (Str.ofString "read_spans", .ref 195), (Str.ofString "read_fields", .ref 201), (Str.ofString "rows_of", .ref 208), (Str.ofString "unfolded", .ref 215), (Str.ofString "first_body", .ref 222),
  (Str.ofString "ASCII", .str [117, 115, 45, 97, 115, 99, 105, 105]), (Str.ofString "LATIN", .str [105, 115, 111, 45, 56, 56, 53, 57, 45, 49]), (Str.ofString "UTF8", .str [117, 116, 102, 45, 56]), (Str.ofString "CHARSETS", .con .charsets), (Str.ofString "UNKNOWN_SIGN", .str [65533]),
  (Str.ofString "need_charset", .ref 296), (Str.ofString "follower_span", .ref 303), (Str.ofString "utf8_sign", .ref 310), (Str.ofString "sign_at", .ref 317), (Str.ofString "text_in", .ref 324), (Str.ofString "strict_text", .ref 331), (Str.ofString "guessed_text", .ref 338),
  (Str.ofString "NEVER_ESCAPED", .con .never), (Str.ofString "line_end", .ref 346), (Str.ofString "inside_at", .ref 353), (Str.ofString "closed_at", .ref 360), (Str.ofString "comment_at", .ref 367), (Str.ofString "WHITE_params", .con .whiteP),
  (Str.ofString "SEMICOLON", .int 59), (Str.ofString "EQUALS", .int 61), (Str.ofString "QUOTE", .int 34), (Str.ofString "BRACKET", .int 40), (Str.ofString "PER_CENT", .int 37), (Str.ofString "BARRED", .bytes [40, 41, 60, 62, 64, 44, 59, 58, 92, 34, 47, 91, 93, 63, 61]),
  (Str.ofString "Kind", .ref 413), (Str.ofString "plain_kind", .ref 424), (Str.ofString "is_token_code", .ref 431), (Str.ofString "skip_between", .ref 438), (Str.ofString "take_token", .ref 445), (Str.ofString "is_worth_code", .ref 452), (Str.ofString "take_worth", .ref 459), (Str.ofString "small_word", .ref 464),
  (Str.ofString "take_pairs", .ref 471), (Str.ofString "part_of", .ref 485), (Str.ofString "params_of", .ref 516), (Str.ofString "strict_kind", .ref 523), (Str.ofString "read_kind", .ref 530), (Str.ofString "MOST_DEPTH_parts", .int 20), (Str.ofString "PLAIN_ENCODING", .str [55, 98, 105, 116]),
  (Str.ofString "OPEN_ENCODINGS", .con .openE), (Str.ofString "WORD_ENDS", .bytes [32, 9, 40, 59]), (Str.ofString "BLANKS", .bytes [32, 9]), (Str.ofString "Part", .ref 555), (Str.ofString "encoding_of", .ref 564), (Str.ofString "boundary_way", .ref 571), (Str.ofString "part_spans", .ref 578),
  (Str.ofString "kid_spans", .ref 583), (Str.ofString "has_inner", .ref 590), (Str.ofString "read_part", .ref 595), (Str.ofString "read_message", .ref 602), (Str.ofString "leaves", .ref 609), (Str.ofString "_law_draw", .ref 616), (Str.ofString "_law_lines", .con .lines),
  (Str.ofString "_law_is_sound", .ref 624), (Str.ofString "_law_bare", .ref 631)]

structure Cx where
  names : List (Str × NameKind)
  vars : List Str
  cells : List Str

/-- a node of the real text -/
inductive Nd where
  | e (x : Expr)
  | l (xs : List Expr)
  | o (x : Option Expr)
  | c (ops : List CmpOp) (xs : List Expr)

inductive LitOk : AV → Const → Prop where
  | none : LitOk .none .none
  | bool (b : Bool) : LitOk (.bool b) (.bool b)
  | int (i : Int) : LitOk (.int i) (.int i)
  | str {l : List Nat} {x : Str} (h : x.cps.toList = l) : LitOk (.str l) (.str x)
  | bytes (b : List UInt8) : LitOk (.bytes b) (.bytes b)
noncomputable def notDebug (x : Str) : Bool := !(x == ("__debug__" : Str))
noncomputable def notSuper : Expr → Bool
  | .Call (.Name id _) _ _ _ => id != ("super" : Str)
  | _ => true
noncomputable def notStar (x : Expr) : Bool := x.ctorIdx != (Expr.Starred default default).ctorIdx
noncomputable def notSet (x : Expr) : Bool := x.ctorIdx != (Expr.Set default default default).ctorIdx
noncomputable def compVars (names : List (Str × NameKind)) : List Str := (names.filter fun p => p.2 == .local && p.1 != (".0" : Str)).map (·.1)
noncomputable def compCx (cx : Cx) (names : List (Str × NameKind)) : Cx := { names := names.map fun p => (p.1, if p.2 == .free then .cell else p.2), vars := compVars names, cells := cx.cells }
/-- what a comprehension's own scope must be -/
noncomputable def scopeOk (cx : Cx) (sc : Scope) : Bool :=
  sc.kind == .function && decide (compVars sc.names).Nodup && !sc.isGenerator && !sc.isCoroutine && sc.names.all fun p => match p.2 with
    | .local => sc.names.lookup p.1 == some .local
    | .free => cx.cells.contains p.1 && cx.names.lookup p.1 == some .cell && sc.names.lookup p.1 == some .free
    | .globalImplicit => true
    | _ => false

noncomputable def notComp (x : Expr) : Bool := x.ctorIdx != (Expr.ListComp default default default default).ctorIdx && x.ctorIdx != (Expr.SetComp default default default default).ctorIdx && x.ctorIdx != (Expr.DictComp default default default default default).ctorIdx
noncomputable def notTup (x : Expr) : Bool := x.ctorIdx != (Expr.Tuple default default default).ctorIdx && x.ctorIdx != (Expr.List default default).ctorIdx

noncomputable def locOk (cx : Cx) (i : Nat) (x : Str) : Bool := cx.vars[i]? == some x && cx.names.lookup x == some .local && notDebug x
noncomputable def celOk (cx : Cx) (j : Nat) (x : Str) : Bool := cx.cells[j]? == some x && cx.names.lookup x == some .cell && notDebug x
noncomputable def gloOk (cx : Cx) (v : AV) (x : Str) : Bool := notDebug x && cx.names.lookup x == some .globalImplicit && gtab.lookup x == some v
noncomputable def methOk (m : Mt) (nm : Str) (apos pos : Pos) (as : List Expr) (y : Expr) : Bool := nm == m.str && apos.endLine == pos.line && decide (as.length < 29) && notSuper y

inductive MNs : Cx → List Nat → List Expr → Prop where
  | nil {cx} : MNs cx [] []
  | cons {cx i is x p es} (h : locOk cx i x = true) (r : MNs cx is es) : MNs cx (i :: is) (.Name x p :: es)
inductive MP : Cx → Pt → Expr → Prop where
  | one {cx i x p} (h : locOk cx i x = true) : MP cx (.one i) (.Name x p)
  | tup {cx is es k p} (h : MNs cx is es) : MP cx (.tup is) (.Tuple es k p)

/-- our letters say what the text says -/
inductive ME : Cx → E → Nd → Prop where
  | bad {cx x} : ME cx .bad (.e x)
  | lit {cx v c k p} (h : LitOk v c) : ME cx (.lit v) (.e (.Constant c k p))
  | glo {cx v x p} (h : gloOk cx v x = true) : ME cx (.glo v) (.e (.Name x p))
  | loc {cx i x p} (h : locOk cx i x = true) : ME cx (.loc i) (.e (.Name x p))
  | cel {cx j x p} (h : celOk cx j x = true) : ME cx (.cel j) (.e (.Name x p))
  | bin {cx o a b l r p} (ha : ME cx a (.e l)) (hb : ME cx b (.e r)) : ME cx (.bin o a b) (.e (.BinOp l o r p))
  | neg {cx a x p} (ha : ME cx a (.e x)) : ME cx (.neg a) (.e (.UnaryOp .USub x p))
  | not {cx a x p} (ha : ME cx a (.e x)) : ME cx (.not a) (.e (.UnaryOp .Not x p))
  | and_ {cx l v p} (hl : ME cx l (.l v)) : ME cx (.and_ l) (.e (.BoolOp .And v p))
  | or_ {cx l v p} (hl : ME cx l (.l v)) : ME cx (.or_ l) (.e (.BoolOp .Or v p))
  | ite {cx c a b t y z p} (hc : ME cx c (.e t)) (ha : ME cx a (.e y)) (hb : ME cx b (.e z)) : ME cx (.ite c a b) (.e (.IfExp t y z p))
  | cmp {cx a l x ops rs p} (ha : ME cx a (.e x)) (hl : ME cx l (.c ops rs)) : ME cx (.cmp a l) (.e (.Compare x ops rs p))
  | call {cx f l y p as pos} (hf : ME cx f (.e (.Name y p))) (hl : ME cx l (.l as)) : ME cx (.call f l) (.e (.Call (.Name y p) as [] pos))
  | meth {cx o m l y nm apos as pos} (ho : ME cx o (.e y)) (hl : ME cx l (.l as)) (h : methOk m nm apos pos as y = true) : ME cx (.meth o m l) (.e (.Call (.Attribute y nm apos) as [] pos))
  | attr {cx o a y nm p} (ho : ME cx o (.e y)) (h : nm = a.str) (hs : notSuper y = true) : ME cx (.attr o a) (.e (.Attribute y nm p))
  | item {cx o i y z p} (ho : ME cx o (.e y)) (hi : ME cx i (.e z)) : ME cx (.item o i) (.e (.Subscript y z p))
  | slice {cx o lo hi y l u p p'} (ho : ME cx o (.e y)) (hl : ME cx lo (.o l)) (hu : ME cx hi (.o u)) : ME cx (.slice o lo hi) (.e (.Subscript y (.Slice l u none p') p))
  | tup {cx l es k p} (hl : ME cx l (.l es)) : ME cx (.tup l) (.e (.Tuple es k p))
  | lst {cx l es p} (hl : ME cx l (.l es)) : ME cx (.lst l) (.e (.List es p))
  | dct0 {cx p} : ME cx .dct0 (.e (.Dict [] [] p))
  | dct1 {cx k v kc kk kp vc vk vp p} (hk : LitOk (.str k) kc) (hv : LitOk (.str v) vc) : ME cx (.dct1 k v) (.e (.Dict [some (.Constant kc kk kp)] [.Constant vc vk vp] p))
  | comp {cx elt p iter cond y t it ifs sc pos} (hi : ME cx iter (.e it)) (hp : MP (compCx cx sc.names) p t) (he : ME (compCx cx sc.names) elt (.e y)) (hc : ME (compCx cx sc.names) cond (.l ifs))
      (hs : scopeOk cx sc = true) (hn : notSet it = true) : ME cx (.comp elt p iter cond) (.e (.ListComp y [⟨t, it, ifs, 0⟩] sc pos))
  | nil {cx} : ME cx .nil (.l [])
  | cons {cx a r x xs} (hs : notStar x = true) (ha : ME cx a (.e x)) (hr : ME cx r (.l xs)) : ME cx (.cons a r) (.l (x :: xs))
  | onil {cx} : ME cx .nil (.o none)
  | osome {cx a x} (ha : ME cx a (.e x)) : ME cx (.cons a .nil) (.o (some x))
  | cnil {cx} : ME cx .nil (.c [] [])
  | ccons {cx o a r x ops xs} (hb : behindInMarks o x = false) (ha : ME cx a (.e x)) (hr : ME cx r (.c ops xs)) : ME cx (.ccons o a r) (.c (o :: ops) (x :: xs))

inductive Nt where
  | e (x : Expr)
  | l (xs : List Expr)
inductive MT : Cx → Tg → Nt → Prop where
  | loc {cx i x p} (h : locOk cx i x = true) : MT cx (.loc i) (.e (.Name x p))
  | cel {cx j x p} (h : celOk cx j x = true) : MT cx (.cel j) (.e (.Name x p))
  | attr {cx o a y nm p} (ho : ME cx o (.e y)) (h : nm = a.str) : MT cx (.attr o a) (.e (.Attribute y nm p))
  | item {cx o i y z p} (ho : ME cx o (.e y)) (hi : ME cx i (.e z)) : MT cx (.item o i) (.e (.Subscript y z p))
  | tup {cx l es k p} (hl : MT cx l (.l es)) : MT cx (.tup l) (.e (.Tuple es k p))
  | nil {cx} : MT cx .nil (.l [])
  | cons {cx t r x xs} (hs : notStar x = true) (ht : MT cx t (.e x)) (hr : MT cx r (.l xs)) : MT cx (.cons t r) (.l (x :: xs))
noncomputable def isTup : Tg → Bool
  | .tup _ => true
  | _ => false
noncomputable def isLoc : Tg → Bool
  | .loc _ => true
  | _ => false
/-- what is stored where needs no swapping -/
noncomputable def asgOk (t : Tg) (e : Expr) : Bool := (notComp e || !(isLoc t || isTup t)) && (notTup e || !isTup t)

inductive Ns where
  | s (x : Stmt)
  | l (xs : List Stmt)
inductive MS : Cx → S → Ns → Prop where
  | bad {cx x} : MS cx .bad (.s x)
  | badl {cx x} : MS cx .bad (.l x)
  | asg {cx t e tg v p} (ht : MT cx t (.e tg)) (he : ME cx e (.e v)) (h : asgOk t v = true) : MS cx (.asg t e) (.s (.Assign [tg] v p))
  | exp {cx e v p} (he : ME cx e (.e v)) (h : notComp v = true) : MS cx (.exp e) (.s (.Expr v p))
  | iff {cx c a b t y z p} (hc : ME cx c (.e t)) (ha : MS cx a (.l y)) (hb : MS cx b (.l z)) : MS cx (.iff c a b) (.s (.If t y z p))
  | whl {cx c b t y p} (hc : ME cx c (.e t)) (hb : MS cx b (.l y)) : MS cx (.whl c b) (.s (.While t y [] p))
  | for_ {cx p e b t it y pos} (hp : MP cx p t) (he : ME cx e (.e it)) (hb : MS cx b (.l y)) (h : notSet it = true) : MS cx (.for_ p e b) (.s (.For t it y [] pos))
  | ret {cx e v p} (he : ME cx e (.e v)) : MS cx (.ret e) (.s (.Return (some v) p))
  | ret0 {cx p} : MS cx .ret0 (.s (.Return none p))
  | try_ {cx b y h hs p} (hb : MS cx b (.l y)) : MS cx (.try_ b) (.s (.Try y (h :: hs) [] [] p))
  | pass_ {cx p} : MS cx .pass_ (.s (.Pass p))
  | nil {cx} : MS cx .nil (.l [])
  | cons {cx a r x xs} (ha : MS cx a (.s x)) (hr : MS cx r (.l xs)) : MS cx (.cons a r) (.l (x :: xs))
end
end Mine
namespace Mine
noncomputable section
set_option genSizeOf false
set_option genInjectivity false

/-- the tuples of the text's top -/
noncomputable def Cons (h : Heap) : Prop := ∀ c : Con, ∃ vs n, h.get? c.addr = some { cls := .type "tuple", data := .seq vs n } ∧ RVs c.items vs.toList

/-- what stands beneath every call: the text's own objects -/
structure Gr (K : Frag) (h : Heap) : Prop where
  inK : K.In h
  nl : h.NoLimit
  glob : ∃ mg, h.Ns mainGlobals mg ∧ ∀ x v, gtab.lookup x = some v → match v with
    | .fn _ => mg x = none
    | v => ∃ v', mg x = some v' ∧ RV v v'
  blt : ∃ mb, h.Ns builtinsNs mb ∧ ∀ x : Str, x ≠ Str.ofString "__name__" → mb x = bootBuiltins x
  con : Cons h
theorem Gr.keeps {K : Frag} {h h' : Heap} (G : Gr K h) (k : ∀ b o, h.get? b = some o → h'.get? b = some o) : Gr K h' :=
  ⟨G.inK.keeps k, G.nl.keeps k, let ⟨mg, x, y⟩ := G.glob; ⟨mg, x.keeps k, y⟩, let ⟨mb, x, y⟩ := G.blt; ⟨mb, x.keeps k, y⟩, fun c => let ⟨vs, n, e, r⟩ := G.con c; ⟨vs, n, k _ _ e, r⟩⟩

/-- a frame: the def's own (fenv, m) and the place where names are looked up (env, m2): the same, or a comprehension's -/
structure Fx where
  A : Around
  A₀ : Around
  h₀ : Heap
  base : Heap
  outer : List Env
  fenv : Env
  m : Str → Option Value
  env : Env
  m2 : Str → Option Value

structure Fx.Ok (F : Fx) (K : Frag) (h : Heap) (H : AHeap) : Prop where
  below : Below F.A₀ F.base F.outer F.h₀
  fr : Fr F.h₀ F.fenv.locals h F.m
  gr : Gr K F.h₀
  dom : ∀ a, H a ≠ none → F.h₀.get? a = none ∧ a ≠ F.fenv.locals ∧ a ≠ F.env.locals
  cur : h.Ns F.env.locals F.m2
  hh : F.A.handled = none
  frames : F.A.frames = some (F.fenv :: F.outer)
  ffr : F.fenv.frame = some F.fenv.locals
  fk : F.fenv.scope.kind = .function
  ek : F.env.scope.kind = .function
  eg : F.env.globals = mainGlobals
  eb : F.env.builtins = builtinsNs
noncomputable def Fx.Room (F : Fx) (n : Nat) : Prop := F.A.depth + n < recursionLimit ∧ F.A.units + 8 * n < cLine
theorem Fx.Room.le {F : Fx} {n k : Nat} (r : F.Room n) (h : k ≤ n) : F.Room k := ⟨by have := r.1; omega, by have := r.2; omega⟩

theorem Fx.Ok.step {F : Fx} {K : Frag} {w : World} {h h' : Heap} {H H' : AHeap} (O : F.Ok K h H) (S : Step w h H h' H') : F.Ok K h' H' := by
  have hL : H F.fenv.locals = none := by
    cases q : H F.fenv.locals with
    | none => rfl
    | some o => exact absurd rfl (O.dom _ (by rw [q]; simp)).2.1
  have hE : H F.env.locals = none := by
    cases q : H F.env.locals with
    | none => rfl
    | some o => exact absurd rfl (O.dom _ (by rw [q]; simp)).2.2
  have ns : ∀ {a m}, H a = none → h.Ns a m → h'.Ns a m := fun {a m} ha hn => hn.at' fun o e => S.keep a o e ha
  have keep : ∀ b o, F.h₀.get? b = some o → h'.get? b = some o := fun b o e => S.keep b o (O.fr.keep b o e) (by
    cases q : H b with
    | none => rfl
    | some x => have := (O.dom b (by rw [q]; simp)).1; rw [this] at e; cases e)
  refine { O with fr := ⟨ns hL O.fr.ns, keep, O.fr.above⟩, dom := fun a ha => ?_, cur := ns hE O.cur }
  by_cases q : H a = none
  · have f := S.fresh a q ha
    refine ⟨?_, ?_, ?_⟩
    · cases z : F.h₀.get? a with
      | none => rfl
      | some o => rw [O.fr.keep a o z] at f; cases f
    · rintro rfl; obtain ⟨o, _, _, ho, _⟩ := O.fr.ns; rw [f] at ho; cases ho
    · rintro rfl; obtain ⟨o, _, _, ho, _⟩ := O.cur; rw [f] at ho; cases ho
  · exact O.dom a q
theorem Fx.Ok.grh {F : Fx} {K : Frag} {h : Heap} {H : AHeap} (O : F.Ok K h H) : Gr K h := O.gr.keeps O.fr.keep

/-- a call that comes back with what Q says, wherever there is room for n frames -/
noncomputable def CallOK (w : World) (K : Frag) (n : Nat) (f : Addr) (vs : List AV) (H : AHeap) (Q : AV → AHeap → Prop) : Prop :=
  ∀ (F : Fx) (s : Shared) (vs' : List Value), F.Ok K s.heap H → F.Room n → RepH w s.heap H → RVs vs vs' →
    TV pw w F.A (PySem.call (.ref f) vs') s H Q
end
end Mine
namespace Mine
noncomputable section
set_option backward.match.sparseCases false
set_option genSizeOf false
set_option genInjectivity false

/-! pure words -/
noncomputable def bfind (d sub : List UInt8) (a b : Nat) : Int :=
  if ((min d.length b : Nat) : Int) - (a : Int) < (sub.length : Int) then -1 else
    match ((List.range (min d.length b + 1 - (a + sub.length))).map (· + a)).find? (fun i => (d.drop i).take sub.length == sub) with
    | some i => (i : Int)
    | none => -1
noncomputable def lstripB (d s : List UInt8) : List UInt8 := d.dropWhile fun c => s.contains c
noncomputable def rstripB (d s : List UInt8) : List UInt8 := (d.reverse.dropWhile fun c => s.contains c).reverse
noncomputable def sl {α : Type} (l : List α) (lo hi : Option Int) : List α := (l.drop (lo.elim 0 Int.toNat)).take (hi.elim l.length Int.toNat - lo.elim 0 Int.toNat)
noncomputable def sfind (l : List Nat) (c : Nat) : Int := match l.findIdx? (· == c) with | some i => (i : Int) | none => -1
noncomputable def lookS (k : List Nat) : List (List Nat × AV) → Option AV
  | [] => none
  | (x, v) :: r => if x = k then some v else lookS k r
noncomputable def putS (k : List Nat) (v : AV) (l : List (List Nat × AV)) : List (List Nat × AV) :=
  if l.any (fun p => p.1 = k) then l.map (fun p => if p.1 = k then (p.1, v) else p) else l ++ [(k, v)]
noncomputable def lookA (k : At) : List (At × AV) → Option AV
  | [] => none
  | (x, v) :: r => if x = k then some v else lookA k r
noncomputable def putA (k : At) (v : AV) : List (At × AV) → List (At × AV)
  | [] => [(k, v)]
  | (x, u) :: r => if x = k then (x, v) :: r else (x, u) :: putA k v r

noncomputable def intsOf : List AV → Option (List Int)
  | [] => some []
  | .int i :: r => (intsOf r).map (i :: ·)
  | _ :: _ => none
/-- the tuples of ints that a list's items are -/
noncomputable def TupsOf (H : AHeap) : List AV → List (List Int) → Prop
  | [], [] => True
  | .ref a :: r, t :: ts => (∃ xs, H a = some (.tup xs) ∧ intsOf xs = some t) ∧ TupsOf H r ts
  | _, _ => False

structure Rho where
  loc : List (Option AV)
  cel : List Addr
inductive Fl where
  | next
  | ret (v : AV)

noncomputable def truthVC (v : AV) (H : AHeap) (Q : Bool → Prop) : Prop := match v with
  | .none => Q false
  | .bool b => Q b
  | .int i => Q (i != 0)
  | .str l => l.length ≤ 16777216 ∧ Q (!l.isEmpty)
  | .bytes l => l.length ≤ 16777216 ∧ Q (!l.isEmpty)
  | .ref a => ∃ xs, H a = some (.list xs) ∧ xs.length ≤ 16777216 ∧ Q (!xs.isEmpty)
  | _ => False

/-! a value of its kind -/
noncomputable def onInt (v : AV) (Q : Int → Prop) : Prop := match v with | .int i => Q i | _ => False
noncomputable def onStr (v : AV) (Q : List Nat → Prop) : Prop := match v with | .str i => Q i | _ => False
noncomputable def onBytes (v : AV) (Q : List UInt8 → Prop) : Prop := match v with | .bytes i => Q i | _ => False
noncomputable def onRef (v : AV) (Q : Addr → Prop) : Prop := match v with | .ref i => Q i | _ => False
noncomputable def on0 (vs : List AV) (Q : Prop) : Prop := match vs with | [] => Q | _ => False
noncomputable def on1 (vs : List AV) (Q : AV → Prop) : Prop := match vs with | [] => False | v :: r => r = [] ∧ Q v
noncomputable def on2 (vs : List AV) (Q : AV → AV → Prop) : Prop := match vs with | [] => False | v :: r => on1 r (Q v)
noncomputable def on3 (vs : List AV) (Q : AV → AV → AV → Prop) : Prop := match vs with | [] => False | v :: r => on2 r (Q v)

noncomputable def binI (o : Operator) (x y : Int) (Q : Int → Prop) : Prop := match o with
  | .Add => Q (x + y)
  | .Sub => Q (x - y)
  | .Mult => IntMulOk x y ∧ Q (x * y)
  | .FloorDiv => 0 < y ∧ y < 1000000 ∧ Q (x.fdiv y)
  | .Mod => 0 < y ∧ y < 1000000 ∧ Q (x.fmod y)
  | _ => False
inductive BinB (o : Operator) (n : Nat) (P : Prop) : Prop
  | mk (h1 : o = .Add) (h2 : n ≤ 16777216) (q : P)
inductive BinL (o : Operator) (x y : Addr) (H : AHeap) (Q : AV → AHeap → Prop) : Prop
  | mk (h1 : o = .Add) (xs ys : List AV) (h2 : H x = some (.list xs)) (h3 : H y = some (.list ys)) (h4 : xs.length + ys.length ≤ 16777216) (q : ∀ a, H a = none → Q (.ref a) (upd H a (.list (xs ++ ys))))
noncomputable def binVC (o : Operator) (a b : AV) (H : AHeap) (Q : AV → AHeap → Prop) : Prop := match a with
  | .int x => onInt b fun y => binI o x y fun i => Q (.int i) H
  | .bytes x => onBytes b fun y => BinB o (x.length + y.length) (Q (.bytes (x ++ y)) H)
  | .ref x => onRef b fun y => BinL o x y H Q
  | _ => False

noncomputable def strsOf : List AV → Option (List (List Nat))
  | [] => some []
  | .str i :: r => (strsOf r).map (i :: ·)
  | _ :: _ => none

noncomputable def cmpI (o : CmpOp) (x y : Int) (Q : Bool → Prop) : Prop := match o with
  | .Lt => Q (decide (x < y))
  | .LtE => Q (decide (x ≤ y))
  | .Gt => Q (decide (y < x))
  | .GtE => Q (decide (y ≤ x))
  | .Eq => Q (decide (x = y))
  | .NotEq => Q (!decide (x = y))
  | _ => False
noncomputable def eqB (o : CmpOp) (e : Bool) (Q : Bool → Prop) : Prop := match o with
  | .Eq => Q e
  | .NotEq => Q (!e)
  | _ => False
noncomputable def inB (o : CmpOp) (e : Bool) (Q : Bool → Prop) : Prop := match o with
  | .In => Q e
  | .NotIn => Q (!e)
  | _ => False
noncomputable def isB (o : CmpOp) (e : Bool) (Q : Bool → Prop) : Prop := match o with
  | .Is => Q e
  | .IsNot => Q (!e)
  | _ => False
noncomputable def noFn (v : AV) : Bool := match v with | .fn _ => false | _ => true
noncomputable def isNone (v : AV) : Bool := match v with | .none => true | _ => false
inductive CmE (x y : Addr) (H : AHeap) (Q : Bool → Prop) : Prop
  | mk (xs : List AV) (h1 : H x = some (.list xs)) (h2 : H y = some (.list [])) (q : Q xs.isEmpty)
inductive NeL (x y : Addr) (H : AHeap) (Q : Bool → Prop) : Prop
  | mk (xs : List AV) (h1 : H x = some (.list xs)) (h2 : H y = some (.list [])) (q : Q (!xs.isEmpty))
inductive NeT (x y : Addr) (H : AHeap) (Q : Bool → Prop) : Prop
  | mk (xs ys : List AV) (is js : List Int) (h1 : H x = some (.tup xs)) (h2 : H y = some (.tup ys)) (h3 : intsOf xs = some is) (h4 : intsOf ys = some js) (h5 : is.length = js.length) (q : Q (!decide (is = js)))
inductive NeS (x y : Addr) (H : AHeap) (Q : Bool → Prop) : Prop
  | mk (xs ys : List AV) (ts : List (List Int)) (h1 : H x = some (.list xs)) (h2 : H y = some (.list ys)) (h3 : TupsOf H xs ts) (h4 : TupsOf H ys ts) (q : Q false)
inductive Ne2 (x y : Addr) (H : AHeap) (Q : Bool → Prop) : Prop
  | inl (h : NeT x y H Q)
  | inr (h : NeS x y H Q)
inductive Ne1 (x y : Addr) (H : AHeap) (Q : Bool → Prop) : Prop
  | inl (h : NeL x y H Q)
  | inr (h : Ne2 x y H Q)
noncomputable def cmpR (o : CmpOp) (x y : Addr) (H : AHeap) (Q : Bool → Prop) : Prop := match o with
  | .Eq => CmE x y H Q
  | .NotEq => Ne1 x y H Q
  | _ => False
noncomputable def cmpVC (o : CmpOp) (a b : AV) (H : AHeap) (Q : Bool → Prop) : Prop := match b with
  | .none => noFn a = true ∧ isB o (isNone a) Q
  | .int y => onInt a fun x => cmpI o x y Q
  | .str y => onStr a fun x => eqB o (decide (x = y)) Q
  | .bytes y => (match a with
    | .bytes x => eqB o (decide (x = y)) Q
    | .int i => 0 ≤ i ∧ i < 256 ∧ inB o (y.contains i.toNat.toUInt8) Q
    | _ => False)
  | .con c => (match a with
    | .int i => ∃ ns, intsOf c.items = some ns ∧ inB o (ns.any (· == i)) Q
    | .str x => ∃ ys, strsOf c.items = some ys ∧ inB o (ys.any (· == x)) Q
    | _ => False)
  | .ref y => (match a with
    | .str k => o = .NotIn ∧ y ≠ sysModules ∧ ∃ kvs, H y = some (.dict kvs) ∧ Q (!(lookS k kvs).isSome)
    | .ref x => cmpR o x y H Q
    | _ => False)
  | _ => False

inductive AttrW (x : Addr) (a : At) (H : AHeap) (Q : AV → Prop) : Prop
  | mk (c d : Addr) (kvs : List (At × AV)) (r : AV) (h1 : H x = some (.inst c d)) (h2 : H d = some (.attrs kvs)) (h3 : lookA a kvs = some r) (q : Q r)
inductive SetAttrW (x : Addr) (a : At) (r : AV) (H : AHeap) (Q : AHeap → Prop) : Prop
  | mk (c d : Addr) (kvs : List (At × AV)) (h1 : H x = some (.inst c d)) (h2 : H d = some (.attrs kvs)) (h3 : kvs.length ≤ 100) (q : Q (upd H d (.attrs (putA a r kvs))))
noncomputable def attrVC (v : AV) (a : At) (H : AHeap) (Q : AV → Prop) : Prop := onRef v fun x => AttrW x a H Q
noncomputable def setAttrVC (v : AV) (a : At) (r : AV) (H : AHeap) (Q : AHeap → Prop) : Prop := onRef v fun x => SetAttrW x a r H Q
inductive BytW (l : List UInt8) (k : Nat) (Q : AV → Prop) : Prop
  | mk (h1 : l.length ≤ 16777216) (b : UInt8) (h2 : l[k]? = some b) (q : Q (.int b.toNat))
inductive ConW (c : Con) (k : Nat) (Q : AV → Prop) : Prop
  | mk (x : AV) (h1 : c.items[k]? = some x) (q : Q x)
inductive SeqW (a : Addr) (k : Nat) (H : AHeap) (Q : AV → Prop) : Prop
  | mk (xs : List AV) (x : AV) (h1 : H a = some (.list xs) ∨ H a = some (.tup xs) ∨ H a = some (.olist xs)) (h2 : xs[k]? = some x) (q : Q x)
noncomputable def itemAt (v : AV) (k : Nat) (H : AHeap) (Q : AV → Prop) : Prop := match v with
  | .bytes l => BytW l k Q
  | .con c => ConW c k Q
  | .ref a => SeqW a k H Q
  | _ => False
inductive IdxW (k : Int) (P : Prop) : Prop
  | mk (h1 : 0 ≤ k) (h2 : k < 1000000000) (q : P)
noncomputable def itemVC (v i : AV) (H : AHeap) (Q : AV → Prop) : Prop := onInt i fun k => IdxW k (itemAt v k.toNat H Q)
noncomputable def setItemVC (v i r : AV) (H : AHeap) (Q : AHeap → Prop) : Prop := onRef v fun a => match i with
  | .int k => 0 ≤ k ∧ ∃ xs, (H a = some (.list xs) ∨ H a = some (.olist xs)) ∧ xs.length ≤ 16777216 ∧ k.toNat < xs.length ∧ Q (upd H a (.olist (xs.set k.toNat r)))
  | .str k => ∃ kvs, H a = some (.dict kvs) ∧ kvs.length ≤ 100 ∧ Q (upd H a (.dict (putS k r kvs)))
  | _ => False
noncomputable def sliceVC (v : AV) (lo hi : Option Int) (H : AHeap) (Q : AV → AHeap → Prop) : Prop := match v with
  | .bytes l => l.length ≤ 16777216 ∧ Q (.bytes (sl l lo hi)) H
  | .ref a => ∃ xs, (H a = some (.list xs) ∨ ∃ ob, H a = some (.fix ob xs)) ∧ xs.length ≤ 16777216 ∧ ∀ b, H b = none → Q (.ref b) (upd H b (.list (sl xs lo hi)))
  | _ => False

/-- the defs and classes that are called by name -/
noncomputable def calleeOk (a : Addr) : Bool := gtab.any fun p => p.2 == .ref a
noncomputable def smallI (i : Int) : Prop := -1000 ≤ i ∧ i ≤ 16777216

noncomputable def lenVC (v : AV) (H : AHeap) (Q : Int → Prop) : Prop := match v with
  | .bytes l => l.length ≤ 16777216 ∧ Q l.length
  | .str l => l.length ≤ 16777216 ∧ Q l.length
  | .ref a => ∃ xs, H a = some (.list xs) ∧ xs.length ≤ 16777216 ∧ Q xs.length
  | _ => False
noncomputable def rangeVC (lo hi : Int) (H : AHeap) (Q : AV → AHeap → Prop) : Prop := smallI lo ∧ smallI hi ∧ ∀ b, H b = none → Q (.ref b) (upd H b (.rng lo hi))
noncomputable def callB (b : Bf) (vs : List AV) (H : AHeap) (Q : AV → AHeap → Prop) : Prop := match b with
  | .len => on1 vs fun v => lenVC v H fun i => Q (.int i) H
  | .min => on2 vs fun v u => onInt v fun x => onInt u fun y => Q (.int (min x y)) H
  | .max => on2 vs fun v u => onInt v fun x => onInt u fun y => Q (.int (max x y)) H
  | .bytes => on1 vs fun v => onRef v fun a => ∃ l : List UInt8, H a = some (.list (l.map fun b => .int b.toNat)) ∧ l.length ≤ 16777216 ∧ Q (.bytes l) H
  | .chr => on1 vs fun v => onInt v fun i => 0 ≤ i ∧ i < 256 ∧ Q (.str [i.toNat]) H
  | .ord => on1 vs fun v => onStr v fun l => ∃ c, l = [c] ∧ Q (.int c) H
  | .list => on1 vs fun v => onRef v fun a => ∃ xs, H a = some (.list xs) ∧ xs.length ≤ 16777216 ∧ ∀ b, H b = none → Q (.ref b) (upd H b (.list xs))
  | .range => (match vs with
    | [] => False
    | v :: r => onInt v fun x => match r with
      | [] => rangeVC 0 x H Q
      | u :: r => r = [] ∧ onInt u fun y => rangeVC x y H Q)
  | .reversed => on1 vs fun v => onRef v fun a => ∃ xs, H a = some (.list xs) ∧ ∀ b, H b = none → Q (.ref b) (upd H b (.rev a ((xs.length : Int) - 1)))
noncomputable def callVC (w : World) (K : Frag) (n : Nat) (f : AV) (vs : List AV) (H : AHeap) (Q : AV → AHeap → Prop) : Prop := match f with
  | .ref a => calleeOk a = true ∧ CallOK w K n a vs H Q
  | .fn b => callB b vs H Q
  | _ => False

/-- the defs that are methods: class, name, def -/
noncomputable def methAddr (c : Addr) (m : Mt) : Option Addr := match m with
  | .word => if c = 162 then some 152 else none
  | .isDone => if c = 103 then some 43 else none
  | .peek => if c = 103 then some 51 else none
  | .take => if c = 103 then some 58 else none
  | .starts => if c = 103 then some 65 else none
  | .skip => if c = 103 then some 72 else none
  | .isMulti => if c = 413 then some 396 else none
  | .isLetter => if c = 413 then some 403 else none
  | _ => none
/-- what a method's name gives -/
inductive Ct where
  | b (T id : String)
  | own (f : Addr)
/-- the methods of the built-in types -/
noncomputable def bytesM (m : Mt) : Option String := match m with | .find => some "bytes.find" | .strip => some "bytes.strip" | .rstrip => some "bytes.rstrip" | .join => some "bytes.join" | _ => none
noncomputable def strM (m : Mt) : Option String := match m with | .find => some "str.find" | .join => some "str.join" | _ => none
noncomputable def listM (m : Mt) : Option String := match m with | .append => some "list.append" | .pop => some "list.pop" | .extend => some "list.extend" | _ => none
noncomputable def dictM (m : Mt) : Option String := match m with | .get => some "dict.get" | _ => none
noncomputable def onCt (c : Ct) (f : Addr → Prop) (b : Prop) : Prop := match c with | .own a => f a | .b _ _ => b
inductive PreL (a : Addr) (m : Mt) (H : AHeap) (Q : Ct → Prop) : Prop
  | mk (i : String) (xs : List AV) (h1 : listM m = some i) (h2 : H a = some (.list xs)) (q : Q (.b "list" i))
inductive PreD (a : Addr) (m : Mt) (H : AHeap) (Q : Ct → Prop) : Prop
  | mk (i : String) (kvs : List (List Nat × AV)) (h1 : dictM m = some i) (h2 : H a = some (.dict kvs)) (q : Q (.b "dict" i))
inductive PreI (a : Addr) (m : Mt) (H : AHeap) (Q : Ct → Prop) : Prop
  | mk (c d : Addr) (kvs : List (At × AV)) (f : Addr) (h1 : H a = some (.inst c d)) (h2 : H d = some (.attrs kvs)) (h3 : methAddr c m = some f) (q : Q (.own f))
inductive PreR2 (a : Addr) (m : Mt) (H : AHeap) (Q : Ct → Prop) : Prop
  | inl (h : PreD a m H Q)
  | inr (h : PreI a m H Q)
inductive PreR (a : Addr) (m : Mt) (H : AHeap) (Q : Ct → Prop) : Prop
  | inl (h : PreL a m H Q)
  | inr (h : PreR2 a m H Q)
inductive PreW (o : Option String) (Q : String → Prop) : Prop
  | mk (i : String) (h : o = some i) (q : Q i)
noncomputable def methPre (v : AV) (m : Mt) (H : AHeap) (Q : Ct → Prop) : Prop := match v with
  | .bytes _ => PreW (bytesM m) fun i => Q (.b "bytes" i)
  | .str _ => PreW (strM m) fun i => Q (.b "str" i)
  | .ref a => PreR a m H Q
  | _ => False
noncomputable def del (H : AHeap) (a : Addr) : AHeap := fun b => if b = a then none else H b
noncomputable def bytesVC (d : List UInt8) (m : Mt) (vs : List AV) (H : AHeap) (Q : AV → AHeap → Prop) : Prop := match m with
  | .find => on3 vs fun x y z => onBytes x fun s => onInt y fun a => onInt z fun b => 0 ≤ a ∧ 0 ≤ b ∧ Q (.int (bfind d s a.toNat b.toNat)) H
  | .strip => on1 vs fun x => onBytes x fun s => d.length ≤ 16777216 ∧ Q (.bytes (rstripB (lstripB d s) s)) H
  | .rstrip => on1 vs fun x => onBytes x fun s => d.length ≤ 16777216 ∧ Q (.bytes (rstripB d s)) H
  | .join => on1 vs fun x => onRef x fun a => d = [] ∧ ∃ ls : List (List UInt8), H a = some (.list (ls.map .bytes)) ∧ ls.flatten.length ≤ 16777216 ∧ Q (.bytes ls.flatten) H
  | _ => False
noncomputable def strVC (d : List Nat) (m : Mt) (vs : List AV) (H : AHeap) (Q : AV → AHeap → Prop) : Prop := match m with
  | .find => on1 vs fun x => onStr x fun l => ∃ c, l = [c] ∧ c ∉ d ∧ Q (.int (-1)) H
  | .join => on1 vs fun x => onRef x fun a => d = [] ∧ ∃ ls : List (List Nat), H a = some (.list (ls.map .str)) ∧ ls.flatten.length ≤ 16777216 ∧ Q (.str ls.flatten) H
  | _ => False
inductive AppW (a : Addr) (x : AV) (H : AHeap) (Q : AV → AHeap → Prop) : Prop
  | mk (xs : List AV) (h1 : H a = some (.list xs)) (h2 : xs.length < 16777216) (q : Q .none (upd H a (.list (xs ++ [x]))))
inductive PopW (a : Addr) (H : AHeap) (Q : AV → AHeap → Prop) : Prop
  | mk (xs : List AV) (x : AV) (h1 : H a = some (.list (xs ++ [x]))) (h2 : xs.length < 16777216) (q : Q x (upd H a (.list xs)))
inductive ExtW (a b : Addr) (H : AHeap) (Q : AV → AHeap → Prop) : Prop
  | mk (l : Addr) (xs ys : List AV) (h1 : H b = some (.rev l ((ys.length : Int) - 1))) (h2 : H l = some (.list ys)) (h3 : H a = some (.list xs)) (h4 : l ≠ a) (h5 : xs.length + ys.length ≤ 16777216) (q : Q .none (upd (del H b) a (.list (xs ++ ys.reverse))))
inductive GetW (a : Addr) (k : List Nat) (dflt : AV) (H : AHeap) (Q : AV → AHeap → Prop) : Prop
  | mk (h1 : a ≠ sysModules) (kvs : List (List Nat × AV)) (h2 : H a = some (.dict kvs)) (q : Q ((lookS k kvs).getD dflt) H)
noncomputable def refVC (a : Addr) (m : Mt) (vs : List AV) (H : AHeap) (Q : AV → AHeap → Prop) : Prop := match m with
  | .append => on1 vs fun x => AppW a x H Q
  | .pop => on0 vs (PopW a H Q)
  | .extend => on1 vs fun x => onRef x fun b => ExtW a b H Q
  | .get => on2 vs fun x dflt => onStr x fun k => GetW a k dflt H Q
  | _ => False
noncomputable def methVC (v : AV) (m : Mt) (vs : List AV) (H : AHeap) (Q : AV → AHeap → Prop) : Prop := match v with
  | .bytes d => bytesVC d m vs H Q
  | .str d => strVC d m vs H Q
  | .ref a => refVC a m vs H Q
  | _ => False

/-- what a loop over v takes, item by item -/
inductive ItB (n : Nat) (P : Prop) : Prop
  | mk (h : n ≤ 16777216) (q : P)
inductive ItL (a : Addr) (H : AHeap) (Q : List AV → Prop) : Prop
  | mk (xs : List AV) (h1 : H a = some (.list xs)) (h2 : xs.length ≤ 16777216) (q : Q xs)
inductive ItR (a : Addr) (H : AHeap) (Q : List AV → Prop) : Prop
  | mk (lo hi : Int) (h1 : H a = some (.rng lo hi)) (b1 : -1000 ≤ lo) (b2 : lo ≤ 16777216) (b3 : -1000 ≤ hi) (b4 : hi ≤ 16777216) (q : Q ((List.range (hi - lo).toNat).map fun (k : Nat) => AV.int (lo + (k : Int))))
inductive ItD (a : Addr) (H : AHeap) (Q : List AV → Prop) : Prop
  | mk (h1 : H a = some (.dict [])) (h2 : a ≠ sysModules) (q : Q [])
inductive ItX2 (a : Addr) (H : AHeap) (Q : List AV → Prop) : Prop
  | inl (h : ItR a H Q)
  | inr (h : ItD a H Q)
inductive ItX (a : Addr) (H : AHeap) (Q : List AV → Prop) : Prop
  | inl (h : ItL a H Q)
  | inr (h : ItX2 a H Q)
noncomputable def itemsVC (v : AV) (H : AHeap) (Q : List AV → Prop) : Prop := match v with
  | .bytes l => ItB l.length (Q (l.map fun b => .int b.toNat))
  | .str l => l.length ≤ 16777216 ∧ (∀ c ∈ l, c < 256) ∧ Q (l.map fun c => .str [c])
  | .ref a => ItX a H Q
  | _ => False
/-- what a turn must leave as it is -/
noncomputable def Stays (v : AV) (H H' : AHeap) : Prop := match v with
  | .ref a => H' a = H a
  | _ => True

noncomputable def setLocs (ls : List (Option AV)) : List Nat → List AV → List (Option AV)
  | i :: is, x :: xs => setLocs (ls.set i (some x)) is xs
  | _, _ => ls
inductive PatW (x : AV) (n : Nat) (H : AHeap) (Q : List AV → Prop) : Prop
  | mk (a : Addr) (xs : List AV) (h1 : x = .ref a) (h2 : H a = some (.tup xs)) (h3 : xs.length = n) (h4 : xs.length ≤ 8) (q : Q xs)
noncomputable def patVC (p : Pt) (x : AV) (ls : List (Option AV)) (H : AHeap) (Q : List (Option AV) → Prop) : Prop := match p with
  | .one i => Q (ls.set i (some x))
  | .tup is => PatW x is.length H fun xs => Q (setLocs ls is xs)

/-- in a test the truth, else the value -/
noncomputable def fin (tm : Bool) (v : AV) (H : AHeap) (Q : AV → AHeap → Prop) : Prop := match tm with
  | true => truthVC v H fun b => Q (.bool b) H
  | false => Q v H
/-- a truth that came back -/
noncomputable def onB (v : AV) (Q : Bool → Prop) : Prop := match v with | .bool b => Q b | _ => False

noncomputable def onLoc (o : Option (Option AV)) (P : AV → Prop) : Prop := match o with | some (some v) => P v | _ => False
theorem onLoc_inv {o : Option (Option AV)} {P : AV → Prop} (h : onLoc o P) : ∃ v, o = some (some v) ∧ P v := by
  cases o with
  | none => exact h.elim
  | some o => cases o with
    | none => exact h.elim
    | some v => exact ⟨v, rfl, h⟩
theorem onLoc_of {o : Option (Option AV)} {P : AV → Prop} {v : AV} (h : o = some (some v)) (p : P v) : onLoc o P := by subst h; exact p
noncomputable def isNil : E → Bool
  | .nil => true
  | _ => false
noncomputable def ifT (b : Bool) (P Q : Prop) : Prop := match b with | true => P | false => Q
noncomputable def ifNil (e : E) (P Q : Prop) : Prop := ifT (isNil e) P Q
theorem ifNil_t {e : E} {P Q : Prop} (h : isNil e = true) (q : ifNil e P Q) : P := by unfold ifNil at q; rw [h] at q; exact q
theorem ifNil_f {e : E} {P Q : Prop} (h : isNil e = false) (q : ifNil e P Q) : Q := by unfold ifNil at q; rw [h] at q; exact q
theorem ifNil_of {e : E} {P Q : Prop} (h1 : isNil e = true → P) (h2 : isNil e = false → Q) : ifNil e P Q := by
  unfold ifNil
  cases h : isNil e with
  | true => exact h1 h
  | false => exact h2 h
inductive CelW (o : Option Addr) (H : AHeap) (P : AV → Prop) : Prop
  | mk (c : Addr) (v : AV) (h1 : o = some c) (h2 : H c = some (.cell v)) (q : P v)
inductive CompW (n : Prop) (init step fin : (Nat → List AV → AHeap → Prop) → Prop) : Prop
  | mk (h : n) (I : Nat → List AV → AHeap → Prop) (i : init I) (s : step I) (f : fin I)
mutual
noncomputable def vcG (w : World) (K : Frag) (n : Nat) : E → Bool → Rho → AHeap → (AV → AHeap → Prop) → Prop
  | .bad, _, _, _, _ => False
  | .lit v, tm, _, H, Q => fin tm v H Q
  | .glo v, tm, _, H, Q => fin tm v H Q
  | .loc i, tm, ρ, H, Q => onLoc ρ.loc[i]? fun v => fin tm v H Q
  | .cel j, tm, ρ, H, Q => CelW ρ.cel[j]? H fun v => fin tm v H Q
  | .bin o a b, tm, ρ, H, Q => vcG w K n a false ρ H fun x H => vcG w K n b false ρ H fun y H => binVC o x y H (fin tm · · Q)
  | .neg a, tm, ρ, H, Q => vcG w K n a false ρ H fun x H => onInt x fun i => fin tm (.int (-i)) H Q
  | .not a, tm, ρ, H, Q => tm = true ∧ vcG w K n a true ρ H fun x H => onB x fun b => Q (.bool (!b)) H
  | .and_ l, tm, ρ, H, Q => vcA w K n l true tm ρ H Q
  | .or_ l, tm, ρ, H, Q => vcA w K n l false tm ρ H Q
  | .ite c a b, tm, ρ, H, Q => tm = false ∧ vcG w K n c true ρ H fun x H => onB x fun t => (t = true → vcG w K n a false ρ H Q) ∧ (t = false → vcG w K n b false ρ H Q)
  | .cmp a l, _, ρ, H, Q => vcG w K n a false ρ H fun x H => vcC w K n l x ρ H fun b H => Q (.bool b) H
  | .call f args, tm, ρ, H, Q => vcG w K n f false ρ H fun g H => vcL w K n args ρ H fun vs H => callVC w K n g vs H (fin tm · · Q)
  | .meth o m args, tm, ρ, H, Q => vcG w K n o false ρ H fun x H => methPre x m H fun ct => vcL w K n args ρ H fun vs H => onCt ct (fun f => CallOK w K n f (x :: vs) H (fin tm · · Q)) (methVC x m vs H (fin tm · · Q))
  | .attr o a, tm, ρ, H, Q => vcG w K n o false ρ H fun x H => attrVC x a H fun r => fin tm r H Q
  | .item o i, tm, ρ, H, Q => vcG w K n o false ρ H fun x H => vcG w K n i false ρ H fun y H => itemVC x y H fun r => fin tm r H Q
  | .slice o lo hi, tm, ρ, H, Q => vcG w K n o false ρ H fun x H => vcO w K n lo ρ H fun l H => vcO w K n hi ρ H fun u H => sliceVC x l u H (fin tm · · Q)
  | .tup l, tm, ρ, H, Q => tm = false ∧ vcL w K n l ρ H fun vs H => vs.length ≤ 16777216 ∧ ∀ a, H a = none → Q (.ref a) (upd H a (.tup vs))
  | .lst l, tm, ρ, H, Q => vcL w K n l ρ H fun vs H => vs.length ≤ 16777216 ∧ ∀ a, H a = none → fin tm (.ref a) (upd H a (.list vs)) Q
  | .dct0, tm, _, H, Q => tm = false ∧ ∀ a, H a = none → a ≠ sysModules → Q (.ref a) (upd H a (.dict []))
  | .dct1 k v, tm, _, H, Q => tm = false ∧ ∀ a, H a = none → a ≠ sysModules → Q (.ref a) (upd H a (.dict [(k, .str v)]))
  | .comp elt p iter cond, tm, ρ, H, Q => tm = false ∧ vcG w K n iter false ρ H fun x H => itemsVC x H fun xs =>
      CompW (xs.length ≤ 16777216) (fun I => I 0 [] H)
        (fun I => ∀ k acc Hk y, xs[k]? = some y → I k acc Hk → Stays x H Hk → patVC p y [none, none, none] Hk fun ls =>
          vcF w K n cond ⟨ls, ρ.cel⟩ Hk fun b Hk => (b = true → vcG w K n elt false ⟨ls, ρ.cel⟩ Hk fun r Hk => Stays x H Hk ∧ I (k + 1) (acc ++ [r]) Hk) ∧ (b = false → Stays x H Hk ∧ I (k + 1) acc Hk))
        fun I => ∀ acc He, I xs.length acc He → acc.length ≤ xs.length → ∀ a, He a = none → Q (.ref a) (upd He a (.list acc))
  | .absent, _, _, _, _ => False
  | .nil, _, _, _, _ => False
  | .cons _ _, _, _, _, _ => False
  | .ccons _ _ _, _, _, _, _ => False
noncomputable def vcL (w : World) (K : Frag) (n : Nat) : E → Rho → AHeap → (List AV → AHeap → Prop) → Prop
  | .nil, _, H, Q => Q [] H
  | .cons a r, ρ, H, Q => vcG w K n a false ρ H fun v H => vcL w K n r ρ H fun vs H => Q (v :: vs) H
  | _, _, _, _ => False
/-- a comprehension's ifs -/
noncomputable def vcF (w : World) (K : Frag) (n : Nat) : E → Rho → AHeap → (Bool → AHeap → Prop) → Prop
  | .nil, _, H, Q => Q true H
  | .cons a r, ρ, H, Q => isNil r = true ∧ vcG w K n a true ρ H fun v H => onB v fun b => Q b H
  | _, _, _, _ => False
noncomputable def vcO (w : World) (K : Frag) (n : Nat) : E → Rho → AHeap → (Option Int → AHeap → Prop) → Prop
  | .nil, _, H, Q => Q none H
  | .cons a _, ρ, H, Q => vcG w K n a false ρ H fun v H => onInt v fun i => 0 ≤ i ∧ Q (some i) H
  | _, _, _, _ => False
noncomputable def vcC (w : World) (K : Frag) (n : Nat) : E → AV → Rho → AHeap → (Bool → AHeap → Prop) → Prop
  | .ccons o a r, x, ρ, H, Q => vcG w K n a false ρ H fun y H => cmpVC o x y H fun b =>
      ifNil r (Q b H) ((b = true → vcC w K n r y ρ H Q) ∧ (b = false → Q false H))
  | _, _, _, _, _ => False
/-- and (c = true), or (c = false) -/
noncomputable def vcA (w : World) (K : Frag) (n : Nat) : E → (c : Bool) → Bool → Rho → AHeap → (AV → AHeap → Prop) → Prop
  | .cons a r, c, tm, ρ, H, Q => ifNil r (vcG w K n a tm ρ H Q) (ifT tm
      (vcG w K n a true ρ H fun v H => onB v fun b => (b = c → vcA w K n r c true ρ H Q) ∧ (b = !c → Q (.bool b) H))
      (vcG w K n a false ρ H fun v H => truthVC v H fun b => (b = c → vcA w K n r c false ρ H Q) ∧ (b = !c → Q v H)))
  | _, _, _, _, _, _ => False
end

inductive CelT (o : Option Addr) (v : AV) (H : AHeap) (Q : AHeap → Prop) : Prop
  | mk (c : Addr) (h1 : o = some c) (h2 : H c = some .ucell ∨ ∃ u, H c = some (.cell u)) (q : Q (upd H c (.cell v)))
inductive TupT (v : AV) (n : Nat) (H : AHeap) (Q : List AV → Prop) : Prop
  | mk (a : Addr) (xs : List AV) (h1 : v = .ref a) (h2 : H a = some (.tup xs)) (h3 : xs.length = n) (q : Q xs)
inductive ConsT (xs : List AV) (Q : AV → List AV → Prop) : Prop
  | mk (y : AV) (ys : List AV) (h : xs = y :: ys) (q : Q y ys)
noncomputable def tgLen : Tg → Nat
  | .cons _ r => tgLen r + 1
  | _ => 0
mutual
/-- a value stored -/
noncomputable def vcT (w : World) (K : Frag) (n : Nat) : Tg → AV → Rho → AHeap → (Rho → AHeap → Prop) → Prop
  | .loc i, v, ρ, H, Q => Q ⟨ρ.loc.set i (some v), ρ.cel⟩ H
  | .cel j, v, ρ, H, Q => CelT ρ.cel[j]? v H (Q ρ)
  | .attr o a, v, ρ, H, Q => vcG w K n o false ρ H fun x H => setAttrVC x a v H fun H => Q ρ H
  | .item o i, v, ρ, H, Q => vcG w K n o false ρ H fun x H => vcG w K n i false ρ H fun y H => setItemVC x y v H fun H => Q ρ H
  | .tup l, v, ρ, H, Q => TupT v (tgLen l) H fun xs => vcTs w K n l xs ρ H Q
  | .nil, _, _, _, _ => False
  | .cons _ _, _, _, _, _ => False
noncomputable def vcTs (w : World) (K : Frag) (n : Nat) : Tg → List AV → Rho → AHeap → (Rho → AHeap → Prop) → Prop
  | .nil, xs, ρ, H, Q => xs = [] ∧ Q ρ H
  | .cons t r, xs, ρ, H, Q => ConsT xs fun y ys => vcT w K n t y ρ H fun ρ H => vcTs w K n r ys ρ H Q
  | _, _, _, _, _ => False
end
noncomputable def onFl (f : Fl) (a : Prop) (b : AV → Prop) : Prop := match f with | .next => a | .ret v => b v
noncomputable def notRef : AV → Bool
  | .ref _ => false
  | .con _ => false
  | _ => true

inductive WhlW (init : (Nat → Rho → AHeap → Prop) → Nat → Prop) (step : (Nat → Rho → AHeap → Prop) → Prop) : Prop
  | mk (N : Nat) (I : Nat → Rho → AHeap → Prop) (i : init I N) (s : step I)
inductive ForW (init step fin : (Nat → Rho → AHeap → Prop) → Prop) : Prop
  | mk (I : Nat → Rho → AHeap → Prop) (i : init I) (s : step I) (f : fin I)
/-- statements -/
noncomputable def vcS (w : World) (K : Frag) (n : Nat) : S → Rho → AHeap → (Fl → Rho → AHeap → Prop) → Prop
  | .bad, _, _, _ => False
  | .nil, ρ, H, Q => Q .next ρ H
  | .cons s r, ρ, H, Q => vcS w K n s ρ H fun f ρ H => onFl f (vcS w K n r ρ H Q) fun v => Q (.ret v) ρ H
  | .asg t e, ρ, H, Q => vcG w K n e false ρ H fun v H => vcT w K n t v ρ H fun ρ H => Q .next ρ H
  | .exp e, ρ, H, Q => vcG w K n e false ρ H fun v H => notRef v = true ∧ Q .next ρ H
  | .iff c a b, ρ, H, Q => vcG w K n c true ρ H fun v H => onB v fun t => (t = true → vcS w K n a ρ H Q) ∧ (t = false → vcS w K n b ρ H Q)
  | .whl c b, ρ, H, Q => WhlW (fun I N => I N ρ H) fun I => ∀ k ρk Hk, I k ρk Hk →
      vcG w K n c true ρk Hk fun v H => onB v fun t =>
        (t = true → vcS w K n b ρk H fun f ρ' H' => onFl f (∃ m, m < k ∧ I m ρ' H') fun v => Q (.ret v) ρ' H') ∧ (t = false → Q .next ρk H)
  | .for_ p e b, ρ, H, Q => vcG w K n e false ρ H fun x H => itemsVC x H fun xs => ForW (fun I => I 0 ρ H)
      (fun I => ∀ k ρk Hk y, xs[k]? = some y → I k ρk Hk → Stays x H Hk → patVC p y ρk.loc Hk fun ls => vcS w K n b ⟨ls, ρk.cel⟩ Hk fun f ρ' H' => onFl f (Stays x H H' ∧ I (k + 1) ρ' H') fun v => Q (.ret v) ρ' H')
      fun I => ∀ ρe He, I xs.length ρe He → Q .next ρe He
  | .ret e, ρ, H, Q => vcG w K n e false ρ H fun v H => Q (.ret v) ρ H
  | .ret0, ρ, H, Q => Q (.ret .none) ρ H
  | .try_ b, ρ, H, Q => vcS w K n b ρ H Q
  | .pass_, ρ, H, Q => Q .next ρ H
end
end Mine
namespace Mine
noncomputable section
set_option backward.match.sparseCases false

noncomputable def RB : Bool → Bool → Prop := fun a b => a = b
/-- a bool as a value -/
noncomputable def RBV : Bool → Value → Prop := fun b v => v = .bool b

theorem onInt_inv {v : AV} {Q : Int → Prop} (h : onInt v Q) : ∃ i, v = .int i ∧ Q i := by cases v <;> first | exact h.elim | exact ⟨_, rfl, h⟩
theorem onStr_inv {v : AV} {Q : List Nat → Prop} (h : onStr v Q) : ∃ i, v = .str i ∧ Q i := by cases v <;> first | exact h.elim | exact ⟨_, rfl, h⟩
theorem onBytes_inv {v : AV} {Q : List UInt8 → Prop} (h : onBytes v Q) : ∃ i, v = .bytes i ∧ Q i := by cases v <;> first | exact h.elim | exact ⟨_, rfl, h⟩
theorem onRef_inv {v : AV} {Q : Addr → Prop} (h : onRef v Q) : ∃ i, v = .ref i ∧ Q i := by cases v <;> first | exact h.elim | exact ⟨_, rfl, h⟩
theorem on1_inv {vs : List AV} {Q : AV → Prop} (h : on1 vs Q) : ∃ v, vs = [v] ∧ Q v := by
  cases vs with
  | nil => exact h.elim
  | cons v r => exact ⟨v, by rw [h.1], h.2⟩
theorem on2_inv {vs : List AV} {Q : AV → AV → Prop} (h : on2 vs Q) : ∃ v u, vs = [v, u] ∧ Q v u := by
  cases vs with
  | nil => exact h.elim
  | cons v r => obtain ⟨u, rfl, q⟩ := on1_inv h; exact ⟨v, u, rfl, q⟩
theorem on3_inv {vs : List AV} {Q : AV → AV → AV → Prop} (h : on3 vs Q) : ∃ v u x, vs = [v, u, x] ∧ Q v u x := by
  cases vs with
  | nil => exact h.elim
  | cons v r => obtain ⟨u, x, rfl, q⟩ := on2_inv h; exact ⟨v, u, x, rfl, q⟩

theorem str_len (l : List Nat) : (Str.mk l.toArray).length = l.length := by simp [PySem.Str.length]
theorem beq_dec (x y : Int) : (x == y) = decide (x = y) := by by_cases h : x = y <;> simp [h]
theorem beq_cps {x y : List Nat} : ((Str.mk x.toArray).cps.toList == (Str.mk y.toArray).cps.toList) = decide (x = y) := by
  by_cases h : x = y <;> simp [h]
theorem beq_bys {x y : List UInt8} : (x.toArray.toList == y.toArray.toList) = decide (x = y) := by
  by_cases h : x = y <;> simp [h]

section
variable {prog : Program} {w : World} {A : Around} {s : Shared} {H : AHeap}

theorem RepH.list {w : World} {h : Heap} (R : RepH w h H) {a : Addr} {xs : List AV} (e : H a = some (.list xs)) : ∃ vs : List Value, h.IsList a vs.toArray ∧ RVs xs vs ∧ xs.length = vs.length := by
  obtain ⟨ob, e1, vs, n, rfl, rv⟩ := R.get a _ e
  refine ⟨vs.toList, ⟨_, e1, rfl, n, by simp⟩, rv, rv.length⟩
theorem RepH.fixl {w : World} {h : Heap} (R : RepH w h H) {a : Addr} {xs : List AV} (e : H a = some (.list xs) ∨ ∃ ob, H a = some (.fix ob xs)) : ∃ vs : List Value, h.IsList a vs.toArray ∧ RVs xs vs ∧ xs.length = vs.length := by
  rcases e with e | ⟨ob, e⟩
  · exact R.list e
  · obtain ⟨ob, e1, _, hc, vs, n, hd, rv⟩ := R.get a _ e
    exact ⟨vs.toList, ⟨_, e1, hc, n, by rw [hd]⟩, rv, rv.length⟩
theorem RepH.tup {w : World} {h : Heap} (R : RepH w h H) {a : Addr} {xs : List AV} (e : H a = some (.tup xs)) : ∃ vs : List Value, IsTup h a vs.toArray ∧ RVs xs vs ∧ xs.length = vs.length := by
  obtain ⟨ob, e1, vs, n, rfl, rv⟩ := R.get a _ e
  refine ⟨vs.toList, ⟨_, e1, rfl, n, by simp⟩, rv, rv.length⟩

/-- a truth -/
theorem sound_truth {v : AV} {v' : Value} {Q : Bool → Prop} (R : RepH w s.heap H) (r : RV v v') (h : truthVC v H Q) :
    TR prog w A RB (truthy v') s H (fun b H' => H' = H ∧ Q b) := by
  cases v with
  | none => cases r; exact truthy_none (TR.ret R rfl ⟨rfl, h⟩)
  | bool b => cases r; exact wpAny_truthy_bool (TR.ret R rfl ⟨rfl, h⟩)
  | int i => obtain ⟨t, rfl⟩ := r; exact P.truthy_int (TR.ret R rfl ⟨rfl, h⟩)
  | str l =>
    obtain ⟨t, rfl⟩ := r
    obtain ⟨hl, h⟩ := h
    refine P.truthy_str (by rw [str_len]; omega) (TR.retk R ?_ ⟨rfl, h⟩)
    show _ = _
    rw [str_len]
    cases l <;> simp
    omega
  | bytes l =>
    obtain ⟨t, rfl⟩ := r
    obtain ⟨hl, h⟩ := h
    refine truthy_bytes (by simp only [List.size_toArray]; omega) (TR.retk R ?_ ⟨rfl, h⟩)
    show _ = _
    cases l <;> simp
    omega
  | ref a =>
    obtain rfl : v' = .ref a := r
    obtain ⟨xs, hx, hz, h⟩ := h
    obtain ⟨vs, l1, rv, hl⟩ := R.list hx
    refine wpAny_truthy_list l1 (by simp only [List.size_toArray]; omega) (TR.retk R ?_ ⟨rfl, h⟩)
    show _ = _
    cases xs <;> cases vs <;> simp at hl ⊢
  | _ => exact h.elim

theorem retInt {i : Int} {tk tk' : Nat} {Q : AV → AHeap → Prop} (R : RepH w s.heap H) (q : Q (.int i) H) : PostR w RV s H Q (.int i tk) { s with toks := tk' } := TR.retk (b := .int i) R (show RV (.int i) _ from ⟨tk, rfl⟩) q
theorem retBytes {b : Array UInt8} {l : List UInt8} {tk tk' : Nat} {Q : AV → AHeap → Prop} (R : RepH w s.heap H) (e : b = l.toArray) (q : Q (.bytes l) H) : PostR w RV s H Q (.bytes b tk) { s with toks := tk' } := TR.retk (b := .bytes l) R (show RV (.bytes l) _ from ⟨tk, by rw [e]⟩) q
/-- a new list -/
theorem pushList {vs : List Value} {xs : List AV} {tk : Nat} {n : Nat} {Q : AV → AHeap → Prop} (R : RepH w s.heap H) (rv : RVs xs vs) (q : ∀ a, H a = none → Q (.ref a) (upd H a (.list xs))) :
    PostR w RV s H Q (.ref s.heap.objs.size) { s with heap := s.heap.push { cls := .type "list", data := .seq vs.toArray n }, toks := tk } :=
  ⟨.ref s.heap.objs.size, _, _, tk, rfl, Step.push R (o := .list xs) ⟨vs.toArray, n, rfl, by simpa using rv⟩ rfl, rfl, q _ R.size_none⟩

theorem small_abs {y : Int} (h0 : 0 < y) (h1 : y < 1000000) : y.natAbs < 1073741824 := by omega
theorem pos_ne {y : Int} (h0 : 0 < y) : y ≠ 0 := by omega
theorem sound_binI {o : Operator} {x y : Int} {t u : Tok} {Q : AV → AHeap → Prop} (R : RepH w s.heap H) (h : binI o x y fun i => Q (.int i) H) : TV prog w A (binaryOp o (.int x t) (.int y u)) s H Q := by
  cases o <;> first | exact h.elim | skip
  · exact P.add_int (retInt R h)
  · exact PyProof.Rows.sub_int (retInt R h)
  · exact P.mul_int (retInt R h.2) h.1
  · exact mod_int' (pos_ne h.1) (retInt R h.2.2)
  · exact PyProof.Rows.floordiv_int (pos_ne h.1) (retInt R h.2.2) (.inl (PyProof.noPylong_small (small_abs h.1 h.2.1)))
theorem sound_bin {o : Operator} {a b : AV} {a' b' : Value} {Q : AV → AHeap → Prop} (R : RepH w s.heap H) (ra : RV a a') (rb : RV b b') (h : binVC o a b H Q) :
    TV prog w A (binaryOp o a' b') s H Q := by
  cases a <;> first | exact h.elim | skip
  · obtain ⟨y, rfl, h⟩ := onInt_inv h
    obtain ⟨t, rfl⟩ := ra; obtain ⟨u, rfl⟩ := rb
    exact sound_binI R h
  · obtain ⟨y, rfl, ho, hz, q⟩ := onBytes_inv h
    subst ho
    obtain ⟨t, rfl⟩ := ra; obtain ⟨u, rfl⟩ := rb
    exact KBy.add_bytes (by rw [List.size_toArray, List.size_toArray]; exact hz) fun t' k => retBytes R (List.append_toArray _ _) q
  · rename_i x
    obtain ⟨y, rfl, rfl, xs, ys, hx, hy, hz, k⟩ := onRef_inv h
    obtain rfl : a' = .ref x := ra
    obtain rfl : b' = .ref y := rb
    obtain ⟨ob1, e1, vs, n, rfl, rv1⟩ := R.get x _ hx
    obtain ⟨ob2, e2, us, n2, rfl, rv2⟩ := R.get y _ hy
    have z1 : xs.length = vs.size := rv1.length
    have z2 : ys.length = us.size := rv2.length
    refine concat_meets ⟨_, e1, rfl⟩ ⟨_, e2, rfl⟩ noFill_list_add seq_list_add PySem.F.slot_list_add PySem.F.entry_list_add (PySem.F.args_list_add_2 _ _) (list_addW x y vs us n n2 none none #[] #[] (by rw [sizeLine_eq, ← z1, ← z2]; exact hz)) ⟨e1, e2, ?_⟩
    have e : vs ++ us = (vs.toList ++ us.toList).toArray := by simp
    rw [e]
    exact pushList (tk := s.toks) R (rv1.append rv2) k

theorem gives_containsBytes {l : List UInt8} {i : Int} {t u : Tok} (h0 : 0 ≤ i) (h1 : i < 256) :
    Gives (Builtin.«bytes.__contains__» ⟨[.bytes l.toArray t, .int i u], []⟩) (.val (.bool (l.contains i.toNat.toUInt8))) := by
  refine .of_wp fun M A E s Q hq => ?_
  show wpAny _ _ (Builtin.Bytes.containsIn "bytes.__contains__" (.bytes l.toArray t) (.int i u) >>= fun r => _) _ _ s
  refine wpAny_bind ?_
  show wpAny _ _ (Builtin.Bytes.buffer? "bytes.__contains__" (.bytes l.toArray t) >>= fun r => _) _ _ s
  refine wpAny_bind (wpAny_of_eq KBy.buffer_eq ?_)
  show wpAny _ _ (if (decide (i < 0) || decide (i ≥ 256)) = true then _ else _) _ _ s
  rw [if_neg (by simp; omega)]
  refine wpAny_pure (wpAny_pure ⟨_, rfl, ?_⟩)
  rw [show l.toArray.contains i.toNat.toUInt8 = l.contains i.toNat.toUInt8 by simp]
  exact hq


theorem ints_are : ∀ {xs : List AV} {vs : List Value} {ns : List Int}, RVs xs vs → intsOf xs = some ns → IntsAre vs ns
  | [], [], ns, _, e => by cases e; exact .nil
  | .int i :: xs, v :: vs, ns, r, e => by
    obtain ⟨⟨t, rfl⟩, r⟩ := r
    simp only [intsOf, Option.map_eq_some_iff] at e
    obtain ⟨ms, e, rfl⟩ := e
    exact .cons i t (ints_are r e)
  | [], _ :: _, _, r, _ => r.elim
  | _ :: _, [], _, r, _ => r.elim
  | .none :: _, _ :: _, _, _, e => nomatch e
  | .bool _ :: _, _ :: _, _, _, e => nomatch e
  | .str _ :: _, _ :: _, _, _, e => nomatch e
  | .bytes _ :: _, _ :: _, _, _, e => nomatch e
  | .ref _ :: _, _ :: _, _, _, e => nomatch e
  | .fn _ :: _, _ :: _, _, _, e => nomatch e
  | .con _ :: _, _ :: _, _, _, e => nomatch e
theorem strs_are : ∀ {xs : List AV} {vs : List Value} {ns : List (List Nat)}, RVs xs vs → strsOf xs = some ns → StrsAre vs (ns.map fun l => ⟨l.toArray⟩)
  | [], [], ns, _, e => by cases e; exact .nil
  | .str i :: xs, v :: vs, ns, r, e => by
    obtain ⟨⟨t, rfl⟩, r⟩ := r
    simp only [strsOf, Option.map_eq_some_iff] at e
    obtain ⟨ms, e, rfl⟩ := e
    exact .cons _ t (strs_are r e)
  | [], _ :: _, _, r, _ => r.elim
  | _ :: _, [], _, r, _ => r.elim
  | .none :: _, _ :: _, _, _, e => nomatch e
  | .bool _ :: _, _ :: _, _, _, e => nomatch e
  | .int _ :: _, _ :: _, _, _, e => nomatch e
  | .bytes _ :: _, _ :: _, _, _, e => nomatch e
  | .ref _ :: _, _ :: _, _, _, e => nomatch e
  | .fn _ :: _, _ :: _, _, _, e => nomatch e
  | .con _ :: _, _ :: _, _, _, e => nomatch e
theorem any_strs (ys : List (List Nat)) (x : List Nat) : (ys.map fun l => (⟨l.toArray⟩ : Str)).any (· == ⟨x.toArray⟩) = ys.any (· == x) := by
  rw [List.any_map]
  congr 1
  funext l
  show (Str.mk l.toArray == Str.mk x.toArray) = (l == x)
  rw [Bool.eq_iff_iff]; simp

/-- what a compare gives -/
abbrev TC (prog : Program) (w : World) (A : Around) (t : Sem Value) (s : Shared) (H : AHeap) (Q : Bool → Prop) : Prop := TR prog w A RBV t s H (fun b H' => H' = H ∧ Q b)
theorem retB {b : Bool} {Q : Bool → Prop} (R : RepH w s.heap H) (q : Q b) : PostR w RBV s H (fun b H' => H' = H ∧ Q b) (.bool b) s := TR.ret R rfl ⟨rfl, q⟩
theorem retBk {b : Bool} {tk : Nat} {Q : Bool → Prop} (R : RepH w s.heap H) (q : Q b) : PostR w RBV s H (fun b H' => H' = H ∧ Q b) (.bool b) { s with toks := tk } := TR.retk R rfl ⟨rfl, q⟩
theorem retB' {b b' : Bool} {Q : Bool → Prop} (R : RepH w s.heap H) (q : Q b) (e : b' = b) : PostR w RBV s H (fun b H' => H' = H ∧ Q b) (.bool b') s := TR.ret R (show RBV b _ by rw [e]; rfl) ⟨rfl, q⟩

theorem sound_isNone {x : AV} {x' : Value} (r : RV x x') (hf : noFn x = true) : plainIs x' .none = true ∧ (x' == .none) = isNone x := by
  cases x with
  | none => cases r; exact ⟨rfl, rfl⟩
  | bool b => cases r; exact ⟨rfl, rfl⟩
  | int i => obtain ⟨t, rfl⟩ := r; exact ⟨rfl, rfl⟩
  | str i => obtain ⟨t, rfl⟩ := r; exact ⟨rfl, rfl⟩
  | bytes i => obtain ⟨t, rfl⟩ := r; exact ⟨rfl, rfl⟩
  | ref a => cases r; exact ⟨rfl, rfl⟩
  | fn b => cases hf
  | con c => cases r; exact ⟨rfl, rfl⟩

theorem all_getD : ∀ {a b : List Int}, a.length = b.length → (List.range a.length).all (fun j => a.getD j 0 == b.getD j 0) = decide (a = b)
  | [], [], _ => by simp
  | x :: a, y :: b, h => by
    have ih := all_getD (a := a) (b := b) (by simpa using h)
    rw [List.length_cons, List.range_succ_eq_map, List.all_cons, List.all_map]
    simp only [List.getD_cons_zero]
    have : (List.range a.length).all ((fun j => (x :: a).getD j 0 == (y :: b).getD j 0) ∘ Nat.succ) = decide (a = b) := by
      rw [← ih]; congr 1
    rw [this]
    by_cases hx : x = y <;> by_cases ha : a = b <;> simp [hx, ha]
  | [], _ :: _, h => by simp at h
  | _ :: _, [], h => by simp at h
theorem ints_at : ∀ {vs : List Value} {ns : List Int}, IntsAre vs ns → ∀ (i : Nat) (h : i < vs.length), ∃ t, vs[i] = .int (ns.getD i 0) t
  | _, _, .cons n t r, 0, _ => ⟨t, rfl⟩
  | _, _, .cons n t r, i + 1, h => by
    obtain ⟨u, e⟩ := ints_at r i (by simpa using h)
    exact ⟨u, by simpa using e⟩
theorem RVs.at : ∀ {xs : List AV} {vs : List Value}, RVs xs vs → ∀ (i : Nat) (h : i < vs.length) (h' : i < xs.length), RV xs[i] vs[i]
  | _ :: _, _ :: _, r, 0, _, _ => r.1
  | _ :: _, _ :: _, r, i + 1, h, h' => RVs.at r.2 i (by simpa using h) (by simpa using h')
  | _ :: _, [], r, _, _, _ => r.elim
theorem TupsOf.length : ∀ {xs : List AV} {ts : List (List Int)}, TupsOf H xs ts → xs.length = ts.length
  | [], [], _ => rfl
  | .ref _ :: _, _ :: _, h => by simp [TupsOf.length h.2]
  | .ref _ :: _, [], h => h.elim
  | [], _ :: _, h => h.elim
theorem TupsOf.at : ∀ {xs : List AV} {ts : List (List Int)}, TupsOf H xs ts → ∀ (i : Nat) (h : i < xs.length), ∃ a ys, xs[i] = .ref a ∧ H a = some (.tup ys) ∧ intsOf ys = ts[i]?
  | .ref a :: _, _ :: _, h, 0, _ => ⟨a, h.1.choose, rfl, h.1.choose_spec.1, by simpa using h.1.choose_spec.2⟩
  | .ref a :: _, _ :: _, h, i + 1, l => by
    obtain ⟨b, ys, e1, e2, e3⟩ := TupsOf.at h.2 i (by simpa using l)
    exact ⟨b, ys, by simpa using e1, e2, by simpa using e3⟩
  | .ref _ :: _, [], h, _, _ => h.elim
theorem RepH.istup (R : RepH w s.heap H) {a : Addr} {xs : List AV} (e : H a = some (.tup xs)) : ∃ vs : List Value, s.heap.IsTuple a vs.toArray ∧ RVs xs vs ∧ xs.length = vs.length := by
  obtain ⟨ob, e1, vs, n, rfl, rv⟩ := R.get a _ e
  exact ⟨vs.toList, ⟨_, e1, rfl, n, by simp⟩, rv, rv.length⟩
theorem IsLen.ints : ∀ {xs : List AV} {is : List Int}, intsOf xs = some is → is.length = xs.length
  | [], _, e => by cases e; rfl
  | .int i :: xs, _, e => by
    simp only [intsOf, Option.map_eq_some_iff] at e
    obtain ⟨ms, e, rfl⟩ := e
    simp [IsLen.ints e]
  | .none :: _, _, e => nomatch e
  | .bool _ :: _, _, e => nomatch e
  | .str _ :: _, _, e => nomatch e
  | .bytes _ :: _, _, e => nomatch e
  | .ref _ :: _, _, e => nomatch e
  | .fn _ :: _, _, e => nomatch e
  | .con _ :: _, _, e => nomatch e
open SeqAt in
/-- two tuples of ints, item by item -/
theorem tups_at (R : RepH w s.heap H) {a b : Addr} {xs ys : List AV} {is js : List Int} (ha : H a = some (.tup xs)) (hb : H b = some (.tup ys)) (hi : intsOf xs = some is) (hj : intsOf ys = some js) (hl : is.length = js.length) :
    ∃ vs us : List Value, s.heap.IsTuple a vs.toArray ∧ s.heap.IsTuple b us.toArray ∧ vs.length = is.length ∧ us.length = is.length ∧
      ∀ {A' : Around}, ∀ j (h1 : j < vs.toArray.size) (h2 : j < us.toArray.size), EqAt A' s vs.toArray[j] us.toArray[j] (is.getD j 0 == js.getD j 0) := by
  obtain ⟨vs, t1, r1, n1⟩ := R.istup ha
  obtain ⟨us, t2, r2, n2⟩ := R.istup hb
  have z1 := IsLen.ints hi; have z2 := IsLen.ints hj
  refine ⟨vs, us, t1, t2, by omega, by omega, fun {A'} j h1 h2 => ?_⟩
  obtain ⟨t, e1⟩ := ints_at (ints_are r1 hi) j (by simpa using h1)
  obtain ⟨u, e2⟩ := ints_at (ints_are r2 hj) j (by simpa using h2)
  simp only [List.getElem_toArray]
  rw [e1, e2]
  exact EqAt.int_int _ _ _ _

theorem RPairs.look (k : List Nat) : ∀ {kvs : List (List Nat × AV)} {vals : List (Str × Value)}, RPairs kvs vals →
    match lookS k kvs, valueAt vals ⟨k.toArray⟩ with
    | none, none => True
    | some v, some v' => RV v v'
    | _, _ => False
  | [], [], _ => trivial
  | (x, v) :: r, (y, u) :: es, h => by
    obtain ⟨⟨e, rv⟩, h⟩ := h
    simp only at e; subst e
    have ih := RPairs.look k h
    by_cases hx : x = k
    · subst hx; simp [lookS, valueAt, rv]
    · have : ¬ (Str.mk x.toArray = Str.mk k.toArray) := by simp [hx]
      simp only [lookS, if_neg hx, valueAt, List.find?_cons, decide_eq_false this]
      exact ih
  | [], _ :: _, h => h.elim
  | _ :: _, [], h => h.elim
theorem RPairs.isSome {k : List Nat} {kvs : List (List Nat × AV)} {vals : List (Str × Value)} (h : RPairs kvs vals) : (valueAt vals ⟨k.toArray⟩).isSome = (lookS k kvs).isSome := by
  have := h.look k
  split at this <;> simp_all
theorem RPairs.length : ∀ {kvs : List (List Nat × AV)} {vals : List (Str × Value)}, RPairs kvs vals → kvs.length = vals.length
  | [], [], _ => rfl
  | _ :: _, _ :: _, h => by simp [RPairs.length h.2]
  | [], _ :: _, h => h.elim
  | _ :: _, [], h => h.elim
theorem RepH.dict (R : RepH w s.heap H) {d : Addr} {kvs : List (List Nat × AV)} (e : H d = some (.dict kvs)) : ∃ vals, s.heap.DictOf (strKind pw w) d vals ∧ RPairs kvs vals := by
  obtain ⟨ob, e1, vals, ⟨e2, es, ep, e3, e4, e5, e6⟩, rp⟩ := R.get d _ e
  exact ⟨vals, ⟨ob, es, ep, e1, e2, e3, e4, e5, e6⟩, rp⟩

theorem in1_units (A : Around) : A.in1.units = A.units + 1 := rfl
section
variable {a' b' : Value} {Q : Bool → Prop}
theorem sound_cmpI {o : CmpOp} {x y : Int} {t u : Tok} (R : RepH w s.heap H) (h : cmpI o x y Q) : TC pw w A (compareOp o (.int x t) (.int y u)) s H Q := by
  cases o <;> first | exact h.elim | skip
  · exact P.eq_int (retB' R h (beq_dec _ _))
  · exact P.ne_int (retB' R h (congrArg (!·) (beq_dec _ _)))
  · exact P.lt_int (retB R h)
  · exact P.le_int (retB R h)
  · exact P.gt_int (retB R h)
  · exact P.ge_int (retB R h)
theorem sound_eqS {o : CmpOp} {x y : List Nat} {t u : Tok} (R : RepH w s.heap H) (h : eqB o (decide (x = y)) Q) : TC pw w A (compareOp o (.str ⟨x.toArray⟩ t) (.str ⟨y.toArray⟩ u)) s H Q := by
  cases o <;> first | exact h.elim | skip
  · exact P.eq_str (retB' R h beq_cps)
  · exact P.ne_str (retB' R h (congrArg (!·) beq_cps))
theorem sound_eqBy {o : CmpOp} {x y : List UInt8} {t u : Tok} (R : RepH w s.heap H) (h : eqB o (decide (x = y)) Q) : TC pw w A (compareOp o (.bytes x.toArray t) (.bytes y.toArray u)) s H Q := by
  cases o <;> first | exact h.elim | skip
  · exact eq_bytes (retB' R h beq_bys)
  · exact ne_bytes (retB' R h (congrArg (!·) beq_bys))
theorem sound_inBy {o : CmpOp} {i : Int} {y : List UInt8} {t u : Tok} (R : RepH w s.heap H) (h0 : 0 ≤ i) (h1 : i < 256) (h : inB o (y.contains i.toNat.toUInt8) Q) : TC pw w A (compareOp o (.int i t) (.bytes y.toArray u)) s H Q := by
  cases o <;> first | exact h.elim | skip
  · exact in_gives (typeIs_bytes _ _ _) FB.slot_bytes_contains FB.entry_bytes_contains (FB.args_bytes_contains_2 _ _) (gives_containsBytes h0 h1) (retB R h)
  · exact notIn_gives (typeIs_bytes _ _ _) FB.slot_bytes_contains FB.entry_bytes_contains (FB.args_bytes_contains_2 _ _) (gives_containsBytes h0 h1) (retB R h)
theorem sound_inInts {o : CmpOp} {i : Int} {c : Con} {t : Tok} {ns : List Int} (R : RepH w s.heap H) (C : Cons s.heap) (hi : intsOf c.items = some ns) (h : inB o (ns.any (· == i)) Q) : TC pw w A (compareOp o (.int i t) (.ref c.addr)) s H Q := by
  obtain ⟨vs, n, e, rv⟩ := C c
  cases o <;> first | exact h.elim | skip
  · exact in_tuple_ints (items := vs) ⟨_, e, rfl, n, rfl⟩ (ints_are rv hi) (retB R h)
  · exact notin_tuple_ints (items := vs) ⟨_, e, rfl, n, rfl⟩ (ints_are rv hi) (retB R h)
theorem sound_inStrs {o : CmpOp} {x : List Nat} {c : Con} {t : Tok} {ys : List (List Nat)} (R : RepH w s.heap H) (C : Cons s.heap) (hi : strsOf c.items = some ys) (h : inB o (ys.any (· == x)) Q) : TC pw w A (compareOp o (.str ⟨x.toArray⟩ t) (.ref c.addr)) s H Q := by
  obtain ⟨vs, n, e, rv⟩ := C c
  cases o <;> first | exact h.elim | skip
  · exact in_tuple_strs (items := vs) ⟨_, e, rfl, n, rfl⟩ (strs_are rv hi) (retB' R h (any_strs _ _))
  · exact notin_tuple_strs (items := vs) ⟨_, e, rfl, n, rfl⟩ (strs_are rv hi) (retB' R h (by rw [any_strs]))
open SeqAt in
theorem sound_cmpR {o : CmpOp} {x y : Addr} (R : RepH w s.heap H) (hu : A.units + 4 < cLine) (h : cmpR o x y H Q) : TC pw w A (compareOp o (.ref x) (.ref y)) s H Q := by
  have hu1 : A.units < cLine := Nat.lt_of_le_of_lt (Nat.le_add_right _ 4) hu
  have hu2 : A.in1.units < cLine := Nat.lt_of_le_of_lt (by show A.units + 1 ≤ A.units + 4; exact Nat.add_le_add_left (by decide) _) hu
  cases o <;> first | exact h.elim | skip
  · obtain ⟨xs, hx, hy, h⟩ := h
    obtain ⟨vs, l1, r1, n1⟩ := R.list hx
    obtain ⟨us, l2, r2, n2⟩ := R.list hy
    obtain rfl := r2.nil_left
    cases xs with
    | nil =>
      obtain rfl := r1.nil_left
      exact eq_listAt (e := fun _ => true) l1 l2 rfl hu1 (fun j h1 => absurd h1 (Nat.not_lt_zero _)) (retB' R h rfl)
    | cons z zs =>
      obtain ⟨v, r, rfl, _, _⟩ := r1.cons_left
      exact eq_list_lengthsAt l1 l2 rfl hu1 (retB R h)
  · rcases h with ⟨xs, hx, hy, h⟩ | ⟨xs, ys, is, js, hx, hy, hi, hj, hl, h⟩ | ⟨xs, ys, ts, hx, hy, h1, h2, h⟩
    · obtain ⟨vs, l1, r1, n1⟩ := R.list hx
      obtain ⟨us, l2, r2, n2⟩ := R.list hy
      obtain rfl := r2.nil_left
      cases xs with
      | nil =>
        obtain rfl := r1.nil_left
        exact RcNeAt.lists (e := fun _ => true) l1 l2 rfl hu1 (fun j h1 => absurd h1 (Nat.not_lt_zero _)) _ _ _ _ (retB' R h rfl)
      | cons z zs =>
        obtain ⟨v, r, rfl, _, _⟩ := r1.cons_left
        exact RcNeAt.lists_lengths l1 l2 rfl hu1 _ _ _ _ (retB R h)
    · obtain ⟨vs, us, t1, t2, n1, n2, e⟩ := tups_at R hx hy hi hj hl
      refine RcNeAt.tuples t1 t2 hu1 e _ _ _ _ (retB' R h ?_)
      rw [← all_getD hl, List.size_toArray, List.size_toArray, n1, n2, Nat.min_self, beq_self_eq_true, Bool.and_true]
    · obtain ⟨vs, l1, r1, n1⟩ := R.list hx
      obtain ⟨us, l2, r2, n2⟩ := R.list hy
      have z1 := h1.length; have z2 := h2.length
      refine RcNeAt.lists (e := fun _ => true) l1 l2 (by rw [List.size_toArray, List.size_toArray, ← n1, ← n2, z1, z2]) hu1 (fun j g1 g2 => ?_) _ _ _ _ (retB' R h (by simp))
      rw [List.size_toArray] at g1 g2
      obtain ⟨p, ps, e1, e2, e3⟩ := h1.at j (n1 ▸ g1)
      obtain ⟨q, qs, f1, f2, f3⟩ := h2.at j (n2 ▸ g2)
      have rp := r1.at j g1 (n1 ▸ g1)
      have rq := r2.at j g2 (n2 ▸ g2)
      rw [e1] at rp; rw [f1] at rq
      rw [List.getElem_toArray, List.getElem_toArray]
      rw [show vs[j] = .ref p from rp, show us[j] = .ref q from rq]
      by_cases hpq : p = q
      · subst hpq; exact EqAt.same _
      · have hj : ts[j]? = some (ts[j]'(z1 ▸ n1 ▸ g1)) := List.getElem?_eq_getElem _
        rw [hj] at e3 f3
        obtain ⟨us', vs', t1, t2, m1, m2, e⟩ := tups_at R e2 f2 e3 f3 rfl
        have key := RcAt.tuples t1 t2 hu2 (e (A' := A.in1.in1))
        have kk : ((List.range (min us'.toArray.size vs'.toArray.size)).all (fun i => (ts[j]'(z1 ▸ n1 ▸ g1)).getD i 0 == (ts[j]'(z1 ▸ n1 ▸ g1)).getD i 0) && us'.toArray.size == vs'.toArray.size) = true := by
          simp [m1, m2]
        rw [kk] at key
        exact EqAt.of_refs hpq key
theorem sound_cmp {o : CmpOp} {a b : AV} (R : RepH w s.heap H) (C : Cons s.heap) (hu : A.units + 4 < cLine) (ra : RV a a') (rb : RV b b') (h : cmpVC o a b H Q) :
    TC pw w A (compareOp o a' b') s H Q := by
  cases b <;> first | exact h.elim | skip
  · cases rb
    obtain ⟨hf, h⟩ := h
    obtain ⟨hp, e⟩ := sound_isNone ra hf
    cases o <;> first | exact h.elim | skip
    · exact wpAny_is_plain hp (retB' R h e)
    · exact wpAny_isNot_plain hp (retB' R h (by rw [e]))
  · obtain ⟨x, rfl, h⟩ := onInt_inv h
    obtain ⟨t, rfl⟩ := ra; obtain ⟨u, rfl⟩ := rb
    exact sound_cmpI R h
  · obtain ⟨x, rfl, h⟩ := onStr_inv h
    obtain ⟨t, rfl⟩ := ra; obtain ⟨u, rfl⟩ := rb
    exact sound_eqS R h
  · cases a <;> first | exact h.elim | skip
    · obtain ⟨t, rfl⟩ := ra; obtain ⟨u, rfl⟩ := rb
      exact sound_inBy R h.1 h.2.1 h.2.2
    · obtain ⟨t, rfl⟩ := ra; obtain ⟨u, rfl⟩ := rb
      exact sound_eqBy R h
  · rename_i y
    obtain rfl : b' = .ref y := rb
    cases a <;> first | exact h.elim | skip
    · obtain ⟨t, rfl⟩ := ra
      obtain ⟨rfl, hds, kvs, hd, h⟩ := h
      obtain ⟨vals, m, rp⟩ := R.dict hd
      exact wpAny_notIn_of (strKind_is _ _ _ _) (beq_eq_false_iff_ne.2 hds) m.mapOf (retBk R (by rw [rp.isSome]; exact h))
    · cases ra; exact sound_cmpR R hu h
  · rename_i c
    obtain rfl : b' = .ref c.addr := rb
    cases a <;> first | exact h.elim | skip
    · obtain ⟨t, rfl⟩ := ra
      obtain ⟨ns, hi, h⟩ := h
      exact sound_inInts R C hi h
    · obtain ⟨t, rfl⟩ := ra
      obtain ⟨ns, hi, h⟩ := h
      exact sound_inStrs R C hi h
end
end
end
end Mine
namespace Mine
noncomputable section

section
variable {w : World} {A : Around} {s : Shared} {H : AHeap} {K : Frag}

theorem getL_hit {x : Str} {e : DictEntry} {es : List DictEntry} (h : e.key.isStr x = true) : PySem.W.getL x (e :: es) = some (some e.val) := by
  unfold PySem.W.getL; rw [List.find?_cons, h]
theorem getL_miss {x : Str} {e : DictEntry} {es : List DictEntry} (h : e.key.isStr x = false) (h2 : e.refKey = false) : PySem.W.getL x (e :: es) = PySem.W.getL x es := by
  unfold PySem.W.getL; rw [List.find?_cons, h, List.any_cons, h2, Bool.false_or]
/-- what the class of an object must be for plain attributes -/
noncomputable def clsOk (K : Frag) (C : Addr) : Bool :=
  (hasDictIn K C && (plainOver K C && (findIn K (.ref C) "__setattr__" == some (some (.builtin "object.__setattr__"))))) &&
    [At.data, .pos, .fin, .name, .raw, .top, .sub, .params, .beg, .body, .fields, .kind, .enc, .kids, .inner].all fun a => plainGet K C a.str && (findIn K (.ref C) a.str == some none) && (takerIn K C a.str == some none)

noncomputable def At.all : List At := [At.data, .pos, .fin, .name, .raw, .top, .sub, .params, .beg, .body, .fields, .kind, .enc, .kids, .inner]
theorem str_inj {a b : At} (h : a.str = b.str) : a = b := by
  have key : (At.all.all fun a => At.all.all fun b => !(a.str == b.str) || decide (a = b)) = true := by decide +kernel
  have mem : ∀ a : At, a ∈ At.all := fun a => by cases a <;> decide
  have := List.all_eq_true.1 (List.all_eq_true.1 key a (mem a)) b (mem b)
  rw [beq_iff_eq.2 h] at this
  exact of_decide_eq_true this
theorem isStr_str {x y : Str} {t : Tok} : (Value.str x t).isStr y = decide (x = y) := by
  by_cases h : x = y
  · subst h; simp [Value.isStr]
  · simp [Value.isStr, h]

theorem REnts.getSome {a : At} {v : AV} : ∀ {kvs : List (At × AV)} {es : List DictEntry}, REnts kvs es → lookA a kvs = some v → ∃ v', PySem.W.getL a.str es = some (some v') ∧ RV v v'
  | [], _, _, e => nomatch e
  | (k, u) :: r, [], h, _ => h.elim
  | (k, u) :: r, e :: es, h, hl => by
    obtain ⟨⟨⟨t, ek⟩, rv⟩, h⟩ := h
    by_cases hk : k = a
    · subst hk
      rw [lookA, if_pos rfl] at hl
      cases hl
      exact ⟨e.val, getL_hit (by rw [ek, isStr_str, decide_eq_true rfl]), rv⟩
    · rw [lookA, if_neg hk] at hl
      obtain ⟨v', e1, r1⟩ := REnts.getSome h hl
      exact ⟨v', (getL_miss (by rw [ek, isStr_str, decide_eq_false fun e => hk (str_inj e)]) (by unfold DictEntry.refKey; rw [ek])).trans e1, r1⟩
theorem REnts.getIs {x : Str} : ∀ {kvs : List (At × AV)} {es : List DictEntry}, REnts kvs es → (PySem.W.getL x es).isSome = true
  | [], [], _ => rfl
  | [], _ :: _, h => h.elim
  | (k, u) :: r, [], h => h.elim
  | (k, u) :: r, e :: es, h => by
    obtain ⟨⟨⟨t, ek⟩, rv⟩, h⟩ := h
    cases hk : e.key.isStr x with
    | true => rw [getL_hit hk]; rfl
    | false => rw [getL_miss hk (by unfold DictEntry.refKey; rw [ek])]; exact REnts.getIs h
theorem handed {v : AV} {v' : Value} (r : RV v v') : handedIn v' = true := by
  cases v with
  | none => cases r; rfl
  | bool b => cases r; rfl
  | int i => obtain ⟨t, rfl⟩ := r; rfl
  | str i => obtain ⟨t, rfl⟩ := r; rfl
  | bytes i => obtain ⟨t, rfl⟩ := r; rfl
  | ref a => cases r; rfl
  | fn b => cases r; cases b <;> decide +kernel
  | con c => cases r; rfl

theorem RepH.inst (R : RepH w s.heap H) {x c d : Addr} {kvs : List (At × AV)} (hx : H x = some (.inst c d)) (hd : H d = some (.attrs kvs)) :
    isCls c = true ∧ ∃ es n, InstAt s.heap x (instObj c d) c (some (dictOf es n)) ∧ REnts kvs es ∧ s.heap.get? d = some (dictOf es n) := by
  obtain ⟨ob, e1, hc, rfl⟩ := R.get x _ hx
  obtain ⟨od, e2, es, n, rfl, re⟩ := R.get d _ hd
  exact ⟨hc, es, n, ⟨e1, rfl, rfl, e2⟩, re, e2⟩

theorem clsOk_ok {C : Addr} (h : clsOk K C = true) : hasDictIn K C = true ∧ plainOver K C = true ∧ findIn K (.ref C) "__setattr__" = some (some (.builtin "object.__setattr__")) := by
  obtain ⟨h1, _⟩ := Bool.and_eq_true_iff.1 h
  obtain ⟨h1, h2⟩ := Bool.and_eq_true_iff.1 h1
  obtain ⟨h2, h3⟩ := Bool.and_eq_true_iff.1 h2
  exact ⟨h1, h2, beq_iff_eq.1 h3⟩
theorem at_mem (a : At) : a ∈ [At.data, .pos, .fin, .name, .raw, .top, .sub, .params, .beg, .body, .fields, .kind, .enc, .kids, .inner] := by cases a <;> decide
theorem clsOk_all {C : Addr} (h : clsOk K C = true) (a : At) : plainGet K C a.str = true ∧ findIn K (.ref C) a.str = some none ∧ takerIn K C a.str = some none := by
  obtain ⟨_, h2⟩ := Bool.and_eq_true_iff.1 h
  have := List.all_eq_true.1 h2 a (at_mem a)
  obtain ⟨h1, h3⟩ := Bool.and_eq_true_iff.1 this
  obtain ⟨h1, h2⟩ := Bool.and_eq_true_iff.1 h1
  exact ⟨h1, beq_iff_eq.1 h2, beq_iff_eq.1 h3⟩

theorem sound_attr {prog : Program} {v : AV} {v' : Value} {a : At} {expr : Bool} {Q : AV → Prop} (R : RepH w s.heap H) (X : K.In s.heap) (hC : ∀ c, isCls c = true → clsOk K c = true) (r : RV v v') (h : attrVC v a H Q) :
    TV prog w A (getAttr v' a.str expr) s H (fun r H' => H' = H ∧ Q r) := by
  obtain ⟨x, rfl, c, d, kvs, y, hx, hd, hl, q⟩ := onRef_inv h
  obtain rfl : v' = .ref x := r
  obtain ⟨hc, es, n, I, re, _⟩ := R.inst hx hd
  have hk := clsOk_all (hC c hc) a
  have hb := clsOk_ok (hC c hc)
  obtain ⟨y', e2, g⟩ := re.getSome hl
  exact get_value X I (plainGet_of hk.1).1 (findObj_own hb.1 hk.2.1 rfl e2) (handed g) (TR.retk R g ⟨rfl, q⟩)
theorem REnts.length : ∀ {kvs : List (At × AV)} {es : List DictEntry}, REnts kvs es → kvs.length = es.length
  | [], [], _ => rfl
  | _ :: _, _ :: _, h => by simp [REnts.length h.2]
  | [], _ :: _, h => h.elim
  | _ :: _, [], h => h.elim
theorem REnts.put (a : At) {v : AV} {v' : Value} (rv : RV v v') (hsh : Int) (t : Tok) : ∀ {kvs : List (At × AV)} {es : List DictEntry}, REnts kvs es → REnts (putA a v kvs) (putL a.str hsh (.str a.str t) v' es)
  | [], [], _ => ⟨⟨⟨t, rfl⟩, rv⟩, trivial⟩
  | (k, u) :: r, e :: es, h => by
    obtain ⟨⟨⟨t', ek⟩, ru⟩, h⟩ := h
    by_cases hk : k = a
    · subst hk
      simp only [putA, if_true, putL, ek, isStr_str, decide_true]
      exact ⟨⟨⟨t', rfl⟩, rv⟩, h⟩
    · have hs : ¬ k.str = a.str := fun e => hk (str_inj e)
      simp only [putA, if_neg hk, putL, ek, isStr_str, decide_eq_false hs]
      exact ⟨⟨⟨t', ek⟩, ru⟩, REnts.put a rv hsh t h⟩
  | [], _ :: _, h => h.elim
  | _ :: _, [], h => h.elim
theorem putL_len (x : Str) (hsh : Int) (key v : Value) : ∀ es : List DictEntry, (putL x hsh key v es).length ≤ es.length + 1
  | [] => by simp [putL]
  | e :: r => by
    have := putL_len x hsh key v r
    unfold putL; split <;> simp <;> omega
theorem getL_some {x : Str} {es : List DictEntry} (h : (PySem.W.getL x es).isSome = true) : (!es.any (·.key.isStr x) && es.any (·.refKey)) = false := by
  cases h1 : es.any (·.key.isStr x) with
  | true => rfl
  | false =>
    cases h2 : es.any (·.refKey) with
    | false => rfl
    | true =>
      unfold PySem.W.getL at h
      have : es.find? (·.key.isStr x) = none := by
        rw [List.find?_eq_none]
        intro e he; rw [List.any_eq_false] at h1; exact h1 e he
      rw [this, h2] at h; cases h

/-- an attribute of one's own, set: one object changes -/
theorem osa_upd {prog : Program} {x C dx : Addr} {es : List DictEntry} {n : Nat} {name : Str} {tk : Tok} {v : Value} {R : Result → Shared → Prop} (X : K.In s.heap) (I : InstAt s.heap x (instObj C dx) C (some (dictOf es n)))
    (hp : plainOver K C = true) (ht : takerIn K C name = some none) (hh : hasDictIn K C = true) (hl : (PySem.W.getL name es).isSome = true) (hz : es.length ≤ 900)
    (h : R (.ok (.ret .none)) { s with heap := s.heap.update dx (Obj.putName name (PyData.keyHash w.params name) (.str name s.toks) v), toks := s.toks + 1 }) :
    codeAny (model prog w) A (.call (.builtin "object.__setattr__") ⟨[.ref x, .str name tk, v], []⟩) R s := by
  refine osa_open X I hp ht fun b => ?_
  obtain ⟨cd, hc, hd⟩ := any_some hh
  obtain ⟨hx, hcl, hn, D⟩ := I
  have D' := Heap.get?_update_self (h := s.heap) (Obj.putName name (PyData.keyHash w.params name) (.str name s.toks) v) D (by rw [putName_dict]; rfl)
  rw [putName_dict] at D'
  refine wpAny_bind (wpAny_pure (wpAny_bind (wpAny_bind (wpAny_loadPart hx (wpAny_bind ((looks_clsIn X hc).here ?_))))))
  rw [hd]
  refine wpAny_pure (a := some dx) (wpAny_bind (wpAny_pure (wpAny_bind ?_)))
  unfold nsSet
  refine wpAny_bind (wpAny_bind (wpAny_askSetting (wpAny_pure (wpAny_bind (wpAny_mkText (wpAny_bind (wpAny_loadPart D ?_)))))))
  have c := getL_some hl
  dsimp only
  rw [aRefKeyMayBeTheName_at, show (!es.toArray.any (·.key.isStr name) && es.toArray.any (·.refKey)) = false by rw [← Array.any_toList, ← Array.any_toList]; exact c]
  refine wpAny_updatePart D ?_
  refine wpAny_bind (wpAny_lookBehind D' (pastItsLine_dict (by have := putL_len name (PyData.keyHash w.params name) (.str name s.toks) v es; rw [List.size_toArray, sizeLine_eq]; omega)) ?_)
  exact wpAny_pure h
theorem set_upd {prog : Program} {x C dx : Addr} {es : List DictEntry} {n : Nat} {name : Str} {v : Value} {Q : Unit → Shared → Prop} {E : Value → Shared → Prop} (X : K.In s.heap) (I : InstAt s.heap x (instObj C dx) C (some (dictOf es n)))
    (hs : findIn K (.ref C) "__setattr__" = some (some (.builtin "object.__setattr__"))) (hp : plainOver K C = true) (ht : takerIn K C name = some none) (hh : hasDictIn K C = true) (hl : (PySem.W.getL name es).isSome = true) (hz : es.length ≤ 900)
    (h : Q () { s with heap := s.heap.update dx (Obj.putName name (PyData.keyHash w.params name) (.str name (s.toks + 1)) v), toks := s.toks + 2 }) :
    wpAny (model prog w) A (setAttr (.ref x) name v) Q E s :=
  set_plain X I hs (osa_upd (s := { s with toks := s.toks + 1 }) X I hp ht hh hl hz h)

theorem sound_setAttr {prog : Program} {v r : AV} {v' r' : Value} {a : At} {Q : AHeap → Prop} (R : RepH w s.heap H) (X : K.In s.heap) (hC : ∀ c, isCls c = true → clsOk K c = true) (hv : RV v v') (hr : RV r r') (h : setAttrVC v a r H Q) :
    TR prog w A (fun (_ _ : Unit) => True) (setAttr v' a.str r') s H (fun _ H' => Q H') := by
  obtain ⟨x, rfl, c, d, kvs, hx, hd, hz, q⟩ := onRef_inv h
  obtain rfl : v' = .ref x := hv
  obtain ⟨hc, es, n, I, re, D⟩ := R.inst hx hd
  have hk := clsOk_all (hC c hc) a
  have hb := clsOk_ok (hC c hc)
  refine set_upd X I hb.2.2 hb.2.1 hk.2.2 hb.1 re.getIs (re.length ▸ Nat.le_trans hz (by decide)) ?_
  refine ⟨(), _, _, _, rfl, Step.change R (o' := .attrs (putA a r kvs)) (by rw [hd]; exact nofun) (Heap.SameBut_update _ _ _) (Heap.get?_update_self _ D (by rw [putName_dict]; rfl)) ?_, trivial, q⟩
  rw [putName_dict]
  exact ⟨_, _, rfl, re.put a hr _ _⟩
end
end
end Mine
namespace Mine
noncomputable section

section
variable {w : World} {A : Around} {s : Shared} {H : AHeap}

theorem RepH.olist (R : RepH w s.heap H) {a : Addr} {xs : List AV} (e : H a = some (.list xs) ∨ H a = some (.olist xs)) : ∃ vs : List Value, s.heap.IsList a vs.toArray ∧ RVs xs vs ∧ xs.length = vs.length := by
  rcases e with e | e
  · exact R.list e
  · obtain ⟨ob, e1, hc, vs, n, hd, rv⟩ := R.get a _ e
    exact ⟨vs.toList, ⟨_, e1, hc, n, by simpa using hd⟩, rv, rv.length⟩

/-- an item read -/
noncomputable def TSub (w : World) (A : Around) (o i : Value) (s : Shared) (H : AHeap) (Q : AV → AHeap → Prop) : Prop :=
  ∃ T id, typeLookup (.type T) "__getitem__" = pure (some (.builtin id)) ∧ s.TypeIs o T ∧ TV pw w A (getItem o i) s H Q

theorem toNat_lt' {k : Int} {n : Nat} (h0 : 0 ≤ k) (h : k.toNat < n) : k < n := by omega
theorem seqIndex_in {k : Int} {n : Nat} (h0 : 0 ≤ k) (h : k.toNat < n) : seqIndex? k n = some k.toNat := by
  have hn : ¬ k < 0 := by omega
  have h1 : k < n := toNat_lt' h0 h
  simp [seqIndex?, hn, h0, h1]
theorem item_tup {a : Addr} {vs : List Value} {xs : List AV} {k : Int} {u : Tok} {x : AV} {Q : AV → Prop} (R : RepH w s.heap H) (ht : IsTup s.heap a vs.toArray) (r : RVs xs vs) (h0 : 0 ≤ k) (hz : k < 1000000000) (hx : xs[k.toNat]? = some x) (q : Q x) :
    TSub w A (.ref a) (.int k u) s H (fun r H' => H' = H ∧ Q r) := by
  obtain ⟨y, hy, rx⟩ := r.get _ _ hx
  have hk : k.toNat < vs.length := (List.getElem?_eq_some_iff.1 hy).1
  exact ⟨"tuple", _, F.slot_tuple_getitem.lookup, ht.typeIs, getItem_tuple ht (Int.le_trans (by decide) h0) (Int.lt_trans hz (by decide)) (j := k.toNat) (seqIndex_in (n := vs.toArray.size) h0 hk) (by rw [List.getElem?_toArray]; exact hy) (TR.ret R rx ⟨rfl, q⟩)⟩
theorem item_list {a : Addr} {xs : List AV} {k : Int} {u : Tok} {x : AV} {Q : AV → Prop} (R : RepH w s.heap H) (hl : H a = some (.list xs) ∨ H a = some (.olist xs)) (h0 : 0 ≤ k) (hz : k < 1000000000) (hx : xs[k.toNat]? = some x) (q : Q x) :
    TSub w A (.ref a) (.int k u) s H (fun r H' => H' = H ∧ Q r) := by
  obtain ⟨vs, l1, r, hn⟩ := R.olist hl
  obtain ⟨y, hy, rx⟩ := r.get _ _ hx
  exact ⟨"list", _, list_getitem_lookup, l1.typeIs, wpAny_getItem_list l1 h0 (Int.lt_trans hz (by decide)) (by rw [List.getElem?_toArray]; exact hy) (TR.ret R rx ⟨rfl, q⟩)⟩
theorem sound_item {v i : AV} {v' i' : Value} {Q : AV → Prop} (R : RepH w s.heap H) (C : Cons s.heap) (rv : RV v v') (ri : RV i i') (h0 : itemVC v i H Q) :
    TSub w A v' i' s H (fun r H' => H' = H ∧ Q r) := by
  obtain ⟨k, rfl, h⟩ := onInt_inv h0
  clear h0
  obtain ⟨h0, hz, h⟩ := h
  obtain ⟨u, rfl⟩ := ri
  cases v <;> first | exact h.elim | skip
  · rename_i l
    obtain ⟨t, rfl⟩ := rv
    obtain ⟨hl, b, hb, q⟩ := h
    have hk : k.toNat < l.length := (List.getElem?_eq_some_iff.1 hb).1
    refine ⟨"bytes", _, FB.slot_bytes_getitem.lookup, typeIs_bytes _ _ _, getItem_bytes (Nat.le_trans hl (by decide)) h0 (toNat_lt' h0 hk) ?_⟩
    rw [List.getD_eq_getElem?_getD, hb]
    exact TR.retk (b := .int b.toNat) R (show RV (.int _) _ from ⟨_, rfl⟩) ⟨rfl, q⟩
  · rename_i a
    obtain rfl : v' = .ref a := rv
    obtain ⟨xs, x, hl, hx, q⟩ := h
    rcases hl with hl | hl | hl
    · exact item_list R (.inl hl) h0 hz hx q
    · obtain ⟨vs, ht, r, hn⟩ := R.tup hl
      exact item_tup R ht r h0 hz hx q
    · exact item_list R (.inr hl) h0 hz hx q
  · rename_i c
    obtain rfl : v' = .ref c.addr := rv
    obtain ⟨x, hx, q⟩ := h
    obtain ⟨vs, n, e, r⟩ := C c
    exact item_tup (vs := vs.toList) R ⟨_, e, rfl, n, rfl⟩ r h0 hz hx q

theorem RVs.set : ∀ {xs : List AV} {vs : List Value} {r : AV} {r' : Value} (k : Nat), RVs xs vs → RV r r' → RVs (xs.set k r) (vs.set k r')
  | [], [], _, _, _, h, _ => h
  | _ :: _, _ :: _, _, _, 0, h, hr => ⟨hr, h.2⟩
  | _ :: _, _ :: _, _, _, k + 1, h, hr => ⟨h.1, RVs.set k h.2 hr⟩
  | [], _ :: _, _, _, _, h, _ => h.elim
  | _ :: _, [], _, _, _, h, _ => h.elim

theorem RPairs.any (k : List Nat) : ∀ {kvs : List (List Nat × AV)} {vals : List (Str × Value)}, RPairs kvs vals → vals.any (fun kv => kv.1 = ⟨k.toArray⟩) = kvs.any (fun p => p.1 = k)
  | [], [], _ => rfl
  | (x, v) :: l, (y, u) :: es, h => by
    obtain ⟨⟨e, _⟩, h⟩ := h
    simp only at e; subst e
    rw [List.any_cons, List.any_cons, RPairs.any k h]; simp
  | [], _ :: _, h => h.elim
  | _ :: _, [], h => h.elim
theorem RPairs.snoc {k : List Nat} {r : AV} {r' : Value} (hr : RV r r') : ∀ {kvs : List (List Nat × AV)} {vals : List (Str × Value)}, RPairs kvs vals → RPairs (kvs ++ [(k, r)]) (vals ++ [(⟨k.toArray⟩, r')])
  | [], [], _ => ⟨⟨rfl, hr⟩, trivial⟩
  | _ :: _, _ :: _, h => ⟨h.1, RPairs.snoc hr h.2⟩
  | [], _ :: _, h => h.elim
  | _ :: _, [], h => h.elim
theorem RPairs.repl (k : List Nat) {r : AV} {r' : Value} (hr : RV r r') : ∀ {kvs : List (List Nat × AV)} {vals : List (Str × Value)}, RPairs kvs vals →
    RPairs (kvs.map fun p => if p.1 = k then (p.1, r) else p) (vals.map fun kv => if kv.1 = ⟨k.toArray⟩ then (kv.1, r') else kv)
  | [], [], _ => trivial
  | (x, v) :: l, (y, u) :: es, h => by
    obtain ⟨⟨e, rv⟩, h⟩ := h
    simp only at e; subst e
    have ih := RPairs.repl k hr h
    by_cases hx : x = k
    · subst hx; rw [List.map_cons, List.map_cons, if_pos rfl, if_pos rfl]; exact ⟨⟨rfl, hr⟩, ih⟩
    · rw [List.map_cons, List.map_cons, if_neg hx, if_neg (by simp [hx])]; exact ⟨⟨rfl, rv⟩, ih⟩
  | [], _ :: _, h => h.elim
  | _ :: _, [], h => h.elim
theorem RPairs.put (k : List Nat) {r : AV} {r' : Value} (hr : RV r r') {kvs : List (List Nat × AV)} {vals : List (Str × Value)} (h : RPairs kvs vals) : RPairs (putS k r kvs) (stored vals ⟨k.toArray⟩ r') := by
  unfold putS stored
  rw [h.any k]
  split
  · exact h.repl k hr
  · exact h.snoc hr

theorem sound_setItem {v i r : AV} {v' i' r' : Value} {Q : AHeap → Prop} (R : RepH w s.heap H) (rv : RV v v') (ri : RV i i') (rr : RV r r') (hr0 : setItemVC v i r H Q) :
    TR pw w A (fun (_ _ : Unit) => True) (setItem v' i' r') s H (fun _ H' => Q H') := by
  obtain ⟨a, rfl, h⟩ := onRef_inv hr0
  clear hr0
  obtain rfl : v' = .ref a := rv
  cases i <;> first | exact h.elim | skip
  · rename_i k
    obtain ⟨u, rfl⟩ := ri
    obtain ⟨h0, xs, hl, hz, hk, q⟩ := h
    obtain ⟨vs, l1, r, hn⟩ := R.olist hl
    refine wpAny_setItem_list l1 h0 (by omega) (by simp only [List.size_toArray]; omega) fun h' hl' hs => ?_
    refine ⟨(), _, h', s.toks, rfl, ?_, trivial, q⟩
    obtain ⟨o, e, hc, n, hd⟩ := hl'
    have ro : RO w (.olist (xs.set k.toNat _)) o := ⟨hc, _, n, hd, by simpa using RVs.set k.toNat r rr⟩
    exact Step.change R (by rcases hl with h | h <;> simp [h]) hs e ro
  · rename_i k
    obtain ⟨t, rfl⟩ := ri
    obtain ⟨kvs, hd, hz, q⟩ := h
    obtain ⟨vals, m, rp⟩ := R.dict hd
    refine wpAny_setItem_pairs (strKind_is _ _ _ _) m (fun h' hm hs => ?_) (by rw [sizeLine_eq]; have := rp.length; omega)
    obtain ⟨o, es, ep, e1, e2, e3, e4, e5, e6⟩ := hm
    refine ⟨(), _, h', s.toks + 1, rfl, Step.change R (by rw [hd]; simp) hs e1 (show RO w (.dict _) o from ⟨_, ⟨e2, es, ep, e3, e4, e5, e6⟩, rp.put k rr⟩), trivial, q⟩

noncomputable def RInt : Option Int → Value → Prop
  | none, v => v = .none
  | some i, v => ∃ t, v = .int i t
theorem RInt.part : ∀ {o : Option Int} {v : Value}, RInt o v → IsPart v o
  | none, _, h => by cases h; exact .none
  | some i, _, h => by obtain ⟨t, rfl⟩ := h; exact .int i t
theorem clip_min {n : Nat} {i : Int} (h : 0 ≤ i) : clipAt n i = min i.toNat n := by
  obtain ⟨k, rfl⟩ := Int.eq_ofNat_of_zero_le h
  rw [clipAt_nat]; simp
theorem pick_sl {α : Type} (l : List α) {lo hi : Option Int} (h0 : ∀ i, lo = some i → 0 ≤ i) (h1 : ∀ i, hi = some i → 0 ≤ i) :
    (l.drop (lo.elim 0 (clipAt l.length))).take (hi.elim l.length (clipAt l.length) - lo.elim 0 (clipAt l.length)) = sl l lo hi := by
  unfold sl
  have e1 : lo.elim 0 (clipAt l.length) = min (lo.elim 0 Int.toNat) l.length := by
    cases lo with
    | none => simp
    | some i => simpa using clip_min (h0 i rfl)
  have e2 : hi.elim l.length (clipAt l.length) = min (hi.elim l.length Int.toNat) l.length := by
    cases hi with
    | none => simp
    | some i => simpa using clip_min (h1 i rfl)
  rw [e1, e2]
  generalize lo.elim 0 Int.toNat = a
  generalize hi.elim l.length Int.toNat = b
  by_cases ha : a ≤ l.length
  · rw [Nat.min_eq_left ha]
    by_cases hb : b ≤ l.length
    · rw [Nat.min_eq_left hb]
    · rw [Nat.min_eq_right (by omega), List.take_of_length_le (by simp), List.take_of_length_le (by simp; omega)]
  · rw [show min a l.length = l.length by omega, List.drop_length, List.drop_of_length_le (by omega)]; simp
theorem RVs.drop : ∀ {xs : List AV} {vs : List Value} (k : Nat), RVs xs vs → RVs (xs.drop k) (vs.drop k)
  | _, _, 0, h => h
  | [], [], _ + 1, h => h
  | _ :: _, _ :: _, k + 1, h => RVs.drop k h.2
  | [], _ :: _, _, h => h.elim
  | _ :: _, [], _, h => h.elim
theorem RVs.take : ∀ {xs : List AV} {vs : List Value} (k : Nat), RVs xs vs → RVs (xs.take k) (vs.take k)
  | _, _, 0, _ => trivial
  | [], [], _ + 1, h => h
  | _ :: _, _ :: _, k + 1, h => ⟨h.1, RVs.take k h.2⟩
  | [], _ :: _, _, h => h.elim
  | _ :: _, [], _, h => h.elim

theorem sound_slice {v : AV} {v' l u : Value} {lo hi : Option Int} {b : Addr} {Q : AV → AHeap → Prop} (R : RepH w s.heap H) (rv : RV v v') (rl : RInt lo l) (ru : RInt hi u) (h0 : ∀ i, lo = some i → 0 ≤ i) (h1 : ∀ i, hi = some i → 0 ≤ i)
    (hs : s.heap.IsSliceOf b l u .none) (h : sliceVC v lo hi H Q) : TSub w A v' (.ref b) s H Q := by
  cases v <;> first | exact h.elim | skip
  · rename_i d
    obtain ⟨t, rfl⟩ := rv
    refine ⟨"bytes", _, FB.slot_bytes_getitem.lookup, typeIs_bytes _ _ _, getItem_meets (typeIs_bytes _ _ _) (by decide) FB.slot_bytes_getitem FB.entry_bytes_getitem (FB.args_bytes_getitem_2 _ _) (KBc.meets_slice2 d.toArray t _ rl.part ru.part)
      ⟨hs, Nat.le_trans (KBc.size_picked_le _ lo hi) (by rw [sizeLine_eq]; simpa using h.1), fun t' k => ?_⟩⟩
    refine retBytes R ?_ h.2
    rw [KBc.picked_eq]
    simp only [List.size_toArray]
    rw [pick_sl d h0 h1]
  · rename_i a
    obtain rfl : v' = .ref a := rv
    obtain ⟨xs, hx, hz, q⟩ := h
    obtain ⟨vs, l1, r, hn⟩ := R.fixl hx
    refine ⟨"list", _, list_getitem_lookup, l1.typeIs, wpAny_getItem_list_slice l1 hs rl.part ru.part .none (by simp) ?_ (by rw [sizeLine_eq]; simp; omega)⟩
    rw [slicePick_plain]
    simp only [List.size_toArray]
    have e := pick_sl vs h0 h1
    refine pushList (tk := s.toks) (n := 0) R ?_ q
    rw [e]
    unfold sl
    rw [← hn]
    exact RVs.take _ (RVs.drop _ r)
end
end
end Mine
namespace Mine
noncomputable section

section
variable {w : World} {h h' : Heap} {H : AHeap}
theorem Step.keepAll (R : RepH w h H) (hk : ∀ b o, h.get? b = some o → h'.get? b = some o) : Step w h H h' H where
  keep := fun b o e _ => hk b o e
  fresh := fun b n x => absurd n x
  rep := ⟨fun a x e => by
    obtain ⟨ob, e1, e2⟩ := R.get a x e
    exact ⟨ob, hk _ _ e1, e2⟩⟩
theorem Step.grow (R : RepH w h H) {a : Addr} {ob : Obj} {o : AO} (hk : ∀ b o, h.get? b = some o → h'.get? b = some o) (hn : h.get? a = none) (D : h'.get? a = some ob) (ro : RO w o ob) : Step w h H h' (upd H a o) where
  keep := fun b o e _ => hk b o e
  fresh := fun b n x => by
    by_cases hb : b = a
    · subst hb; exact hn
    · rw [upd_ne hb] at x; exact absurd n x
  rep := ⟨fun b x e => by
    by_cases hb : b = a
    · subst hb; rw [upd_self] at e; cases e; exact ⟨ob, D, ro⟩
    · rw [upd_ne hb] at e
      obtain ⟨ob, e1, e2⟩ := R.get b x e
      exact ⟨ob, hk _ _ e1, e2⟩⟩
end

section
variable {w : World} {A : Around} {s : Shared} {H : AHeap} {K : Frag}

theorem bytes_ints : ∀ {l : List UInt8} {vs : List Value}, RVs (l.map fun b => .int b.toNat) vs → IntsAre vs (l.map fun b => (b.toNat : Int))
  | [], [], _ => .nil
  | b :: l, v :: vs, h => by obtain ⟨⟨t, rfl⟩, h⟩ := h; exact .cons _ t (bytes_ints h)
  | [], _ :: _, h => h.elim
  | _ :: _, [], h => h.elim
theorem byteArr_ints (l : List UInt8) : byteArr (l.map fun b => (b.toNat : Int)) = l.toArray := by
  unfold byteArr
  rw [List.map_map]
  congr 1
  conv => rhs; rw [← List.map_id l]
  refine List.map_congr_left fun b _ => ?_
  simp

theorem RVs.one {a : AV} {vs : List Value} (h : RVs [a] vs) : ∃ v, vs = [v] ∧ RV a v := by
  obtain ⟨v, r, rfl, h1, h2⟩ := h.cons_left
  rw [h2.nil_left]; exact ⟨v, rfl, h1⟩
theorem RVs.two {a b : AV} {vs : List Value} (h : RVs [a, b] vs) : ∃ v u, vs = [v, u] ∧ RV a v ∧ RV b u := by
  obtain ⟨v, r, rfl, h1, h2⟩ := h.cons_left
  obtain ⟨u, rfl, h3⟩ := h2.one
  exact ⟨v, u, rfl, h1, h3⟩
theorem RVs.three {a b c : AV} {vs : List Value} (h : RVs [a, b, c] vs) : ∃ v u x, vs = [v, u, x] ∧ RV a v ∧ RV b u ∧ RV c x := by
  obtain ⟨v, r, rfl, h1, h2⟩ := h.cons_left
  obtain ⟨u, x, rfl, h3, h4⟩ := h2.two
  exact ⟨v, u, x, rfl, h1, h3, h4⟩

theorem min_val {x y : Int} {t u : Tok} : RV (.int (min x y)) (if y < x then .int y u else .int x t) := by
  show ∃ t, _ = _
  split
  · exact ⟨_, by rw [Int.min_eq_right (by omega)]⟩
  · exact ⟨_, by rw [Int.min_eq_left (by omega)]⟩
theorem max_val {x y : Int} {t u : Tok} : RV (.int (max x y)) (if x < y then .int y u else .int x t) := by
  show ∃ t, _ = _
  split
  · exact ⟨_, by rw [Int.max_eq_right (by omega)]⟩
  · exact ⟨_, by rw [Int.max_eq_left (by omega)]⟩
theorem fit63 {n : Nat} (h : n ≤ 16777216) : (n : Int) < 2 ^ 63 := Int.lt_of_le_of_lt (Int.ofNat_le.2 h) (by decide)
theorem sound_len {v : AV} {v' : Value} {Q : AV → AHeap → Prop} (R : RepH w s.heap H) (r : RV v v') (h : lenVC v H fun i => Q (.int i) H) :
    TV pw w A (call (.builtin "len") [v']) s H Q := by
  cases v <;> first | exact h.elim | skip
  · rename_i l
    obtain ⟨t, rfl⟩ := r
    exact P.len_str (by rw [str_len]; exact Int.not_le.2 (fit63 h.1)) (TR.retk (b := .int l.length) R (show RV (.int _) _ from ⟨s.toks + 1, by rw [str_len]⟩) h.2)
  · rename_i l
    obtain ⟨t, rfl⟩ := r
    exact len_bytes (Nat.le_trans h.1 (by decide)) (TR.retk (b := .int l.length) R (show RV (.int _) _ from ⟨s.toks + 1, rfl⟩) h.2)
  · rename_i a
    obtain rfl : v' = .ref a := r
    obtain ⟨xs, hx, hz, q⟩ := h
    obtain ⟨us, l1, r, hn⟩ := R.list hx
    exact call_len_list l1 (show ((us.length : Nat) : Int) < 2 ^ 63 from hn ▸ fit63 hz) (TR.retk (b := .int xs.length) R (show RV (.int _) _ from ⟨s.toks + 1, by rw [hn]; rfl⟩) q)
theorem sound_range {lo hi : Int} {v' : List Value} {Q : AV → AHeap → Prop} (R : RepH w s.heap H) (e : ∃ t u, v' = [.int lo t, .int hi u] ∨ lo = 0 ∧ v' = [.int hi u]) (h : rangeVC lo hi H Q) :
    TV pw w A (call (.type "range") v') s H Q := by
  obtain ⟨t, u, rfl | ⟨rfl, rfl⟩⟩ := e
  · exact call_range_2 ⟨.ref s.heap.objs.size, _, _, s.toks + 1, rfl, Step.push R (o := .rng lo hi) ⟨_, _, _, rfl⟩ rfl, rfl, h.2.2 _ R.size_none⟩
  · exact call_range_1 ⟨.ref s.heap.objs.size, _, _, s.toks + 1 + 1, rfl, Step.push R (o := .rng 0 hi) ⟨_, _, _, rfl⟩ rfl, rfl, h.2.2 _ R.size_none⟩
theorem sound_callB {b : Bf} {vs : List AV} {vs' : List Value} {Q : AV → AHeap → Prop} (R : RepH w s.heap H) (hh : A.handled = none) (rs : RVs vs vs') (h0 : callB b vs H Q) :
    TV pw w A (call b.val vs') s H Q := by
  cases b
  · obtain ⟨v, rfl, h1⟩ := on1_inv h0
    obtain ⟨v', rfl, r⟩ := rs.one
    exact sound_len R r h1
  · obtain ⟨v, u, rfl, h1⟩ := on2_inv h0
    obtain ⟨x, rfl, h2⟩ := onInt_inv h1
    obtain ⟨y, rfl, h⟩ := onInt_inv h2
    obtain ⟨v, u, rfl, ⟨t, rfl⟩, ⟨t', rfl⟩⟩ := rs.two
    exact min_two_ints hh fun h' tk hk => ⟨.int (min x y), H, h', tk, rfl, Step.keepAll R hk, min_val, h⟩
  · obtain ⟨v, u, rfl, h1⟩ := on2_inv h0
    obtain ⟨x, rfl, h2⟩ := onInt_inv h1
    obtain ⟨y, rfl, h⟩ := onInt_inv h2
    obtain ⟨v, u, rfl, ⟨t, rfl⟩, ⟨t', rfl⟩⟩ := rs.two
    exact max_two_ints hh fun h' tk hk => ⟨.int (max x y), H, h', tk, rfl, Step.keepAll R hk, max_val, h⟩
  · obtain ⟨v, rfl, h1⟩ := on1_inv h0
    obtain ⟨a, rfl, l, hx, hz, q⟩ := onRef_inv h1
    obtain ⟨v, rfl, r⟩ := rs.one
    obtain rfl : v = .ref a := r
    obtain ⟨us, l1, r, hn⟩ := R.list hx
    rw [List.length_map] at hn
    refine call_bytes_ints l1 (bytes_ints r) (fun n hn => ?_) (by rw [sizeLine_eq, ← hn]; exact hz) hh fun h' t k hk => ⟨.bytes l, H, h', k, rfl, Step.keepAll R hk, ⟨t, by rw [byteArr_ints]⟩, q⟩
    obtain ⟨b, _, rfl⟩ := List.mem_map.1 hn
    exact ⟨Int.natCast_nonneg _, Int.ofNat_lt.2 b.toNat_lt⟩
  · obtain ⟨v, rfl, h1⟩ := on1_inv h0
    obtain ⟨i, rfl, h⟩ := onInt_inv h1
    obtain ⟨v, rfl, t, rfl⟩ := rs.one
    exact P.chr_of_int (by simp; omega) (TR.retk (b := .str [i.toNat]) R (show RV (.str _) _ from ⟨_, rfl⟩) h.2.2)
  · obtain ⟨v, rfl, h1⟩ := on1_inv h0
    obtain ⟨i, rfl, c, rfl, h⟩ := onStr_inv h1
    obtain ⟨v, rfl, t, rfl⟩ := rs.one
    exact P.ord_of_char (TR.retk (b := .int c) R (show RV (.int _) _ from ⟨_, rfl⟩) h)
  · obtain ⟨v, rfl, h1⟩ := on1_inv h0
    obtain ⟨a, rfl, xs, hx, hz, q⟩ := onRef_inv h1
    obtain ⟨v, rfl, r⟩ := rs.one
    obtain rfl : v = .ref a := r
    obtain ⟨ob, e1, us, n, rfl, rv⟩ := R.get a _ hx
    have hl : xs.length = us.size := rv.length
    exact call_list_seq (hsz := by rw [sizeLine_eq, ← hl]; exact hz) a (.inl rfl) e1 rfl rfl fun h' c' hk hD =>
      ⟨.ref s.heap.objs.size, _, h', s.toks, rfl, Step.grow R (o := .list xs) hk (size_none _) hD ⟨us, c', rfl, rv⟩, rfl, q _ R.size_none⟩
  · cases vs with
    | nil => exact h0.elim
    | cons v r =>
      obtain ⟨x, rfl, h1⟩ := onInt_inv h0
      cases r with
      | nil =>
        obtain ⟨v, rfl, t, rfl⟩ := rs.one
        exact sound_range R ⟨t, t, .inr ⟨rfl, rfl⟩⟩ h1
      | cons u r =>
        obtain ⟨rfl, h2⟩ := h1
        obtain ⟨y, rfl, h⟩ := onInt_inv h2
        obtain ⟨v, u, rfl, ⟨t, rfl⟩, ⟨t', rfl⟩⟩ := rs.two
        exact sound_range R ⟨t, t', .inl rfl⟩ h
  · obtain ⟨v, rfl, h1⟩ := on1_inv h0
    obtain ⟨a, rfl, xs, hx, q⟩ := onRef_inv h1
    obtain ⟨v, rfl, r⟩ := rs.one
    obtain rfl : v = .ref a := r
    obtain ⟨us, l1, r, hn⟩ := R.list hx
    refine call_reversed_list l1 ⟨.ref s.heap.objs.size, _, _, s.toks, rfl, Step.push R (o := .rev a ((xs.length : Int) - 1)) ?_ rfl, rfl, q _ R.size_none⟩
    show _ = _
    rw [hn]; rfl
end
end
end Mine
namespace Mine
noncomputable section
theorem slot_bytes_find : Slot "bytes" "find" "bytes.find" :=
  .of (owner := "bytes") (n := "find") (by rw [typeLookup_type, builtinLookup_eq_fast]; kernel_rfl) (by decide +kernel) (by decide +kernel) (by decide +kernel)
    (by first | exact .inl (by decide +kernel) | exact .inr (by decide +kernel)) (by rw [isSubtype_type]; kernel_rfl)
theorem type_bytes_find : typeOf (.builtin "bytes.find") = pure (.type "method_descriptor") := by show builtinType _ = _; rw [builtinType_eq_fast]; kernel_rfl
theorem entry_bytes_find : entryFor table "bytes.find" = some Builtin.«bytes.find» := entryFor_of_tree (by kernel_rfl)
theorem args_bytes_find (a b c d : Value) : argsOk "bytes.find" ⟨[a, b, c, d], []⟩ := by
  unfold argsOk; rw [signature?_of (id := "bytes.find") (n := ['d', 'n', 'i', 'f']) (o := ['s', 'e', 't', 'y', 'b']) (by kernel_rfl) FB.owner_bytes]; kernel_rfl
theorem slot_bytes_strip : Slot "bytes" "strip" "bytes.strip" :=
  .of (owner := "bytes") (n := "strip") (by rw [typeLookup_type, builtinLookup_eq_fast]; kernel_rfl) (by decide +kernel) (by decide +kernel) (by decide +kernel)
    (by first | exact .inl (by decide +kernel) | exact .inr (by decide +kernel)) (by rw [isSubtype_type]; kernel_rfl)
theorem type_bytes_strip : typeOf (.builtin "bytes.strip") = pure (.type "method_descriptor") := by show builtinType _ = _; rw [builtinType_eq_fast]; kernel_rfl
theorem entry_bytes_strip : entryFor table "bytes.strip" = some Builtin.«bytes.strip» := entryFor_of_tree (by kernel_rfl)
theorem args_bytes_strip (a b : Value) : argsOk "bytes.strip" ⟨[a, b], []⟩ := by
  unfold argsOk; rw [signature?_of (id := "bytes.strip") (n := ['p', 'i', 'r', 't', 's']) (o := ['s', 'e', 't', 'y', 'b']) (by kernel_rfl) FB.owner_bytes]; kernel_rfl
theorem slot_bytes_rstrip : Slot "bytes" "rstrip" "bytes.rstrip" :=
  .of (owner := "bytes") (n := "rstrip") (by rw [typeLookup_type, builtinLookup_eq_fast]; kernel_rfl) (by decide +kernel) (by decide +kernel) (by decide +kernel)
    (by first | exact .inl (by decide +kernel) | exact .inr (by decide +kernel)) (by rw [isSubtype_type]; kernel_rfl)
theorem type_bytes_rstrip : typeOf (.builtin "bytes.rstrip") = pure (.type "method_descriptor") := by show builtinType _ = _; rw [builtinType_eq_fast]; kernel_rfl
theorem entry_bytes_rstrip : entryFor table "bytes.rstrip" = some Builtin.«bytes.rstrip» := entryFor_of_tree (by kernel_rfl)
theorem args_bytes_rstrip (a b : Value) : argsOk "bytes.rstrip" ⟨[a, b], []⟩ := by
  unfold argsOk; rw [signature?_of (id := "bytes.rstrip") (n := ['p', 'i', 'r', 't', 's', 'r']) (o := ['s', 'e', 't', 'y', 'b']) (by kernel_rfl) FB.owner_bytes]; kernel_rfl
theorem slot_bytes_join : Slot "bytes" "join" "bytes.join" :=
  .of (owner := "bytes") (n := "join") (by rw [typeLookup_type, builtinLookup_eq_fast]; kernel_rfl) (by decide +kernel) (by decide +kernel) (by decide +kernel)
    (by first | exact .inl (by decide +kernel) | exact .inr (by decide +kernel)) (by rw [isSubtype_type]; kernel_rfl)
theorem type_bytes_join : typeOf (.builtin "bytes.join") = pure (.type "method_descriptor") := by show builtinType _ = _; rw [builtinType_eq_fast]; kernel_rfl
theorem entry_bytes_join : entryFor table "bytes.join" = some Builtin.«bytes.join» := entryFor_of_tree (by kernel_rfl)
theorem args_bytes_join (a b : Value) : argsOk "bytes.join" ⟨[a, b], []⟩ := by
  unfold argsOk; rw [signature?_of (id := "bytes.join") (n := ['n', 'i', 'o', 'j']) (o := ['s', 'e', 't', 'y', 'b']) (by kernel_rfl) FB.owner_bytes]; kernel_rfl

section
open Builtin
variable {M : Model} {A : Around} {E : Value → Shared → Prop} {s : Shared}

theorem look_bytes_index : typeLookup (.type "bytes") "__index__" = pure none := by rw [typeLookup_type, builtinLookup_eq_fast]; kernel_rfl
theorem extract_list (d : List UInt8) (i n : Nat) : (d.toArray.extract i (i + n)).toList = (d.drop i).take n := by
  simp [List.extract_eq_take_drop]
theorem find_eq (d x : List UInt8) (lo hi : Nat) :
    Bytes.find? d.toArray x.toArray lo hi = ((List.range (hi + 1 - (lo + x.length))).map (· + lo)).find? (fun i => (d.drop i).take x.length == x) := by
  unfold Bytes.find?
  simp only [List.size_toArray]
  congr 1
  funext i
  rw [Bool.eq_iff_iff, beq_iff_eq, beq_iff_eq, ← extract_list]
  constructor
  · intro h; rw [h]
  · intro h; apply Array.toList_inj.1; rw [h]

theorem bound_int {a : Int} {ta : Tok} : Bytes.bound? (some (.int a ta)) = pure (some a) := by
  have e : specialOf (.int a ta) "__index__" = typeLookup (.type "int") "__index__" := rfl
  unfold Bytes.bound?
  dsimp only
  rw [e, PySem.F.slot_int_index.lookup]
  rfl
noncomputable def winOf (d x : List UInt8) (a b : Int) : Option (Nat × Nat) := if ((min d.length b : Int) : Int) - a < x.length then none else some (a.toNat, (min d.length b : Int).toNat)
theorem search_eq {d x : List UInt8} {t u ta tb : Tok} {a b : Int} (ha : 0 ≤ a) (hb : 0 ≤ b) :
    Bytes.searchArgs .bytes "find" ⟨[.bytes d.toArray t, .bytes x.toArray u, .int a ta, .int b tb], []⟩ = pure (d.toArray, x.toArray, winOf d x a b) := by
  have e1 : ∀ id, selfAndSome id "find" 1 3 ⟨[.bytes d.toArray t, .bytes x.toArray u, .int a ta, .int b tb], []⟩ = pure (Value.bytes d.toArray t, [Value.bytes x.toArray u, .int a ta, .int b tb]) := fun _ => rfl
  unfold Bytes.searchArgs
  simp only [e1, pure_bind, List.getElem?_cons_succ, List.getElem?_cons_zero, bound_int, List.headD_cons, KBy.buffer_eq]
  have e2 : Bytes.payload (.bytes d.toArray t) = pure d.toArray := rfl
  rw [e2]
  simp only [pure_bind]
  unfold Bytes.window winOf
  simp only [Option.getD_some, List.size_toArray, if_neg (show ¬ a < 0 by omega), if_neg (show ¬ b < 0 by omega)]
theorem min_cast (a b : Nat) : min (a : Int) (b : Int) = ((min a b : Nat) : Int) := by
  rcases Nat.le_total a b with h | h
  · rw [Int.min_eq_left (Int.ofNat_le.2 h), Nat.min_eq_left h]
  · rw [Int.min_eq_right (Int.ofNat_le.2 h), Nat.min_eq_right h]
theorem gives_find {d x : List UInt8} {t u ta tb : Tok} {a b : Int} (ha : 0 ≤ a) (hb : 0 ≤ b) :
    Gives («bytes.find» ⟨[.bytes d.toArray t, .bytes x.toArray u, .int a ta, .int b tb], []⟩) (.int (bfind d x a.toNat b.toNat)) := by
  refine .of_wp fun M A E s Q hq => ?_
  show wpAny M A (Bytes.searchArgs .bytes "find" ⟨[.bytes d.toArray t, .bytes x.toArray u, .int a ta, .int b tb], []⟩ >>= fun r => _) _ E s
  rw [search_eq ha hb]
  refine wpAny_bind (wpAny_pure ?_)
  have e : (winOf d x a b).bind (fun (lo, hi) => if false = true then Bytes.rfind? d.toArray x.toArray lo hi else Bytes.find? d.toArray x.toArray lo hi) = (if bfind d x a.toNat b.toNat < 0 then none else some (bfind d x a.toNat b.toNat).toNat) ∧ (bfind d x a.toNat b.toNat < 0 → bfind d x a.toNat b.toNat = -1) := by
    have hm : min (d.length : Int) b = ((min d.length b.toNat : Nat) : Int) := by
      have := min_cast d.length b.toNat
      rw [Int.toNat_of_nonneg hb] at this; exact this
    have hmin : (min (d.length : Int) b).toNat = min d.length b.toNat := by rw [hm]; rfl
    have hcond : ((min d.length b.toNat : Nat) : Int) - ((a.toNat : Nat) : Int) = (min (d.length : Int) b) - a := by rw [hm, Int.toNat_of_nonneg ha]
    unfold bfind winOf
    rw [hcond, hmin]
    split
    · simp
    · simp only [Option.bind_some, Bool.false_eq_true, if_false, find_eq]
      cases List.find? (fun i => List.take x.length (List.drop i d) == x) (List.map (fun x => x + a.toNat) (List.range (min d.length b.toNat + 1 - (a.toNat + x.length)))) with
      | none => simp
      | some i => simp
  show wpAny M A (match (winOf d x a b).bind (fun (lo, hi) => if false = true then Bytes.rfind? d.toArray x.toArray lo hi else Bytes.find? d.toArray x.toArray lo hi) with | some i => PySem.retInt i | none => _) _ E s
  rw [e.1]
  split
  · rename_i i h
    split at h
    · cases h
    · cases h
      refine wpAny_bind (wpAny_mkInt (wpAny_pure ⟨_, rfl, ?_⟩))
      rw [Int.toNat_of_nonneg (by omega)]
      exact hq
  · rename_i h
    split at h
    · rename_i h0
      rw [e.2 h0] at hq
      exact wpAny_bind (wpAny_rule (wpAny_bind (wpAny_mkInt (wpAny_pure ⟨_, rfl, hq⟩))))
    · cases h

theorem like_eq {id : String} {x : List UInt8} {u : Tok} : Bytes.bytesLike id (.bytes x.toArray u) = pure x.toArray := by
  unfold Bytes.bytesLike
  rw [KBy.buffer_eq]; rfl
theorem contains_arr (x : List UInt8) : (x.toArray.contains : UInt8 → Bool) = fun c => x.contains c := by funext c; simp
theorem same_bytes {prog : Program} {w : World} {A : Around} {E : Value → Shared → Prop} {s : Shared} {b : Array UInt8} {t : Tok} {Q : Value → Shared → Prop} (h : Q (.bytes b t) s) : wpAny (model prog w) A (Bytes.Kind.same .bytes (.bytes b t)) Q E s := by
  show wpAny _ A (typeOf (.bytes b t) >>= fun r => _) Q E s
  refine wpAny_bind (wpAny_typeOf (typeIs_bytes s b t) ?_)
  exact wpAny_pure h
theorem strip_end {name : String} {d k : List UInt8} {t : Tok} (hk : k.length ≤ d.length) (he : k.length = d.length → k = d) (hd : d.length ≤ 16777216) {prog : Program} {w : World} {A : Around} {s : Shared} {E : Value → Shared → Prop}
    {R : Result → Shared → Prop} (hq : ∀ t' k', R (.ok (.ret (.bytes k.toArray t'))) { s with toks := k' }) :
    wpAny (model prog w) A (if (k.length == d.toArray.size) = true then (do rule name; ret (← Bytes.Kind.same .bytes (.bytes d.toArray t))) else (do ret (← Bytes.Kind.new .bytes k.toArray))) (fun fin s' => ∃ v, fin = .done (.ret v) ∧ R (.ok (.ret v)) s') E s := by
  by_cases h : k.length = d.length
  · rw [if_pos (by simpa using h)]
    refine wpAny_bind (wpAny_rule (wpAny_bind (same_bytes (wpAny_pure ⟨_, rfl, ?_⟩))))
    have := hq t s.toks
    rw [he h] at this
    exact this
  · rw [if_neg (by simpa using h)]
    exact wpAny_bind (wpAny_mkBytes (wpAny_pure ⟨_, rfl, hq _ _⟩) (by rw [sizeLine_eq]; simp; omega))
theorem drop_len {α : Type} (p : α → Bool) (l : List α) : (l.dropWhile p).length ≤ l.length := (List.dropWhile_sublist p).length_le
theorem drop_full {α : Type} (p : α → Bool) (l : List α) (h : (l.dropWhile p).length = l.length) : l.dropWhile p = l := (List.dropWhile_sublist p).eq_of_length h
theorem meets_rstrip {d x : List UInt8} {t u : Tok} (hd : d.length ≤ 16777216) :
    Meets («bytes.rstrip» ⟨[.bytes d.toArray t, .bytes x.toArray u], []⟩) (fun _ R s => ∀ t' k, R (.ok (.ret (.bytes (rstripB d x).toArray t'))) { s with toks := k }) := by
  refine .of_wp fun prog w A R s hq => ?_
  have e1 : ∀ id, selfAndSome id "rstrip" 0 1 ⟨[.bytes d.toArray t, .bytes x.toArray u], []⟩ = pure (Value.bytes d.toArray t, [Value.bytes x.toArray u]) := fun _ => rfl
  unfold «bytes.rstrip» Bytes.stripM
  have e2 : Bytes.payload (.bytes d.toArray t) = pure d.toArray := rfl
  simp only [e1, pure_bind, like_eq, e2, contains_arr, Bool.false_eq_true, if_false, if_true]
  refine strip_end (k := rstripB d x) ?_ ?_ hd hq
  · unfold rstripB; rw [List.length_reverse]; have := drop_len (fun c => x.contains c) d.reverse; simpa using this
  · intro h
    unfold rstripB at h ⊢
    rw [drop_full _ _ (by simpa using h), List.reverse_reverse]
theorem meets_strip {d x : List UInt8} {t u : Tok} (hd : d.length ≤ 16777216) :
    Meets («bytes.strip» ⟨[.bytes d.toArray t, .bytes x.toArray u], []⟩) (fun _ R s => ∀ t' k, R (.ok (.ret (.bytes (rstripB (lstripB d x) x).toArray t'))) { s with toks := k }) := by
  refine .of_wp fun prog w A R s hq => ?_
  have e1 : ∀ id, selfAndSome id "strip" 0 1 ⟨[.bytes d.toArray t, .bytes x.toArray u], []⟩ = pure (Value.bytes d.toArray t, [Value.bytes x.toArray u]) := fun _ => rfl
  unfold «bytes.strip» Bytes.stripM
  have e2 : Bytes.payload (.bytes d.toArray t) = pure d.toArray := rfl
  simp only [e1, pure_bind, like_eq, e2, contains_arr, if_true]
  have l1 : (rstripB (lstripB d x) x).length ≤ (lstripB d x).length := by
    unfold rstripB; rw [List.length_reverse]; have := drop_len (fun c => x.contains c) (lstripB d x).reverse; simpa using this
  have l2 : (lstripB d x).length ≤ d.length := drop_len _ _
  refine strip_end (k := rstripB (lstripB d x) x) (by omega) ?_ hd hq
  intro h
  have e3 : lstripB d x = d := drop_full _ _ (by unfold lstripB at *; omega)
  rw [e3] at h ⊢
  unfold rstripB at h ⊢
  rw [drop_full _ _ (by simpa using h), List.reverse_reverse]
end
end
end Mine
namespace Mine
noncomputable section
section
open Builtin
variable {prog : Program} {w : World} {A : Around} {E : Value → Shared → Prop} {s : Shared}
theorem wp_match1 {M : Model} {α : Type} {xs : List Value} {f : Value → Sem α} {g : Array Value → Sem α} {Q : α → Shared → Prop} (h1 : ∀ x, xs = [x] → wpAny M A (f x) Q E s) (h2 : (∀ x, xs ≠ [x]) → wpAny M A (g xs.toArray) Q E s) :
    wpAny M A (Bytes.joinM.match_1 (fun _ => Sem α) xs.toArray f g) Q E s := by
  rcases xs with _ | ⟨x, _ | ⟨y, r⟩⟩
  · exact h2 fun x e => by cases e
  · exact h1 x rfl
  · exact h2 fun x e => by cases e
noncomputable def BytesAre : List Value → List (List UInt8) → Prop
  | [], [] => True
  | v :: vs, l :: ls => (∃ t, v = .bytes l.toArray t) ∧ BytesAre vs ls
  | _, _ => False
theorem BytesAre.length : ∀ {vs : List Value} {ls : List (List UInt8)}, BytesAre vs ls → vs.length = ls.length
  | [], [], _ => rfl
  | _ :: _, _ :: _, h => by simp [BytesAre.length h.2]
  | [], _ :: _, h => h.elim
  | _ :: _, [], h => h.elim
theorem BytesAre.at : ∀ {vs : List Value} {ls : List (List UInt8)}, BytesAre vs ls → ∀ (i : Nat), i < vs.length → ∃ l t, ls[i]? = some l ∧ vs[i]? = some (.bytes l.toArray t)
  | v :: _, l :: _, h, 0, _ => by obtain ⟨⟨t, e⟩, _⟩ := h; exact ⟨l, t, rfl, by simp [e]⟩
  | _ :: _, _ :: _, h, i + 1, q => by simpa using BytesAre.at h.2 i (by simpa using q)
  | [], _, _, _, q => by simp at q
theorem take_eq {id : String} {x : Array UInt8} {u : Tok} : Bytes.takeBufferQuiet? id (.bytes x u) 0 = pure (some (x, none)) := by
  unfold Bytes.takeBufferQuiet? Bytes.takeBuffer?
  have hf : ((0 : Int) == Bytes.fullReadOnly) = false := by decide
  rw [KBy.special_eq KBy.look_buffer, KBy.own_buffer, hf, KBy.buffer_eq]
  kernel_rfl
theorem joined_nil (ls : List (List UInt8)) : Bytes.joined #[] (ls.map List.toArray) = ls.flatten.toArray := by
  unfold Bytes.joined
  have : ∀ (ls : List (List UInt8)) (k : Nat) (acc : List UInt8), ((ls.map List.toArray).zipIdx k).foldl (fun (out : Array UInt8) (x : Array UInt8 × Nat) => (if x.2 > 0 then out ++ #[] else out) ++ x.1) acc.toArray = (acc ++ ls.flatten).toArray := by
    intro ls
    induction ls with
    | nil => intro k acc; simp
    | cons l ls ih =>
      intro k acc
      simp only [List.map_cons, List.zipIdx_cons, List.foldl_cons, List.flatten_cons]
      have := ih (k + 1) (acc ++ l)
      rw [List.append_assoc] at this
      rw [← this]
      congr 1
      split <;> simp
  exact this ls 0 []
theorem let_go {prog : Program} {w : World} {A : Around} : ∀ (tk : List (Value × Option Value)) (keep : List Value) (s : Shared) (Q : Unit → Shared → Prop) (E : Value → Shared → Prop), (∀ p ∈ tk, p.2 = none) → Q () s → wpAny (model prog w) A (Bytes.joinLetGo tk keep) Q E s
  | [], _, _, _, _, _, q => wpAny_pure q
  | (x, w') :: tk, keep, s, Q, E, h, q => by
    obtain rfl : w' = none := h (x, w') List.mem_cons_self
    unfold Bytes.joinLetGo
    exact wpAny_bind (wpAny_letGo (let_go tk _ _ _ _ (fun p hp => h p (List.mem_cons_of_mem _ hp)) q))
theorem sum_len : ∀ (ls : List (List UInt8)) (k : Nat), (ls.map List.toArray).foldl (fun (x1 : Nat) (x2 : Array UInt8) => x1 + x2.size) k = k + ls.flatten.length
  | [], k => rfl
  | l :: ls, k => by rw [List.map_cons, List.foldl_cons, sum_len ls, List.flatten_cons, List.length_append, List.size_toArray, Nat.add_assoc]
/-- the joining loop's state -/
inductive JInv (n : Nat) (ls : List (List UInt8)) (s : Shared) (rest : List Nat) (b : Array (Array UInt8) × List (Value × Option Value)) (s' : Shared) : Prop
  | mk (e : s' = s) (k m : Nat) (hr : rest = List.range' k m) (hk : k + m = n) (hb : b.1.toList = (ls.take k).map List.toArray) (ht : ∀ p ∈ b.2, p.1.onHeap = false ∧ p.2 = none)
inductive JAt (vs : List Value) (ls : List (List UInt8)) (i : Nat) : Prop
  | mk (l : List UInt8) (t : Tok) (e1 : ls[i]? = some l) (e2 : vs.toArray.getD i Value.none = .bytes l.toArray t)
theorem jat {vs : List Value} {ls : List (List UInt8)} (hi : BytesAre vs ls) {i : Nat} (h : i < vs.length) : JAt vs ls i := by
  obtain ⟨l, t, e1, e2⟩ := hi.at i h
  refine ⟨l, t, e1, ?_⟩
  rw [List.getElem?_eq_getElem h] at e2
  simp only [Array.getD, List.size_toArray, h, dif_pos]
  exact Option.some.inj e2
theorem JInv.next {n : Nat} {ls : List (List UInt8)} {s s' : Shared} {i : Nat} {rest : List Nat} {b : Array (Array UInt8) × List (Value × Option Value)} (h : JInv n ls s (i :: rest) b s') :
    s' = s ∧ i < n ∧ b.2.any (fun x => x.1.onHeap) = false ∧ ∀ l x, ls[i]? = some l → x.1.onHeap = false → x.2 = none → JInv n ls s rest (b.1.push l.toArray, b.2 ++ [x]) s := by
  obtain ⟨e, k, m, hr, hk, hb, ht⟩ := h
  cases m with
  | zero => cases hr
  | succ m =>
    rw [List.range'_succ] at hr
    obtain ⟨rfl, rfl⟩ := List.cons.inj hr
    have hany : b.2.any (fun x => x.1.onHeap) = false := List.any_eq_false.2 fun p hp => by rw [(ht p hp).1]; exact Bool.false_ne_true
    refine ⟨e, hk ▸ Nat.lt_add_of_pos_right (Nat.succ_pos m), hany, fun l x el h1 h2 => ⟨rfl, i + 1, m, rfl, by rw [← hk, Nat.add_assoc, Nat.add_comm 1], ?_, fun p hp => ?_⟩⟩
    · show (b.1.push l.toArray).toList = _
      rw [Array.toList_push, hb, List.take_add_one, el, List.map_append]; rfl
    · rcases List.mem_append.1 hp with hp | hp
      · exact ht p hp
      · rw [List.mem_singleton.1 hp]; exact ⟨h1, h2⟩
theorem JInv.last {n : Nat} {ls : List (List UInt8)} {s s' : Shared} {b : Array (Array UInt8) × List (Value × Option Value)} (hn : n = ls.length) (h : JInv n ls s [] b s') :
    s' = s ∧ b.1.toList = ls.map List.toArray ∧ (∀ p ∈ b.2, p.2 = none) ∧ Array.foldl (fun (x1 : Nat) (x2 : Array UInt8) => x1 + x2.size) ((#[] : Array UInt8).size * (b.1.size - 1)) b.1 = ls.flatten.length := by
  obtain ⟨e, k, m, hr, hk, hb, ht⟩ := h
  cases m with
  | succ m => rw [List.range'_succ] at hr; cases hr
  | zero =>
    rw [Nat.add_zero] at hk
    rw [hk, hn, List.take_length] at hb
    refine ⟨e, hb, fun p hp => (ht p hp).2, ?_⟩
    rw [← Array.foldl_toList, hb, sum_len, show (#[] : Array UInt8).size = 0 from rfl, Nat.zero_mul, Nat.zero_add]
theorem bytes_one {x : Value} {ls : List (List UInt8)} (hi : BytesAre [x] ls) : ∃ l t, ls = [l] ∧ x = .bytes l.toArray t := by
  match ls, hi with
  | [l], ⟨⟨t, e⟩, _⟩ => exact ⟨l, t, rfl, e⟩
theorem meets_join {a : Addr} {vs : List Value} {ls : List (List UInt8)} {t : Tok} (hi : BytesAre vs ls) (hz : ls.flatten.length ≤ 16777216) :
    Meets («bytes.join» ⟨[.bytes #[] t, .ref a], []⟩) (fun _ R s => s.heap.IsList a vs.toArray ∧ ∀ t' k, R (.ok (.ret (.bytes ls.flatten.toArray t'))) { s with toks := k }) := by
  refine .of_wp fun prog w A R s h => ?_
  have hl := h.1
  have hq := h.2
  clear h
  obtain ⟨o, ho, hc, n, hd⟩ := id hl
  show wpAny _ _ (selfAndOne _ ⟨[.bytes #[] t, .ref a], []⟩ >>= _) _ _ s
  refine wpAny_bind (wpAny_of_eq (a := (Value.bytes #[] t, Value.ref a)) rfl ?_)
  dsimp only
  refine wpAny_bind ?_
  show wpAny _ _ (Bytes.joinItems (.ref a)) _ _ s
  unfold Bytes.joinItems
  refine wpAny_bind (wpAny_typeOf hl.typeIs (wpAny_pure (wpAny_bind (wpAny_seqItems ho hd ?_))))
  dsimp only
  refine wpAny_ite (KBc.ite_yes (rfl : (Bytes.Kind.bytes == Bytes.Kind.bytes) = true) ?_)
  refine wp_match1 (fun x hx => ?_) fun _ => wpAny_bind ?_
  · subst hx
    obtain ⟨l, t', rfl, rfl⟩ := bytes_one hi
    refine wpAny_bind (wpAny_typeOf (typeIs_bytes s _ _) (wpAny_ite (KBc.ite_yes rfl (wpAny_bind (wpAny_rule (wpAny_pure ⟨_, rfl, ?_⟩))))))
    have := hq t' s.toks
    rw [List.flatten_cons, List.flatten_nil, List.append_nil] at this
    exact this
  · rw [Std.Legacy.Range.forIn_eq_forIn_range']
    refine wpAny_forIn_list _ (JInv vs.length ls s) _ ?_ ?_ _ _ ⟨rfl, 0, vs.length, by simp [Std.Legacy.Range.size], Nat.zero_add _, rfl, fun p hp => (List.not_mem_nil hp).elim⟩
    · intro i rest b s' J
      have J := J.next
      have A := jat hi J.2.1
      rw [J.1]
      refine wpAny_bind (wpAny_seqItems ho hd ?_)
      dsimp only
      refine wpAny_ite (KBy.ite_no (by rw [J.2.2.1]; decide) ?_)
      obtain ⟨l, t', e1, e2⟩ := A
      rw [e2]
      refine wpAny_bind (wpAny_holding (wpAny_of_eq take_eq ?_))
      dsimp only
      refine wpAny_bind (wpAny_seqItems ho hd ?_)
      dsimp only
      exact wpAny_ite (KBy.ite_no (by simp) (wpAny_pure (J.2.2.2 l _ e1 rfl rfl)))
    · intro b s' J
      have J := J.last hi.length
      rw [J.1]
      refine wpAny_bind (wpAny_of_eq (a := (#[] : Array UInt8)) rfl (wpAny_ite (KBy.ite_no (by rw [J.2.2.2, KBy.tooLong_not hz]; exact Bool.false_ne_true) ?_)))
      rw [J.2.1, joined_nil]
      exact wpAny_bind (wpAny_mkBytes (wpAny_bind (wpAny_holding (wpAny_point (wpAny_bind (let_go _ _ _ _ _ J.2.2.1 (wpAny_pure ⟨_, rfl, hq _ _⟩)))))) (by rw [sizeLine_eq, List.size_toArray]; exact Nat.le_trans hz (by decide)))
end
end
end Mine
namespace Mine
noncomputable section

theorem lri_no_len : typeLookup (.type "list_reverseiterator") "__len__" = pure none := by rw [typeLookup_type, builtinLookup_eq_fast]; kernel_rfl
theorem lri_hint : typeLookup (.type "list_reverseiterator") "__length_hint__" = pure (some (.builtin "list_reverseiterator.__length_hint__")) := by rw [typeLookup_type, builtinLookup_eq_fast]; kernel_rfl
theorem sub_lri : isSubtype (.type "list_reverseiterator") (.type "list_reverseiterator") = pure true := by rw [isSubtype_type]; kernel_rfl

section
variable {prog : Program} {w : World} {A : Around} {E : Value → Shared → Prop}

/-- the rest of a list taken from behind, put onto another -/
theorem rev_loop {I l S : Addr} {items : Array Value} {res : Value} {R : Result → Shared → Prop} (hh : A.handled = none) (hSI : S ≠ I) (hSl : S ≠ l) (hIl : l ≠ I) :
    ∀ (k : Nat) (s : Shared) (acc : Array Value) (c : Nat), s.heap.IsRevIter I l ((k : Int) - 1) → s.heap.IsList l items → k ≤ items.size →
      s.heap.get? S = some { cls := .type "list", dict := none, data := .seq acc c, slots := #[] } → acc.size + k ≤ sizeLine →
      (∀ h' c', (∀ b o, b ≠ S → b ≠ I → s.heap.get? b = some o → h'.get? b = some o) → h'.get? S = some { cls := .type "list", dict := none, data := .seq (acc ++ (items.toList.take k).reverse.toArray) c', slots := #[] } → R (.ok (.ret res)) { s with heap := h' }) →
      codeAny (model prog w) A (.builtin "list.extend.loop" ⟨[.ref S, .ref I, res], []⟩) R s := by
  intro k
  induction k with
  | zero =>
    intro s acc c hit hl hk hS hz hR
    refine codeAny_builtin PySem.F.entry_extend_loop ?_
    rw [Around.under_plainId PySem.F.plain_extend_loop _]
    show wpAny _ A.in1 (pyNext (.ref I) >>= _) _ _ s
    refine wpAny_bind (wpAny_pyNext_rev_end hh hit fun h' he' => ?_)
    exact wpAny_pure (hR h' c (fun b o _ hb e => he' b o hb e) (by simpa using he' S _ hSI hS))
  | succ k ih =>
    intro s acc c hit hl hk hS hz hR
    refine codeAny_builtin PySem.F.entry_extend_loop ?_
    rw [Around.under_plainId PySem.F.plain_extend_loop _]
    show wpAny _ A.in1 (pyNext (.ref I) >>= _) _ _ s
    have hx : items[k]? = some items[k] := Array.getElem?_eq_getElem (by omega)
    have hit' : s.heap.IsRevIter I l (k : Int) := by simpa using hit
    refine wpAny_bind (wpAny_pyNext_rev_item hit' hl hx fun h' hi hs => ?_)
    have hS' : h'.get? S = some { cls := .type "list", dict := none, data := .seq acc c, slots := #[] } := (hs.2 S hSI).trans hS
    show wpAny _ A.in1 (updateSeq S (·.push items[k]) >>= _) _ _ _
    refine wpAny_bind ?_
    refine wpAny_updateSeq hS' rfl (wpAny_pure ⟨plainId_quiet PySem.F.plain_extend_loop _, ih { s with heap := h'.update S (Obj.mapSeq (·.push items[k])) } (acc.push items[k]) _ ?_ ?_ (by omega) (Heap.get?_update_self _ hS' rfl) ?_ fun h'' c' hk' hS'' => ?_⟩)
      (by omega) (by show (acc.push items[k]).size ≤ sizeLine + 1; rw [Array.size_push]; omega)
    · exact hi.at fun o e => (Heap.get?_update_other _ _ hSI).trans e
    · exact hl.at fun o e => (Heap.get?_update_other _ _ hSl).trans ((hs.2 l hIl).trans e)
    · rw [Array.size_push]; omega
    · refine hR h'' c' (fun b o hb hb' e => hk' b o hb hb' ((Heap.get?_update_other _ _ (Ne.symm hb)).trans ((hs.2 b hb').trans e))) ?_
      rw [hS'']
      have e1 : items.toList.take (k + 1) = items.toList.take k ++ [items[k]] := by
        rw [List.take_add_one]; simp [hx]
      have e2 : acc.push items[k] ++ (items.toList.take k).reverse.toArray = acc ++ (items.toList.take (k + 1)).reverse.toArray := by
        rw [e1, List.reverse_append]
        apply Array.toList_inj.1
        simp
      rw [e2]

theorem extend_rev {s : Shared} {I l S : Addr} {items acc : Array Value} {c : Nat} {Q : Value → Shared → Prop} (hh : A.handled = none) (hSI : S ≠ I) (hSl : S ≠ l) (hIl : l ≠ I) (hit : s.heap.IsRevIter I l ((items.size : Int) - 1)) (hl : s.heap.IsList l items)
    (hS : s.heap.get? S = some { cls := .type "list", dict := none, data := .seq acc c, slots := #[] }) (hz : acc.size + items.size ≤ sizeLine)
    (hQ : ∀ h' c', (∀ b o, b ≠ S → b ≠ I → s.heap.get? b = some o → h'.get? b = some o) → h'.get? S = some { cls := .type "list", dict := none, data := .seq (acc ++ items.toList.reverse.toArray) c', slots := #[] } → Q .none { s with heap := h' }) :
    wpAny (model prog w) A (call (.builtin "list.extend") [.ref S, .ref I]) Q E s := by
  refine wpAny_call (codeAny_call_builtin PySem.F.slot_list_extend.plain PySem.F.entry_list_extend (PySem.F.slot_list_extend.check _ _ _ _ _ _ _ _ ⟨_, hS, rfl⟩ (PySem.F.args_list_extend_2 _ _) ?_))
  show wpAny _ _ (Builtin.List.listExtendWith (.ref S) (.ref I) .none) _ _ s
  unfold Builtin.List.listExtendWith
  refine wpAny_bind (wpAny_typeOf hit.typeIs ?_)
  have h1 : Builtin.List.listSameRef (.ref S) (.ref I) = false := by simp [Builtin.List.listSameRef, hSI]
  have h2 : (Value.type "list_reverseiterator" == Value.type "list") = false := by decide
  have h3 : (Value.type "list_reverseiterator" == Value.type "tuple") = false := by decide
  simp only [h1, h2, h3, Bool.or_false, Bool.false_eq_true, if_false]
  refine wpAny_bind (wpAny_pyIter_revIter hit ?_)
  refine wpAny_bind (wpAny_holding ?_)
  have hint : ∀ {R : Bool → Shared → Prop} {E : Value → Shared → Prop}, R false s → wpAny (model prog w) A.in1 (Builtin.List.listLengthHint (.ref I)) R E s := by
    intro R E hR
    unfold Builtin.List.listLengthHint
    refine wpAny_bind (wpAny_specialOf hit.typeIs lri_no_len ?_)
    show wpAny _ _ (specialOf (Value.ref I) (Str.ofString "__length_hint__") >>= _) _ _ _
    refine wpAny_bind (wpAny_specialOf hit.typeIs lri_hint ?_)
    generalize hid : ("list_reverseiterator.__length_hint__" : String) = id0
    wp_delta
    rw [show splitId id0 = some ("list_reverseiterator", "__length_hint__") from by subst hid; decide +kernel]
    subst hid
    refine wpAny_bind (wpAny_isInstance (T := "list_reverseiterator") (b := true) hit.typeIs sub_lri ?_)
    refine wpAny_ite_split (fun hab => absurd hab (by decide)) (fun _ => ?_)
    refine wpAny_ite_split (fun _ => ?_) (fun hab => absurd (by decide +kernel) hab)
    exact wpAny_ite_split (fun hab => absurd hab (by decide +kernel)) (fun _ => wpAny_pure hR)
  refine hint ?_
  refine wpAny_ite_split (fun hab => absurd hab (by decide +kernel)) (fun _ => ?_)
  refine wpAny_pure ⟨plainId_quiet PySem.F.plain_extend_loop _, rev_loop hh hSI hSl hIl items.size s acc c hit hl (Nat.le_refl _) hS hz fun h' c' hk hS' => hQ h' c' hk ?_⟩
  rw [hS', List.take_of_length_le (by simp)]
end
end
end Mine
namespace Mine
noncomputable section

section
variable {w : World} {A : Around} {s : Shared} {H : AHeap}

/-- what a method of a built-in type is -/
noncomputable def Bm (T : String) (m : Mt) (id : String) : Prop := PlainAttrs T ∧ Slot T m.str id ∧ typeOf (.builtin id) = pure (.type "method_descriptor")
theorem bm_bytes {m : Mt} {id : String} (h : bytesM m = some id) : Bm "bytes" m id := by
  cases m <;> cases h
  · exact ⟨FB.plainAttrs_bytes, slot_bytes_find, type_bytes_find⟩
  · exact ⟨FB.plainAttrs_bytes, slot_bytes_strip, type_bytes_strip⟩
  · exact ⟨FB.plainAttrs_bytes, slot_bytes_rstrip, type_bytes_rstrip⟩
  · exact ⟨FB.plainAttrs_bytes, slot_bytes_join, type_bytes_join⟩
theorem bm_str {m : Mt} {id : String} (h : strM m = some id) : Bm "str" m id := by
  cases m <;> cases h
  · exact ⟨PySem.F.plainAttrs_str, PySem.F.slot_str_find, PySem.F.type_str_find⟩
  · exact ⟨PySem.F.plainAttrs_str, PySem.F.slot_str_join, PySem.F.type_str_join⟩
theorem bm_list {m : Mt} {id : String} (h : listM m = some id) : Bm "list" m id := by
  cases m <;> cases h
  · exact ⟨PySem.F.plainAttrs_list, PySem.F.slot_list_append, PySem.F.type_list_append⟩
  · exact ⟨PySem.F.plainAttrs_list, PySem.F.slot_list_pop, PySem.F.type_list_pop⟩
  · exact ⟨PySem.F.plainAttrs_list, PySem.F.slot_list_extend, PySem.F.type_list_extend⟩
theorem bm_dict {m : Mt} {id : String} (h : dictM m = some id) : Bm "dict" m id := by
  cases m <;> cases h
  exact ⟨PySem.F.plainAttrs_dict, PySem.F.slot_dict_get, PySem.F.type_dict_get⟩
/-- a method of a built-in type, found -/
inductive Pb (H : AHeap) (m : Mt) : AV → String → String → Prop where
  | bytes {d i} (h : bytesM m = some i) : Pb H m (.bytes d) "bytes" i
  | str {d i} (h : strM m = some i) : Pb H m (.str d) "str" i
  | list {a i xs} (h : listM m = some i) (hx : H a = some (.list xs)) : Pb H m (.ref a) "list" i
  | dict {a i kvs} (h : dictM m = some i) (hx : H a = some (.dict kvs)) : Pb H m (.ref a) "dict" i
/-- a method of one of the text's classes, found -/
noncomputable def Po (H : AHeap) (m : Mt) (v : AV) (f : Addr) : Prop := ∃ a c d kvs, v = .ref a ∧ H a = some (.inst c d) ∧ H d = some (.attrs kvs) ∧ methAddr c m = some f
theorem pre_inv {v : AV} {m : Mt} {Q : Ct → Prop} (h : methPre v m H Q) : (∃ T i, Pb H m v T i ∧ Q (.b T i)) ∨ ∃ f, Po H m v f ∧ Q (.own f) := by
  cases v <;> first | exact h.elim | skip
  · obtain ⟨i, e, q⟩ := h; exact .inl ⟨_, i, .str e, q⟩
  · obtain ⟨i, e, q⟩ := h; exact .inl ⟨_, i, .bytes e, q⟩
  · rcases h with ⟨i, xs, e, hx, q⟩ | ⟨i, kvs, e, hx, q⟩ | ⟨c, d, kvs, f, hx, hd, e, q⟩
    · exact .inl ⟨_, i, .list e hx, q⟩
    · exact .inl ⟨_, i, .dict e hx, q⟩
    · exact .inr ⟨f, ⟨_, c, d, kvs, rfl, hx, hd, e⟩, q⟩
theorem pre_builtin {v : AV} {m : Mt} {v' : Value} {T id : String} (R : RepH w s.heap H) (rv : RV v v') (h : Pb H m v T id) :
    Bm T m id ∧ s.TypeIs v' T ∧ ∀ a, v' = .ref a → ∃ ob, s.heap.get? a = some ob ∧ ob.dict = none := by
  cases h with
  | bytes h => obtain ⟨t, rfl⟩ := rv; exact ⟨bm_bytes h, typeIs_bytes _ _ _, nofun⟩
  | str h => obtain ⟨t, rfl⟩ := rv; exact ⟨bm_str h, typeIs_str _ _ _, nofun⟩
  | list h hx =>
    cases rv
    obtain ⟨ob, e1, vs, n, rfl, rv⟩ := R.get _ _ hx
    exact ⟨bm_list h, ⟨_, e1, rfl⟩, fun a e => by cases e; exact ⟨_, e1, rfl⟩⟩
  | dict h hx =>
    cases rv
    obtain ⟨vals, m, rp⟩ := R.dict hx
    exact ⟨bm_dict h, m.typeIs, m.mapOf.noDict⟩

theorem bytes_are : ∀ {ls : List (List UInt8)} {vs : List Value}, RVs (ls.map .bytes) vs → BytesAre vs ls
  | [], [], _ => trivial
  | _ :: _, _ :: _, h => ⟨h.1, bytes_are h.2⟩
  | [], _ :: _, h => h.elim
  | _ :: _, [], h => h.elim
theorem strs_are' : ∀ {ls : List (List Nat)} {vs : List Value}, RVs (ls.map .str) vs → ∃ l : List (Str × Tok), vs = strValues l ∧ l.map (·.1) = ls.map fun x => ⟨x.toArray⟩
  | [], [], _ => ⟨[], rfl, rfl⟩
  | x :: _, _ :: _, h => by
    obtain ⟨⟨t, rfl⟩, h⟩ := h
    obtain ⟨l, rfl, e⟩ := strs_are' h
    exact ⟨(⟨x.toArray⟩, t) :: l, rfl, by simp [e]⟩
  | [], _ :: _, h => h.elim
  | _ :: _, [], h => h.elim
theorem glued_nil (ls : List (List Nat)) : Builtin.Str.glued ⟨#[]⟩ (ls.map fun x => ⟨x.toArray⟩) = ⟨ls.flatten.toArray⟩ := by
  cases ls with
  | nil => rfl
  | cons x ls =>
    show (⟨(ls.map fun x => (⟨x.toArray⟩ : Str)).foldl (fun acc p => acc ++ #[] ++ p.cps) x.toArray⟩ : Str) = _
    have : ∀ (ls : List (List Nat)) (acc : List Nat), (ls.map fun x => (⟨x.toArray⟩ : Str)).foldl (fun acc p => acc ++ #[] ++ p.cps) acc.toArray = (acc ++ ls.flatten).toArray := by
      intro ls
      induction ls with
      | nil => intro acc; simp
      | cons l ls ih =>
        intro acc
        have := ih (acc ++ l)
        rw [List.append_assoc] at this
        simp only [List.map_cons, List.foldl_cons, List.flatten_cons]
        rw [← this]
        congr 1
        simp
    rw [this]; simp

theorem RVs.snoc {xs : List AV} {vs : List Value} {x : AV} {v : Value} (h : RVs xs vs) (hx : RV x v) : RVs (xs ++ [x]) (vs ++ [v]) := h.append ⟨hx, trivial⟩
theorem RVs.unsnoc : ∀ {xs : List AV} {vs : List Value} {x : AV}, RVs (xs ++ [x]) vs → ∃ us v, vs = us ++ [v] ∧ RVs xs us ∧ RV x v
  | [], vs, x, h => by obtain ⟨v, rfl, r⟩ := h.one; exact ⟨[], v, rfl, trivial, r⟩
  | y :: xs, vs, x, h => by
    obtain ⟨v, r, rfl, h1, h2⟩ := h.cons_left
    obtain ⟨us, u, rfl, h3, h4⟩ := RVs.unsnoc h2
    exact ⟨v :: us, u, rfl, ⟨h1, h3⟩, h4⟩
theorem RVs.reverse : ∀ {xs : List AV} {vs : List Value}, RVs xs vs → RVs xs.reverse vs.reverse
  | [], [], h => h
  | _ :: _, _ :: _, h => by rw [List.reverse_cons, List.reverse_cons]; exact (RVs.reverse h.2).append ⟨h.1, trivial⟩
  | [], _ :: _, h => h.elim
  | _ :: _, [], h => h.elim

theorem sound_bytesM {d : List UInt8} {t : Tok} {m : Mt} {vs : List AV} {vs' : List Value} {id : String} {Q : AV → AHeap → Prop} (R : RepH w s.heap H) (rs : RVs vs vs')
    (hp : bytesM m = some id) (h : bytesVC d m vs H Q) : TV pw w A (call (.builtin id) (.bytes d.toArray t :: vs')) s H Q := by
  cases m <;> cases hp
  · obtain ⟨x, y, z, rfl, h1⟩ := on3_inv h
    obtain ⟨i, rfl, h2⟩ := onBytes_inv h1
    obtain ⟨j, rfl, h3⟩ := onInt_inv h2
    obtain ⟨k, rfl, ha, hb, q⟩ := onInt_inv h3
    obtain ⟨v, u, x, rfl, ⟨t1, rfl⟩, ⟨t2, rfl⟩, ⟨t3, rfl⟩⟩ := rs.three
    exact call_meets slot_bytes_find (typeIs_bytes _ _ _) entry_bytes_find (args_bytes_find _ _ _ _) (gives_find ha hb).meets (retInt R q)
  · obtain ⟨x, rfl, h1⟩ := on1_inv h
    obtain ⟨i, rfl, hd, q⟩ := onBytes_inv h1
    obtain ⟨v, rfl, ⟨t1, rfl⟩⟩ := rs.one
    exact call_meets slot_bytes_strip (typeIs_bytes _ _ _) entry_bytes_strip (args_bytes_strip _ _) (meets_strip hd) fun t' k => retBytes R rfl q
  · obtain ⟨x, rfl, h1⟩ := on1_inv h
    obtain ⟨i, rfl, hd, q⟩ := onBytes_inv h1
    obtain ⟨v, rfl, ⟨t1, rfl⟩⟩ := rs.one
    exact call_meets slot_bytes_rstrip (typeIs_bytes _ _ _) entry_bytes_rstrip (args_bytes_rstrip _ _) (meets_rstrip hd) fun t' k => retBytes R rfl q
  · obtain ⟨x, rfl, h1⟩ := on1_inv h
    obtain ⟨a, rfl, rfl, ls, hl, hz, q⟩ := onRef_inv h1
    obtain ⟨v, rfl, r⟩ := rs.one
    obtain rfl : v = .ref a := r
    obtain ⟨us, l1, r1, n1⟩ := R.list hl
    exact call_meets slot_bytes_join (typeIs_bytes _ _ _) entry_bytes_join (args_bytes_join _ _) (meets_join (bytes_are r1) hz) ⟨l1, fun t' k => retBytes R rfl q⟩
theorem glue_len : ∀ (xs : List (List Nat)) (k : Nat), (xs.map fun x => (⟨x.toArray⟩ : Str)).foldl (fun (x1 : Nat) (x2 : Str) => x1 + x2.length + (Str.mk #[]).length) k = k + xs.flatten.length
  | [], k => by simp
  | x :: xs, k => by
    rw [List.map_cons, List.foldl_cons, glue_len xs, List.flatten_cons, List.length_append, str_len]
    show k + x.length + 0 + _ = _
    rw [Nat.add_zero, Nat.add_assoc]
theorem join_str {a : Addr} {t : Tok} {ls : List (List Nat)} {Q : AV → AHeap → Prop} (R : RepH w s.heap H) (hl : H a = some (.list (ls.map .str))) (hz : ls.flatten.length ≤ 16777216) (q : Q (.str ls.flatten) H) :
    TV pw w A (call (.builtin "str.join") [.str ⟨#[]⟩ t, .ref a]) s H Q := by
  obtain ⟨us, l1, r1, n1⟩ := R.list hl
  obtain ⟨l, rfl, el⟩ := strs_are' r1
  have hl' : Builtin.Str.tooLong ((l.map (·.1)).toArray.foldl (fun (x1 : Nat) (x2 : Str) => x1 + x2.length + (Str.mk [].toArray).length) 0) = false := by
    rw [← Array.foldl_toList, List.toList_toArray, el, glue_len]
    unfold Builtin.Str.tooLong
    rw [sizeLine_eq, Nat.zero_add]
    exact decide_eq_false (Nat.not_lt.2 hz)
  refine call_meets PySem.F.slot_str_join (typeIs_str _ _ _) PySem.F.entry_str_join (PySem.F.args_str_join_2 _ _) (meets_str_join_list _ t a l hl') ⟨l1, ?_⟩
  have big : ∀ {t'}, PostR w RV s H Q (.str (Builtin.Str.glued ⟨#[]⟩ (l.map (·.1))) t') { s with toks := s.toks + 1 } := by
    intro t'
    rw [el, glued_nil]
    exact TR.retk (b := .str ls.flatten) R (show RV (.str _) _ from ⟨_, rfl⟩) q
  have sz : (Builtin.Str.glued ⟨#[]⟩ (l.map (·.1))).length ≤ sizeLine := by
    rw [el, glued_nil, str_len, sizeLine_eq]; exact hz
  rcases l with _ | ⟨p, _ | ⟨p2, l⟩⟩
  · exact ⟨sz, big⟩
  · cases ls with
    | nil => exact absurd el nofun
    | cons x xs =>
      cases xs with
      | nil =>
        obtain ⟨e, -⟩ := List.cons.inj el
        exact TR.ret (b := .str x) R (show RV (.str x) _ from ⟨p.2, by rw [← show p.1 = ⟨x.toArray⟩ from e]⟩) (by rw [List.flatten_cons, List.flatten_nil, List.append_nil] at q; exact q)
      | cons y ys => exact absurd (congrArg List.length el) (by simp)
  · exact ⟨sz, big⟩
theorem no_occ {d : List Nat} {c : Nat} (hc : c ∉ d) : Builtin.Str.occurrences ⟨d.toArray⟩ ⟨#[c]⟩ 0 (Str.mk d.toArray).length 1 = [] := by
  rw [← List.isEmpty_iff, empty_one ⟨d.toArray⟩ c]
  simp [hc]
theorem sound_strM {d : List Nat} {t : Tok} {m : Mt} {vs : List AV} {vs' : List Value} {id : String} {Q : AV → AHeap → Prop} (R : RepH w s.heap H) (rs : RVs vs vs')
    (hp : strM m = some id) (h : strVC d m vs H Q) : TV pw w A (call (.builtin id) (.str ⟨d.toArray⟩ t :: vs')) s H Q := by
  cases m <;> cases hp
  · obtain ⟨x, rfl, h1⟩ := on1_inv h
    obtain ⟨l, rfl, c, rfl, hc, q⟩ := onStr_inv h1
    obtain ⟨v, rfl, ⟨t1, rfl⟩⟩ := rs.one
    have g := gives_str_find ⟨d.toArray⟩ ⟨#[c]⟩ t t1
    rw [no_occ hc] at g
    exact call_meets PySem.F.slot_str_find (typeIs_str _ _ _) PySem.F.entry_str_find (PySem.F.args_str_find_2 _ _) g.meets (retInt R q)
  · obtain ⟨x, rfl, h1⟩ := on1_inv h
    obtain ⟨a, rfl, rfl, ls, hl, hz, q⟩ := onRef_inv h1
    obtain ⟨v, rfl, r⟩ := rs.one
    obtain rfl : v = .ref a := r
    exact join_str R hl hz q
theorem del_ne {c b : Addr} (h : c ≠ b) : del H b c = H c := if_neg h
theorem del_self {b : Addr} : del H b b = none := if_pos rfl
theorem Step.extend {h h' : Heap} {a b : Addr} {ys : List AV} {o : Obj} (R : RepH w h H) (hk : ∀ c o, c ≠ a → c ≠ b → h.get? c = some o → h'.get? c = some o) (ha : H a ≠ none) (hb : H b ≠ none) (e : h'.get? a = some o) (ro : RO w (.list ys) o) :
    Step w h H h' (upd (del H b) a (.list ys)) := by
  refine ⟨fun c o e n => hk c o ?_ ?_ e, fun c n x => ?_, ⟨fun c o e => ?_⟩⟩
  · rintro rfl; exact ha n
  · rintro rfl; exact hb n
  · by_cases hc : c = a
    · subst hc; exact absurd n ha
    · rw [upd_ne hc] at x
      by_cases hcb : c = b
      · subst hcb; exact absurd n hb
      · rw [del_ne hcb] at x; exact absurd n x
  · by_cases hc : c = a
    · subst hc; rw [upd_self] at e; cases e
      exact ⟨_, ‹_›, ro⟩
    · rw [upd_ne hc] at e
      by_cases hcb : c = b
      · subst hcb; rw [del_self] at e; cases e
      · rw [del_ne hcb] at e
        obtain ⟨oc, ec, rc⟩ := R.get _ _ e
        exact ⟨oc, hk c _ hc hcb ec, rc⟩
theorem pop_list {α : Type} (ws : List α) (y : α) : ((ws ++ [y]).toArray.eraseIdxIfInBounds ((ws ++ [y]).toArray.size - 1)).toList = ws := by simp [Array.eraseIdxIfInBounds, List.eraseIdx_append_of_length_le]
theorem sound_listM {a : Addr} {m : Mt} {vs : List AV} {vs' : List Value} {id : String} {Q : AV → AHeap → Prop} (R : RepH w s.heap H) (hh : A.handled = none) (rs : RVs vs vs')
    (hp : listM m = some id) (h : refVC a m vs H Q) : TV pw w A (call (.builtin id) (.ref a :: vs')) s H Q := by
  cases m <;> cases hp
  · obtain ⟨x, rfl, xs, hl, hz, q⟩ := on1_inv h
    obtain ⟨v, rfl, r⟩ := rs.one
    obtain ⟨ob, e1, us, n, rfl, rv⟩ := R.get _ _ hl
    have hn : xs.length = us.size := rv.length
    refine call_meets PySem.F.slot_list_append ⟨_, e1, rfl⟩ PySem.F.entry_list_append (PySem.F.args_list_append_2 _ _) (list_append _ us n v (by rw [sizeLine_eq, ← hn]; exact Nat.le_of_lt hz)) ⟨e1, ?_⟩
    refine ⟨.none, _, _, s.toks, rfl, Step.change R (by rw [hl]; exact nofun) (Heap.SameBut_update _ _ _) (IsL.update e1 _) (show RO w (.list (xs ++ [x])) _ from ⟨_, _, rfl, ?_⟩), rfl, q⟩
    rw [Array.toList_push]
    exact rv.snoc r
  · cases vs with
    | cons => exact h.elim
    | nil =>
      obtain rfl := rs.nil_left
      obtain ⟨xs, x, hl, hz, q⟩ := h
      obtain ⟨ob, e1, us, n, rfl, rv⟩ := R.get _ _ hl
      obtain ⟨ws, y, ew, r1, r2⟩ := rv.unsnoc
      have hn := r1.length
      obtain rfl : us = (ws ++ [y]).toArray := by apply Array.toList_inj.1; rw [ew]
      refine call_meets PySem.F.slot_list_pop ⟨_, e1, rfl⟩ PySem.F.entry_list_pop (PySem.F.args_list_pop_1 _) (MeetsSeq.list_pop_last _ _ n y (by rw [List.size_toArray, List.length_append]; simp) (by rw [sizeLine_eq, List.size_toArray, List.length_append, ← hn]; exact hz)) ⟨e1, ?_⟩
      refine ⟨x, _, _, s.toks, rfl, Step.change R (by rw [hl]; exact nofun) (Heap.SameBut_update _ _ _) (IsL.update e1 _) (show RO w (.list xs) _ from ⟨_, _, rfl, ?_⟩), r2, q⟩
      rw [pop_list]; exact r1
  · obtain ⟨x, rfl, h1⟩ := on1_inv h
    obtain ⟨b, rfl, l, xs, ys, hb, hl, ha, hne, hz, q⟩ := onRef_inv h1
    obtain ⟨v, rfl, r⟩ := rs.one
    obtain rfl : v = .ref b := r
    obtain ⟨ob, e1, us, n, rfl, rv⟩ := R.get _ _ ha
    obtain ⟨ws, l1, r1, n1⟩ := R.list hl
    obtain ⟨oi, ei, ri⟩ := R.get _ _ hb
    obtain rfl : oi = revObj l ((ys.length : Int) - 1) := ri
    have hn : xs.length = us.size := rv.length
    have hSI : a ≠ b := by rintro rfl; rw [ha] at hb; cases hb
    have hIl : l ≠ b := by rintro rfl; rw [hl] at hb; cases hb
    refine extend_rev hh hSI (Ne.symm hne) hIl ⟨_, ei, rfl, by rw [n1]; rfl⟩ l1 e1 (by rw [sizeLine_eq]; show us.size + ws.length ≤ _; rw [← n1, ← hn]; exact hz) fun h' c' hk hS' => ⟨.none, _, h', s.toks, rfl, ?_, rfl, q⟩
    refine Step.extend R hk (by rw [ha]; exact nofun) (by rw [hb]; exact nofun) hS' ⟨_, _, rfl, ?_⟩
    rw [Array.toList_append]
    exact rv.append r1.reverse
theorem sound_dictM {a : Addr} {m : Mt} {vs : List AV} {vs' : List Value} {id : String} {Q : AV → AHeap → Prop} (R : RepH w s.heap H) (rs : RVs vs vs')
    (hp : dictM m = some id) (h : refVC a m vs H Q) : TV pw w A (call (.builtin id) (.ref a :: vs')) s H Q := by
  cases m <;> cases hp
  obtain ⟨x, dflt, rfl, h1⟩ := on2_inv h
  obtain ⟨k, rfl, hds, kvs, hd, q⟩ := onStr_inv h1
  obtain ⟨v, u, rfl, ⟨t, rfl⟩, r⟩ := rs.two
  obtain ⟨vals, m, rp⟩ := R.dict hd
  refine call_meetsIn PySem.F.slot_dict_get m.typeIs PySem.F.entry_dict_get (PySem.F.args_dict_get_3 _ _ _) (meets_dict_get_default (strKind pw w) a (strKind_is _ _ _ _) (beq_eq_false_iff_ne.2 hds) u) ⟨_, m.mapOf, TR.retk R ?_ q⟩
  have hx := rp.look k
  cases h1 : lookS k kvs with
  | none => cases h2 : valueAt vals ⟨k.toArray⟩ with
    | none => exact r
    | some v => rw [h1, h2] at hx; exact hx.elim
  | some z => cases h2 : valueAt vals ⟨k.toArray⟩ with
    | none => rw [h1, h2] at hx; exact hx.elim
    | some v => rw [h1, h2] at hx; exact hx
theorem sound_methB {v : AV} {m : Mt} {v' : Value} {vs : List AV} {vs' : List Value} {T id : String} {Q : AV → AHeap → Prop} {H₀ : AHeap} (R : RepH w s.heap H) (hh : A.handled = none) (rv : RV v v') (rs : RVs vs vs')
    (hp : Pb H₀ m v T id) (h : methVC v m vs H Q) : TV pw w A (call (.builtin id) (v' :: vs')) s H Q := by
  cases hp with
  | bytes e => obtain ⟨t, rfl⟩ := rv; exact sound_bytesM R rs e h
  | str e => obtain ⟨t, rfl⟩ := rv; exact sound_strM R rs e h
  | list e => cases rv; exact sound_listM R hh rs e h
  | dict e => cases rv; exact sound_dictM R rs e h
end
end
end Mine
namespace Mine
noncomputable section

/-- the iterators that hold the tuple they give -/
noncomputable def ownsTuple (T : String) : Bool := ["enumerate", "zip", "dict_itemiterator", "dict_reverseitemiterator", "odict_iterator", "itertools.zip_longest", "itertools.pairwise"].contains T

/-- an iterator at work: what it needs lies in its own object, or in what the loop may not change -/
structure Itr (w : World) (A : Around) (v : AV) (H₀ : AHeap) (xs : List AV) (I : Addr) (St : Nat → Heap → Prop) : Prop where
  frame : ∀ i h h', St i h → (∀ o, h.get? I = some o → h'.get? I = some o) → (xs = [] → ∀ b o, h.get? b = some o → h'.get? b = some o) → St i h'
  live : ∀ i h, St i h → ∃ o T, h.get? I = some o ∧ o.cls = .type T ∧ ownsTuple T = false
  self : ∀ {i : Nat} {s : Shared} {Q : Value → Shared → Prop} {E : Value → Shared → Prop}, St i s.heap → Q (.ref I) s → wpAny (model pw w) A (pyIter (.ref I)) Q E s
  item : ∀ {i : Nat} {x : AV} {s : Shared} {H : AHeap} {Q : Option Value → Shared → Prop} {E : Value → Shared → Prop}, xs[i]? = some x → St i s.heap → RepH w s.heap H → Stays v H₀ H →
    (∀ y h' tk, RV x y → St (i + 1) h' → (∀ b o, b ≠ I → s.heap.get? b = some o → h'.get? b = some o) → Q (some y) { s with heap := h', toks := tk }) → wpAny (model pw w) A (pyNext (.ref I)) Q E s
  done : ∀ {s : Shared} {H : AHeap} {Q : Option Value → Shared → Prop} {E : Value → Shared → Prop}, St xs.length s.heap → RepH w s.heap H → Stays v H₀ H →
    (∀ h', (∀ b o, b ≠ I → s.heap.get? b = some o → h'.get? b = some o) → Q none { s with heap := h' }) → wpAny (model pw w) A (pyNext (.ref I)) Q E s

section
variable {w : World} {A : Around} {s : Shared} {H : AHeap}

theorem sound_iter {v : AV} {v' : Value} {Q : List AV → Prop} (R : RepH w s.heap H) (hh : A.handled = none) (nl : s.heap.NoLimit) (rv : RV v v') (h : itemsVC v H Q) :
    ∃ xs, Q xs ∧ ∀ {Q' : Value → Shared → Prop} {E : Value → Shared → Prop},
      (∀ I h' St, s.heap.get? I = none → (∀ b o, s.heap.get? b = some o → h'.get? b = some o) → Itr w A v H xs I St → St 0 h' → Q' (.ref I) { s with heap := h' }) → wpAny (model pw w) A (pyIter v') Q' E s := by
  cases v with
  | bytes l =>
    obtain ⟨t, rfl⟩ := rv
    refine ⟨_, h.2, fun {Q' E} k => KBw.pyIter_bytes (k _ _ (fun i h => KBw.IsBytesIter h s.heap.objs.size l.toArray t i) (size_none _) (fun b o e => Heap.get?_push_of_some _ e) ?_ ⟨_, Heap.get?_push_size _ rfl, rfl, rfl⟩)⟩
    refine ⟨fun i h h' st f _ => let ⟨o, ho, r⟩ := st; ⟨o, f o ho, r⟩, fun i h st => let ⟨o, ho, r⟩ := st; ⟨o, _, ho, r.1, by decide⟩, fun st q => KBw.pyIter_self st q, ?_, ?_⟩
    · intro i x s' H' Q'' E' hx st _ _ k
      obtain ⟨c, hc, rfl⟩ : ∃ c, l[i]? = some c ∧ AV.int c.toNat = x := by simpa using hx
      exact KBw.next_item st (c := c) (by simpa using hc) fun h' st' hs => k _ h' _ ⟨_, rfl⟩ st' fun b o hb e => hs.extBut b o hb e
    · intro s' H' Q'' E' st _ _ k
      exact KBw.next_end hh st (by simp) fun h' he => k h' fun b o hb e => he b o hb e
  | str l =>
    obtain ⟨t, rfl⟩ := rv
    refine ⟨_, h.2.2, fun {Q' E} k => wpAny_pyIter_strU (k _ _ (fun i h => h.IsStrIter s.heap.objs.size (strIterType ⟨l.toArray⟩) ⟨l.toArray⟩ t i) (size_none _) (fun b o e => Heap.get?_push_of_some _ e) ?_ ⟨_, Heap.get?_push_size _ rfl, rfl, rfl⟩)⟩
    refine ⟨fun i h h' st f _ => let ⟨o, ho, r⟩ := st; ⟨o, f o ho, r⟩, fun i h st => let ⟨o, ho, r⟩ := st; ⟨o, _, ho, r.1, by unfold strIterType; split <;> decide⟩, (fun st q => by
      unfold strIterType at st; split at st
      · exact (Walks.strAscii hh _ _ _).self _ _ _ _ st q
      · exact (Walks.strWide hh _ _ _).self _ _ _ _ st q), ?_, ?_⟩
    · intro i x s' H' Q'' E' hx st _ _ k
      obtain ⟨c, hc, rfl⟩ : ∃ c, l[i]? = some c ∧ AV.str [c] = x := by simpa using hx
      unfold strIterType at st k
      split at st
      · rename_i ha
        rw [if_pos ha] at k
        exact wpAny_pyNext_ascii_item st (c := c) (by simpa using hc) fun h' st' hs => k _ h' _ ⟨_, rfl⟩ st' fun b o hb e => hs.extBut b o hb e
      · rename_i ha
        rw [if_neg ha] at k
        exact wpAny_pyNext_wide_item st (c := c) (by simpa using hc) fun h' st' hs => k _ h' _ ⟨_, rfl⟩ st' fun b o hb e => hs.extBut b o hb e
    · intro s' H' Q'' E' st _ _ k
      unfold strIterType at st
      split at st
      · exact wpAny_pyNext_ascii_end hh st (by simp) fun h' he => k h' fun b o hb e => he b o hb e
      · exact wpAny_pyNext_wide_end hh st (by simp) fun h' he => k h' fun b o hb e => he b o hb e
  | ref a =>
    obtain rfl : v' = .ref a := rv
    rcases h with ⟨xs, hx, _, q⟩ | ⟨lo, hi, hx, l1, l2, l3, l4, q⟩ | ⟨hx, hms, q⟩
    · obtain ⟨vs, li, r, n⟩ := R.list hx
      refine ⟨_, q, fun {Q' E} k => wpAny_pyIter_list li (k _ _ (fun i h => h.IsListIter s.heap.objs.size a i) (size_none _) (fun b o e => Heap.get?_push_of_some _ e) ?_ ⟨_, Heap.get?_push_size _ rfl, rfl, rfl⟩)⟩
      refine ⟨fun i h h' st f _ => let ⟨o, ho, r⟩ := st; ⟨o, f o ho, r⟩, fun i h st => let ⟨o, ho, r⟩ := st; ⟨o, _, ho, r.1, by decide⟩, fun st q => wpAny_pyIter_listiter st q, ?_, ?_⟩
      · intro i x s' H' Q'' E' hxi st R' sy k
        obtain ⟨us, li', r', n'⟩ := R'.list (show H' a = some (.list xs) from (show H' a = H a from sy).trans hx)
        obtain ⟨y, hy, ry⟩ := r'.get _ _ hxi
        exact wpAny_pyNext_list_item st li' (by simpa using hy) fun h' st' hs => k _ h' _ ry st' fun b o hb e => hs.extBut b o hb e
      · intro s' H' Q'' E' st R' sy k
        obtain ⟨us, li', r', n'⟩ := R'.list (show H' a = some (.list xs) from (show H' a = H a from sy).trans hx)
        exact wpAny_pyNext_list_end hh st li' (by simp [n']) fun h' he => k h' fun b o hb e => he b o hb e
    · obtain ⟨ob, e1, t, u, v, rfl⟩ := R.get _ _ hx
      have hr : IsRange s.heap a lo hi 1 t u v := e1
      refine ⟨_, q, fun {Q' E} k => wpAny_pyIter_range hr (small_one (by omega) (by omega) (by omega) (by omega)) (k _ _ (fun i h => IsRangeIter h s.heap.objs.size (lo + (i : Int)) (((hi - lo).toNat : Int) - (i : Int)) 1) (size_none _) (fun b o e => Heap.get?_push_of_some _ e) ?_ ?_)⟩
      · refine ⟨fun i h h' st f _ => f _ st, fun i h st => ⟨_, _, st, rfl, by decide⟩, fun st q => wpAny_pyIter_rangeiter st q, ?_, ?_⟩
        · intro i x s' H' Q'' E' hxi st _ _ k
          have hi' : i < (hi - lo).toNat := by have := (List.getElem?_eq_some_iff.1 hxi).1; simpa using this
          obtain rfl : AV.int (lo + (i : Int)) = x := by simpa [hi'] using hxi
          refine wpAny_pyNext_range_item st (by omega) fun h' st' hs => k _ h' _ ⟨_, rfl⟩ ?_ fun b o hb e => hs.extBut b o hb e
          have e1 : lo + (i : Int) + 1 = lo + ((i + 1 : Nat) : Int) := by omega
          have e2 : ((hi - lo).toNat : Int) - (i : Int) - 1 = ((hi - lo).toNat : Int) - ((i + 1 : Nat) : Int) := by omega
          rw [e1, e2] at st'; exact st'
        · intro s' H' Q'' E' st _ _ k
          exact wpAny_pyNext_range_end hh st (by simp) fun h' he => k h' fun b o hb e => he b o hb e
      · have e : Builtin.Range.rangeSize lo hi 1 = ((hi - lo).toNat : Int) := by rw [rangeSize_one]; split <;> omega
        rw [e]
        have e0 : lo + ((0 : Nat) : Int) = lo := by simp
        have e1 : ((hi - lo).toNat : Int) - ((0 : Nat) : Int) = ((hi - lo).toNat : Int) := by simp
        show IsRangeIter _ _ (lo + ((0 : Nat) : Int)) (((hi - lo).toNat : Int) - ((0 : Nat) : Int)) 1
        rw [e0, e1]
        exact Heap.get?_push_size _ rfl
    · obtain ⟨vals, m, rp⟩ := R.dict hx
      obtain ⟨ep, da⟩ := m.dictAt
      have : vals = [] := by cases vals with | nil => rfl | cons => exact rp.elim
      subst this
      have hds : (a == sysModules) = false := by simpa using hms
      refine ⟨_, q, fun {Q' E} k => wpAny_pyIter_dict hds da (k _ _ (fun i h => i = 0 ∧ h.IsKeyIter s.heap.objs.size a 0 0 ep ∧ h.DictAt (strKind pw w) a [] ep) (size_none _) (fun b o e => Heap.get?_push_of_some _ e) ?_ ⟨rfl, ⟨_, Heap.get?_push_size _ rfl, rfl, rfl⟩, ?_⟩)⟩
      · refine ⟨fun i h h' st f g => ?_, fun i h st => let ⟨_, ⟨o, ho, r⟩, _⟩ := st; ⟨o, _, ho, r.1, by decide⟩, fun st q => wpAny_pyIter_keyiter st.2.1 q, ?_, ?_⟩
        · obtain ⟨rfl, ⟨o, ho, r⟩, ⟨o2, es, ho2, r2⟩⟩ := st
          exact ⟨rfl, ⟨o, f o ho, r⟩, ⟨o2, es, g rfl _ _ ho2, r2⟩⟩
        · intro i x s' H' Q'' E' hxi; simp at hxi
        · intro s' H' Q'' E' st _ _ k
          exact wpAny_pyNext_dict_end hh st.2.1 st.2.2 rfl fun h' he => k h' fun b o hb e => he b o hb e
      · obtain ⟨o2, es, ho2, r2⟩ := da
        exact ⟨o2, es, Heap.get?_push_of_some _ ho2, r2⟩
  | _ => exact h.elim
end
end
end Mine
namespace Mine
noncomputable section

/-- what the text's objects must be: the classes, the defs -/
structure KFacts (K : Frag) : Prop where
  cls : ∀ c, isCls c = true → clsOk K c = true
  keep : ∀ a, calleeOk a = true → keepIn K (.ref a) = true
  meth : ∀ c m f, methAddr c m = some f → findIn K (.ref c) m.str = some (some (.ref f)) ∧ isFn K (.ref f) = true ∧ keepIn K (.ref f) = true ∧ plainGet K c m.str = true

structure EnvOk (cx : Cx) (F : Fx) (ρ : Rho) : Prop where
  names : F.env.scope.names = cx.names
  loc : ∀ (i : Nat) (x : Str) (v : AV), cx.vars[i]? = some x → ρ.loc[i]? = some (some v) → ∃ v', F.m2 x = some v' ∧ RV v v'
  cel : ∀ (j : Nat) (x : Str) (c : Addr), cx.cells[j]? = some x → cx.names.lookup x = some .cell → ρ.cel[j]? = some c → F.env.cells.lookup x = some c
  celLen : ρ.cel.length = cx.cells.length
  nd : cx.vars.Nodup

/-- a truth that comes back from a test -/
noncomputable def RT : AV → Bool → Prop := fun v b => v = .bool b

section
variable {w : World} {K : Frag} {n : Nat} {A : Around} {s : Shared} {H : AHeap}

noncomputable def SG (w : World) (K : Frag) (n : Nat) (cx : Cx) (e : E) (x : Expr) : Prop := ∀ {F : Fx} {ρ : Rho} {H : AHeap} {s : Shared}, EnvOk cx F ρ → F.Ok K s.heap H → F.Room (n + 1) → RepH w s.heap H →
  (∀ Q, vcG w K n e false ρ H Q → TV pw w F.A (eval x F.env) s H Q) ∧ (∀ Q, vcG w K n e true ρ H Q → TR pw w F.A RT (isTrue x F.env (eval x F.env)) s H Q)
noncomputable def SL (w : World) (K : Frag) (n : Nat) (cx : Cx) (e : E) (xs : List Expr) : Prop := ∀ {F : Fx} {ρ : Rho} {H : AHeap} {s : Shared} {pos : Pos}, EnvOk cx F ρ → F.Ok K s.heap H → F.Room (n + 1) → RepH w s.heap H →
  ∀ Q, vcL w K n e ρ H Q → TR pw w F.A RVs (spliced (backTo pos (starEach xs F.env))) s H Q
noncomputable def SF (w : World) (K : Frag) (n : Nat) (cx : Cx) (e : E) (xs : List Expr) : Prop := ∀ {F : Fx} {ρ : Rho} {H : AHeap} {s : Shared}, EnvOk cx F ρ → F.Ok K s.heap H → F.Room (n + 1) → RepH w s.heap H →
  ∀ Q, vcF w K n e ρ H Q → TR pw w F.A RB (forIn xs true fun c r => if r = true then do let ok ← isTrue c F.env (eval c F.env); pure (ForInStep.yield ok) else pure (ForInStep.yield r)) s H Q
noncomputable def SO (w : World) (K : Frag) (n : Nat) (cx : Cx) (e : E) (l : Option Expr) : Prop := ∀ {F : Fx} {ρ : Rho} {H : AHeap} {s : Shared}, EnvOk cx F ρ → F.Ok K s.heap H → F.Room (n + 1) → RepH w s.heap H →
  ∀ Q, vcO w K n e ρ H Q → TR pw w F.A RInt (valueOrNone (evalOpt l F.env)) s H (fun o H => (∀ i, o = some i → 0 ≤ i) ∧ Q o H)
noncomputable def SC (w : World) (K : Frag) (n : Nat) (cx : Cx) (e : E) (ops : List CmpOp) (xs : List Expr) : Prop := ∀ {F : Fx} {ρ : Rho} {H : AHeap} {s : Shared} {pos : Pos} {v : AV} {v' : Value}, EnvOk cx F ρ → F.Ok K s.heap H → F.Room (n + 1) → RepH w s.heap H → RV v v' →
  ∀ Q, vcC w K n e v ρ H Q → TR pw w F.A RBV (compareChain pos v' ops (markedEach ops xs (evalEach xs F.env))) s H Q ∧ TR pw w F.A RB (testChain pos v' ops (markedEach ops xs (evalEach xs F.env))) s H Q
noncomputable def opOf : Bool → BoolOp
  | true => .And
  | false => .Or
noncomputable def SA (w : World) (K : Frag) (n : Nat) (cx : Cx) (e : E) (xs : List Expr) : Prop := ∀ {F : Fx} {ρ : Rho} {H : AHeap} {s : Shared} {pos : Pos} {c : Bool}, EnvOk cx F ρ → F.Ok K s.heap H → F.Room (n + 1) → RepH w s.heap H →
  (∀ Q, vcA w K n e c false ρ H Q → TV pw w F.A (boolOp pos (opOf c) (evalEach xs F.env)) s H Q) ∧ (∀ Q, vcA w K n e c true ρ H Q → TR pw w F.A RT (allTrue (opOf c) xs F.env) s H Q)

theorem Fx.Ok.units {F : Fx} (r : F.Room (n + 1)) : F.A.units + 4 < cLine := by have := r.2; omega

/-- a value as it stands -/
theorem retV {v : AV} {v' : Value} {tk : Nat} {Q : AV → AHeap → Prop} (R : RepH w s.heap H) (r : RV v v') (q : Q v H) : PostR w RV s H Q v' { s with toks := tk } := TR.retk R r q
theorem retW {v : AV} {v' : Value} {Q : AV → AHeap → Prop} (R : RepH w s.heap H) (r : RV v v') (q : Q v H) : PostR w RV s H Q v' s := TR.ret R r q

theorem str_of {l : List Nat} {x : Str} (h : x.cps.toList = l) : x = ⟨l.toArray⟩ := by
  obtain ⟨cps⟩ := x
  rw [← h]
theorem sound_const {v : AV} {c : Const} {env : Env} {k : Nat} {pos : Pos} {Q : AV → AHeap → Prop} (R : RepH w s.heap H) (m : LitOk v c) (q : Q v H) : TV pw w A (eval (.Constant c k pos) env) s H Q := by
  cases m with
  | none => exact wpAny_Constant_none (retW (v := .none) R rfl q)
  | bool b => exact wpAny_Constant_bool (retW (v := .bool b) R rfl q)
  | int i => exact wpAny_Constant_int (retV (v := .int i) R ⟨_, rfl⟩ q)
  | @str l x h =>
    obtain rfl := str_of h
    exact wpAny_Constant_str (retV (v := .str l) R ⟨_, rfl⟩ q)
  | bytes b => exact Constant_bytes (retV (v := .bytes b) R ⟨_, rfl⟩ q)

theorem mem_of_lookup {α β : Type} [BEq α] [LawfulBEq α] {x : α} {v : β} : ∀ {l : List (α × β)}, l.lookup x = some v → (x, v) ∈ l
  | [], h => by cases h
  | (y, u) :: l, h => by
    rw [List.lookup_cons] at h
    split at h
    · rename_i e; cases h; rw [eq_of_beq e]; exact List.mem_cons_self
    · exact List.mem_cons_of_mem _ (mem_of_lookup h)
theorem gtab_builtins : (gtab.all fun p => match p.2 with | .fn b => bootBuiltins p.1 == some b.val && p.1 != Str.ofString "__name__" | _ => true) = true := by kernel_rfl

/-- a global name -/
theorem sound_glo {F : Fx} {x : Str} {pos : Pos} {v : AV} {Q : AV → AHeap → Prop} (O : F.Ok K s.heap H) (R : RepH w s.heap H) (hk : F.env.kindOf x = some .globalImplicit) (hd : notDebug x = true) (hg : gtab.lookup x = some v) (q : Q v H) :
    TV pw w F.A (eval (.Name x pos) F.env) s H Q := by
  obtain ⟨mg, g1, g2⟩ := O.grh.glob
  obtain ⟨mb, b1, b2⟩ := O.grh.blt
  have h := g2 x v hg
  refine Name_function_global O.ek hk ?_ (by simpa [notDebug] using hd)
  have key : (∃ b, v = .fn b) ∨ ∃ v', mg x = some v' ∧ RV v v' := by
    cases v <;> first | exact .inr h | exact .inl ⟨_, rfl⟩
  rcases key with ⟨b, rfl⟩ | ⟨v', e, r⟩
  · have hx : mg x = none := h
    have hc := List.all_eq_true.1 gtab_builtins _ (mem_of_lookup hg)
    simp only [Bool.and_eq_true, beq_iff_eq, bne_iff_ne] at hc
    obtain ⟨hb, hn⟩ := hc
    exact loadGlobal_builtin (by rw [O.eg]; exact g1) hx (by rw [O.eb]; exact b1) ((b2 x hn).trans hb) (retW (v := .fn b) R rfl q)
  · exact loadGlobal_global (by rw [O.eg]; exact g1) e (retW R r q)
end
end
end Mine
namespace Mine
noncomputable section

section
variable {prog : Program} {w : World} {A : Around} {α β γ δ : Type} {rel : β → α → Prop} {s : Shared} {H : AHeap}
theorem TR.holding {m : Sem α} {vs : List Value} {Q : β → AHeap → Prop} (h : TR prog w A rel m s H Q) : TR prog w A rel (PySem.holding vs m) s H Q := wpAny_holding h
theorem TR.stand {k : Unit → Sem α} {pos : Pos} {Q : β → AHeap → Prop} (h : TR prog w A rel (k ()) s H Q) : TR prog w A rel (standAt pos >>= k) s H Q := wpAny_bind (wpAny_standAt h)
theorem TR.operate {m : Sem Value} {vs : List Value} {Q : β → AHeap → Prop} {rel : β → Value → Prop} (h : TR prog w A rel m s H Q) : TR prog w A rel (PySem.operate vs m) s H Q := wpAny_operating h
theorem TR.release {k : Unit → Sem α} {vs ws : List Value} {Q : β → AHeap → Prop} (h : TR prog w A rel (k ()) s H Q) : TR prog w A rel (PySem.release vs ws >>= k) s H Q := wpAny_bind (wpAny_release h)
theorem TR.relMono {rel' : β → α → Prop} {t : Sem α} {Q : β → AHeap → Prop} (h : TR prog w A rel t s H Q) (k : ∀ b a, rel b a → rel' b a) : TR prog w A rel' t s H Q :=
  wpAny_mono h (fun _ _ ⟨b, H', h', tk, e, S, r, q⟩ => ⟨b, H', h', tk, e, S, k _ _ r, q⟩) fun _ _ x => x
end

section
variable {w : World} {K : Frag} {n : Nat} {A : Around} {s : Shared} {H : AHeap}

/-- a value's truth -/
theorem isT {x : Expr} {env : Env} {Q : AV → AHeap → Prop} (he : isTrue x env (eval x env) = (do let v ← eval x env; standAt x.pos; holding [v] (truthy v)))
    (h : TV pw w A (eval x env) s H (fun v H => truthVC v H fun b => Q (.bool b) H)) : TR pw w A RT (isTrue x env (eval x env)) s H Q := by
  rw [he]
  refine TR.bind h fun v v' H' h' tk S r q => TR.stand (TR.holding ?_)
  refine wpAny_mono (sound_truth (s := { s with heap := h', toks := tk }) S.rep r q) (fun b' s' p => ?_) fun _ _ x => x
  obtain ⟨b, H'', h'', tk', e, S', rb, e2, q'⟩ := p
  subst e2
  obtain rfl : b = b' := rb
  exact ⟨.bool b, _, h'', tk', e, S', rfl, q'⟩

theorem star_plain {x : Expr} (m : notStar x = true) (rest : List Expr) (env : Env) : starEach (x :: rest) env = (false, eval x env) :: starEach rest env := by
  cases x <;> first | rfl | cases m

theorem base_plain {o : Expr} {nm : Str} {env : Env} {t : Sem Value} {rel : AV → Value → Prop} {Q : AV → AHeap → Prop} (h : notSuper o = true) (ht : TR pw w A rel t s H Q) : TR pw w A rel (attributeBase o nm env t) s H Q := by
  cases o <;> first | exact ht | skip
  rename_i f as ks pos
  cases f <;> first | exact ht | skip
  cases as <;> first | exact ht | skip
  cases ks <;> first | exact ht | skip
  rename_i id p
  have hid : (id != ("super" : Str)) = true := h
  show TR pw w A rel (if (((id != ("super" : Str) || _) || _) || _) = true then _ else _) s H Q
  rw [hid, Bool.true_or, Bool.true_or, Bool.true_or, if_pos rfl]
  first | exact ht | exact wpAny_bind (wpAny_mono ht (fun _ _ x => wpAny_pure x) fun _ _ x => x)

theorem sub_shape (slice : Expr) (o i : Value) : ∃ ops, subscripted slice false o i = operate ops (getItem o i) := by
  cases slice <;> first | exact ⟨_, rfl⟩ | skip
  rename_i a b c p
  cases c <;> exact ⟨_, rfl⟩

/-- an item read, by its expression -/
theorem sub_eval {value slice : Expr} {o i : Value} {pos : Pos} {Q : AV → AHeap → Prop} (h : TSub w A o i s H Q) :
    TV pw w A (do standAt pos; let r ← subscripted slice (← getitemInPython o) o i; letTemporaryGo value o r; pure r) s H Q := by
  obtain ⟨T, id, hl, hT, hg⟩ := h
  refine TR.stand ?_
  refine wpAny_bind ?_
  rw [getitemInPython_of_ne hT.not_modules]
  refine wpAny_bind (wpAny_specialOf hT hl ?_)
  obtain ⟨ops, e⟩ := sub_shape slice o i
  have fin : wpAny (model pw w) A (subscripted slice false o i) (fun r s₃ => wpAny (model pw w) A (letTemporaryGo value o r >>= fun _ => pure r) (PostR w RV s H Q) NoE s₃) NoE s := by
    rw [e]
    exact wpAny_operating (wpAny_mono hg (fun r s₃ h₃ => wpAny_bind (wpAny_letTemporaryGo (wpAny_pure h₃))) fun _ _ x => x)
  first
  | exact wpAny_pure (wpAny_bind fin)
  | exact wpAny_bind (wpAny_pure (wpAny_bind fin))
  | exact wpAny_bind fin
end
end
end Mine
namespace Mine
noncomputable section

section
variable {w : World} {K : Frag} {n : Nat} {cx : Cx}

theorem both {e : E} {x : Expr} {env : Env} {A : Around} {s : Shared} {ρ : Rho} {H : AHeap} (he : isTrue x env (eval x env) = (do let v ← eval x env; standAt x.pos; holding [v] (truthy v)))
    (hv : ∀ Q, vcG w K n e true ρ H Q → vcG w K n e false ρ H (fun v H => truthVC v H fun b => Q (.bool b) H)) (h : ∀ Q, vcG w K n e false ρ H Q → TV pw w A (eval x env) s H Q) :
    (∀ Q, vcG w K n e false ρ H Q → TV pw w A (eval x env) s H Q) ∧ (∀ Q, vcG w K n e true ρ H Q → TR pw w A RT (isTrue x env (eval x env)) s H Q) := ⟨h, fun Q q => isT he (h _ (hv Q q))⟩

theorem locOk_inv {i : Nat} {x : Str} (h : locOk cx i x = true) : cx.vars[i]? = some x ∧ cx.names.lookup x = some .local ∧ (x == ("__debug__" : Str)) = false := by
  obtain ⟨h1, h3⟩ := Bool.and_eq_true_iff.1 h
  obtain ⟨h1, h2⟩ := Bool.and_eq_true_iff.1 h1
  exact ⟨beq_iff_eq.1 h1, beq_iff_eq.1 h2, Bool.not_eq_true' _ ▸ h3⟩
theorem celOk_inv {i : Nat} {x : Str} (h : celOk cx i x = true) : cx.cells[i]? = some x ∧ cx.names.lookup x = some .cell ∧ (x == ("__debug__" : Str)) = false := by
  obtain ⟨h1, h3⟩ := Bool.and_eq_true_iff.1 h
  obtain ⟨h1, h2⟩ := Bool.and_eq_true_iff.1 h1
  exact ⟨beq_iff_eq.1 h1, beq_iff_eq.1 h2, Bool.not_eq_true' _ ▸ h3⟩
theorem gloOk_inv {v : AV} {x : Str} (h : gloOk cx v x = true) : notDebug x = true ∧ cx.names.lookup x = some .globalImplicit ∧ gtab.lookup x = some v := by
  obtain ⟨h1, h3⟩ := Bool.and_eq_true_iff.1 h
  obtain ⟨h1, h2⟩ := Bool.and_eq_true_iff.1 h1
  exact ⟨h1, beq_iff_eq.1 h2, beq_iff_eq.1 h3⟩
theorem EnvOk.kind {F : Fx} {ρ : Rho} (EO : EnvOk cx F ρ) {x : Str} {k : NameKind} (h : cx.names.lookup x = some k) : F.env.kindOf x = some k := by unfold Env.kindOf; rw [EO.names]; exact h

theorem G_lit {v : AV} {c : Const} {k : Nat} {p : Pos} (m : LitOk v c) : SG w K n cx (.lit v) (.Constant c k p) := by
  intro F ρ H s EO O r R
  exact both rfl (fun _ q => q) fun Q q => sound_const R m q
theorem G_glo {v : AV} {x : Str} {p : Pos} (m : gloOk cx v x = true) : SG w K n cx (.glo v) (.Name x p) := by
  intro F ρ H s EO O r R
  obtain ⟨m1, m2, m3⟩ := gloOk_inv m
  exact both rfl (fun _ q => q) fun Q q => sound_glo O R (EO.kind m2) m1 m3 q
theorem G_loc {i : Nat} {x : Str} {p : Pos} (m : locOk cx i x = true) : SG w K n cx (.loc i) (.Name x p) := by
  intro F ρ H s EO O r R
  obtain ⟨m1, m2, m3⟩ := locOk_inv m
  refine both rfl (fun Q q => q) fun Q q => ?_
  obtain ⟨v, hv, q⟩ := onLoc_inv q
  obtain ⟨v', e, rv⟩ := EO.loc i _ v m1 hv
  exact wpAny_Name (wpAny_loadName_local O.ek (EO.kind m2) O.cur e (retW R rv q)) m3
theorem G_cel {j : Nat} {x : Str} {p : Pos} (m : celOk cx j x = true) : SG w K n cx (.cel j) (.Name x p) := by
  intro F ρ H s EO O r R
  obtain ⟨m1, m2, m3⟩ := celOk_inv m
  refine both rfl (fun Q q => q) fun Q q => ?_
  obtain ⟨c, v, hc, hv, q⟩ := q
  obtain ⟨ob, e1, v', e2, rv⟩ := R.get _ _ hv
  exact wpAny_Name (wpAny_loadName_cell O.ek (EO.kind m2) (EO.cel j _ c m1 m2 hc) ⟨ob, e1, e2⟩ (retW R rv q)) m3
theorem G_bin {o : Operator} {a b : E} {l y : Expr} {p : Pos} (ha : SG w K n cx a l) (hb : SG w K n cx b y) : SG w K n cx (.bin o a b) (.BinOp l o y p) := by
  intro F ρ H s EO O r R
  refine both rfl (fun Q q => q) fun Q q => ?_
  rw [arm_eval_BinOp]
  refine TR.bind ((ha EO O r R).1 _ q) fun x x' H1 h1 t1 S1 r1 q1 => ?_
  refine TR.bind (TR.holding ((hb EO (O.step S1) r S1.rep).1 _ q1)) fun y y' H2 h2 t2 S2 r2 q2 => ?_
  exact TR.stand (TR.operate (sound_bin S2.rep r1 r2 q2))
theorem G_neg {a : E} {x : Expr} {p : Pos} (ha : SG w K n cx a x) : SG w K n cx (.neg a) (.UnaryOp .USub x p) := by
  intro F ρ H s EO O r R
  refine both rfl (fun Q q => q) fun Q q => ?_
  rw [arm_eval_UnaryOp]
  refine TR.bind ((ha EO O r R).1 _ q) fun x x' H1 h1 t1 S1 r1 q1 => TR.stand (TR.holding ?_)
  obtain ⟨i, rfl, q2⟩ := onInt_inv q1
  obtain ⟨t, rfl⟩ := r1
  exact P.neg_int (retInt S1.rep q2)
theorem G_not {a : E} {x : Expr} {p : Pos} (ha : SG w K n cx a x) : SG w K n cx (.not a) (.UnaryOp .Not x p) := by
  intro F ρ H s EO O r R
  refine ⟨fun Q q => absurd q.1 Bool.false_ne_true, fun Q q => ?_⟩
  rw [arm_isTrue_UnaryOp]
  refine TR.bind ((ha EO O r R).2 _ q.2) fun v b H1 h1 t1 S1 r1 q1 => ?_
  obtain rfl : v = .bool b := r1
  exact TR.pure (rel := RT) (b := .bool (!b)) S1.rep rfl q1
theorem G_ite {c a b : E} {x y z : Expr} {p : Pos} (hc : SG w K n cx c x) (ha : SG w K n cx a y) (hb : SG w K n cx b z) : SG w K n cx (.ite c a b) (.IfExp x y z p) := by
  intro F ρ H s EO O r R
  refine ⟨fun Q q => ?_, fun Q q => absurd q.1 (Ne.symm Bool.false_ne_true)⟩
  rw [arm_eval_IfExp]
  refine TR.bind ((hc EO O r R).2 _ q.2) fun v t H1 h1 t1 S1 r1 q1 => ?_
  obtain rfl : v = .bool t := r1
  cases t with
  | true => exact (ha EO (O.step S1) r S1.rep).1 _ (q1.1 rfl)
  | false => exact (hb EO (O.step S1) r S1.rep).1 _ (q1.2 rfl)
theorem G_cmp {a l : E} {x : Expr} {ops : List CmpOp} {rs : List Expr} {p : Pos} (ha : SG w K n cx a x) (hl : SC w K n cx l ops rs) : SG w K n cx (.cmp a l) (.Compare x ops rs p) := by
  intro F ρ H s EO O r R
  refine ⟨fun Q q => ?_, fun Q q => ?_⟩
  · rw [arm_eval_Compare]
    refine TR.bind ((ha EO O r R).1 _ q) fun v v' H1 h1 t1 S1 r1 q1 => ?_
    exact wpAny_mono (hl (s := { s with heap := h1, toks := t1 }) EO (O.step S1) r S1.rep r1 _ q1).1 (fun _ _ ⟨b, H', h', tk, e, S, rb, q⟩ => ⟨.bool b, H', h', tk, e, S, rb, q⟩) fun _ _ x => x
  · rw [arm_isTrue_Compare]
    refine TR.bind ((ha EO O r R).1 _ q) fun v v' H1 h1 t1 S1 r1 q1 => ?_
    exact wpAny_mono (hl (s := { s with heap := h1, toks := t1 }) EO (O.step S1) r S1.rep r1 _ q1).2 (fun _ _ ⟨b, H', h', tk, e, S, rb, q⟩ => ⟨.bool b, H', h', tk, e, S, (by rw [show b = _ from rb]; rfl), q⟩) fun _ _ x => x
theorem G_attr {o : E} {a : At} {x : Expr} {p : Pos} (KF : KFacts K) (m : notSuper x = true) (ho : SG w K n cx o x) : SG w K n cx (.attr o a) (.Attribute x a.str p) := by
  intro F ρ H s EO O r R
  refine both rfl (fun Q q => q) fun Q q => ?_
  rw [arm_eval_Attribute]
  refine TR.bind (base_plain m ((ho EO O r R).1 _ q)) fun x x' H1 h1 t1 S1 r1 q1 => TR.stand ?_
  refine TR.bind (TR.holding (sound_attr S1.rep (O.step S1).grh.inK KF.cls r1 q1)) fun y y' H2 h2 t2 S2 r2 q2 => ?_
  obtain ⟨rfl, q2⟩ := q2
  exact wpAny_bind (wpAny_letTemporaryGo (wpAny_pure (retW S2.rep r2 q2)))
theorem G_item {o i : E} {x y : Expr} {p : Pos} (ho : SG w K n cx o x) (hi : SG w K n cx i y) : SG w K n cx (.item o i) (.Subscript x y p) := by
  intro F ρ H s EO O r R
  refine both rfl (fun Q q => q) fun Q q => ?_
  rw [arm_eval_Subscript]
  refine TR.bind ((ho EO O r R).1 _ q) fun x x' H1 h1 t1 S1 r1 q1 => ?_
  refine TR.bind (TR.holding ((hi EO (O.step S1) r S1.rep).1 _ q1)) fun y y' H2 h2 t2 S2 r2 q2 => ?_
  exact (sub_eval (sound_item S2.rep ((O.step S1).step S2).grh.con r1 r2 q2)).mono fun v H' q => by obtain ⟨rfl, q⟩ := q; exact q
end
end
end Mine
namespace Mine
noncomputable section

section
variable {w : World} {K : Frag} {n : Nat} {cx : Cx}

/-! lists of expressions -/
theorem L_nil : SL w K n cx .nil [] := by
  intro F ρ H s pos EO O r R Q q
  exact spliced_nil (TR.ret (rel := RVs) R (b := []) (show RVs [] [] from trivial) q)
theorem L_cons {a l : E} {x : Expr} {xs : List Expr} (m : notStar x = true) (ha : SG w K n cx a x) (hl : SL w K n cx l xs) : SL w K n cx (.cons a l) (x :: xs) := by
  intro F ρ H s pos EO O r R Q q
  rw [star_plain m]
  show TR pw w F.A RVs (spliced ((false, eval x F.env) :: backTo pos (starEach xs F.env))) s H Q
  refine spliced_cons ((TR.use ((ha EO O r R).1 _ q)) fun v v' H1 h1 t1 S1 r1 q1 => ?_)
  refine TR.use (hl (s := { s with heap := h1, toks := t1 }) EO (O.step S1) r S1.rep _ q1) fun vs vs' H2 h2 t2 S2 r2 q2 => ?_
  exact ⟨v :: vs, H2, h2, t2, rfl, S1.trans S2, ⟨r1, r2⟩, q2⟩

theorem F_nil : SF w K n cx .nil [] := by
  intro F ρ H s EO O r R Q q
  exact wpAny_pure (TR.ret (rel := RB) R rfl q)
/-- what a node of our letters' lists looks like -/
noncomputable def shp (l : E) : Nd → Prop
  | .l xs => (isNil l = true ∧ xs = []) ∨ (isNil l = false ∧ ∃ y ys, xs = y :: ys ∧ notStar y = true)
  | .c ops xs => (isNil l = true ∧ ops = [] ∧ xs = []) ∨ (isNil l = false ∧ ∃ op2 ops' y2 ys, ops = op2 :: ops' ∧ xs = y2 :: ys)
  | _ => True
theorem shp_ok {l : E} {nd : Nd} (m : ME cx l nd) : shp l nd := by
  cases m with
  | nil => exact .inl ⟨rfl, rfl⟩
  | cons hs _ _ => exact .inr ⟨rfl, _, _, rfl, hs⟩
  | cnil => exact .inl ⟨rfl, rfl, rfl⟩
  | ccons _ _ _ => exact .inr ⟨rfl, _, _, _, _, rfl, rfl⟩
  | _ => trivial
theorem no_nil {b : Bool} {P : Prop} (h1 : b = true) (h2 : b = false) : P := by rw [h1] at h2; cases h2
theorem nil_l {l : E} {xs : List Expr} (m : ME cx l (.l xs)) (h : isNil l = true) : xs = [] := (shp_ok m).elim (fun q => q.2) fun q => no_nil h q.1
theorem cons_l {l : E} {xs : List Expr} (m : ME cx l (.l xs)) (h : isNil l = false) : ∃ y ys, xs = y :: ys := (shp_ok m).elim (fun q => no_nil q.1 h) fun q => let ⟨y, ys, e, _⟩ := q.2; ⟨y, ys, e⟩
theorem F_cons {a l : E} {x : Expr} {xs : List Expr} (ml : ME cx l (.l xs)) (ha : SG w K n cx a x) : SF w K n cx (.cons a l) (x :: xs) := by
  intro F ρ H s EO O r R Q q
  obtain rfl := nil_l ml q.1
  rw [List.forIn_cons]
  refine wpAny_bind ?_
  refine wpAny_bind (TR.use ((ha EO O r R).2 _ q.2) fun v b H1 h1 t1 S1 r1 q1 => wpAny_pure ?_)
  obtain rfl : v = .bool b := r1
  dsimp only
  rw [List.forIn_nil]
  exact wpAny_pure ⟨b, H1, h1, t1, rfl, S1, rfl, q1⟩

theorem O_nil : SO w K n cx .nil none := by
  intro F ρ H s EO O r R Q q
  exact wpAny_pure (TR.ret (rel := RInt) (b := none) R rfl ⟨nofun, q⟩)
theorem O_some {a : E} {x : Expr} (ha : SG w K n cx a x) : SO w K n cx (.cons a .nil) (some x) := by
  intro F ρ H s EO O r R Q q
  show TR pw w F.A RInt (eval x F.env) s H _
  refine TR.use ((ha EO O r R).1 _ q) fun v v' H1 h1 t1 S1 r1 q1 => ?_
  obtain ⟨i, rfl, h0, q2⟩ := onInt_inv q1
  exact ⟨some i, H1, h1, t1, rfl, S1, r1, fun j e => by cases e; exact h0, q2⟩

theorem A_cons {a l : E} {x : Expr} {xs : List Expr} (ml : ME cx l (.l xs)) (ha : SG w K n cx a x) (hl : SA w K n cx l xs) : SA w K n cx (.cons a l) (x :: xs) := by
  intro F ρ H s pos c EO O r R
  cases hn : isNil l with
  | true =>
    obtain rfl := nil_l ml hn
    refine ⟨fun Q q => (ha EO O r R).1 _ (ifNil_t hn q), fun Q q => ?_⟩
    rw [arm_allTrue_cons]
    refine TR.bind ((ha EO O r R).2 _ (ifNil_t hn q)) fun v b H1 h1 t1 S1 r1 q1 => ?_
    obtain rfl : v = .bool b := r1
    cases c <;> cases b <;> exact wpAny_pure (TR.ret (rel := RT) S1.rep rfl q1)
  | false =>
    obtain ⟨y, ys, rfl⟩ := cons_l ml hn
    refine ⟨fun Q q => ?_, fun Q q => ?_⟩
    · show TR pw w F.A RV (do let v ← eval x F.env; standAt pos; let t ← holding [v] (truthy v); match opOf c, t with | .And, false | .Or, true => pure v | _, _ => boolOp pos (opOf c) (evalEach (y :: ys) F.env)) s H Q
      refine TR.bind ((ha EO O r R).1 _ (ifNil_f hn q)) fun v v' H1 h1 t1 S1 r1 q1 => TR.stand ?_
      refine TR.bind (TR.holding (sound_truth S1.rep r1 q1)) fun b b' H2 h2 t2 S2 r2 q2 => ?_
      obtain ⟨rfl, q2⟩ := q2
      obtain rfl : b = b' := r2
      have hr := hl (s := { s with heap := h2, toks := t2 }) (pos := pos) (c := c) EO ((O.step S1).step S2) r S2.rep
      cases c <;> cases b
      · exact hr.1 _ (q2.1 rfl)
      · exact wpAny_pure (retW S2.rep r1 (q2.2 rfl))
      · exact wpAny_pure (retW S2.rep r1 (q2.2 rfl))
      · exact hr.1 _ (q2.1 rfl)
    · rw [arm_allTrue_cons]
      refine TR.bind ((ha EO O r R).2 _ (ifNil_f hn q)) fun v b H1 h1 t1 S1 r1 q1 => ?_
      obtain rfl : v = .bool b := r1
      have hr := hl (s := { s with heap := h1, toks := t1 }) (pos := pos) (c := c) EO (O.step S1) r S1.rep
      cases c <;> cases b
      · exact hr.2 _ (q1.1 rfl)
      · exact wpAny_pure (TR.ret (rel := RT) S1.rep rfl (q1.2 rfl))
      · exact wpAny_pure (TR.ret (rel := RT) S1.rep rfl (q1.2 rfl))
      · exact hr.2 _ (q1.1 rfl)
theorem A_nil : SA w K n cx .nil [] := by
  intro F ρ H s pos c EO O r R
  exact ⟨fun Q q => q.elim, fun Q q => q.elim⟩

theorem nil_c {l : E} {ops : List CmpOp} {xs : List Expr} (m : ME cx l (.c ops xs)) (h : isNil l = true) : ops = [] ∧ xs = [] := (shp_ok m).elim (fun q => q.2) fun q => no_nil h q.1
theorem cons_c {l : E} {ops : List CmpOp} {xs : List Expr} (m : ME cx l (.c ops xs)) (h : isNil l = false) : ∃ op2 ops' y2 ys, ops = op2 :: ops' ∧ xs = y2 :: ys := (shp_ok m).elim (fun q => no_nil q.1 h) fun q => q.2
theorem C_nil : SC w K n cx .nil [] [] := by
  intro F ρ H s pos v v' EO O r R rv Q q
  exact q.elim
theorem C_cons {o : CmpOp} {a l : E} {x : Expr} {ops : List CmpOp} {xs : List Expr} (hm : behindInMarks o x = false) (ml : ME cx l (.c ops xs)) (ha : SG w K n cx a x) (hl : SC w K n cx l ops xs) : SC w K n cx (.ccons o a l) (o :: ops) (x :: xs) := by
  intro F ρ H s pos v v' EO O r R rv Q q
  cases hn : isNil l with
  | true =>
    obtain ⟨rfl, rfl⟩ := nil_c ml hn
    have e : markedEach [o] [x] (evalEach [x] F.env) = [eval x F.env] := by
      show [markedBehindIn o x (eval x F.env)] = _
      unfold markedBehindIn; rw [hm]
    rw [e]
    have run : TR pw w F.A RBV (do let rv ← PySem.holding [v'] (eval x F.env); standAt pos; operate [v', rv] (compareOp o v' rv)) s H Q := by
      refine TR.bind (TR.holding ((ha EO O r R).1 _ q)) fun y y' H1 h1 t1 S1 r1 q1 => TR.stand (TR.operate ?_)
      exact (sound_cmp S1.rep (O.step S1).grh.con (Fx.Ok.units r) rv r1 q1).mono fun b H' q => by obtain ⟨rfl, q⟩ := q; exact ifNil_t hn q
    refine ⟨run, ?_⟩
    show TR pw w F.A RB (do let rv ← PySem.holding [v'] (eval x F.env); standAt pos; let c ← operate [v', rv] (compareOp o v' rv); PySem.holding [c] (truthy c)) s H Q
    refine TR.bind (TR.holding ((ha EO O r R).1 _ q)) fun y y' H1 h1 t1 S1 r1 q1 => TR.stand ?_
    refine TR.bind (TR.operate (sound_cmp S1.rep (O.step S1).grh.con (Fx.Ok.units r) rv r1 q1)) fun b b' H2 h2 t2 S2 r2 q2 => TR.holding ?_
    obtain ⟨rfl, q2⟩ := q2
    obtain rfl : b' = .bool b := r2
    exact wpAny_truthy_bool (TR.ret (rel := RB) S2.rep rfl (ifNil_t hn q2))
  | false =>
    obtain ⟨op2, ops, y2, ys, rfl, rfl⟩ := cons_c ml hn
    have e : markedEach (o :: op2 :: ops) (x :: y2 :: ys) (evalEach (x :: y2 :: ys) F.env) = eval x F.env :: markedEach (op2 :: ops) (y2 :: ys) (evalEach (y2 :: ys) F.env) := rfl
    rw [e]
    obtain ⟨z, zs, hz⟩ : ∃ z zs, markedEach (op2 :: ops) (y2 :: ys) (evalEach (y2 :: ys) F.env) = z :: zs := by
      cases ops <;> cases ys <;> exact ⟨_, _, rfl⟩
    constructor
    · rw [hz]
      show TR pw w F.A RBV (do let rv ← PySem.holding [v'] (eval x F.env); standAt pos; let c ← PySem.holding [v', rv] (compareOp o v' rv); PySem.release [v', rv] [c]; if ← PySem.holding [c, rv] (truthy c) then compareChain pos rv (op2 :: ops) (z :: zs) else pure c) s H Q
      refine TR.bind (TR.holding ((ha EO O r R).1 _ q)) fun y y' H1 h1 t1 S1 r1 q1 => TR.stand ?_
      refine TR.bind (TR.holding (sound_cmp S1.rep (O.step S1).grh.con (Fx.Ok.units r) rv r1 q1)) fun b b' H2 h2 t2 S2 r2 q2 => TR.release ?_
      obtain ⟨rfl, q2⟩ := q2
      obtain rfl : b' = .bool b := r2
      refine wpAny_bind (wpAny_holding (wpAny_truthy_bool ?_))
      cases b with
      | true =>
        have := (hl (s := { s with heap := h2, toks := t2 }) (pos := pos) EO ((O.step S1).step S2) r S2.rep r1 _ ((ifNil_f hn q2).1 rfl)).1
        rw [hz] at this; exact this
      | false => exact wpAny_pure (TR.ret (rel := RBV) S2.rep rfl ((ifNil_f hn q2).2 rfl))
    · rw [hz]
      show TR pw w F.A RB (do let rv ← PySem.holding [v'] (eval x F.env); standAt pos; let c ← PySem.holding [v', rv] (compareOp o v' rv); PySem.release [v', rv] [c]; if ← PySem.holding [c, rv] (truthy c) then testChain pos rv (op2 :: ops) (z :: zs) else pure false) s H Q
      refine TR.bind (TR.holding ((ha EO O r R).1 _ q)) fun y y' H1 h1 t1 S1 r1 q1 => TR.stand ?_
      refine TR.bind (TR.holding (sound_cmp S1.rep (O.step S1).grh.con (Fx.Ok.units r) rv r1 q1)) fun b b' H2 h2 t2 S2 r2 q2 => TR.release ?_
      obtain ⟨rfl, q2⟩ := q2
      obtain rfl : b' = .bool b := r2
      refine wpAny_bind (wpAny_holding (wpAny_truthy_bool ?_))
      cases b with
      | true =>
        have := (hl (s := { s with heap := h2, toks := t2 }) (pos := pos) EO ((O.step S1).step S2) r S2.rep r1 _ ((ifNil_f hn q2).1 rfl)).2
        rw [hz] at this; exact this
      | false => exact wpAny_pure (TR.ret (rel := RB) S2.rep rfl ((ifNil_f hn q2).2 rfl))
end
end
end Mine
namespace Mine
noncomputable section

section
variable {w : World} {K : Frag} {n : Nat} {cx : Cx}

theorem G_slice {o lo hi : E} {y : Expr} {l u : Option Expr} {p p' : Pos} (ho : SG w K n cx o y) (hl : SO w K n cx lo l) (hu : SO w K n cx hi u) : SG w K n cx (.slice o lo hi) (.Subscript y (.Slice l u none p') p) := by
  intro F ρ H s EO O r R
  refine both rfl (fun Q q => q) fun Q q => ?_
  rw [arm_eval_Subscript]
  refine TR.bind ((ho EO O r R).1 _ q) fun x x' H1 h1 t1 S1 r1 q1 => ?_
  refine wpAny_bind (wpAny_holding ?_)
  rw [arm_eval_Slice]
  refine wpAny_bind (TR.use (hl (s := { s with heap := h1, toks := t1 }) EO (O.step S1) r S1.rep _ q1) fun a a' H2 h2 t2 S2 r2 q2 => ?_)
  refine wpAny_bind (wpAny_holding (TR.use (hu (s := { s with heap := h2, toks := t2 }) EO ((O.step S1).step S2) r S2.rep _ q2.2) fun b b' H3 h3 t3 S3 r3 q3 => ?_))
  refine wpAny_bind (wpAny_holding (wpAny_pure ?_))
  refine wpAny_newObj_type ?_
  have S4 := Step.pushJunk S3.rep { cls := .type "slice", data := .fields #[a', b', .none] }
  have key := sound_slice (A := F.A) (s := { s with heap := h3.push { cls := .type "slice", data := .fields #[a', b', .none] }, toks := t3 }) S4.rep r1 r2 r3 q2.1 q3.1 (Heap.IsSliceOf.new _ _ _ _) q3.2
  exact wpAny_mono (sub_eval key) (fun _ _ p => PostR.behind (s := { s with heap := h1, toks := t1 }) ((S2.trans S3).trans S4) p) fun _ _ x => x

theorem newTup {xs : List AV} {vs : List Value} {A : Around} {s : Shared} {H : AHeap} {Q : AV → AHeap → Prop} (R : RepH w s.heap H) (r : RVs xs vs) (hz : xs.length ≤ 16777216) (q : ∀ a, H a = none → Q (.ref a) (upd H a (.tup xs))) :
    TV pw w A (newTuple vs) s H Q :=
  wpAny_newTuple ⟨.ref s.heap.objs.size, _, _, s.toks, rfl, Step.push R (o := .tup xs) ⟨vs.toArray, 0, rfl, r⟩ rfl, rfl, q _ R.size_none⟩ (by rw [sizeLine_eq, ← r.length]; exact hz)
theorem newLst {xs : List AV} {vs : List Value} {A : Around} {s : Shared} {H : AHeap} {Q : AV → AHeap → Prop} (R : RepH w s.heap H) (r : RVs xs vs) (hz : xs.length ≤ 16777216) (q : ∀ a, H a = none → Q (.ref a) (upd H a (.list xs))) :
    TV pw w A (newList vs) s H Q :=
  wpAny_newList (pushList (tk := s.toks) (n := 0) R r q) (by rw [sizeLine_eq, ← r.length]; exact hz)

theorem G_tup {l : E} {es : List Expr} {k : Nat} {p : Pos} (hl : SL w K n cx l es) : SG w K n cx (.tup l) (.Tuple es k p) := by
  intro F ρ H s EO O r R
  refine both rfl (fun Q q => absurd q.1 (Ne.symm Bool.false_ne_true)) fun Q q => ?_
  rw [arm_eval_Tuple]
  refine TR.stand (TR.bind (hl EO O r R _ q.2) fun vs vs' H1 h1 t1 S1 r1 q1 => ?_)
  exact newTup S1.rep r1 q1.1 q1.2
theorem G_lst {l : E} {es : List Expr} {p : Pos} (hl : SL w K n cx l es) : SG w K n cx (.lst l) (.List es p) := by
  intro F ρ H s EO O r R
  refine both rfl (fun Q q => q) fun Q q => ?_
  rw [arm_eval_List]
  refine TR.stand (TR.bind (hl EO O r R _ q) fun vs vs' H1 h1 t1 S1 r1 q1 => ?_)
  exact newLst S1.rep r1 q1.1 q1.2

/-! dict displays -/
theorem dictLike_new {w : World} (n : Nat) : DictLike w { cls := .type "dict", data := .dict #[] n } [] :=
  ⟨⟨rfl, rfl, rfl⟩, #[], n, rfl, (fun e he => absurd he (Array.not_mem_empty e)), .nil, .nil⟩
theorem G_dct0 {p : Pos} : SG w K n cx .dct0 (.Dict [] [] p) := by
  intro F ρ H s EO O r R
  refine both rfl (fun Q q => absurd q.1 (Ne.symm Bool.false_ne_true)) fun Q q => ?_
  exact wpAny_Dict_empty ⟨.ref s.heap.objs.size, _, _, s.toks, rfl, Step.push R (o := .dict []) ⟨[], dictLike_new 0, trivial⟩ rfl, rfl, q.2 _ R.size_none (Nat.ne_of_gt (modules_low O.grh.nl))⟩
theorem lit_str {k : List Nat} {c : Const} (m : LitOk (.str k) c) : c = .str ⟨k.toArray⟩ := by
  cases m with
  | str h => rw [str_of h]
theorem upd_twice {H : AHeap} {a : Addr} {o o' : AO} : upd (upd H a o) a o' = upd H a o' := by
  funext b; unfold upd; split <;> rfl
theorem G_dct1 {k v : List Nat} {kc vc : Const} {kk vk : Nat} {kp vp p : Pos} (hk : LitOk (.str k) kc) (hv : LitOk (.str v) vc) : SG w K n cx (.dct1 k v) (.Dict [some (.Constant kc kk kp)] [.Constant vc vk vp] p) := by
  intro F ρ H s EO O r R
  refine both rfl (fun Q q => absurd q.1 (Ne.symm Bool.false_ne_true)) fun Q q => ?_
  obtain ⟨-, q⟩ := q
  obtain rfl := lit_str hk
  obtain rfl := lit_str hv
  refine wpAny_Dict_walk (knd := strKind pw w) rfl rfl (by simp) (by simp) ?_
  refine pairTrees_cons_walk (wpAny_Constant_str (wpAny_Constant_str (pairTrees_nil_walk ?_)))
  refine display_done_str (P := fun h' => PostR w RV s H Q _ { s with heap := h', toks := _ }) rfl (by simp [strPairs]) ⟨_, #[], 0, Heap.get?_push_size _ rfl, ⟨rfl, rfl, rfl⟩, rfl, (fun e he => absurd he (Array.not_mem_empty e)), .nil, .nil⟩ fun h' hd hs => ?_
  obtain ⟨o, es, ep, e1, e2, e3, e4, e5, e6⟩ := hd
  have S1 := Step.push R (o := .dict []) (ob := { cls := .type "dict", data := .dict #[] }) ⟨[], dictLike_new 0, trivial⟩ rfl
  have S2 := Step.change (o' := .dict [(k, .str v)]) S1.rep (by rw [upd_self]; exact nofun) hs e1 (show RO w (.dict [(k, .str v)]) o from ⟨_, ⟨e2, es, ep, e3, e4, e5, e6⟩, ⟨⟨rfl, ⟨_, rfl⟩⟩, trivial⟩⟩)
  exact ⟨.ref s.heap.objs.size, _, h', _, rfl, upd_twice ▸ (S1.trans S2), rfl, q _ R.size_none (Nat.ne_of_gt (modules_low O.grh.nl))⟩
end
end
end Mine
namespace Mine
noncomputable section

section
variable {w : World} {K : Frag} {n : Nat} {cx : Cx}

noncomputable def starN (env : Env) (pos : Pos) : Nd → Prop
  | .l xs => (backTo pos (starEach xs env)).any (·.1) = false
  | _ => True
theorem star_nd {env : Env} {pos : Pos} {l : E} {nd : Nd} (m : ME cx l nd) : starN env pos nd := by
  induction m with
  | nil => rfl
  | @cons _ _ _ x xs hs _ _ _ ih =>
    show (backTo pos (starEach (x :: xs) env)).any (·.1) = false
    rw [star_plain hs]
    exact (Bool.false_or _).trans ih
  | _ => trivial
theorem star_none {env : Env} {pos : Pos} {xs : List Expr} {l : E} (m : ME cx l (.l xs)) : (backTo pos (starEach xs env)).any (·.1) = false := star_nd m
theorem args_sp {M : Model} {A : Around} {Er : Value → Shared → Prop} {s : Shared} {f : Value} {xs : List Expr} {l : E} {env : Env} {pos : Pos} {Q : Args → Shared → Prop} (m : ME cx l (.l xs))
    (h : wpAny M A (spliced (backTo pos (starEach xs env))) (fun vs s' => Q ⟨vs, []⟩ s') Er s) : wpAny M A (evalArgs f true (backTo pos (starEach xs env)) []) Q Er s := by
  rcases shp_ok m with q | q
  · rw [q.2] at h ⊢
    unfold evalArgs
    show wpAny M A (spliced [] >>= _) Q Er s
    refine wpAny_bind (wpAny_mono h (fun vs s' h' => ?_) fun _ _ x => x)
    refine wpAny_bind (wpAny_pure ?_)
    refine wpAny_holding ?_
    exact wpAny_bind (wpAny_pure (wpAny_bind (wpAny_pure (wpAny_pure h'))))
  · obtain ⟨y, ys, rfl, hs⟩ := q.2
    rw [star_plain hs] at h ⊢
    exact evalArgs_plain h

/-- a call whose callee is known -/
theorem callGo {F : Fx} {s : Shared} {H : AHeap} {f : Value} {first : List Value} {l : E} {xs : List Expr} {pos : Pos} {P : List AV → AHeap → Prop} {Q : AV → AHeap → Prop}
    (hf : (∃ T, f = .type T) ∨ (∃ id, f = .builtin id) ∨ keepIn K f = true) (m : ME cx l (.l xs)) (O : F.Ok K s.heap H)
    (hl : TR pw w F.A RVs (spliced (backTo pos (starEach xs F.env))) s H P)
    (k : ∀ vs vs' H' h' tk, Step w s.heap H h' H' → RVs vs vs' → P vs H' → TV pw w F.A (call f (first ++ vs')) { s with heap := h', toks := tk } H' Q) :
    TV pw w F.A (callWith pos f first (backTo pos (starEach xs F.env)) []) s H Q := by
  have st := star_none (env := F.env) (pos := pos) m
  have go : wpAny (model pw w) F.A (evalArgs f true (backTo pos (starEach xs F.env)) []) (fun a s₁ => K.In s₁.heap ∧ wpAny (model pw w) F.A (call f (first ++ a.pos) a.kw) (PostR w RV s H Q) NoE s₁) NoE s := by
    refine args_sp m (TR.use hl fun vs vs' H' h' tk S r q => ⟨(O.step S).grh.inK, ?_⟩)
    exact wpAny_mono (k vs vs' H' h' tk S r q) (fun _ _ p => PostR.behind S p) fun _ _ x => x
  rcases hf with ⟨b, rfl⟩ | ⟨id, rfl⟩ | hk
  · exact PySem.callWith_type st (wpAny_mono go (fun _ _ p => p.2) fun _ _ x => x)
  · exact Calls.callWith_builtin st (wpAny_mono go (fun _ _ p => p.2) fun _ _ x => x)
  · exact callWith_of (by rw [st]; rfl) (keeps_K hk) go
theorem Bf.kind (b : Bf) : (∃ T, b.val = .type T) ∨ (∃ id, b.val = .builtin id) ∨ keepIn K b.val = true := by
  cases b <;> first | exact .inl ⟨_, rfl⟩ | exact .inr (.inl ⟨_, rfl⟩)

/-- what the callee is, the args' own way leads to -/
theorem vcL_false {args : E} {F : Fx} {H : AHeap} {s : Shared} {as : List Expr} {pos : Pos} {f : Value} {first : List Value} {Q : AV → AHeap → Prop} (hl : TR pw w F.A RVs (spliced (backTo pos (starEach as F.env))) s H (fun _ _ => False)) (m : ME cx args (.l as)) :
    TV pw w F.A (callWith pos f first (backTo pos (starEach as F.env)) []) s H Q := by
  unfold callWith
  refine wpAny_bind (wpAny_holding (args_sp m (TR.use hl fun _ _ _ _ _ _ _ q => q.elim)))

theorem G_call {f args : E} {y : Str} {p : Pos} {as : List Expr} {pos : Pos} (KF : KFacts K) (hf : SG w K n cx f (.Name y p)) (m : ME cx args (.l as)) (hl : SL w K n cx args as) : SG w K n cx (.call f args) (.Call (.Name y p) as [] pos) := by
  intro F ρ H s EO O r R
  refine both rfl (fun Q q => q) fun Q q => ?_
  rw [arm_eval_Call_Name']
  refine TR.bind ((hf EO O r R).1 _ q) fun g g' H1 h1 t1 S1 r1 q1 => ?_
  have O1 := O.step S1
  have hl1 := hl (s := { s with heap := h1, toks := t1 }) (pos := pos) EO O1 r S1.rep _ q1
  show TV pw w F.A (callWith pos g' [] (backTo pos (starEach as F.env)) []) _ _ _
  cases g with
  | ref a =>
    obtain rfl : g' = .ref a := r1
    by_cases hk : calleeOk a = true
    · exact callGo (K := K) (first := []) (.inr (.inr (KF.keep a hk))) m O1 hl1 fun vs vs' H2 h2 t2 S2 r2 q2 => q2.2 F _ vs' (O1.step S2) (r.le (Nat.le_succ n)) S2.rep r2
    · exact vcL_false (hl1.mono fun vs H' q => absurd q.1 hk) m
  | fn b =>
    obtain rfl : g' = b.val := r1
    exact callGo (K := K) (first := []) b.kind m O1 hl1 fun vs vs' H2 h2 t2 S2 r2 q2 => sound_callB S2.rep O.hh r2 q2
  | _ => exact vcL_false (hl1.mono fun vs H' q => q) m

theorem meth_ne (m : Mt) (a : At) : a.str ≠ m.str := by
  have key : ([Mt.find, .strip, .rstrip, .join, .append, .pop, .extend, .get, .word, .isDone, .peek, .take, .starts, .skip, .isMulti, .isLetter].all fun m => At.all.all fun a => !(a.str == m.str)) = true := by decide +kernel
  have mem : m ∈ [Mt.find, .strip, .rstrip, .join, .append, .pop, .extend, .get, .word, .isDone, .peek, .take, .starts, .skip, .isMulti, .isLetter] := by cases m <;> decide
  have := List.all_eq_true.1 (List.all_eq_true.1 key m mem) a (at_mem a)
  intro e
  rw [e, beq_self_eq_true] at this
  cases this
theorem REnts.noMeth (m : Mt) : ∀ {kvs : List (At × AV)} {es : List DictEntry}, REnts kvs es → PySem.W.getL m.str es = some none
  | [], [], _ => rfl
  | (k, v) :: r, e :: es, h => by
    obtain ⟨⟨⟨t, ek⟩, rv⟩, h⟩ := h
    rw [getL_miss (by rw [ek, isStr_str]; exact decide_eq_false (meth_ne m k)) (by unfold DictEntry.refKey; rw [ek])]
    exact REnts.noMeth m h
  | [], _ :: _, h => h.elim
  | _ :: _, [], h => h.elim

theorem methOk_inv {m : Mt} {nm : Str} {apos pos : Pos} {as : List Expr} {y : Expr} (h : methOk m nm apos pos as y = true) : nm = m.str ∧ apos.endLine = pos.line ∧ as.length < 29 ∧ notSuper y = true := by
  obtain ⟨h1, h4⟩ := Bool.and_eq_true_iff.1 h
  obtain ⟨h1, h3⟩ := Bool.and_eq_true_iff.1 h1
  obtain ⟨h1, h2⟩ := Bool.and_eq_true_iff.1 h1
  exact ⟨beq_iff_eq.1 h1, beq_iff_eq.1 h2, of_decide_eq_true h3, h4⟩
theorem form_ok {as : List Expr} {l : E} {env : Env} {pos : Pos} (m : ME cx l (.l as)) (h : as.length < 29) : methodCallForm (as.length + ([] : List Keyword).length) (backTo pos (starEach as env)) (backToKw pos (keywordEach [] env)) = true := by
  have : (backTo pos (starEach as env)).all (!·.1) = true := by
    rw [List.all_eq_true]; intro p hp
    have := List.any_eq_false.1 (star_none (env := env) (pos := pos) m) p hp
    simpa using this
  unfold methodCallForm
  rw [this]
  simp [backToKw, keywordEach]; omega
theorem G_meth {o args : E} {mt : Mt} {y : Expr} {nm : Str} {apos pos : Pos} {as : List Expr} (KF : KFacts K) (ho : SG w K n cx o y) (m : ME cx args (.l as)) (hl : SL w K n cx args as) (hm : methOk mt nm apos pos as y = true) :
    SG w K n cx (.meth o mt args) (.Call (.Attribute y nm apos) as [] pos) := by
  intro F ρ H s EO O r R
  obtain ⟨rfl, m3, m4, m5⟩ := methOk_inv hm
  refine both rfl (fun Q q => q) fun Q q => ?_
  rw [arm_eval_Call]
  refine TR.bind (base_plain m5 ((ho EO O r R).1 _ q)) fun g g' H1 h1 t1 S1 r1 q1 => TR.stand ?_
  have O1 := O.step S1
  have hpos : methodCallPos true y F.env apos pos = pure pos := by unfold methodCallPos; simp [m3]
  unfold methodCall
  rw [form_ok m m4]
  rcases pre_inv q1 with ⟨T, id, hp, q1⟩ | ⟨f, ⟨a, c, d, kvs, rfl, hx, hd, hm⟩, q1⟩
  · have hl1 := hl (s := { s with heap := h1, toks := t1 }) (pos := pos) EO O1 r S1.rep _ q1
    obtain ⟨⟨pa, slot, hty⟩, hT, hdn⟩ := pre_builtin (s := { s with heap := h1, toks := t1 }) S1.rep r1 hp
    refine wpAny_bind (wpAny_holding (getMethod_builtin hT pa slot hty hdn ?_))
    refine wpAny_bind (wpAny_of_eq hpos ?_)
    exact callGo (K := K) (first := [g']) (.inr (.inl ⟨id, rfl⟩)) m O1 hl1 fun vs vs' H2 h2 t2 S2 r2 q2 => sound_methB S2.rep O.hh r1 r2 hp q2
  · have hl1 := hl (s := { s with heap := h1, toks := t1 }) (pos := pos) EO O1 r S1.rep _ q1
    obtain rfl : g' = .ref a := r1
    obtain ⟨hc, es, k, I, re, -⟩ := RepH.inst (s := { s with heap := h1, toks := t1 }) S1.rep hx hd
    obtain ⟨f1, f2, f3, f4⟩ := KF.meth c mt f hm
    refine wpAny_bind (wpAny_holding ?_)
    refine method_fn (s := { s with heap := h1, toks := t1 }) O1.grh.inK I (plainGet_of f4).1 (plainGet_of f4).2 f1 (beq_iff_eq.mp f2) (by show (lookIn mt.str (dictOf es k)).map _ = _; rw [lookIn_dict, re.noMeth mt]; rfl) ?_
    refine wpAny_bind (wpAny_of_eq hpos ?_)
    exact callGo (K := K) (first := [.ref a]) (.inr (.inr f3)) m O1 hl1 fun vs vs' H2 h2 t2 S2 r2 q2 => q2 F _ (.ref a :: vs') (O1.step S2) (r.le (Nat.le_succ n)) S2.rep ⟨rfl, r2⟩
end
end
end Mine
namespace Mine
noncomputable section

/-- steps that may also touch the objects of X, which nobody names -/
structure StepX (X : Addr → Prop) (w : World) (h : Heap) (H : AHeap) (h' : Heap) (H' : AHeap) : Prop where
  keep : ∀ b o, ¬ X b → h.get? b = some o → H b = none → h'.get? b = some o
  fresh : ∀ b, H b = none → H' b ≠ none → h.get? b = none
  rep : RepH w h' H'
  live : ∀ b, X b → ∃ o, h'.get? b = some o

section
variable {w : World} {X : Addr → Prop} {h h' h'' : Heap} {H H' H'' : AHeap}
theorem StepX.refl (R : RepH w h H) (l : ∀ b, X b → ∃ o, h.get? b = some o) : StepX X w h H h H := ⟨fun _ _ _ e _ => e, fun _ e n => absurd e n, R, l⟩
theorem StepX.out (S : StepX X w h H h' H') (hl : ∀ b, X b → ∃ o, h.get? b = some o) (hn : ∀ b, X b → H b = none) {b : Addr} (x : X b) : H' b = none := by
  cases q : H' b with
  | none => rfl
  | some o =>
    obtain ⟨o', e⟩ := hl b x
    have := S.fresh b (hn b x) (by rw [q]; simp)
    rw [this] at e; cases e
theorem StepX.then (S : StepX X w h H h' H') (hl : ∀ b, X b → ∃ o, h.get? b = some o) (hn : ∀ b, X b → H b = none) (T : Step w h' H' h'' H'') : StepX X w h H h'' H'' where
  keep := fun b o nx e n => T.keep b o (S.keep b o nx e n) (by
    cases q : H' b with
    | none => rfl
    | some x => have := S.fresh b n (by rw [q]; simp); rw [this] at e; cases e)
  fresh := fun b n x => by
    cases q : H' b with
    | none =>
      have f := T.fresh b q x
      cases z : h.get? b with
      | none => rfl
      | some o =>
        by_cases hx : X b
        · obtain ⟨o', e⟩ := S.live b hx
          rw [f] at e; cases e
        · rw [S.keep b o hx z n] at f; cases f
    | some y => exact S.fresh b n (by rw [q]; simp)
  rep := T.rep
  live := fun b x => by
    obtain ⟨o, e⟩ := S.live b x
    exact ⟨o, T.keep b o e (S.out hl hn x)⟩
/-- one of X changes -/
theorem StepX.touch (S : StepX X w h H h' H') (hl : ∀ b, X b → ∃ o, h.get? b = some o) (hn : ∀ b, X b → H b = none) {a : Addr} (hx : X a) (hs : ∀ b o, b ≠ a → h'.get? b = some o → h''.get? b = some o) (ha : ∃ o, h''.get? a = some o) : StepX X w h H h'' H' where
  keep := fun b o nx e n => hs b o (by rintro rfl; exact nx hx) (S.keep b o nx e n)
  fresh := S.fresh
  rep := ⟨fun b o e => by
    obtain ⟨ob, e1, e2⟩ := S.rep.get b o e
    refine ⟨ob, hs b ob ?_ e1, e2⟩
    rintro rfl
    rw [S.out hl hn hx] at e; cases e⟩
  live := fun b x => by
    by_cases hb : b = a
    · subst hb; exact ha
    · obtain ⟨o, e⟩ := S.live b x
      exact ⟨o, hs b o hb e⟩
end

section
variable {w : World} {K : Frag} {n : Nat}

theorem setLocs_get : ∀ {is : List Nat} {xs : List AV} {ls : List (Option AV)} {j : Nat} {v : AV}, (setLocs ls is xs)[j]? = some (some v) → (∃ k : Nat, is[k]? = some j ∧ xs[k]? = some v) ∨ ls[j]? = some (some v)
  | [], _, ls, j, v, h => .inr h
  | _ :: _, [], ls, j, v, h => .inr h
  | i :: is, x :: xs, ls, j, v, h => by
    rcases setLocs_get (show (setLocs (ls.set i (some x)) is xs)[j]? = some (some v) from h) with ⟨k, h1, h2⟩ | h
    · exact .inl ⟨k + 1, by simpa using h1, by simpa using h2⟩
    · by_cases hj : i = j
      · subst hj
        rw [List.getElem?_set] at h
        simp only [if_true] at h
        split at h
        · cases h; exact .inl ⟨0, rfl, rfl⟩
        · cases h
      · rw [List.getElem?_set_ne hj] at h; exact .inr h

/-- the locals say what ls says -/
noncomputable def LocOk (vars : List Str) (m : Str → Option Value) (ls : List (Option AV)) : Prop :=
  ∀ (i : Nat) (x : Str) (v : AV), vars[i]? = some x → ls[i]? = some (some v) → ∃ v', m x = some v' ∧ RV v v'
theorem nodup_get {vars : List Str} (nd : vars.Nodup) {i j : Nat} {x : Str} (h1 : vars[i]? = some x) (h2 : vars[j]? = some x) : i = j := by
  obtain ⟨a, b⟩ := List.getElem?_eq_some_iff.1 h1
  obtain ⟨c, d⟩ := List.getElem?_eq_some_iff.1 h2
  have key := List.pairwise_iff_getElem.1 nd
  rcases Nat.lt_trichotomy i j with h | h | h
  · exact absurd (b.trans d.symm) (key i j a c h)
  · exact h
  · exact absurd (d.trans b.symm) (key j i c a h)
theorem LocOk.set {vars : List Str} {m : Str → Option Value} {ls : List (Option AV)} (L : LocOk vars m ls) (nd : vars.Nodup) {i : Nat} {x : Str} {v : AV} {v' : Value} (hx : vars[i]? = some x) (r : RV v v') :
    LocOk vars (fun y => if y = x then some v' else m y) (ls.set i (some v)) := by
  intro j y u hy hu
  by_cases hj : i = j
  · subst hj
    rw [List.getElem?_set] at hu
    simp only [if_true] at hu
    split at hu
    · cases hu
      rw [hx] at hy; cases hy
      exact ⟨v', by simp, r⟩
    · cases hu
  · rw [List.getElem?_set_ne hj] at hu
    obtain ⟨u', e, ru⟩ := L j y u hy hu
    have hne : y ≠ x := by rintro rfl; exact hj (nodup_get nd hx hy)
    exact ⟨u', by simp [hne, e], ru⟩

/-- names stored one after another -/
theorem store_names {A : Around} {env : Env} {cx : Cx} (hn : env.scope.names = cx.names) (hp : (env.scope.kind == .class || (env.scope.kind == .module && env.locals != env.globals)) = false) (nd : cx.vars.Nodup) {is : List Nat} {es : List Expr} (me : MNs cx is es) :
    ∀ (xs : List AV) (vs : List Value) (s : Shared) (m : Str → Option Value) (ls : List (Option AV)) (Q : Unit → Shared → Prop) (Er : Value → Shared → Prop),
      RVs xs vs → xs.length = is.length → s.heap.Ns env.locals m → LocOk cx.vars m ls →
      (∀ h' tk m', h'.Ns env.locals m' → (∀ b o, b ≠ env.locals → s.heap.get? b = some o → h'.get? b = some o) → LocOk cx.vars m' (setLocs ls is xs) → Q () { s with heap := h', toks := tk }) →
      wpAny (model pw w) A (assignInOrder ((assignEach es env).map (·.2)) vs) Q Er s := by
  induction me with
  | nil => exact fun xs vs s m ls Q Er rs hl cur L k => assignInOrder_nil (k s.heap s.toks m cur (fun _ _ _ e => e) L)
  | @cons i is x p es h r ih =>
    intro xs vs s m ls Q Er rs hl cur L k
    cases xs with
    | nil => cases hl
    | cons y xs =>
      obtain ⟨v, vs, rfl, rx, rs⟩ := rs.cons_left
      obtain ⟨h1, h2, _⟩ := locOk_inv h
      refine assignInOrder_cons (wpAny_assign_Name (wpAny_storeName_local (by unfold Env.kindOf; rw [hn]; exact h2) cur (fun h' hn' hs => ?_) hp))
      refine ih xs vs _ _ _ Q Er rs (Nat.succ.inj hl) hn' (L.set nd h1 rx) fun h'' tk m'' hn'' hk L'' => ?_
      exact k h'' tk m'' hn'' (fun b o hb e => hk b o hb (hs.extBut b o hb e)) L''
theorem names_len {cx : Cx} {env : Env} {is : List Nat} {es : List Expr} (me : MNs cx is es) : (assignEach es env).length = is.length ∧ (assignEach es env).findIdx? (·.1) = none := by
  induction me with
  | nil => exact ⟨rfl, rfl⟩
  | @cons i is x p es h r ih =>
    constructor
    · show (assignEach es env).length + 1 = _
      rw [ih.1]; rfl
    · show List.findIdx? _ (_ :: assignEach es env) = none
      rw [List.findIdx?_cons, ih.2]; rfl

/-- a loop's target takes its value -/
theorem sound_pat {A : Around} {env : Env} {cx : Cx} {p : Pt} {t : Expr} {x : AV} {x' : Value} {s : Shared} {H : AHeap} {m : Str → Option Value} {ls : List (Option AV)} {P : List (Option AV) → Prop} {Q : Unit → Shared → Prop} {Er : Value → Shared → Prop}
    (hn : env.scope.names = cx.names) (hp : (env.scope.kind == .class || (env.scope.kind == .module && env.locals != env.globals)) = false) (nd : cx.vars.Nodup) (hh : A.handled = none)
    (mp : MP cx p t) (R : RepH w s.heap H) (r : RV x x') (cur : s.heap.Ns env.locals m) (L : LocOk cx.vars m ls) (h : patVC p x ls H P)
    (k : ∀ h' tk m' ls', h'.Ns env.locals m' → (∀ b o, b ≠ env.locals → s.heap.get? b = some o → h'.get? b = some o) → LocOk cx.vars m' ls' → P ls' → Q () { s with heap := h', toks := tk }) :
    wpAny (model pw w) A (assign t env x') Q Er s := by
  cases mp with
  | one hx =>
    obtain ⟨h1, h2, _⟩ := locOk_inv hx
    refine wpAny_assign_Name (wpAny_storeName_local (by unfold Env.kindOf; rw [hn]; exact h2) cur (fun h' hn' hs => ?_) hp)
    exact k h' _ _ _ hn' (fun b o hb e => hs.extBut b o hb e) (L.set nd h1 r) h
  | tup me =>
    obtain ⟨a, xs, rfl, ha, hl, hz, q⟩ := h
    obtain rfl : x' = .ref a := r
    obtain ⟨vs, ht, rs, hlen⟩ := R.tup ha
    obtain ⟨a1, a2⟩ := names_len (env := env) me
    refine assign_Tuple_tuple hh ht (by rw [List.size_toArray, a1, ← hl, hlen]) a2 fun h' he => ?_
    have old : ∀ b o, s.heap.get? b = some o → h'.get? b = some o := fun b o e => he b o (Nat.ne_of_lt (Heap.lt_size e)) e
    refine store_names hn hp nd me xs vs { s with heap := h' } m ls Q Er rs hl (cur.keeps old) L fun h'' tk m'' hn'' hk L'' => ?_
    exact k h'' tk m'' _ hn'' (fun b o hb e => hk b o hb (old b o e)) L'' q
end
end
end Mine
namespace Mine
noncomputable section

/-- the cells that a comprehension sees -/
theorem closure_eq {env : Env} : ∀ (names : List (Str × NameKind)) (cs : List (Str × Addr)), (∀ p ∈ names, p.2 = .free → ∃ c, env.cells.lookup p.1 = some c) → (∀ x c, cs.lookup x = some c → env.cells.lookup x = some c) →
    ∃ cl, (forIn names cs fun x r => if (x.snd == NameKind.free) = true then do let c ← cellOf env x.fst; pure (ForInStep.yield ((x.fst, c) :: r)) else pure (ForInStep.yield r) : Sem (List (Str × Addr))) = pure cl ∧
      (∀ x c, cl.lookup x = some c → env.cells.lookup x = some c) ∧ (∀ x, (cs.lookup x).isSome = true → (cl.lookup x).isSome = true) ∧ ∀ p ∈ names, p.2 = .free → (cl.lookup p.1).isSome = true
  | [], cs, _, hc => ⟨cs, rfl, hc, fun _ h => h, fun _ h => by simp at h⟩
  | (x, k) :: names, cs, hf, hc => by
    rw [List.forIn_cons]
    by_cases hk : k = .free
    · subst hk
      obtain ⟨c, e⟩ := hf (x, .free) List.mem_cons_self rfl
      have ec : cellOf env x = pure c := by unfold cellOf; simp only at e; rw [e]
      obtain ⟨cl, e1, e2, e3, e4⟩ := closure_eq names ((x, c) :: cs) (fun p hp => hf p (List.mem_cons_of_mem _ hp)) (fun y d h => by
        rw [List.lookup_cons] at h
        split at h
        · rename_i q; cases h; rw [eq_of_beq q]; exact e
        · exact hc y d h)
      refine ⟨cl, ?_, e2, fun y h => e3 y ?_, fun p hp hq => ?_⟩
      · simp only [ec, pure_bind, beq_self_eq_true, if_true]; exact e1
      · rw [List.lookup_cons]; split <;> simp_all
      · rcases List.mem_cons.1 hp with rfl | hp
        · exact e3 _ (by simp)
        · exact e4 p hp hq
    · obtain ⟨cl, e1, e2, e3, e4⟩ := closure_eq names cs (fun p hp => hf p (List.mem_cons_of_mem _ hp)) hc
      refine ⟨cl, ?_, e2, e3, fun p hp hq => ?_⟩
      · have : (k == NameKind.free) = false := by simpa using hk
        simp only [this, Bool.false_eq_true, if_false, pure_bind]; exact e1
      · rcases List.mem_cons.1 hp with rfl | hp
        · exact absurd hq hk
        · exact e4 p hp hq
theorem closureFor_eq {env : Env} {sc : Scope} (hf : ∀ p ∈ sc.names, p.2 = .free → ∃ c, env.cells.lookup p.1 = some c) :
    ∃ cl, closureFor sc env = pure cl ∧ ∀ p ∈ sc.names, p.2 = .free → cl.lookup p.1 = env.cells.lookup p.1 := by
  obtain ⟨cl, e1, e2, _, e4⟩ := closure_eq sc.names [] hf (fun x c h => by simp at h)
  refine ⟨cl, ?_, fun p hp hq => ?_⟩
  · unfold closureFor
    simp only [bind_pure]
    exact e1
  · obtain ⟨c, e⟩ := Option.isSome_iff_exists.1 (e4 p hp hq)
    rw [e, e2 _ _ e]

/-- a comprehension's loop, its target of any shape -/
theorem comp_loop {w : World} {A : Around} {elt target iter : Expr} {ifs : List Expr} {scope : Scope} {pos : Pos} {it acc : Value} {env : Env} {R : Result → Shared → Prop} {s : Shared} (I : Nat → Shared → Prop)
    (turn : ∀ n s, I n s → wpAny (model pw w) A (pyNext it) (fun r s₁ => match r with
      | none => R (.ok .next) s₁
      | some v => wpAny (model pw w) A (letOwnedTupleGo target it v) (fun _ s₁' => wpAny (model pw w) A (assign target env v) (fun _ s₂ =>
          wpAny (model pw w) A (forIn ifs true fun c r => if r = true then do let ok ← isTrue c env (eval c env); pure (ForInStep.yield ok) else pure (ForInStep.yield r)) (fun ok s₃ =>
            if ok = true then wpAny (model pw w) A (eval elt env) (fun x s₄ =>
              wpAny (model pw w) A (call (.builtin "list.append") [acc, x]) (fun _ s₅ => ∃ m, m < n ∧ I m s₅) NoE s₄) NoE s₃
            else ∃ m, m < n ∧ I m s₃) NoE s₂) NoE s₁') NoE s₁) NoE s)
    (n : Nat) (h : I n s) : codeAny (model pw w) A (.compLoop (.ListComp elt [⟨target, iter, ifs, 0⟩] scope pos) 0 it acc env) R s := by
  refine codeAny_loop rfl I (fun n s hI => ?_) n h
  show wpAny _ A ((compTurn (.ListComp elt [⟨target, iter, ifs, 0⟩] scope pos) 0 it acc env).onRaise (fun x => do noteFrame x env; theTreesLotGoes x)) _ _ s
  refine wpAny_noted ?_
  rw [compTurn_list]
  refine wpAny_bind (wpAny_standAt (wpAny_bind (wpAny_mono (turn n s hI) (fun r s₁ h₁ => ?_) fun _ _ x => x.elim)))
  cases r with
  | none => exact wpAny_pure h₁
  | some v =>
    refine wpAny_bind (wpAny_mono h₁ (fun _ s₁' h₁' => ?_) fun _ _ x => x.elim)
    refine wpAny_bind (wpAny_mono h₁' (fun _ s₂ h₂ => wpAny_bind (wpAny_mono h₂ (fun ok s₃ h₃ => ?_) fun _ _ x => x.elim)) fun _ _ x => x.elim)
    cases ok with
    | false => exact wpAny_pure ⟨rfl, h₃⟩
    | true => exact wpAny_bind (wpAny_bind (wpAny_mono h₃ (fun x s₄ h₄ => wpAny_bind (wpAny_mono h₄ (fun _ s₅ h₅ => wpAny_pure (wpAny_pure ⟨rfl, h₅⟩)) fun _ _ x => x.elim)) fun _ _ x => x.elim))

theorem notOwned {w : World} {A : Around} {s : Shared} {target : Expr} {I : Addr} {v : Value} {o : Obj} {T : String} {Q : Unit → Shared → Prop} {Er : Value → Shared → Prop} (ho : s.heap.get? I = some o) (hc : o.cls = .type T) (hT : ownsTuple T = false) (q : Q () s) :
    wpAny (model pw w) A (letOwnedTupleGo target (.ref I) v) Q Er s := by
  have hT' : (["enumerate", "zip", "dict_itemiterator", "dict_reverseitemiterator", "odict_iterator", "itertools.zip_longest", "itertools.pairwise"].contains T) = false := hT
  obtain ⟨cl, dd, data, sl⟩ := o
  cases hc
  cases target <;> first | exact wpAny_pure q | skip
  all_goals
    cases v <;> first | exact wpAny_pure q | skip
    refine wpAny_bind (wpAny_load ho ?_)
    cases data <;> first | exact wpAny_pure q | skip
    show wpAny _ _ (if ((["enumerate", "zip", "dict_itemiterator", "dict_reverseitemiterator", "odict_iterator", "itertools.zip_longest", "itertools.pairwise"].contains T) && _) = true then _ else _) _ _ _
    rw [hT']
    exact wpAny_pure q
end
end Mine
namespace Mine
noncomputable section

section
variable {w : World} {K : Frag} {n : Nat}

theorem lookup_map {f : NameKind → NameKind} : ∀ {l : List (Str × NameKind)} {x : Str}, (l.map fun p => (p.1, f p.2)).lookup x = (l.lookup x).map f
  | [], _ => rfl
  | (y, k) :: l, x => by
    rw [List.map_cons, List.lookup_cons, List.lookup_cons]
    cases x == y with
    | true => rfl
    | false => exact lookup_map

/-- an item put onto a list -/
theorem append_wp {A : Around} {s : Shared} {D : Addr} {items : Array Value} {c : Nat} {x : Value} {Q : Value → Shared → Prop} {Er : Value → Shared → Prop} (hD : s.heap.get? D = some { cls := .type "list", dict := none, data := .seq items c, slots := #[] }) (hz : items.size ≤ sizeLine)
    (h : ∀ h' c', (∀ b o, b ≠ D → s.heap.get? b = some o → h'.get? b = some o) → h'.get? D = some { cls := .type "list", dict := none, data := .seq (items.push x) c', slots := #[] } → Q .none { s with heap := h' }) :
    wpAny (model pw w) A (call (.builtin "list.append") [.ref D, x]) Q Er s :=
  call_meets PySem.F.slot_list_append ⟨_, hD, rfl⟩ PySem.F.entry_list_append (PySem.F.args_list_append_2 _ _) (list_append _ items c x hz)
    ⟨hD, h _ _ (fun b o hb e => (Heap.get?_update_other _ _ (Ne.symm hb)).trans e) (IsL.update hD _)⟩

theorem scope_names {cx : Cx} {sc : Scope} {env : Env} (hk : env.scope.kind = .function) (hn : env.scope.names = cx.names) (h : scopeOk cx sc = true) :
    (relabel sc env).names = (compCx cx sc.names).names ∧ sc.kind = .function ∧ (compVars sc.names).Nodup ∧ (∀ p ∈ sc.names, p.2 = .local → sc.names.lookup p.1 = some .local) ∧ (∀ p ∈ sc.names, p.2 ≠ .cell) ∧
      (∀ p ∈ sc.names, p.2 = .free → cx.cells.contains p.1 = true ∧ cx.names.lookup p.1 = some .cell) := by
  simp only [scopeOk, Bool.and_eq_true, List.all_eq_true, decide_eq_true_eq, beq_iff_eq] at h
  obtain ⟨⟨⟨⟨h1, h2⟩, h3⟩, h4⟩, h5⟩ := h
  have a : ∀ p ∈ sc.names, p.2 = .free → cx.cells.contains p.1 = true ∧ cx.names.lookup p.1 = some .cell := by
    intro p hp e
    have := h5 p hp
    rw [e] at this
    simp only [Bool.and_eq_true, beq_iff_eq] at this
    exact this.1
  refine ⟨?_, h1, h2, ?_, ?_, a⟩
  · show sc.names.map _ = sc.names.map _
    refine List.map_congr_left fun p hp => ?_
    obtain ⟨x, k⟩ := p
    by_cases e : k = .free
    · subst e
      have := (a _ hp rfl).2
      simp [hk, Env.kindOf, hn, this]
    · have : (k == NameKind.free) = false := by simpa using e
      simp [this]
  · intro p hp e
    have := h5 p hp
    rw [e] at this
    simpa using this
  · intro p hp e
    have := h5 p hp
    rw [e] at this
    simp at this

theorem setIter {it : Expr} {env : Env} (h : notSet it = true) (x : Value) : foldedSetIterable it env x = pure x := by
  cases it <;> first | rfl | cases h
inductive CInv (w : World) (X : Addr → Prop) (s : Shared) (h3 : Heap) (H1 : AHeap) (n : Nat) (St : Nat → Heap → Prop) (C D : Addr) (xv : AV) (I : Nat → List AV → AHeap → Prop) (k' : Nat) (s' : Shared) : Prop
  | mk (k : Nat) (h' : Heap) (tk : Nat) (m' : Str → Option Value) (acc : List AV) (accV : Array Value) (c : Nat) (Hk : AHeap) (e1 : k' = n - k) (e2 : k ≤ n) (e : s' = { s with heap := h', toks := tk }) (S : StepX X w h3 H1 h' Hk) (st : St k h') (ns : h'.Ns C m')
      (hD : h'.get? D = some { cls := .type "list", dict := none, data := .seq accV c, slots := #[] }) (ra : RVs acc accV.toList) (la : acc.length ≤ k) (i : I k acc Hk) (sy : Stays xv H1 Hk)
theorem G_comp {cx : Cx} {elt iter cond : E} {p : Pt} {y t itx : Expr} {ifs : List Expr} {sc : Scope} {pos : Pos} (msc : scopeOk cx sc = true) (mns : notSet itx = true) (mp : MP (compCx cx sc.names) p t)
    (he : SG w K n (compCx cx sc.names) elt y) (hi : SG w K n cx iter itx) (hc : SF w K n (compCx cx sc.names) cond ifs) : SG w K n cx (.comp elt p iter cond) (.ListComp y [⟨t, itx, ifs, 0⟩] sc pos) := by
  intro F ρ H s EO O r R
  obtain ⟨sn, sk, snd, sloc, scel, sfree⟩ := scope_names O.ek EO.names msc
  refine both rfl (fun Q q => absurd q.1 (Ne.symm Bool.false_ne_true)) fun Q q => ?_
  obtain ⟨-, q⟩ := q
  have hcl : ∀ p ∈ sc.names, p.2 = .free → ∃ (j : Nat) (c : Addr), cx.cells[j]? = some p.1 ∧ ρ.cel[j]? = some c ∧ F.env.cells.lookup p.1 = some c := by
    intro p hp e
    obtain ⟨f1, f2⟩ := sfree p hp e
    obtain ⟨j, hj, ej⟩ := List.mem_iff_getElem.1 (List.contains_iff_mem.1 f1)
    have hj' : j < ρ.cel.length := by rw [EO.celLen]; exact hj
    have g1 : cx.cells[j]? = some p.1 := by rw [List.getElem?_eq_getElem hj, ej]
    have g2 : ρ.cel[j]? = some ρ.cel[j] := List.getElem?_eq_getElem hj'
    exact ⟨j, _, g1, g2, EO.cel j _ _ g1 f2 g2⟩
  obtain ⟨cl, hclos, hclk⟩ := closureFor_eq (sc := sc) (env := F.env) fun p hp e => let ⟨_, c, _, _, q⟩ := hcl p hp e; ⟨c, q⟩
  have hs := setIter (env := F.env) mns
  rw [arm_eval_ListComp]
  show wpAny _ _ (comprehension (.ListComp y [⟨t, itx, ifs, 0⟩] sc pos) sc F.env (firstIterPos [⟨t, itx, ifs, 0⟩] pos) (newList []) false (eval itx F.env)) _ _ s
  refine wpAny_comprehension_free (use := none) rfl hs hclos sk sloc (TR.use ((hi EO O r R).1 _ q) fun xv xv' H1 h1 t1 S1 r1 q1 => ?_)
  have O1 := O.step S1
  obtain ⟨xs, ⟨hz, I, i0, turn, fin⟩, goit⟩ := sound_iter (s := { s with heap := h1, toks := t1 }) S1.rep O.hh O1.grh.nl r1 q1
  refine goit fun Ia h2 St hIn hk2 W st0 => ?_
  refine wpAny_newObj_type (wpAny_newFunctionEnv scel (by intro y hy; simp at hy) (fun h3 hns hsb => ?_) sk)
  dsimp only at hns hsb ⊢
  generalize hD : h2.objs.size = D at hns hsb ⊢
  generalize hH2 : h2.push { cls := .type "list", dict := none, data := .seq ([] : List Value).toArray } = hp at hns hsb ⊢
  generalize hC : hp.objs.size = C at hns hsb ⊢
  have eC : C = D + 1 := by rw [← hC, ← hH2, Heap.size_push, hD]
  have h2D : h2.get? D = none := by rw [← hD]; exact size_none h2
  have h2C : h2.get? C = none := by
    cases e : h2.get? C with
    | none => rfl
    | some o => have := Heap.lt_size e; rw [hD, eC] at this; exact absurd this (Nat.not_lt.2 (Nat.le_succ _))
  have k23 : ∀ b o, h2.get? b = some o → h3.get? b = some o := fun b o e => by
    have hb : b ≠ C := by rintro rfl; rw [h2C] at e; cases e
    exact hsb.extBut b o hb (Heap.get?_push_of_some _ (hH2 ▸ Heap.get?_push_of_some _ e))
  have h3D : h3.get? D = some { cls := .type "list", dict := none, data := .seq #[] 0, slots := #[] } := by
    have : D ≠ C := by rw [eC]; exact Nat.ne_of_lt (Nat.lt_succ_self _)
    exact hsb.extBut D _ this (Heap.get?_push_of_some _ (by rw [← hH2, ← hD]; exact Heap.get?_push_size _ rfl))
  have k13 : ∀ b o, h1.get? b = some o → h3.get? b = some o := fun b o e => k23 b o (hk2 b o e)
  obtain ⟨oI, TI, eI, cI, wI⟩ := W.live 0 h2 st0
  have nI : Ia ≠ D ∧ Ia ≠ C := ⟨(by rintro rfl; rw [h2D] at eI; cases eI), (by rintro rfl; rw [h2C] at eI; cases eI)⟩
  have nDC : D ≠ C := by rw [eC]; exact Nat.ne_of_lt (Nat.lt_succ_self _)
  -- nobody names the three
  have n1 : ∀ {b}, h1.get? b = none → H1 b = none := fun e => S1.rep.none_of e
  have h1of : ∀ {b}, h2.get? b = none → h1.get? b = none := fun {b} e => by
    cases q : h1.get? b with
    | none => rfl
    | some o => rw [hk2 b o q] at e; cases e
  let X : Addr → Prop := fun b => b = Ia ∨ b = D ∨ b = C
  have hlX : ∀ b, X b → ∃ o, h3.get? b = some o := by
    rintro b (rfl | rfl | rfl)
    · exact ⟨oI, k23 _ _ eI⟩
    · exact ⟨_, h3D⟩
    · obtain ⟨o, _, _, e, _⟩ := hns; exact ⟨o, e⟩
  have hnX : ∀ b, X b → H1 b = none := by
    rintro b (rfl | rfl | rfl)
    · exact n1 hIn
    · exact n1 (h1of h2D)
    · exact n1 (h1of h2C)
  have R3 : RepH w h3 H1 := (Step.keepAll S1.rep k13).rep
  have L1 : F.fenv.locals ≠ Ia ∧ F.fenv.locals ≠ D ∧ F.fenv.locals ≠ C := by
    obtain ⟨oL, _, _, eL, _⟩ := O1.fr.ns
    exact ⟨(by rintro rfl; rw [hIn] at eL; cases eL), (by rintro rfl; rw [h1of h2D] at eL; cases eL), (by rintro rfl; rw [h1of h2C] at eL; cases eL)⟩
  have L0 : H1 F.fenv.locals = none := by
    cases e : H1 F.fenv.locals with
    | none => rfl
    | some o => exact absurd rfl (O1.dom _ (by rw [e]; simp)).2.1
  have b0 : ∀ b o, F.h₀.get? b = some o → h1.get? b = some o ∧ ¬ X b ∧ H1 b = none := by
    intro b o e
    have e1 := O1.fr.keep b o e
    refine ⟨e1, ?_, ?_⟩
    · rintro (rfl | rfl | rfl)
      · rw [hIn] at e1; cases e1
      · rw [h1of h2D] at e1; cases e1
      · rw [h1of h2C] at e1; cases e1
    · cases q : H1 b with
      | none => rfl
      | some o' => have := (O1.dom b (by rw [q]; simp)).1; rw [this] at e; cases e
  -- a frame for the comprehension's own names
  have mkF : ∀ {h' Hk m'}, StepX X w h3 H1 h' Hk → h'.Ns C m' → ({ F with env := compEnvC sc cl C F.env, m2 := m' } : Fx).Ok K h' Hk := by
    intro h' Hk m' SX hn'
    refine { below := O.below, fr := ⟨?_, fun b o e => ?_, O.fr.above⟩, gr := O.gr, dom := fun b hb => ?_, cur := hn', hh := O.hh, frames := O.frames, ffr := O.ffr, fk := O.fk, ek := sk, eg := O.eg, eb := O.eb }
    · exact O1.fr.ns.at' fun o e => SX.keep _ o (by rintro (h | h | h); exact L1.1 h; exact L1.2.1 h; exact L1.2.2 h) (k13 _ _ e) L0
    · obtain ⟨e1, e2, e3⟩ := b0 b o e
      exact SX.keep b o e2 (k13 _ _ e1) e3
    · have hC' : b ≠ C := by rintro rfl; exact hb (SX.out hlX hnX (.inr (.inr rfl)))
      by_cases q : H1 b = none
      · have f := SX.fresh b q hb
        refine ⟨?_, ?_, hC'⟩
        · cases z : F.h₀.get? b with
          | none => rfl
          | some o => rw [k13 _ _ (b0 b o z).1] at f; cases f
        · rintro rfl
          obtain ⟨oL, _, _, eL, _⟩ := O1.fr.ns
          rw [k13 _ _ eL] at f; cases f
      · exact ⟨(O1.dom b q).1, (O1.dom b q).2.1, hC'⟩
  have mkE : ∀ {m' ls}, LocOk (compVars sc.names) m' ls → EnvOk (compCx cx sc.names) { F with env := compEnvC sc cl C F.env, m2 := m' } ⟨ls, ρ.cel⟩ := by
    intro m' ls L
    refine ⟨sn, L, fun j x c e1 e2 e3 => ?_, EO.celLen, snd⟩
    have e2' : (sc.names.lookup x).map (fun k => if k == .free then .cell else k) = some .cell := by
      rw [← lookup_map]; exact e2
    obtain ⟨k, ek, ek2⟩ := Option.map_eq_some_iff.1 e2'
    have hm := mem_of_lookup ek
    have hf : k = .free := by
      by_cases hk : k = .free
      · exact hk
      · have : (k == NameKind.free) = false := by simpa using hk
        rw [this] at ek2; simp only [Bool.false_eq_true, if_false] at ek2
        exact absurd ek2 (scel _ hm)
    subst hf
    show cl.lookup x = some c
    rw [hclk _ hm rfl]
    exact EO.cel j x c e1 (sfree _ hm rfl).2 e3
  have loop : codeAny (model pw w) F.A (.compLoop (.ListComp y [⟨t, itx, ifs, 0⟩] sc pos) 0 (.ref Ia) (.ref D) (compEnvC sc cl C F.env))
      (compPost (model pw w) F.A NoE none (PostR w RV s H Q) (.ref D) C) { s with heap := h3, toks := t1 } := by
    refine comp_loop (CInv w X s h3 H1 xs.length St C D xv I) ?_ xs.length ?_
    · rintro k' s' ⟨k, h', tk, m', acc, accV, c, Hk, rfl, hk, rfl, SX, st, hn', hDk, ra, la, ik, sy⟩
      have hlen := ra.length
      by_cases hlt : k < xs.length
      · have hxk : xs[k]? = some xs[k] := List.getElem?_eq_getElem hlt
        have hne : xs ≠ [] := by rintro rfl; simp at hlt
        refine W.item (s := { s with heap := h', toks := tk }) hxk st SX.rep sy fun y' h4 tk4 ry st4 k4 => ?_
        obtain ⟨o4, T4, e4, c4, w4⟩ := W.live _ _ st4
        have S4 := SX.touch hlX hnX (.inl rfl) (fun b o hb e => k4 b o hb e) ⟨o4, e4⟩
        have n4 : h4.Ns C m' := hn'.at' fun o e => k4 _ _ (Ne.symm nI.2) e
        have D4 := k4 _ _ (Ne.symm nI.1) hDk
        refine notOwned (s := { s with heap := h4, toks := tk4 }) e4 c4 w4 ?_
        refine sound_pat (s := { s with heap := h4, toks := tk4 }) (cx := compCx cx sc.names) sn (by simp [compEnvC, relabel, sk]) snd O.hh mp S4.rep ry n4 (ls := [none, none, none]) ?_ (turn k acc Hk _ hxk ik sy) fun h5 tk5 m5 ls n5 k5 L5 q5 => ?_
        · intro i z v _ hv
          rcases i with _ | _ | _ | i <;> simp at hv
        have S5 := S4.touch hlX hnX (.inr (.inr rfl)) (fun b o hb e => k5 b o hb e) (let ⟨o, _, _, e, _⟩ := n5; ⟨o, e⟩)
        have O5 := mkF S5 n5
        have E5 := mkE (m' := m5) L5
        have D5 := k5 _ _ nDC D4
        have st5 : St (k + 1) h5 := W.frame _ _ _ st4 (fun o e => k5 _ _ nI.2 e) fun e => absurd e hne
        refine TR.use (hc (s := { s with heap := h5, toks := tk5 }) E5 O5 r S5.rep _ q5) fun ok ok' H6 h6 tk6 S6 r6 q6 => ?_
        obtain rfl : ok = ok' := r6
        have SX6 := S5.then hlX hnX S6
        have n6 : h6.Ns C m5 := n5.at' fun o e => S6.keep _ _ e (S5.out hlX hnX (.inr (.inr rfl)))
        have D6 := S6.keep _ _ D5 (S5.out hlX hnX (.inr (.inl rfl)))
        have st6 : St (k + 1) h6 := W.frame _ _ _ st5 (fun o e => S6.keep _ _ e (S5.out hlX hnX (.inl rfl))) fun e => absurd e hne
        cases ok with
        | false =>
          obtain ⟨sy6, i6⟩ := q6.2 rfl
          exact ⟨xs.length - (k + 1), by omega, k + 1, h6, tk6, m5, acc, accV, c, H6, rfl, hlt, rfl, SX6, st6, n6, D6, ra, by omega, i6, sy6⟩
        | true =>
          rw [if_pos rfl]
          refine TR.use ((he (s := { s with heap := h6, toks := tk6 }) (mkE (m' := m5) L5) (mkF SX6 n6) r SX6.rep).1 _ (q6.1 rfl)) fun v v' H7 h7 tk7 S7 r7 q7 => ?_
          obtain ⟨sy7, i7⟩ := q7
          have SX7 := SX6.then hlX hnX S7
          have n7 : h7.Ns C m5 := n6.at' fun o e => S7.keep _ _ e (SX6.out hlX hnX (.inr (.inr rfl)))
          have D7 := S7.keep _ _ D6 (SX6.out hlX hnX (.inr (.inl rfl)))
          have st7 : St (k + 1) h7 := W.frame _ _ _ st6 (fun o e => S7.keep _ _ e (SX6.out hlX hnX (.inl rfl))) fun e => absurd e hne
          refine append_wp D7 (by rw [sizeLine_eq]; simp at hlen; omega) fun h8 c8 k8 D8 => ?_
          have SX8 := SX7.touch hlX hnX (.inr (.inl rfl)) (fun b o hb e => k8 b o hb e) ⟨_, D8⟩
          refine ⟨xs.length - (k + 1), by omega, k + 1, h8, tk7, m5, acc ++ [v], accV.push v', c8, H7, rfl, hlt, rfl, SX8, W.frame _ _ _ st7 (fun o e => k8 _ _ nI.1 e) (fun e => absurd e hne), n7.at' (fun o e => k8 _ _ (Ne.symm nDC) e), D8, ?_, by simp; omega, i7, sy7⟩
          rw [Array.toList_push]; exact ra.snoc r7
      · obtain rfl : k = xs.length := by omega
        refine W.done (s := { s with heap := h', toks := tk }) st SX.rep sy fun h9 k9 => ?_
        have D9 := k9 _ _ (Ne.symm nI.1) hDk
        refine ⟨m', hn'.at' fun o e => k9 _ _ (Ne.symm nI.2) e, fun h10 hs10 => ?_⟩
        have D10 := hs10.extBut _ _ nDC D9
        have HkD : Hk D = none := SX.out hlX hnX (.inr (.inl rfl))
        refine ⟨.ref D, upd Hk D (.list acc), h10, tk, rfl, ?_, rfl, fin acc Hk ik (by omega) D HkD⟩
        refine S1.trans ⟨fun b o e en => ?_, fun b en hb => ?_, ⟨fun b o e => ?_⟩⟩
        · have nb : ¬ X b := by
            rintro (rfl | rfl | rfl)
            · rw [hIn] at e; cases e
            · rw [h1of h2D] at e; cases e
            · rw [h1of h2C] at e; cases e
          exact hs10.extBut _ _ (fun e => nb (.inr (.inr e))) (k9 _ _ (fun e => nb (.inl e)) (SX.keep b o nb (k13 b o e) en))
        · by_cases hbD : b = D
          · subst hbD; exact h1of h2D
          · rw [upd_ne hbD] at hb
            have := SX.fresh b en hb
            cases z : h1.get? b with
            | none => rfl
            | some o => rw [k13 b o z] at this; cases this
        · by_cases hbD : b = D
          · subst hbD
            rw [upd_self] at e; cases e
            exact ⟨_, D10, accV, c, rfl, ra⟩
          · rw [upd_ne hbD] at e
            obtain ⟨ob, e1, e2⟩ := SX.rep.get b o e
            have nb : ¬ X b := fun hx => by rw [SX.out hlX hnX hx] at e; cases e
            exact ⟨ob, hs10.extBut _ _ (fun e => nb (.inr (.inr e))) (k9 _ _ (fun e => nb (.inl e)) e1), e2⟩
    · refine ⟨0, h3, t1, _, [], #[], 0, H1, by simp, Nat.zero_le _, rfl, .refl R3 hlX, ?_, hns, h3D, trivial, Nat.zero_le _, i0, ?_⟩
      · exact W.frame 0 h2 h3 st0 (fun o e => k23 _ _ e) fun _ b o e => k23 b o e
      · unfold Stays; split <;> trivial
  exact codeAny_compStart_list loop (W.self (s := { s with heap := h3, toks := t1 }) (W.frame 0 h2 h3 st0 (fun o e => k23 _ _ e) fun _ b o e => k23 b o e) loop)
end
end
end Mine
namespace Mine
noncomputable section

section
variable {w : World} {K : Frag} {n : Nat} {cx : Cx}
theorem G_and {l : E} {v : List Expr} {p : Pos} (hl : SA w K n cx l v) : SG w K n cx (.and_ l) (.BoolOp .And v p) := by
  intro F ρ H s EO O r R
  refine ⟨fun Q q => ?_, fun Q q => ?_⟩
  · rw [arm_eval_BoolOp]
    exact (hl (c := true) EO O r R).1 _ q
  · rw [arm_isTrue_BoolOp]
    exact (hl (pos := default) (c := true) EO O r R).2 _ q
theorem G_or {l : E} {v : List Expr} {p : Pos} (hl : SA w K n cx l v) : SG w K n cx (.or_ l) (.BoolOp .Or v p) := by
  intro F ρ H s EO O r R
  refine ⟨fun Q q => ?_, fun Q q => ?_⟩
  · rw [arm_eval_BoolOp]
    exact (hl (c := false) EO O r R).1 _ q
  · rw [arm_isTrue_BoolOp]
    exact (hl (pos := default) (c := false) EO O r R).2 _ q

/-- what a node's match gives -/
noncomputable def SN (w : World) (K : Frag) (n : Nat) (cx : Cx) (e : E) : Nd → Prop
  | .e x => SG w K n cx e x
  | .l xs => SL w K n cx e xs ∧ SF w K n cx e xs ∧ SA w K n cx e xs
  | .o l => SO w K n cx e l
  | .c ops xs => SC w K n cx e ops xs
theorem soundN (KF : KFacts K) {e : E} {nd : Nd} (m : ME cx e nd) : SN w K n cx e nd := by
  induction m with
  | bad => exact fun _ _ _ _ => ⟨fun Q q => q.elim, fun Q q => q.elim⟩
  | lit h => exact G_lit h
  | glo h => exact G_glo h
  | loc h => exact G_loc h
  | cel h => exact G_cel h
  | bin _ _ ha hb => exact G_bin ha hb
  | neg _ ha => exact G_neg ha
  | not _ ha => exact G_not ha
  | and_ _ hl => exact G_and hl.2.2
  | or_ _ hl => exact G_or hl.2.2
  | ite _ _ _ hc ha hb => exact G_ite hc ha hb
  | cmp _ _ ha hl => exact G_cmp ha hl
  | call _ m hf hl => exact G_call KF hf m hl.1
  | meth _ m h ho hl => exact G_meth KF ho m hl.1 h
  | attr _ h hs ho => subst h; exact G_attr KF hs ho
  | item _ _ ho hi => exact G_item ho hi
  | slice _ _ _ ho hl hu => exact G_slice ho hl hu
  | tup _ hl => exact G_tup hl.1
  | lst _ hl => exact G_lst hl.1
  | dct0 => exact G_dct0
  | dct1 hk hv => exact G_dct1 hk hv
  | comp _ hp _ _ hs hn hi he hc => exact G_comp hs hn hp he hi hc.2.1
  | nil => exact ⟨L_nil, F_nil, A_nil⟩
  | cons hs _ hr ha hl => exact ⟨L_cons hs ha hl.1, F_cons hr ha, A_cons hr ha hl.2.2⟩
  | onil => exact O_nil
  | osome _ ha => exact O_some ha
  | cnil => exact C_nil
  | ccons hb _ hr ha hl => exact C_cons hb hr ha hl
theorem sound (KF : KFacts K) {e : E} {x : Expr} (m : ME cx e (.e x)) : SG w K n cx e x := soundN KF m
end
end
end Mine
namespace Mine
noncomputable section

/-- a def's frame after a store -/
abbrev Fx.put (F : Fx) (m' : Str → Option Value) : Fx := { F with m := m', m2 := m' }
structure Fx.Eq (F : Fx) : Prop where
  env : F.env = F.fenv
  m : F.m2 = F.m
theorem Fx.Eq.put {F : Fx} (e : F.Eq) (m' : Str → Option Value) : (F.put m').Eq := ⟨e.env, rfl⟩

section
variable {w : World} {K : Frag} {n : Nat}

theorem StepX.trans {X : Addr → Prop} {h h' h'' : Heap} {H H' H'' : AHeap} (S : StepX X w h H h' H') (T : StepX X w h' H' h'' H'') : StepX X w h H h'' H'' where
  keep := fun b o nx e en => T.keep b o nx (S.keep b o nx e en) (by
    cases q : H' b with
    | none => rfl
    | some x => have := S.fresh b en (by rw [q]; simp); rw [this] at e; cases e)
  fresh := fun b en x => by
    cases q : H' b with
    | none =>
      have f := T.fresh b q x
      cases z : h.get? b with
      | none => rfl
      | some o =>
        by_cases hx : X b
        · obtain ⟨o', e⟩ := S.live b hx; rw [f] at e; cases e
        · rw [S.keep b o hx z en] at f; cases f
    | some y => exact S.fresh b en (by rw [q]; simp)
  rep := T.rep
  live := T.live
theorem Step.toX {X : Addr → Prop} {h h' : Heap} {H H' : AHeap} (S : Step w h H h' H') (hl : ∀ b, X b → ∃ o, h.get? b = some o) (hn : ∀ b, X b → H b = none) : StepX X w h H h' H' :=
  ⟨fun b o _ e en => S.keep b o e en, S.fresh, S.rep, fun b x => let ⟨o, e⟩ := hl b x; ⟨o, S.keep b o e (hn b x)⟩⟩

/-- the frame's own locals -/
abbrev Fx.X (F : Fx) : Addr → Prop := fun b => b = F.env.locals
theorem Fx.Ok.hl {F : Fx} {h : Heap} {H : AHeap} (O : F.Ok K h H) : ∀ b, F.X b → ∃ o, h.get? b = some o := by
  rintro b rfl; obtain ⟨o, _, _, e, _⟩ := O.cur; exact ⟨o, e⟩
theorem Fx.Ok.hn {F : Fx} {h : Heap} {H : AHeap} (O : F.Ok K h H) : ∀ b, F.X b → H b = none := by
  rintro b rfl
  cases q : H F.env.locals with
  | none => rfl
  | some o => exact absurd rfl (O.dom _ (by rw [q]; simp)).2.2
theorem Fx.Ok.stepX {F : Fx} {h h' : Heap} {H H' : AHeap} {m' : Str → Option Value} (O : F.Ok K h H) (FE : F.Eq) (S : StepX F.X w h H h' H') (ns : h'.Ns F.env.locals m') : (F.put m').Ok K h' H' := by
  have hE : F.fenv.locals = F.env.locals := by rw [FE.env]
  have b0 : ∀ b o, F.h₀.get? b = some o → h.get? b = some o ∧ b ≠ F.env.locals ∧ H b = none := by
    intro b o e
    refine ⟨O.fr.keep b o e, ?_, ?_⟩
    · rintro rfl
      have := Heap.lt_size e
      exact absurd (Nat.lt_of_lt_of_le this O.fr.above) (by rw [hE]; exact Nat.lt_irrefl _)
    · cases q : H b with
      | none => rfl
      | some x => have := (O.dom b (by rw [q]; simp)).1; rw [this] at e; cases e
  refine { below := O.below, fr := ⟨by show h'.Ns F.fenv.locals m'; rw [hE]; exact ns, fun b o e => ?_, O.fr.above⟩, gr := O.gr, dom := fun b hb => ?_, cur := ns, hh := O.hh, frames := O.frames, ffr := O.ffr, fk := O.fk, ek := O.ek, eg := O.eg, eb := O.eb }
  · obtain ⟨e1, e2, e3⟩ := b0 b o e
    exact S.keep b o e2 e1 e3
  · show F.h₀.get? b = none ∧ b ≠ F.fenv.locals ∧ b ≠ F.env.locals
    by_cases q : H b = none
    · have f := S.fresh b q hb
      refine ⟨?_, ?_, ?_⟩
      · cases z : F.h₀.get? b with
        | none => rfl
        | some o => rw [(b0 b o z).1] at f; cases f
      · rintro rfl; obtain ⟨o, _, _, e, _⟩ := O.fr.ns; rw [f] at e; cases e
      · rintro rfl; obtain ⟨o, _, _, e, _⟩ := O.cur; rw [f] at e; cases e
    · exact O.dom b q

noncomputable def RFl : Fl → Flow → Prop
  | .next, .next => True
  | .ret v, .ret v' => RV v v'
  | _, _ => False
/-- what a store leaves -/
inductive PostT (w : World) (cx : Cx) (F : Fx) (s : Shared) (H : AHeap) (Q : Rho → AHeap → Prop) (s' : Shared) : Prop
  | mk (ρ' : Rho) (H' : AHeap) (h' : Heap) (tk : Nat) (m' : Str → Option Value) (e : s' = { s with heap := h', toks := tk }) (S : StepX F.X w s.heap H h' H') (ns : h'.Ns F.env.locals m') (E : EnvOk cx (F.put m') ρ') (q : Q ρ' H')
/-- what a statement leaves -/
inductive PostS (w : World) (cx : Cx) (F : Fx) (s : Shared) (H : AHeap) (Q : Fl → Rho → AHeap → Prop) (f : Flow) (s' : Shared) : Prop
  | mk (fl : Fl) (ρ' : Rho) (H' : AHeap) (h' : Heap) (tk : Nat) (m' : Str → Option Value) (e : s' = { s with heap := h', toks := tk }) (S : StepX F.X w s.heap H h' H') (ns : h'.Ns F.env.locals m') (E : EnvOk cx (F.put m') ρ') (r : RFl fl f) (q : Q fl ρ' H')
theorem PostT.behind {cx : Cx} {F : Fx} {s : Shared} {H H' : AHeap} {h' : Heap} {tk : Nat} {m' : Str → Option Value} {Q : Rho → AHeap → Prop} {s' : Shared} (S : StepX F.X w s.heap H h' H') (p : PostT w cx (F.put m') { s with heap := h', toks := tk } H' Q s') : PostT w cx F s H Q s' := by
  obtain ⟨ρ', H'', h'', tk', m'', rfl, S', ns, e, q⟩ := p
  exact ⟨ρ', H'', h'', tk', m'', rfl, S.trans S', ns, e, q⟩
theorem PostS.behind {cx : Cx} {F : Fx} {s : Shared} {H H' : AHeap} {h' : Heap} {tk : Nat} {m' : Str → Option Value} {Q : Fl → Rho → AHeap → Prop} {f : Flow} {s' : Shared} (S : StepX F.X w s.heap H h' H') (p : PostS w cx (F.put m') { s with heap := h', toks := tk } H' Q f s') : PostS w cx F s H Q f s' := by
  obtain ⟨fl, ρ', H'', h'', tk', m'', rfl, S', ns, e, r, q⟩ := p
  exact ⟨fl, ρ', H'', h'', tk', m'', rfl, S.trans S', ns, e, r, q⟩
theorem put_self {F : Fx} (FE : F.Eq) : F.put F.m2 = F := by
  obtain ⟨A, A₀, h₀, base, outer, fenv, m, env, m2⟩ := F
  obtain ⟨e1, e2⟩ := FE
  simp only at e1 e2
  subst e1 e2; rfl
theorem EnvOk.putSelf {cx : Cx} {F : Fx} {ρ : Rho} (FE : F.Eq) (EO : EnvOk cx F ρ) : EnvOk cx (F.put F.m2) ρ := by rw [put_self FE]; exact EO
end
end
end Mine
namespace Mine
noncomputable section

section
variable {w : World} {K : Frag} {n : Nat} {cx : Cx}

noncomputable def ST (w : World) (K : Frag) (n : Nat) (cx : Cx) (t : Tg) (x : Expr) : Prop := ∀ {F : Fx} {ρ : Rho} {H : AHeap} {s : Shared} {v : AV} {v' : Value} {Q : Rho → AHeap → Prop}, F.Eq → EnvOk cx F ρ → F.Ok K s.heap H → F.Room (n + 1) → RepH w s.heap H → RV v v' →
  vcT w K n t v ρ H Q → wpAny (model pw w) F.A (assign x F.env v') (fun _ s' => PostT w cx F s H Q s') NoE s
noncomputable def STs (w : World) (K : Frag) (n : Nat) (cx : Cx) (t : Tg) (xs : List Expr) : Prop := ∀ {F : Fx} {ρ : Rho} {H : AHeap} {s : Shared} {vs : List AV} {vs' : List Value} {Q : Rho → AHeap → Prop}, F.Eq → EnvOk cx F ρ → F.Ok K s.heap H → F.Room (n + 1) → RepH w s.heap H → RVs vs vs' →
  vcTs w K n t vs ρ H Q → wpAny (model pw w) F.A (assignInOrder ((assignEach xs F.env).map (·.2)) vs') (fun _ s' => PostT w cx F s H Q s') NoE s

theorem T_loc {i : Nat} {x : Str} {p : Pos} (m : locOk cx i x = true) : ST w K n cx (.loc i) (.Name x p) := by
  intro F ρ H s v v' Q FE EO O r R rv q
  obtain ⟨m1, m2, m3⟩ := locOk_inv m
  refine wpAny_assign_Name (wpAny_storeName_local (EO.kind m2) O.cur (fun h' hn hs => ?_) (by rw [O.ek]; rfl))
  have hX : StepX F.X w s.heap H h' H := (StepX.refl R O.hl).touch O.hl O.hn rfl (fun b o hb e => hs.extBut b o hb e) (let ⟨o, _, _, e, _⟩ := hn; ⟨o, e⟩)
  exact ⟨⟨ρ.loc.set i (some v), ρ.cel⟩, H, h', _, _, rfl, hX, hn, ⟨EO.names, LocOk.set EO.loc EO.nd m1 rv, EO.cel, EO.celLen, EO.nd⟩, q⟩
theorem T_cel {j : Nat} {x : Str} {p : Pos} (m : celOk cx j x = true) : ST w K n cx (.cel j) (.Name x p) := by
  intro F ρ H s v v' Q FE EO O r R rv q
  obtain ⟨m1, m2, m3⟩ := celOk_inv m
  obtain ⟨c, hc, hc', q⟩ := q
  obtain ⟨v₀, ob, e1, e2⟩ : ∃ v₀ ob, s.heap.get? c = some ob ∧ ob.data = .cell v₀ := by
    rcases hc' with h | ⟨u, h⟩
    · obtain ⟨ob, e1, e2⟩ := R.get _ _ h; exact ⟨_, ob, e1, e2⟩
    · obtain ⟨ob, e1, u', e2, _⟩ := R.get _ _ h; exact ⟨_, ob, e1, e2⟩
  have hne : H c ≠ none := by rcases hc' with h | ⟨u, h⟩ <;> rw [h] <;> exact nofun
  refine wpAny_assign_Name (wpAny_storeName_cell O.ek (EO.kind m2) (EO.cel j _ c m1 m2 hc) ⟨ob, e1, e2⟩ fun h' hv hs => ?_)
  obtain ⟨ob', f1, f2⟩ := hv
  have S := Step.change (o' := .cell v) R hne hs f1 ⟨v', f2, rv⟩
  exact ⟨ρ, _, h', s.toks, F.m2, rfl, S.toX O.hl O.hn, (O.step S).cur, EO.putSelf FE, q⟩
theorem T_attr (KF : KFacts K) {o : E} {a : At} {y : Expr} {p : Pos} (m : ME cx o (.e y)) : ST w K n cx (.attr o a) (.Attribute y a.str p) := by
  intro F ρ H s v v' Q FE EO O r R rv q
  rw [arm_assign_Attribute]
  refine wpAny_bind (wpAny_holding (TR.use ((sound KF m EO O r R).1 _ q) fun y y' H1 h1 t1 S1 r1 q1 => ?_))
  refine wpAny_bind (wpAny_standAt (wpAny_bind (wpAny_holding (TR.use (sound_setAttr (s := { s with heap := h1, toks := t1 }) S1.rep (O.step S1).grh.inK KF.cls r1 rv q1) fun _ _ H2 h2 t2 S2 _ q2 => ?_))))
  refine wpAny_release ?_
  have S := S1.trans S2
  exact ⟨ρ, H2, h2, t2, F.m2, rfl, S.toX O.hl O.hn, (O.step S).cur, EO.putSelf FE, q2⟩
theorem T_item (KF : KFacts K) {o i : E} {y z : Expr} {p : Pos} (m1 : ME cx o (.e y)) (m2 : ME cx i (.e z)) : ST w K n cx (.item o i) (.Subscript y z p) := by
  intro F ρ H s v v' Q FE EO O r R rv q
  rw [arm_assign_Subscript]
  refine wpAny_bind (wpAny_holding (TR.use ((sound KF m1 EO O r R).1 _ q) fun y y' H1 h1 t1 S1 r1 q1 => ?_))
  refine wpAny_bind (wpAny_holding (TR.use ((sound KF m2 (s := { s with heap := h1, toks := t1 }) EO (O.step S1) r S1.rep).1 _ q1) fun z z' H2 h2 t2 S2 r2 q2 => ?_))
  refine wpAny_bind (wpAny_standAt (wpAny_bind (wpAny_holding (TR.use (sound_setItem (s := { s with heap := h2, toks := t2 }) S2.rep r1 r2 rv q2) fun _ _ H3 h3 t3 S3 _ q3 => ?_))))
  refine wpAny_release ?_
  have S := (S1.trans S2).trans S3
  exact ⟨ρ, H3, h3, t3, F.m2, rfl, S.toX O.hl O.hn, (O.step S).cur, EO.putSelf FE, q3⟩

theorem notStar_T {x : Expr} (m : notStar x = true) (xs : List Expr) (env : Env) : assignEach (x :: xs) env = (false, assign x env) :: assignEach xs env := by
  cases x <;> first | rfl | cases m
theorem assign_shape {env : Env} : ∀ {t : Tg} {xs : List Expr}, MT cx t (.l xs) → (assignEach xs env).findIdx? (·.1) = none ∧ (assignEach xs env).length = tgLen t
  | _, [], .nil => ⟨rfl, rfl⟩
  | _, x :: xs, .cons hs _ hr => by
    obtain ⟨h1, h2⟩ := assign_shape (env := env) hr
    rw [notStar_T hs, List.findIdx?_cons, h1, List.length_cons, h2]
    exact ⟨rfl, rfl⟩
theorem Ts_nil : STs w K n cx .nil [] := by
  intro F ρ H s vs vs' Q FE EO O r R rv q
  obtain ⟨rfl, q⟩ := q
  obtain rfl := rv.nil_left
  exact assignInOrder_nil ⟨ρ, H, s.heap, s.toks, F.m2, rfl, .refl R O.hl, O.cur, EO.putSelf FE, q⟩
theorem Ts_cons {t l : Tg} {x : Expr} {xs : List Expr} (m : notStar x = true) (ht : ST w K n cx t x) (hr : STs w K n cx l xs) : STs w K n cx (.cons t l) (x :: xs) := by
  intro F ρ H s vs vs' Q FE EO O rm R rv q
  obtain ⟨y, ys, rfl, q⟩ := q
  obtain ⟨v', vs', rfl, r1, r2⟩ := rv.cons_left
  rw [notStar_T m]
  refine assignInOrder_cons (wpAny_mono (ht FE EO O rm R r1 q) (fun _ s' p => ?_) fun _ _ x => x)
  obtain ⟨ρ', H', h', tk, m', rfl, S, ns, E', q'⟩ := p
  have := hr (F := F.put m') (s := { s with heap := h', toks := tk }) (FE.put m') E' (O.stepX FE S ns) rm S.rep r2 q'
  exact wpAny_mono this (fun _ _ p => PostT.behind S p) fun _ _ x => x
theorem T_tup {l : Tg} {es : List Expr} {k : Nat} {p : Pos} (m : MT cx l (.l es)) (hl : STs w K n cx l es) : ST w K n cx (.tup l) (.Tuple es k p) := by
  intro F ρ H s v v' Q FE EO O r R rv q
  obtain ⟨a, xs, rfl, ha, hlen, q⟩ := q
  obtain rfl : v' = .ref a := rv
  obtain ⟨vs, ht, rs, hn⟩ := R.tup ha
  obtain ⟨h1, h2⟩ := assign_shape (env := F.env) m
  refine assign_Tuple_tuple O.hh ht (by rw [h2, List.size_toArray, ← hn, hlen]) h1 fun h' he => ?_
  have old : ∀ b o, s.heap.get? b = some o → h'.get? b = some o := fun b o e => he b o (Nat.ne_of_lt (Heap.lt_size e)) e
  have S := Step.keepAll R old
  have := hl (s := { s with heap := h' }) FE EO (O.step S) r S.rep rs q
  have S' := S.toX (X := F.X) O.hl O.hn
  refine wpAny_mono this (fun _ s' p => ?_) fun _ _ x => x
  obtain ⟨ρ', H'', h'', tk', m'', rfl, S2, ns, e, q⟩ := p
  exact ⟨ρ', H'', h'', tk', m'', rfl, S'.trans S2, ns, e, q⟩

noncomputable def STN (w : World) (K : Frag) (n : Nat) (cx : Cx) (t : Tg) : Nt → Prop
  | .e x => ST w K n cx t x
  | .l xs => STs w K n cx t xs
theorem soundTN (KF : KFacts K) {t : Tg} {nd : Nt} (m : MT cx t nd) : STN w K n cx t nd := by
  induction m with
  | loc h => exact T_loc h
  | cel h => exact T_cel h
  | attr m h => subst h; exact T_attr KF m
  | item m1 m2 => exact T_item KF m1 m2
  | tup m hl => exact T_tup m hl
  | nil => exact Ts_nil
  | cons hs _ _ ht hr => exact Ts_cons hs ht hr
theorem soundT (KF : KFacts K) {t : Tg} {x : Expr} (m : MT cx t (.e x)) : ST w K n cx t x := soundTN KF m
end
end
end Mine
namespace Mine
noncomputable section

section
variable {w : World} {K : Frag} {n : Nat} {cx : Cx}

noncomputable def SS (w : World) (K : Frag) (n : Nat) (cx : Cx) (t : S) (x : Stmt) : Prop := ∀ {F : Fx} {ρ : Rho} {H : AHeap} {s : Shared} {Q : Fl → Rho → AHeap → Prop}, F.Eq → EnvOk cx F ρ → F.Ok K s.heap H → F.Room (n + 1) → RepH w s.heap H →
  vcS w K n t ρ H Q → wpAny (model pw w) F.A (exec x F.env) (PostS w cx F s H Q) NoE s
noncomputable def SSs (w : World) (K : Frag) (n : Nat) (cx : Cx) (t : S) (xs : List Stmt) : Prop := ∀ {F : Fx} {ρ : Rho} {H : AHeap} {s : Shared} {Q : Fl → Rho → AHeap → Prop}, F.Eq → EnvOk cx F ρ → F.Ok K s.heap H → F.Room (n + 1) → RepH w s.heap H →
  vcS w K n t ρ H Q → wpAny (model pw w) F.A (execs xs F.env) (PostS w cx F s H Q) NoE s

theorem noSwap {e : Expr} {t : Option Expr} {l : Nat} {env : Env} (h : notComp e = true) : swapsWith e t l env = pure false := by
  cases e <;> first | rfl | cases h
theorem noSwap_attr {e : Expr} {a : Expr} {x : Str} {p : Pos} {l : Nat} {env : Env} : swapsWith e (some (.Attribute a x p)) l env = pure false := by
  cases e <;> rfl
theorem noSwap_sub {e : Expr} {a b : Expr} {p : Pos} {l : Nat} {env : Env} : swapsWith e (some (.Subscript a b p)) l env = pure false := by
  cases e <;> rfl
theorem noSwap_cell {e : Expr} {x : Str} {p : Pos} {l : Nat} {env : Env} (h : env.kindOf x = some .cell) : swapsWith e (some (.Name x p)) l env = pure false := by
  have hk : (env.kindOf x == some NameKind.local) = false := by rw [h]; rfl
  cases e <;> first | rfl | (show (pure (((_ && (env.kindOf x == some NameKind.local)) && _) && _) : Sem Bool) = _; rw [hk, Bool.and_false, Bool.false_and, Bool.false_and])
theorem swaps_tup {ts : List Expr} {k : Nat} {p : Pos} {e : Expr} {env : Env} (h : notTup e = true) : swappedStores [.Tuple ts k p] e env = pure none := by
  cases e <;> first | rfl | cases h
theorem asg_ok {F : Fx} {ρ : Rho} {t : Tg} {tg v : Expr} {l : Nat} (EO : EnvOk cx F ρ) (m : MT cx t (.e tg)) (h : asgOk t v = true) : swapsWith v (some tg) l F.env = pure false ∧ swappedStores [tg] v F.env = pure none ∧ assignEach [tg] F.env = [(false, assign tg F.env)] := by
  obtain ⟨h1, h2⟩ := Bool.and_eq_true_iff.1 h
  cases m with
  | loc _ => exact ⟨noSwap (by rw [← h1]; exact (Bool.or_false _).symm), rfl, rfl⟩
  | cel m => exact ⟨noSwap_cell (EO.kind (celOk_inv m).2.1), rfl, rfl⟩
  | attr _ _ => exact ⟨noSwap_attr, rfl, rfl⟩
  | item _ _ => exact ⟨noSwap_sub, rfl, rfl⟩
  | tup _ => exact ⟨noSwap (by rw [← h1]; exact (Bool.or_false _).symm), swaps_tup (by rw [← h2]; exact (Bool.or_false _).symm), rfl⟩

theorem S_asg (KF : KFacts K) {t : Tg} {e : E} {tg v : Expr} {pos : Pos} (m1 : MT cx t (.e tg)) (m2 : ME cx e (.e v)) (m3 : asgOk t v = true) : SS w K n cx (.asg t e) (.Assign [tg] v pos) := by
  intro F ρ H s Q FE EO O r R q
  obtain ⟨hs, hw, ha⟩ := asg_ok (l := pos.line) EO m1 m3
  refine wpAny_Assign_stores (TR.use ((sound KF m2 EO O r R).1 _ q) fun u u' H1 h1 t1 S1 r1 q1 => ?_) hs hw
  rw [ha]
  show wpAny (model pw w) F.A (assign tg F.env u') _ _ _
  refine wpAny_mono (soundT KF m1 (s := { s with heap := h1, toks := t1 }) FE EO (O.step S1) r S1.rep r1 q1) (fun _ s' p => ?_) fun _ _ x => x
  obtain ⟨ρ', H', h', tk, m', rfl, S, ns, E', q'⟩ := p
  exact ⟨.next, ρ', H', h', tk, m', rfl, (S1.toX O.hl O.hn).trans S, ns, E', trivial, q'⟩

theorem notInter {F : Fx} {h : Heap} {H : AHeap} (O : F.Ok K h H) : interactive F.env = false := by
  unfold interactive; rw [O.ek]; rfl

theorem S_exp (KF : KFacts K) {e : E} {v : Expr} {pos : Pos} (m1 : ME cx e (.e v)) (m2 : notComp v = true) : SS w K n cx (.exp e) (.Expr v pos) := by
  intro F ρ H s Q FE EO O r R q
  refine wpAny_Expr (TR.use ((sound KF m1 EO O r R).1 _ q) fun u u' H1 h1 t1 S1 r1 q1 => ?_) (notInter O) (noSwap m2)
  have fin : PostS w cx F s H Q .next { s with heap := h1, toks := t1 } := ⟨.next, ρ, H1, h1, t1, F.m2, rfl, S1.toX O.hl O.hn, (O.step S1).cur, EO.putSelf FE, trivial, q1.2⟩
  have hr := q1.1
  cases u with
  | none => cases r1; exact fin
  | bool b => cases r1; exact fin
  | int i => obtain ⟨t, rfl⟩ := r1; exact fin
  | str i => obtain ⟨t, rfl⟩ := r1; exact fin
  | bytes i => obtain ⟨t, rfl⟩ := r1; exact fin
  | fn b => cases r1; cases b <;> exact fin
  | ref a => cases hr
  | con c => cases hr

theorem S_iff (KF : KFacts K) {c : E} {a b : S} {x : Expr} {y z : List Stmt} {p : Pos} (mc : ME cx c (.e x)) (ha : SSs w K n cx a y) (hb : SSs w K n cx b z) : SS w K n cx (.iff c a b) (.If x y z p) := by
  intro F ρ H s Q FE EO O r R q
  refine wpAny_If (TR.use ((sound KF mc EO O r R).2 _ q) fun u t H1 h1 t1 S1 r1 q1 => ?_)
  obtain rfl : u = .bool t := r1
  have back : ∀ f s', PostS w cx F { s with heap := h1, toks := t1 } H1 Q f s' → PostS w cx F s H Q f s' := by
    rintro f s' ⟨fl, ρ', H', h', tk, m', rfl, S, ns, E', rf, q'⟩
    exact ⟨fl, ρ', H', h', tk, m', rfl, (S1.toX O.hl O.hn).trans S, ns, E', rf, q'⟩
  cases t with
  | true => exact wpAny_mono (ha (s := { s with heap := h1, toks := t1 }) FE EO (O.step S1) r S1.rep (q1.1 rfl)) (fun f s' p => back f s' p) fun _ _ x => x
  | false => exact wpAny_mono (hb (s := { s with heap := h1, toks := t1 }) FE EO (O.step S1) r S1.rep (q1.2 rfl)) (fun f s' p => back f s' p) fun _ _ x => x

theorem S_ret (KF : KFacts K) {e : E} {x : Expr} {p : Pos} (m : ME cx e (.e x)) : SS w K n cx (.ret e) (.Return (some x) p) := by
  intro F ρ H s Q FE EO O r R q
  refine wpAny_Return_some (TR.use ((sound KF m EO O r R).1 _ q) fun u u' H1 h1 t1 S1 r1 q1 => ?_)
  exact ⟨.ret u, ρ, H1, h1, t1, F.m2, rfl, S1.toX O.hl O.hn, (O.step S1).cur, EO.putSelf FE, r1, q1⟩
theorem S_ret0 {p : Pos} : SS w K n cx .ret0 (.Return none p) := by
  intro F ρ H s Q FE EO O r R q
  exact wpAny_Return_none ⟨.ret .none, ρ, H, s.heap, s.toks, F.m2, rfl, .refl R O.hl, O.cur, EO.putSelf FE, rfl, q⟩
theorem S_pass {p : Pos} : SS w K n cx .pass_ (.Pass p) := by
  intro F ρ H s Q FE EO O r R q
  exact wpAny_Pass ⟨.next, ρ, H, s.heap, s.toks, F.m2, rfl, .refl R O.hl, O.cur, EO.putSelf FE, trivial, q⟩
theorem S_try {b : S} {y : List Stmt} {h : ExceptHandler} {hs : List ExceptHandler} {p : Pos} (hb : SSs w K n cx b y) : SS w K n cx (.try_ b) (.Try y (h :: hs) [] [] p) := by
  intro F ρ H s Q FE EO O r R q
  refine wpAny_Try_except (wpAny_mono (hb FE EO O r R q) (fun f s' p => ?_) fun _ _ x => x.elim)
  obtain ⟨fl, ρ', H', h', tk, m', rfl, S, ns, E', rf, q'⟩ := p
  cases f with
  | next => exact wpAny_execs_nil ⟨fl, ρ', H', h', tk, m', rfl, S, ns, E', rf, q'⟩
  | _ => exact ⟨fl, ρ', H', h', tk, m', rfl, S, ns, E', rf, q'⟩

theorem Ss_nil : SSs w K n cx .nil [] := by
  intro F ρ H s Q FE EO O r R q
  exact wpAny_execs_nil ⟨.next, ρ, H, s.heap, s.toks, F.m2, rfl, .refl R O.hl, O.cur, EO.putSelf FE, trivial, q⟩
theorem Ss_cons {a l : S} {x : Stmt} {xs : List Stmt} (ha : SS w K n cx a x) (hl : SSs w K n cx l xs) : SSs w K n cx (.cons a l) (x :: xs) := by
  intro F ρ H s Q FE EO O r R q
  refine wpAny_execs_cons (wpAny_mono (ha FE EO O r R q) (fun f s' p => ?_) fun _ _ x => x)
  obtain ⟨fl, ρ', H', h', tk, m', rfl, S, ns, E', rf, q'⟩ := p
  cases fl with
  | next =>
    cases f <;> first | exact rf.elim | skip
    exact wpAny_mono (hl (F := F.put m') (s := { s with heap := h', toks := tk }) (FE.put m') E' (O.stepX FE S ns) r S.rep q') (fun f s' p => PostS.behind S p) fun _ _ x => x
  | ret v =>
    cases f <;> first | exact rf.elim | skip
    exact ⟨.ret v, ρ', H', h', tk, m', rfl, S, ns, E', rf, q'⟩

inductive WInv (w : World) (cx : Cx) (F : Fx) (s : Shared) (H : AHeap) (I : Nat → Rho → AHeap → Prop) (k : Nat) (s' : Shared) : Prop
  | mk (ρk : Rho) (Hk : AHeap) (h' : Heap) (tk : Nat) (m' : Str → Option Value) (e : s' = { s with heap := h', toks := tk }) (S : StepX F.X w s.heap H h' Hk) (ns : h'.Ns F.env.locals m') (E : EnvOk cx (F.put m') ρk) (i : I k ρk Hk)
theorem S_whl (KF : KFacts K) {c : E} {b : S} {x : Expr} {y : List Stmt} {p : Pos} (mc : ME cx c (.e x)) (hb : SSs w K n cx b y) : SS w K n cx (.whl c b) (.While x y [] p) := by
  intro F ρ H s Q FE EO O r R q
  obtain ⟨N, I, i0, turn⟩ := q
  refine wpAny_While (codeAny_whileLoop (WInv w cx F s H I) ?_ N
    ⟨ρ, H, s.heap, s.toks, F.m2, rfl, .refl R O.hl, O.cur, EO.putSelf FE, i0⟩)
  rintro k s' ⟨ρk, Hk, h', tk, m', rfl, SX, ns, E', ik⟩
  have O' := O.stepX FE SX ns
  refine wpAny_mono (TR.use ((sound KF mc (F := F.put m') (s := { s with heap := h', toks := tk }) E' O' r SX.rep).2 _ (turn k ρk Hk ik)) fun u t H1 h1 t1 S1 r1 q1 => ?_) (fun _ _ p => p) fun _ _ (x : False) => x.elim
  obtain rfl : u = .bool t := r1
  have O1 := O'.step S1
  have SX1 : StepX F.X w s.heap H h1 H1 := SX.trans (S1.toX (X := F.X) O'.hl O'.hn)
  cases t with
  | true =>
    rw [if_pos rfl]
    refine wpAny_mono (hb (F := F.put m') (s := { s with heap := h1, toks := t1 }) (FE.put m') E' O1 r S1.rep (q1.1 rfl)) (fun f s' p => ?_) fun _ _ (x : False) => x.elim
    obtain ⟨fl, ρ', H2, h2, tk2, m2, rfl, S2, ns2, E2, rf, q2⟩ := p
    have SX2 : StepX F.X w s.heap H h2 H2 := SX1.trans S2
    cases fl with
    | next =>
      cases f <;> first | exact rf.elim | skip
      obtain ⟨k', hk', i'⟩ := q2
      exact ⟨k', hk', ρ', H2, h2, tk2, m2, rfl, SX2, ns2, E2, i'⟩
    | ret v =>
      cases f <;> first | exact rf.elim | skip
      exact ⟨.ret v, ρ', H2, h2, tk2, m2, rfl, SX2, ns2, E2, rf, q2⟩
  | false =>
    rw [if_neg (by simp)]
    exact wpAny_execs_nil ⟨.next, ρk, H1, h1, t1, m', rfl, SX1, O1.cur, E', trivial, q1.2 rfl⟩

inductive FInv (w : World) (cx : Cx) (F : Fx) (s : Shared) (H H1 : AHeap) (n : Nat) (St : Nat → Heap → Prop) (Ia : Addr) (xv : AV) (I : Nat → Rho → AHeap → Prop) (k' : Nat) (s' : Shared) : Prop
  | mk (k : Nat) (ρk : Rho) (Hk : AHeap) (h' : Heap) (tk : Nat) (m' : Str → Option Value) (e1 : k' = n - k) (e2 : k ≤ n) (e : s' = { s with heap := h', toks := tk }) (S : StepX F.X w s.heap H h' Hk) (st : St k h') (hI : Hk Ia = none) (ns : h'.Ns F.env.locals m')
      (E : EnvOk cx (F.put m') ρk) (i : I k ρk Hk) (sy : Stays xv H1 Hk)
theorem S_for (KF : KFacts K) {p : Pt} {e : E} {b : S} {t it : Expr} {y : List Stmt} {pos : Pos} (mp : MP cx p t) (me : ME cx e (.e it)) (mns : notSet it = true) (hb : SSs w K n cx b y) : SS w K n cx (.for_ p e b) (.For t it y [] pos) := by
  intro F ρ H s Q FE EO O r R q
  have hs := setIter (env := F.env) mns
  refine wpAny_For (TR.use ((sound KF me EO O r R).1 _ q) fun xv xv' H1 h1 t1 S1 r1 q1 => ?_) hs
  have O1 := O.step S1
  obtain ⟨xs, ⟨I, i0, turn, fin⟩, goit⟩ := sound_iter (s := { s with heap := h1, toks := t1 }) S1.rep O.hh O1.grh.nl r1 q1
  refine goit fun Ia h2 St hIn hk2 W st0 => ?_
  have S2 := Step.keepAll S1.rep hk2
  have S12 := S1.trans S2
  obtain ⟨oI, TI, eI, cI, wI⟩ := W.live 0 h2 st0
  have nIL : Ia ≠ F.env.locals := by
    rintro rfl
    obtain ⟨o, _, _, e, _⟩ := O1.cur
    rw [hIn] at e; cases e
  have bI : ∀ o, s.heap.get? Ia = some o → H Ia ≠ none := fun o e hn => by
    have := S1.keep _ _ e hn; rw [hIn] at this; cases this
  -- the iterator goes on: nobody sees it
  have tch : ∀ {h' h'' Hk}, StepX F.X w s.heap H h' Hk → Hk Ia = none → (∀ b o, b ≠ Ia → h'.get? b = some o → h''.get? b = some o) → StepX F.X w s.heap H h'' Hk := by
    intro h' h'' Hk SX hn hk
    refine ⟨fun b o nx e en => hk b o (by rintro rfl; exact bI o e en) (SX.keep b o nx e en), SX.fresh, ⟨fun b o e => ?_⟩, fun b hx => ?_⟩
    · obtain ⟨ob, e1, e2⟩ := SX.rep.get b o e
      exact ⟨ob, hk b ob (by rintro rfl; rw [hn] at e; cases e) e1, e2⟩
    · obtain ⟨o, e⟩ := SX.live b hx
      exact ⟨o, hk b o (by rintro rfl; exact nIL hx) e⟩
  have loop : codeAny (model pw w) F.A (.forLoop t (.ref Ia) y [] F.env) (fun r s' => match r with | .ok f => PostS w cx F s H Q f s' | .error e => cameBackBy (model pw w) F.A F.env NoE e s') { s with heap := h2, toks := t1 } := by
    refine codeAny_forLoop_any (FInv w cx F s H H1 xs.length St Ia xv I) ?_ xs.length ?_
    · rintro k' s' ⟨k, ρk, Hk, h', tk, m', rfl, hk, rfl, SX, st, hIk, ns, E', ik, sy⟩
      by_cases hlt : k < xs.length
      · have hxk : xs[k]? = some xs[k] := List.getElem?_eq_getElem hlt
        have hne : xs ≠ [] := by rintro rfl; simp at hlt
        refine W.item (s := { s with heap := h', toks := tk }) hxk st SX.rep sy fun y' h4 tk4 ry st4 k4 => ?_
        obtain ⟨o4, T4, e4, c4, w4⟩ := W.live _ _ st4
        have S4 := tch SX hIk k4
        have n4 : h4.Ns F.env.locals m' := ns.at' fun o e => k4 _ _ (Ne.symm nIL) e
        refine notOwned (s := { s with heap := h4, toks := tk4 }) e4 c4 w4 ?_
        have turnk := turn k ρk Hk _ hxk ik sy
        refine sound_pat (s := { s with heap := h4, toks := tk4 }) (cx := cx) EO.names (by rw [O.ek]; rfl) EO.nd O.hh mp S4.rep ry n4 (ls := ρk.loc) E'.loc turnk fun h5 tk5 m5 ls n5 k5 L5 q5 => ?_
        have O4 := O.stepX FE S4 n4
        have S5 : StepX F.X w s.heap H h5 Hk := S4.trans ((StepX.refl S4.rep O4.hl).touch O4.hl O4.hn rfl k5 (let ⟨o, _, _, e, _⟩ := n5; ⟨o, e⟩))
        have O5 := O.stepX FE S5 n5
        have E5 : EnvOk cx (F.put m5) ⟨ls, ρk.cel⟩ := ⟨EO.names, L5, E'.cel, E'.celLen, EO.nd⟩
        have st5 : St (k + 1) h5 := W.frame _ _ _ st4 (fun o e => k5 _ _ nIL e) fun e => absurd e hne
        refine wpAny_mono (hb (F := F.put m5) (s := { s with heap := h5, toks := tk5 }) (FE.put m5) E5 O5 r S5.rep q5) (fun f s' pp => ?_) fun _ _ (x : False) => x.elim
        obtain ⟨fl, ρ', H6, h6, tk6, m6, rfl, S6, ns6, E6, rf, q6⟩ := pp
        have SX6 : StepX F.X w s.heap H h6 H6 := S5.trans S6
        cases fl with
        | next =>
          cases f <;> first | exact rf.elim | skip
          obtain ⟨o5, _, e5, _, _⟩ := W.live _ _ st5
          have hI6 : H6 Ia = none := by
            cases z : H6 Ia with
            | none => rfl
            | some o => have := S6.fresh Ia hIk (by rw [z]; simp); rw [show h5.get? Ia = none from this] at e5; cases e5
          exact ⟨xs.length - (k + 1), by omega, k + 1, ρ', H6, h6, tk6, m6, rfl, hlt, rfl, SX6, W.frame _ _ _ st5 (fun o e => S6.keep _ o nIL e hIk) (fun e => absurd e hne), hI6, ns6, E6, q6.2, q6.1⟩
        | ret v =>
          cases f <;> first | exact rf.elim | skip
          exact ⟨.ret v, ρ', H6, h6, tk6, m6, rfl, SX6, ns6, E6, rf, q6⟩
      · obtain rfl : k = xs.length := by omega
        refine W.done (s := { s with heap := h', toks := tk }) st SX.rep sy fun h9 k9 => ?_
        exact wpAny_execs_nil ⟨.next, ρk, Hk, h9, tk, m', rfl, tch SX hIk k9, ns.at' fun o e => k9 _ _ (Ne.symm nIL) e, E', trivial, fin ρk Hk ik⟩
    · refine ⟨0, ρ, H1, h2, t1, F.m2, by simp, Nat.zero_le _, rfl, S12.toX O.hl O.hn, st0, S1.rep.none_of hIn, (O.step S12).cur, EO.putSelf FE, i0, ?_⟩
      unfold Stays; split <;> trivial
  exact loop

noncomputable def SSN (w : World) (K : Frag) (n : Nat) (cx : Cx) (t : S) : Ns → Prop
  | .s x => SS w K n cx t x
  | .l xs => SSs w K n cx t xs
theorem soundSN (KF : KFacts K) {t : S} {nd : Ns} (m : MS cx t nd) : SSN w K n cx t nd := by
  induction m with
  | bad => exact fun _ _ _ _ _ q => q.elim
  | badl => exact fun _ _ _ _ _ q => q.elim
  | asg ht he h => exact S_asg KF ht he h
  | exp he h => exact S_exp KF he h
  | iff hc _ _ ha hb => exact S_iff KF hc ha hb
  | whl hc _ hb => exact S_whl KF hc hb
  | for_ hp he _ h hb => exact S_for KF hp he h hb
  | ret he => exact S_ret KF he
  | ret0 => exact S_ret0
  | try_ _ hb => exact S_try hb
  | pass_ => exact S_pass
  | nil => exact Ss_nil
  | cons _ _ ha hl => exact Ss_cons ha hl
theorem soundS (KF : KFacts K) {t : S} {xs : List Stmt} (m : MS cx t (.l xs)) : SSs w K n cx t xs := soundSN KF m
end
end
end Mine
namespace Mine
noncomputable section

section
variable {w : World} {K : Frag} {n : Nat}

/-- what a call gives back: its code's own result -/
abbrev Back (w : World) (s : Shared) (H : AHeap) (Q : AV → AHeap → Prop) : Result → Shared → Prop := fun r s' => match r with | .ok (.ret v) => PostR w RV s H Q v s' | _ => False
noncomputable def CodeOK (w : World) (K : Frag) (n : Nat) (f : Addr) (vs : List AV) (H : AHeap) (Q : AV → AHeap → Prop) : Prop :=
  ∀ (F : Fx) (s : Shared) (vs' : List Value), F.Ok K s.heap H → F.Room n → RepH w s.heap H → RVs vs vs' →
    codeAny (model pw w) F.A (.call (.ref f) ⟨vs', []⟩) (Back w s H Q) s
theorem CodeOK.call {f : Addr} {vs : List AV} {H : AHeap} {Q : AV → AHeap → Prop} (h : CodeOK w K n f vs H Q) : CallOK w K n f vs H Q := fun F s vs' O r R rv =>
  wpAny_call (codeAny_mono (h F s vs' O r R rv) fun res s' p => by
    unfold Back at p
    split at p
    · exact p
    · exact p.elim)
theorem CallOK.le {m : Nat} {f : Addr} {vs : List AV} {H : AHeap} {Q : AV → AHeap → Prop} (h : CallOK w K n f vs H Q) (l : n ≤ m) : CallOK w K m f vs H Q := fun F s vs' O r R rv => h F s vs' O (r.le l) R rv
theorem CodeOK.le {m : Nat} {f : Addr} {vs : List AV} {H : AHeap} {Q : AV → AHeap → Prop} (h : CodeOK w K n f vs H Q) (l : n ≤ m) : CodeOK w K m f vs H Q := fun F s vs' O r R rv => h F s vs' O (r.le l) R rv
theorem CallOK.mono {f : Addr} {vs : List AV} {H : AHeap} {Q Q' : AV → AHeap → Prop} (h : CallOK w K n f vs H Q) (k : ∀ v H', Q v H' → Q' v H') : CallOK w K n f vs H Q' := fun F s vs' O r R rv => (h F s vs' O r R rv).mono k

/-- a def of the text -/
structure FnAt (K : Frag) (f : Addr) (fd : FuncData) (t : S) (cx : Cx) (body : List Stmt) : Prop where
  here : ∀ h, K.In h → ∃ fo, h.get? f = some fo ∧ fo.data = .func fd
  code : ∀ h : Heap, K.In h → h.CodeRec fd.code fd.qualname
  bod : fd.body = .stmts body
  m : MS cx t (.l body)
  names : fd.scope.names = cx.names
  nd : cx.vars.Nodup
  kind : fd.scope.kind = .function
  co : fd.scope.isCoroutine = false
  gen : fd.scope.isGenerator = false
  glob : fd.globals = mainGlobals
  blt : fd.builtins = builtinsNs

noncomputable def Fl.val : Fl → AV
  | .next => .none
  | .ret v => v

/-- all that has a name of ours -/
theorem named {s : Shared} {H : AHeap} {F : Fx} (O : F.Ok K s.heap H) (R : RepH w s.heap H) : ∃ news : List (Addr × Obj), News F.h₀ F.fenv.locals s.heap news ∧ (∀ a, H a ≠ none → a ∈ news.map (·.1)) ∧ ∀ p ∈ news, H p.1 ≠ none := by
  classical
  refine ⟨(List.range s.heap.objs.size).filterMap fun a => if H a = none then none else (s.heap.get? a).map fun o => (a, o), ?_, ?_, ?_⟩
  · intro p hp
    obtain ⟨a, _, e⟩ := List.mem_filterMap.1 hp
    split at e
    · cases e
    · rename_i ha
      obtain ⟨o, e1, rfl⟩ := Option.map_eq_some_iff.1 e
      exact ⟨e1, (O.dom a ha).2.1, (O.dom a ha).1⟩
  · intro a ha
    cases q : H a with
    | none => exact absurd q ha
    | some x =>
      obtain ⟨ob, e1, _⟩ := R.get a x q
      exact List.mem_map.2 ⟨(a, ob), List.mem_filterMap.2 ⟨a, List.mem_range.2 (Heap.lt_size e1), by simp [ha, e1]⟩, rfl⟩
  · intro p hp
    obtain ⟨a, _, e⟩ := List.mem_filterMap.1 hp
    split at e
    · cases e
    · rename_i ha
      obtain ⟨o, e1, rfl⟩ := Option.map_eq_some_iff.1 e
      exact ha

/-- a def without cells, called -/
theorem def_code (KF : KFacts K) {f : Addr} {fd : FuncData} {t : S} {cx : Cx} {body : List Stmt} {vs : List AV} {H : AHeap} {Q : AV → AHeap → Prop} {loc0 : List (Option AV)} (FA : FnAt K f fd t cx body) (hcx : cx.cells = []) (hclo : fd.closure = []) (hcell : ∀ x ∈ fd.scope.names, x.2 ≠ .cell)
    (hb : ∀ (s : Shared) (vs' : List Value), K.In s.heap → RVs vs vs' → ∃ binds, BindsTo s fd ⟨vs', []⟩ binds ∧ (∀ y ∈ binds, fd.scope.names.lookup y.1 = some .local) ∧ LocOk cx.vars (fun x => binds.reverse.lookup x) loc0)
    (h : vcS w K n t ⟨loc0, []⟩ H fun fl _ H' => Q fl.val H') : CodeOK w K (n + 2) f vs H Q := by
  intro F s vs' O r R rv
  obtain ⟨news, N, hn1, hn2⟩ := named O R
  obtain ⟨FG, BG, st, -⟩ := groundX (R := fun _ _ => True) O.below O.fr N O.frames O.ffr O.fk
  obtain ⟨fo, ho, hd⟩ := FA.here _ O.grh.inK
  obtain ⟨binds, hbind, hloc, L0⟩ := hb s vs' O.grh.inK rv
  refine codeAny_call_def (body := body) (binds := binds) (by have := r.1; omega) ho hd O.grh.nl (FA.code _ O.grh.inK) FA.bod hbind hcell hloc (fun h₁ hns hk₁ => ?_) FA.co FA.gen FA.kind
  have hgn : ∀ a, H a ≠ none → (hideAll s.heap (news.map (·.1))).get? a = none := fun a ha => hideAll_none _ (hn1 a ha)
  let F' : Fx := { A := F.A.deeper (callEnv fd s.heap.objs.size f), A₀ := F.A, h₀ := hideAll s.heap (news.map (·.1)), base := F.base, outer := F.fenv :: F.outer, fenv := callEnv fd s.heap.objs.size f, m := fun x => binds.reverse.lookup x, env := callEnv fd s.heap.objs.size f, m2 := fun x => binds.reverse.lookup x }
  have hLn : ∀ {a}, H a ≠ none → a ≠ s.heap.objs.size := fun {a} ha e => by
    subst e; exact ha R.size_none
  have S0 : Step w s.heap H h₁ H := Step.keepAll R hk₁
  have O' : F'.Ok K h₁ H := {
    below := BG
    fr := ⟨hns, fun b o e => hk₁ b o (of_hideAll _ e), Nat.le_of_eq (hideAll_size _ _)⟩
    gr := O.gr.keeps st
    dom := fun a ha => ⟨hgn a ha, hLn ha, hLn ha⟩
    cur := hns
    hh := O.hh
    frames := by show F.A.frames.map _ = _; rw [O.frames]; rfl
    ffr := rfl
    fk := FA.kind
    ek := FA.kind
    eg := FA.glob
    eb := FA.blt }
  have E' : EnvOk cx F' ⟨loc0, []⟩ := ⟨FA.names, L0, fun j x c e => by rw [hcx] at e; simp at e, (by rw [hcx]; rfl), FA.nd⟩
  have r' : F'.Room (n + 1) := by
    have a := r.1; have b := r.2
    refine ⟨?_, ?_⟩
    · show F.A.depth + 1 + (n + 1) < recursionLimit; omega
    · show F.A.units + 3 + 8 * (n + 1) < cLine; omega
  have key := soundS KF FA.m (F := F') (s := { s with heap := h₁, toks := s.toks + binds.length }) ⟨rfl, rfl⟩ E' O' r' S0.rep h
  refine wpAny_mono key (fun fl s' p => ?_) fun _ _ (x : False) => x.elim
  obtain ⟨fl', ρ', H', h', tk, m', rfl, SX, ns, E2, rf, q⟩ := p
  have S : Step w s.heap H h' H' := by
    refine ⟨fun b o e en => SX.keep b o (Nat.ne_of_lt (Heap.lt_size e)) (hk₁ b o e) en, fun b en hb => ?_, SX.rep⟩
    have f : h₁.get? b = none := SX.fresh b en hb
    cases z : s.heap.get? b with
    | none => rfl
    | some o => have e := hk₁ b o z; rw [f] at e; cases e
  cases fl' with
  | next =>
    cases fl <;> first | exact rf.elim | skip
    exact ⟨.none, H', h', tk, rfl, S, rfl, q⟩
  | ret v =>
    cases fl <;> first | exact rf.elim | skip
    exact ⟨v, H', h', tk, rfl, S, rf, q⟩
end
end
end Mine
namespace Mine
noncomputable section

section
variable {w : World} {K : Frag} {n : Nat}

/-- new cells, with what they hold -/
noncomputable def layCells (H : AHeap) : List Addr → List (Option AV) → AHeap
  | c :: cs, o :: os => upd (layCells H cs os) c (match o with | some v => .cell v | none => .ucell)
  | _, _ => H
theorem layCells_not {H : AHeap} : ∀ {cs : List Addr} {os : List (Option AV)} {b : Addr}, b ∉ cs → layCells H cs os b = H b
  | [], _, _, _ => by simp [layCells]
  | _ :: _, [], _, _ => by simp [layCells]
  | c :: cs, o :: os, b, h => by
    simp only [layCells]
    rw [upd_ne (by rintro rfl; exact h List.mem_cons_self), layCells_not fun m => h (List.mem_cons_of_mem _ m)]
theorem layCells_get {H : AHeap} : ∀ {cs : List Addr} {os : List (Option AV)} {b : Addr} {x : AO}, layCells H cs os b = some x → H b = some x ∨ ∃ (j : Nat) (o : Option AV), cs[j]? = some b ∧ os[j]? = some o ∧ x = (match o with | some v => .cell v | none => .ucell)
  | [], _, b, x, h => .inl (by simpa [layCells] using h)
  | _ :: _, [], b, x, h => .inl (by simpa [layCells] using h)
  | c :: cs, o :: os, b, x, h => by
    simp only [layCells] at h
    by_cases hb : b = c
    · subst hb; rw [upd_self] at h; cases h
      exact .inr ⟨0, o, rfl, rfl, rfl⟩
    · rw [upd_ne hb] at h
      rcases layCells_get h with h | ⟨j, o', a, b', e⟩
      · exact .inl h
      · exact .inr ⟨j + 1, o', by simpa using a, by simpa using b', e⟩

/-- code that comes back with what Q says, over any ground -/
noncomputable def CodeAt (w : World) (K : Frag) (n : Nat) (f : Addr) (vs : List AV) (H : AHeap) (Q : AV → AHeap → Prop) : Prop := ∀ (A : Around) (base hG : Heap) (outer : List Env) (s : Shared) (vs' : List Value), Below A base outer hG → Gr K hG →
  (∀ b o, hG.get? b = some o → s.heap.get? b = some o) → hG.objs.size ≤ s.heap.objs.size → (∀ a, H a ≠ none → hG.get? a = none) → A.handled = none →
  A.depth + n < recursionLimit → A.units + 8 * n < cLine → RepH w s.heap H → RVs vs vs' → codeAny (model pw w) A (.call (.ref f) ⟨vs', []⟩) (Back w s H Q) s
theorem CodeAt.ok {f : Addr} {vs : List AV} {H : AHeap} {Q : AV → AHeap → Prop} (c : CodeAt w K n f vs H Q) : CodeOK w K n f vs H Q := by
  intro F s vs' O r R rv
  obtain ⟨news, N, hn1, hn2⟩ := named O R
  obtain ⟨FG, BG, st, -⟩ := groundX (R := fun _ _ => True) O.below O.fr N O.frames O.ffr O.fk
  exact c _ _ _ _ s vs' BG (O.gr.keeps st) (fun b o e => of_hideAll _ e) (Nat.le_of_eq (hideAll_size _ _)) (fun a ha => hideAll_none _ (hn1 a ha)) O.hh r.1 r.2 R rv

/-- a def with cells, called: over any ground -/
theorem cells_gen (KF : KFacts K) {f : Addr} {fd : FuncData} {t : S} {cx : Cx} {body : List Stmt} {vs : List AV} {H : AHeap} {Q : AV → AHeap → Prop} {loc0 cel0 : List (Option AV)} (FA : FnAt K f fd t cx body) (hclo : fd.closure = [])
    (hcs : ∀ L, cx.cells.Nodup ∧ ∀ x ∈ cx.cells, ((cellsFrom L fd.scope.names []).lookup x).isSome = true) (hlen : cel0.length = cx.cells.length)
    (hb : ∀ (s : Shared) (vs' : List Value), K.In s.heap → RVs vs vs' → ∃ binds, bindArgs fd ⟨vs', []⟩ = pure binds ∧
      (∀ L, ∀ x ∈ binds, fd.scope.names.lookup x.1 = some .local ∨ (fd.scope.names.lookup x.1 = some .cell ∧ ((cellsFrom L fd.scope.names []).lookup x.1).isSome = true)) ∧
      LocOk cx.vars (bindL (fun x => fd.scope.names.lookup x) binds fun _ => none) loc0 ∧
      ∀ (j : Nat) (x : Str) (o : Option AV), cx.cells[j]? = some x → cel0[j]? = some o → match o with
        | some v => ∃ v', bindC (fun x => fd.scope.names.lookup x) binds (fun _ => none) x = some v' ∧ RV v v'
        | none => bindC (fun x => fd.scope.names.lookup x) binds (fun _ => none) x = none)
    (h : ∀ cs : List Addr, cs.length = cx.cells.length → cs.Nodup → (∀ c ∈ cs, H c = none) → vcS w K n t ⟨loc0, cs⟩ (layCells H cs cel0) fun fl _ H' => Q fl.val H') : CodeAt w K (n + 2) f vs H Q := by
  intro A base hG outer s vs' BG G sub sz hid hh r1 r2 R rv
  obtain ⟨fo, ho, hd⟩ := FA.here _ (G.keeps sub).inK
  obtain ⟨binds, hbind, hkind, L0, C0⟩ := hb s vs' (G.keeps sub).inK rv
  refine codeAny_call_cells (body := body) (binds := binds) (by omega) ho hd (G.keeps sub).nl (FA.code _ (G.keeps sub).inK) FA.bod hbind hclo (hkind _) (fun s₁ x => ?_) FA.co FA.gen FA.kind
  obtain ⟨h₁, tk₁, rfl, hk₁⟩ := x.done
  have hns := x.toInCall.ns
  have hcell := x.cell
  -- the cells' places
  let cl := cellsFrom (s.heap.objs.size + 1) fd.scope.names []
  let cs : List Addr := cx.cells.map fun y => (cl.lookup y).getD 0
  have hcl : ∀ (j : Nat) (y : Str) (c : Addr), cx.cells[j]? = some y → cs[j]? = some c → cl.lookup y = some c := by
    intro j y c a b
    have e : cs[j]? = some ((cl.lookup y).getD 0) := by simp [cs, a]
    rw [e] at b; cases b
    obtain ⟨c, e⟩ := Option.isSome_iff_exists.1 ((hcs (s.heap.objs.size + 1)).2 y (List.mem_of_getElem? a))
    rw [show cl.lookup y = some c from e]; rfl
  have hcsm : ∀ c ∈ cs, ∃ (j : Nat) (y : Str), cx.cells[j]? = some y ∧ cs[j]? = some c ∧ cl.lookup y = some c := by
    intro c hc
    obtain ⟨j, hj, e⟩ := List.mem_iff_getElem.1 hc
    have hj' : j < cx.cells.length := by simpa [cs] using hj
    have a : cx.cells[j]? = some cx.cells[j] := List.getElem?_eq_getElem hj'
    have b : cs[j]? = some c := by rw [List.getElem?_eq_getElem hj, e]
    exact ⟨j, _, a, b, hcl j _ c a b⟩
  have hab : ∀ c ∈ cs, s.heap.objs.size < c := fun c hc => by
    obtain ⟨j, y, _, _, e⟩ := hcsm c hc
    exact x.above y c (mem_of_lookup e)
  have hnone : ∀ c ∈ cs, s.heap.get? c = none := fun c hc => by
    cases e : s.heap.get? c with
    | none => rfl
    | some o => exact absurd (Heap.lt_size e) (Nat.not_lt.2 (Nat.le_of_lt (hab c hc)))
  have hnd : cs.Nodup := by
    refine List.pairwise_iff_getElem.2 fun i j hi hj hij e => ?_
    obtain ⟨i', yi, a1, b1, c1⟩ := hcsm _ (List.getElem_mem hi)
    have hi' : i < cx.cells.length := by simpa [cs] using hi
    have hj' : j < cx.cells.length := by simpa [cs] using hj
    have ei := hcl i _ _ (List.getElem?_eq_getElem hi') (List.getElem?_eq_getElem hi)
    have ej := hcl j _ _ (List.getElem?_eq_getElem hj') (List.getElem?_eq_getElem hj)
    rw [← e] at ej
    have := name_of_addr x.apart (mem_of_lookup ei) (mem_of_lookup ej)
    exact List.pairwise_iff_getElem.1 (hcs 0).1 i j hi' hj' hij this
  have hclen : cs.length = cx.cells.length := by simp [cs]
  have S0 : Step w s.heap H h₁ (layCells H cs cel0) := by
    refine ⟨fun b o e _ => hk₁ b o e, fun b en hb => ?_, ⟨fun b o e => ?_⟩⟩
    · by_cases hm : b ∈ cs
      · exact hnone b hm
      · rw [layCells_not hm] at hb; exact absurd en hb
    · rcases layCells_get e with e | ⟨j, v, a, b', rfl⟩
      · obtain ⟨ob, e1, e2⟩ := R.get b o e
        exact ⟨ob, hk₁ b ob e1, e2⟩
      · have hj : j < cx.cells.length := by rw [← hclen]; exact (List.getElem?_eq_some_iff.1 a).1
        have ay : cx.cells[j]? = some cx.cells[j] := List.getElem?_eq_getElem hj
        have key := C0 j _ v ay b'
        obtain ⟨ob, e1, e2⟩ := hcell _ _ (hcl j _ b ay a)
        refine ⟨ob, e1, ?_⟩
        cases v with
        | none => show ob.data = _; rw [e2]; congr 1
        | some v =>
          obtain ⟨v', ev, rv'⟩ := key
          exact ⟨v', by rw [e2]; congr 1, rv'⟩
  have hgn : ∀ a, layCells H cs cel0 a ≠ none → hG.get? a = none ∧ a ≠ s.heap.objs.size := fun a ha => by
    by_cases hm : a ∈ cs
    · refine ⟨?_, Nat.ne_of_gt (hab a hm)⟩
      cases e : hG.get? a with
      | none => rfl
      | some o => have := sub _ _ e; rw [hnone a hm] at this; cases this
    · rw [layCells_not hm] at ha
      exact ⟨hid a ha, fun e => by subst e; exact ha R.size_none⟩
  let mm := bindL (callEnvC fd s.heap.objs.size f).kindOf binds fun _ => none
  let F' : Fx := { A := A.deeper (callEnvC fd s.heap.objs.size f), A₀ := A, h₀ := hG, base := base, outer := outer, fenv := callEnvC fd s.heap.objs.size f, m := mm, env := callEnvC fd s.heap.objs.size f, m2 := mm }
  have O' : F'.Ok K h₁ (layCells H cs cel0) := {
    below := BG
    fr := ⟨hns, fun b o e => hk₁ b o (sub b o e), sz⟩
    gr := G
    dom := fun a ha => ⟨(hgn a ha).1, (hgn a ha).2, (hgn a ha).2⟩
    cur := hns
    hh := hh
    frames := by show A.frames.map _ = _; rw [BG.stack]; rfl
    ffr := rfl
    fk := FA.kind
    ek := FA.kind
    eg := FA.glob
    eb := FA.blt }
  have E' : EnvOk cx F' ⟨loc0, cs⟩ := ⟨FA.names, L0, fun j y c a _ b => hcl j y c a b, hclen, FA.nd⟩
  have r' : F'.Room (n + 1) := by
    refine ⟨?_, ?_⟩
    · show A.depth + 1 + (n + 1) < recursionLimit; omega
    · show A.units + 3 + 8 * (n + 1) < cLine; omega
  have key := soundS KF FA.m (F := F') (s := { s with heap := h₁, toks := tk₁ }) ⟨rfl, rfl⟩ E' O' r' S0.rep (h cs hclen hnd fun c hc => R.none_of (hnone c hc))
  refine wpAny_mono key (fun fl s' p => ?_) fun _ _ (x : False) => x.elim
  obtain ⟨fl', ρ', H', h', tk, m', rfl, SX, ns, E2, rf, q⟩ := p
  have S : Step w s.heap H h' H' := by
    have c0 : ∀ b o, s.heap.get? b = some o → H b = none → layCells H cs cel0 b = none := fun b o e en => by
      rw [layCells_not]; exact en
      intro hm; rw [hnone b hm] at e; cases e
    refine ⟨fun b o e en => SX.keep b o (Nat.ne_of_lt (Heap.lt_size e)) (hk₁ b o e) (c0 b o e en), fun b en hb => ?_, SX.rep⟩
    cases z : s.heap.get? b with
    | none => rfl
    | some o =>
      have f : h₁.get? b = none := SX.fresh b (c0 b o z en) hb
      have e := hk₁ b o z; rw [f] at e; cases e
  cases fl' with
  | next =>
    cases fl <;> first | exact rf.elim | skip
    exact ⟨.none, H', h', tk, rfl, S, rfl, q⟩
  | ret v =>
    cases fl <;> first | exact rf.elim | skip
    exact ⟨v, H', h', tk, rfl, S, rf, q⟩

end
end
end Mine
namespace Mine
noncomputable section

section
variable {w : World} {K : Frag} {n : Nat}

theorem tc_weight (C : Addr) (vs : List Value) : (Code.builtin "type.__call__" ⟨.ref C :: vs, []⟩).weight ≤ 1 ∧ (Code.builtin "type.__call__" ⟨.ref C :: vs, []⟩).cUnits ≤ 4 ∧ (Code.builtin "type.__call__" ⟨.ref C :: vs, []⟩).envs = [] := by
  refine ⟨?_, ?_, rfl⟩
  · have : (Code.builtin "type.__call__" ⟨.ref C :: vs, []⟩).weight = 1 := by rfl
    omega
  · have : (Code.builtin "type.__call__" ⟨.ref C :: vs, []⟩).cUnits = 1 := by rfl
    omega

/-- a class called -/
theorem make_code {C fI : Addr} {vs : List AV} {H : AHeap} {Q : AV → AHeap → Prop} (hC : isCls C = true) (hm : makesIn K C = true) (hi : findIn K (.ref C) "__init__" = some (some (.ref fI))) (hf : typeIn K (.ref fI) = some (.type "function"))
    (h : ∀ x d, H x = none → H d = none → x ≠ d → CodeOK w K n fI (.ref x :: vs) (upd (upd H d (.attrs [])) x (.inst C d)) (fun r H' => r = .none ∧ Q (.ref x) H')) : CodeOK w K (n + 2) C vs H Q := by
  intro F s vs' O r R rv
  have X := O.grh.inK
  have k1 : ∀ b o, s.heap.get? b = some o → ((s.heap.push emptyDict).push (instObj C s.heap.objs.size)).get? b = some o := fun b o e => Heap.get?_push_of_some _ (Heap.get?_push_of_some _ e)
  have S1 : Step w s.heap H (s.heap.push emptyDict) (upd H s.heap.objs.size (.attrs [])) := Step.push R (o := .attrs []) ⟨[], 0, rfl, trivial⟩ rfl
  have S2 := Step.push (ob := instObj C s.heap.objs.size) S1.rep (o := .inst C s.heap.objs.size) ⟨hC, rfl⟩ rfl
  have S := S1.trans S2
  rw [Heap.size_push] at S
  obtain ⟨w1, w2, w3⟩ := tc_weight C vs'
  let F' : Fx := { F with A := F.A.under (.builtin "type.__call__" ⟨.ref C :: vs', []⟩) }
  have O1 := O.step S
  have O' : F'.Ok K ((s.heap.push emptyDict).push (instObj C s.heap.objs.size)) (upd (upd H s.heap.objs.size (.attrs [])) (s.heap.objs.size + 1) (.inst C s.heap.objs.size)) :=
    { below := O1.below, fr := O1.fr, gr := O1.gr, dom := O1.dom, cur := O1.cur, hh := O1.hh, frames := by simp only [F', Around.under, w3]; exact O1.frames, ffr := O1.ffr, fk := O1.fk, ek := O1.ek, eg := O1.eg, eb := O1.eb }
  have r' : F'.Room n := by
    have a := r.1; have b := r.2
    refine ⟨?_, ?_⟩
    · show F.A.depth + _ + n < recursionLimit; omega
    · show F.A.units + _ + 8 * n < cLine; omega
  have n1 : H (s.heap.objs.size + 1) = none := R.none_of (by
    cases e : s.heap.get? (s.heap.objs.size + 1) with
    | none => rfl
    | some o => exact absurd (Heap.lt_size e) (Nat.not_lt.2 (Nat.le_succ _)))
  have key := h (s.heap.objs.size + 1) s.heap.objs.size n1 R.size_none (Nat.succ_ne_self _) F' { s with heap := (s.heap.push emptyDict).push (instObj C s.heap.objs.size) } (.ref (s.heap.objs.size + 1) :: vs') O' r' S.rep ⟨rfl, rv⟩
  obtain ⟨hh, g, d, t, os⟩ := s
  refine make_core (makes_of X hm) (looks_findIn X hi) (fun self => bind_fn X self hf) (.inl rfl) (codeAny_mono key fun res s' p => ?_)
  unfold Back at p
  split at p
  · obtain ⟨b, H', h', tk, rfl, S', rb, e, q⟩ := p
    subst e
    refine ⟨rb, ?_⟩
    exact ⟨.ref (hh.objs.size + 1), H', h', tk, rfl, S.trans S', rfl, q⟩
  · exact p.elim
end
end
end Mine
namespace Mine
noncomputable section
set_option backward.match.sparseCases false

/-! our letters held against the text: a check by evaluation -/
noncomputable def chk (b : Bool) : Option (PLift (b = true)) := match b with
  | true => some ⟨rfl⟩
  | false => none
noncomputable def chkP (p : Prop) [d : Decidable p] : Option (PLift p) := match d with
  | .isTrue h => some ⟨h⟩
  | .isFalse _ => none
noncomputable def mkLit : (v : AV) → (c : Const) → Option (PLift (LitOk v c))
  | .none, .none => some ⟨.none⟩
  | .bool a, .bool b => (chkP (a = b)).bind fun h => some ⟨h.down ▸ .bool a⟩
  | .int a, .int b => (chkP (a = b)).bind fun h => some ⟨h.down ▸ .int a⟩
  | .str l, .str x => (chkP (x.cps.toList = l)).bind fun h => some ⟨.str h.down⟩
  | .bytes a, .bytes b => (chkP (a = b)).bind fun h => some ⟨h.down ▸ .bytes a⟩
  | _, _ => none
noncomputable def mkNs (cx : Cx) : (is : List Nat) → (es : List Expr) → Option (PLift (MNs cx is es))
  | [], [] => some ⟨.nil⟩
  | i :: is, .Name x _ :: es => (chk (locOk cx i x)).bind fun h => (mkNs cx is es).bind fun r => some ⟨.cons h.down r.down⟩
  | _, _ => none
noncomputable def mkP (cx : Cx) : (p : Pt) → (e : Expr) → Option (PLift (MP cx p e))
  | .one i, .Name x _ => (chk (locOk cx i x)).bind fun h => some ⟨.one h.down⟩
  | .tup is, .Tuple es _ _ => (mkNs cx is es).bind fun h => some ⟨.tup h.down⟩
  | _, _ => none
noncomputable def mkE : (e : E) → (cx : Cx) → (x : Nd) → Option (PLift (ME cx e x))
  | .bad, _, .e _ => some ⟨.bad⟩
  | .lit v, _, .e (.Constant c _ _) => (mkLit v c).bind fun h => some ⟨.lit h.down⟩
  | .glo v, cx, .e (.Name x _) => (chk (gloOk cx v x)).bind fun h => some ⟨.glo h.down⟩
  | .loc i, cx, .e (.Name x _) => (chk (locOk cx i x)).bind fun h => some ⟨.loc h.down⟩
  | .cel i, cx, .e (.Name x _) => (chk (celOk cx i x)).bind fun h => some ⟨.cel h.down⟩
  | .bin o a b, cx, .e (.BinOp l o' r _) => (chkP (o = o')).bind fun h => (mkE a cx (.e l)).bind fun ha => (mkE b cx (.e r)).bind fun hb => some ⟨h.down ▸ .bin ha.down hb.down⟩
  | .neg a, cx, .e (.UnaryOp .USub x _) => (mkE a cx (.e x)).bind fun ha => some ⟨.neg ha.down⟩
  | .not a, cx, .e (.UnaryOp .Not x _) => (mkE a cx (.e x)).bind fun ha => some ⟨.not ha.down⟩
  | .and_ l, cx, .e (.BoolOp .And v _) => (mkE l cx (.l v)).bind fun ha => some ⟨.and_ ha.down⟩
  | .or_ l, cx, .e (.BoolOp .Or v _) => (mkE l cx (.l v)).bind fun ha => some ⟨.or_ ha.down⟩
  | .ite c a b, cx, .e (.IfExp t y z _) => (mkE c cx (.e t)).bind fun hc => (mkE a cx (.e y)).bind fun ha => (mkE b cx (.e z)).bind fun hb => some ⟨.ite hc.down ha.down hb.down⟩
  | .cmp a l, cx, .e (.Compare x ops rs _) => (mkE a cx (.e x)).bind fun ha => (mkE l cx (.c ops rs)).bind fun hl => some ⟨.cmp ha.down hl.down⟩
  | .call f l, cx, .e (.Call (.Name y p) as [] _) => (mkE f cx (.e (.Name y p))).bind fun hf => (mkE l cx (.l as)).bind fun hl => some ⟨.call hf.down hl.down⟩
  | .meth o m l, cx, .e (.Call (.Attribute y nm apos) as [] pos) => (mkE o cx (.e y)).bind fun ho => (mkE l cx (.l as)).bind fun hl => (chk (methOk m nm apos pos as y)).bind fun h => some ⟨.meth ho.down hl.down h.down⟩
  | .attr o a, cx, .e (.Attribute y nm _) => (mkE o cx (.e y)).bind fun ho => (chkP (nm = a.str)).bind fun h => (chk (notSuper y)).bind fun hs => some ⟨.attr ho.down h.down hs.down⟩
  | .item o i, cx, .e (.Subscript y z _) => (mkE o cx (.e y)).bind fun ho => (mkE i cx (.e z)).bind fun hi => some ⟨.item ho.down hi.down⟩
  | .slice o lo hi, cx, .e (.Subscript y (.Slice l u none _) _) => (mkE o cx (.e y)).bind fun ho => (mkE lo cx (.o l)).bind fun hl => (mkE hi cx (.o u)).bind fun hu => some ⟨.slice ho.down hl.down hu.down⟩
  | .tup l, cx, .e (.Tuple es _ _) => (mkE l cx (.l es)).bind fun hl => some ⟨.tup hl.down⟩
  | .lst l, cx, .e (.List es _) => (mkE l cx (.l es)).bind fun hl => some ⟨.lst hl.down⟩
  | .dct0, _, .e (.Dict [] [] _) => some ⟨.dct0⟩
  | .dct1 k v, _, .e (.Dict [some (.Constant kc _ _)] [.Constant vc _ _] _) => (mkLit (.str k) kc).bind fun hk => (mkLit (.str v) vc).bind fun hv => some ⟨.dct1 hk.down hv.down⟩
  | .comp elt p iter cond, cx, .e (.ListComp y [⟨t, it, ifs, 0⟩] sc _) => (mkE iter cx (.e it)).bind fun hi => (mkP (compCx cx sc.names) p t).bind fun hp => (mkE elt (compCx cx sc.names) (.e y)).bind fun he =>
      (mkE cond (compCx cx sc.names) (.l ifs)).bind fun hc => (chk (scopeOk cx sc)).bind fun hs => (chk (notSet it)).bind fun hn => some ⟨.comp hi.down hp.down he.down hc.down hs.down hn.down⟩
  | .nil, _, .l [] => some ⟨.nil⟩
  | .cons a r, cx, .l (x :: xs) => (chk (notStar x)).bind fun hs => (mkE a cx (.e x)).bind fun ha => (mkE r cx (.l xs)).bind fun hr => some ⟨.cons hs.down ha.down hr.down⟩
  | .nil, _, .o none => some ⟨.onil⟩
  | .cons a .nil, cx, .o (some x) => (mkE a cx (.e x)).bind fun ha => some ⟨.osome ha.down⟩
  | .nil, _, .c [] [] => some ⟨.cnil⟩
  | .ccons o a r, cx, .c (o' :: ops) (x :: xs) => (chkP (o = o')).bind fun h => (chkP (behindInMarks o x = false)).bind fun hb => (mkE a cx (.e x)).bind fun ha => (mkE r cx (.c ops xs)).bind fun hr => some ⟨h.down ▸ .ccons hb.down ha.down hr.down⟩
  | _, _, _ => none
noncomputable def mkT : (t : Tg) → (cx : Cx) → (x : Nt) → Option (PLift (MT cx t x))
  | .loc i, cx, .e (.Name x _) => (chk (locOk cx i x)).bind fun h => some ⟨.loc h.down⟩
  | .cel i, cx, .e (.Name x _) => (chk (celOk cx i x)).bind fun h => some ⟨.cel h.down⟩
  | .attr o a, cx, .e (.Attribute y nm _) => (mkE o cx (.e y)).bind fun ho => (chkP (nm = a.str)).bind fun h => some ⟨.attr ho.down h.down⟩
  | .item o i, cx, .e (.Subscript y z _) => (mkE o cx (.e y)).bind fun ho => (mkE i cx (.e z)).bind fun hi => some ⟨.item ho.down hi.down⟩
  | .tup l, cx, .e (.Tuple es _ _) => (mkT l cx (.l es)).bind fun hl => some ⟨.tup hl.down⟩
  | .nil, _, .l [] => some ⟨.nil⟩
  | .cons t r, cx, .l (x :: xs) => (chk (notStar x)).bind fun hs => (mkT t cx (.e x)).bind fun ha => (mkT r cx (.l xs)).bind fun hr => some ⟨.cons hs.down ha.down hr.down⟩
  | _, _, _ => none
noncomputable def mkS : (t : S) → (cx : Cx) → (x : Ns) → Option (PLift (MS cx t x))
  | .bad, _, .s _ => some ⟨.bad⟩
  | .bad, _, .l _ => some ⟨.badl⟩
  | .asg t e, cx, .s (.Assign [tg] v _) => (mkT t cx (.e tg)).bind fun ht => (mkE e cx (.e v)).bind fun he => (chk (asgOk t v)).bind fun h => some ⟨.asg ht.down he.down h.down⟩
  | .exp e, cx, .s (.Expr v _) => (mkE e cx (.e v)).bind fun he => (chk (notComp v)).bind fun h => some ⟨.exp he.down h.down⟩
  | .iff c a b, cx, .s (.If t y z _) => (mkE c cx (.e t)).bind fun hc => (mkS a cx (.l y)).bind fun ha => (mkS b cx (.l z)).bind fun hb => some ⟨.iff hc.down ha.down hb.down⟩
  | .whl c b, cx, .s (.While t y [] _) => (mkE c cx (.e t)).bind fun hc => (mkS b cx (.l y)).bind fun hb => some ⟨.whl hc.down hb.down⟩
  | .for_ p e b, cx, .s (.For t it y [] _) => (mkP cx p t).bind fun hp => (mkE e cx (.e it)).bind fun he => (mkS b cx (.l y)).bind fun hb => (chk (notSet it)).bind fun h => some ⟨.for_ hp.down he.down hb.down h.down⟩
  | .ret e, cx, .s (.Return (some v) _) => (mkE e cx (.e v)).bind fun he => some ⟨.ret he.down⟩
  | .ret0, _, .s (.Return none _) => some ⟨.ret0⟩
  | .try_ b, cx, .s (.Try y (_ :: _) [] [] _) => (mkS b cx (.l y)).bind fun hb => some ⟨.try_ hb.down⟩
  | .pass_, _, .s (.Pass _) => some ⟨.pass_⟩
  | .nil, _, .l [] => some ⟨.nil⟩
  | .cons a r, cx, .l (x :: xs) => (mkS a cx (.s x)).bind fun ha => (mkS r cx (.l xs)).bind fun hr => some ⟨.cons ha.down hr.down⟩
  | _, _, _ => none
theorem mkS_ok {t : S} {cx : Cx} {x : Ns} (h : (mkS t cx x).isSome = true) : MS cx t x := ((mkS t cx x).get h).down
end
end Mine
namespace Mine
noncomputable section
theorem lookup_none_of {x : Str} : ∀ {l : List (Str × Value)}, x ∉ l.map (·.1) → l.lookup x = none
  | [], _ => rfl
  | (y, u) :: l, h => by
    rw [List.lookup_cons]
    have hne : (x == y) = false := beq_eq_false_iff_ne.2 fun e => h (by rw [e]; exact List.mem_cons_self)
    rw [hne]
    exact lookup_none_of fun m => h (List.mem_cons_of_mem _ m)
theorem lookup_some_of {x : Str} : ∀ {l : List (Str × Value)}, x ∈ l.map (·.1) → (l.lookup x).isSome = true
  | [], h => by cases h
  | (y, u) :: l, h => by
    rw [List.lookup_cons]
    cases e : x == y with
    | true => rfl
    | false =>
      rcases List.mem_cons.1 h with h | h
      · rw [h] at e; rw [beq_self_eq_true] at e; cases e
      · exact lookup_some_of h
/-- the defaults' loop -/
abbrev dflStep : Str × Value → List (Str × Value) → Sem (ForInStep (List (Str × Value))) := fun x r => if (List.lookup x.1 r).isNone = true then pure (ForInStep.yield (r ++ [(x.1, x.2)])) else pure (ForInStep.yield r)
theorem dfl_loop : ∀ (l1 l2 acc : List (Str × Value)), (∀ x ∈ l1, x.1 ∈ acc.map (·.1)) → ((acc ++ l2).map (·.1)).Nodup → forIn (l1 ++ l2) acc dflStep = (pure (acc ++ l2) : Sem _)
  | x :: l1, l2, acc, h, nd => by
    rw [List.cons_append, List.forIn_cons]
    have e : (List.lookup x.1 acc).isNone = false := by
      have := lookup_some_of (h x List.mem_cons_self)
      cases q : List.lookup x.1 acc with
      | none => rw [q] at this; cases this
      | some _ => rfl
    show (if (List.lookup x.1 acc).isNone = true then _ else _) >>= _ = _
    rw [e]
    exact dfl_loop l1 l2 acc (fun y hy => h y (List.mem_cons_of_mem _ hy)) nd
  | [], [], acc, _, _ => by rw [List.append_nil, List.append_nil, List.forIn_nil]
  | [], x :: l2, acc, _, nd => by
    rw [List.nil_append, List.forIn_cons]
    have e : List.lookup x.1 acc = none := lookup_none_of fun m => by
      rw [List.map_append, List.nodup_append] at nd
      exact nd.2.2 _ m _ List.mem_cons_self rfl
    show (if (List.lookup x.1 acc).isNone = true then _ else _) >>= _ = _
    rw [e]
    have := dfl_loop [] l2 (acc ++ [x]) (fun _ h => by cases h) (by rw [List.append_assoc]; exact nd)
    rw [List.append_assoc] at this
    exact this
theorem pick_all : ∀ {ps : List Str} {us : List Value} {pre : List (Str × Value)}, (pre.map (·.1) ++ ps).Nodup → ps.length = us.length → ps.filterMap (fun n => (List.lookup n (pre ++ ps.zip us)).map fun x => (n, x)) = ps.zip us
  | [], us, pre, _, _ => rfl
  | p :: ps, [], pre, _, h => by cases h
  | p :: ps, u :: us, pre, nd, h => by
    have hp : p ∉ pre.map (·.1) := fun m => (List.nodup_append.1 nd).2.2 _ m _ List.mem_cons_self rfl
    have e : List.lookup p (pre ++ (p :: ps).zip (u :: us)) = some u := by
      rw [List.lookup_append, lookup_none_of hp]
      show List.lookup p ((p, u) :: ps.zip us) = _
      rw [List.lookup_cons_self]
    rw [List.filterMap_cons, e]
    have := pick_all (ps := ps) (us := us) (pre := pre ++ [(p, u)]) (by simpa using nd) (Nat.succ.inj h)
    rw [List.append_assoc] at this
    exact congrArg _ this
theorem zip_names : ∀ {ps : List Str} {us : List Value}, (ps.zip us).map (·.1) = ps.take us.length
  | [], _ => by simp
  | _ :: _, [] => rfl
  | p :: ps, u :: us => by rw [List.zip_cons_cons, List.map_cons, zip_names]; rfl

theorem bind_ar {P V D : Nat} (l1 : V ≤ P) (l2 : P ≤ V + D) (l3 : D ≤ P) : V - (P - D) = D - (P - V) ∧ D - (D - (P - V)) = P - V := by
  obtain ⟨x, rfl⟩ := Nat.exists_eq_add_of_le l1
  obtain ⟨y, rfl⟩ := Nat.exists_eq_add_of_le (Nat.le_of_add_le_add_left l2)
  have hy : y ≤ V := Nat.le_of_add_le_add_left (Nat.add_comm V x ▸ l3)
  rw [Nat.add_sub_cancel_left, Nat.add_sub_cancel_left, Nat.add_sub_cancel, Nat.add_comm x y, Nat.add_sub_add_right, Nat.sub_sub_self hy]
  exact ⟨rfl, rfl⟩
/-- what the binder does, its parameters plain -/
theorem bind_eq {fd : FuncData} {vs : List Value} {ps : List Str} (h1 : fd.params.posonlyargs = []) (h2 : fd.params.args.map (·.arg) = ps) (h3 : fd.params.vararg = none) (h4 : fd.params.kwonlyargs = []) (h5 : fd.params.kwarg = none) (nd : ps.Nodup) :
    ∃ T : Option (Array Value) → Sem (List (Str × Value)), bindArgs fd ⟨vs, []⟩ = (seqItems? fd.defaults >>= T) ∧
      ∀ (pq pb p2 : List Str) (d1 d2 : List Value) (r : Option (Array Value)), (r.getD #[]).toList = d1 ++ d2 → ps = (pq ++ pb) ++ p2 → (pq ++ pb).length = vs.length → pb.length = d1.length → p2.length = d2.length → T r = pure (ps.zip (vs ++ d2)) := by
  refine ⟨_, by unfold bindArgs; simp only [h1, h2, h3, h4, h5, List.map_nil, List.nil_append, List.append_nil, List.forIn_nil, pure_bind]; rfl, ?_⟩
  intro pa pb p2 d1 d2 r hr hps l1 l2 l3
  subst hps
  try dsimp only
  rw [hr]
  have lp : ((pa ++ pb) ++ p2).length = vs.length + p2.length := by rw [List.length_append, l1]
  have ld : (d1 ++ d2).length = pb.length + p2.length := by rw [List.length_append, ← l2, ← l3]
  have l6 : vs.length ≤ ((pa ++ pb) ++ p2).length := by rw [lp]; exact Nat.le_add_right _ _
  have l4 : (d1 ++ d2).length - ((pa ++ pb) ++ p2).length = 0 := by
    rw [ld, lp, ← l1, List.length_append]
    exact Nat.sub_eq_zero_of_le (Nat.add_le_add_right (Nat.le_add_left _ _) _)
  have l5 : ((pa ++ pb) ++ p2).length - (d1 ++ d2).length = pa.length := by
    rw [ld, lp, ← l1, List.length_append, Nat.add_assoc, Nat.add_sub_cancel]
  have hz : ((pa ++ pb) ++ p2).zip vs = (pa ++ pb).zip vs := by
    have := List.zip_append (l₁ := pa ++ pb) (r₁ := p2) (l₂ := vs) (r₂ := []) l1
    rw [List.append_nil] at this
    rw [this, List.zip_nil_right, List.append_nil]
  have hnames : ((pa ++ pb).zip vs).map (·.1) = pa ++ pb := by rw [zip_names, ← l1, List.take_length]
  have e1 : (decide (vs.length > ((pa ++ pb) ++ p2).length) && (none : Option Arg).isNone) = false := by rw [decide_eq_false (Nat.not_lt.2 l6)]; rfl
  have e2 : (List.filter (fun n => (List.lookup n ((pa ++ pb).zip vs)).isNone) (List.take pa.length ((pa ++ pb) ++ p2))) = [] := by
    rw [List.filter_eq_nil_iff]
    intro x hx
    rw [List.append_assoc, List.take_left] at hx
    have := lookup_some_of (l := (pa ++ pb).zip vs) (x := x) (by rw [hnames]; exact List.mem_append_left _ hx)
    cases q : List.lookup x ((pa ++ pb).zip vs) with
    | none => rw [q] at this; cases this
    | some _ => exact nofun
  rw [e1, l4, hz, List.drop_zero, l5, e2]
  have e4 : (((pa ++ pb) ++ p2).drop pa.length).zip (d1 ++ d2) = pb.zip d1 ++ p2.zip d2 := by rw [List.append_assoc, List.drop_left, List.zip_append l2]
  have e5 : ((pa ++ pb) ++ p2).zip (vs ++ d2) = (pa ++ pb).zip vs ++ p2.zip d2 := List.zip_append l1
  have key := dfl_loop (pb.zip d1) (p2.zip d2) ((pa ++ pb).zip vs) (fun x hx => by
      rw [hnames]
      exact List.mem_append_right _ (List.of_mem_zip (a := x.1) (b := x.2) hx).1) (by
      rw [← e5, zip_names]
      exact nd.sublist (List.take_sublist _ _))
  rw [← e4, ← e5] at key
  have fin := pick_all (ps := (pa ++ pb) ++ p2) (us := vs ++ d2) (pre := []) nd (by rw [lp, List.length_append, l3])
  show (forIn _ _ dflStep >>= fun r => pure (((pa ++ pb) ++ p2).filterMap (fun n => Option.map (fun x => (n, x)) (List.lookup n r)))) = _
  rw [key, pure_bind, show ((pa ++ pb) ++ p2).filterMap (fun n => Option.map (fun x => (n, x)) (List.lookup n (((pa ++ pb) ++ p2).zip (vs ++ d2)))) = _ from fin]

/-! a def of the text, as we say it -/
structure DefR where
  addr : Addr
  t : S
  vars : List Str
  cells : List Str
  params : List Str
  dfl : List Int

noncomputable def intV (x : Value) : Option Int := match x with | .int i _ => some i | _ => none
theorem ints_RVs : ∀ {l : List Value} {ds : List Int}, l.map intV = ds.map some → RVs (ds.map .int) l
  | [], [], _ => trivial
  | [], _ :: _, h => by cases h
  | _ :: _, [], h => by cases h
  | a :: b, d :: ds, h => by
    rw [List.map_cons, List.map_cons] at h
    injection h with h1 h2
    refine ⟨?_, ints_RVs h2⟩
    cases a <;> first | (injection h1 with h1; exact ⟨_, by rw [h1]⟩) | cases h1
noncomputable def dflOk (K : Frag) (v : Value) (dfl : List Int) : Bool := match v, dfl with
  | .none, [] => true
  | .ref T, ds => (match K.lookup T with
    | some ⟨_, _, .seq items _, _⟩ => items.toList.map intV == ds.map some
    | _ => false)
  | _, _ => false
noncomputable def recOk (K : Frag) (cd : Value) (q : Str) : Bool := match cd with
  | .ref c => (match K.lookup c with
    | some ⟨_, _, .fields vs, _⟩ => (match (vs[1]? : Option Value) with
      | some (.str x _) => x == q
      | _ => false)
    | _ => false)
  | _ => false
noncomputable def fdOk (K : Frag) (d : DefR) (fd : FuncData) : Bool :=
  (match fd.body with | .stmts b => (mkS d.t ⟨fd.scope.names, d.vars, d.cells⟩ (.l b)).isSome | _ => false) && decide d.vars.Nodup && fd.scope.kind == .function && !fd.scope.isCoroutine && !fd.scope.isGenerator &&
  fd.globals == mainGlobals && fd.builtins == builtinsNs && fd.params.posonlyargs.isEmpty && decide (fd.params.args.map (·.arg) = d.params) && fd.params.vararg.isNone && fd.params.kwonlyargs.isEmpty && fd.params.kwarg.isNone &&
  decide d.params.Nodup && dflOk K fd.defaults d.dfl && recOk K fd.code fd.qualname && fd.closure.isEmpty
noncomputable def defOk (K : Frag) (d : DefR) : Bool := match K.lookup d.addr with
  | some ⟨_, _, .func fd, _⟩ => fdOk K d fd && decide (d.cells = []) && d.params.isPrefixOf d.vars && (fd.scope.names.all fun x => x.2 != .cell) && (d.params.all fun x => fd.scope.names.lookup x == some .local)
  | _ => false

section
variable {w : World} {K : Frag} {n : Nat}
structure FdOk (K : Frag) (d : DefR) (fd : FuncData) (body : List Stmt) : Prop where
  bod : fd.body = .stmts body
  m : MS ⟨fd.scope.names, d.vars, d.cells⟩ d.t (.l body)
  nd : d.vars.Nodup
  kind : fd.scope.kind = .function
  co : fd.scope.isCoroutine = false
  gen : fd.scope.isGenerator = false
  glob : fd.globals = mainGlobals
  blt : fd.builtins = builtinsNs
  p1 : fd.params.posonlyargs = []
  p2 : fd.params.args.map (·.arg) = d.params
  p3 : fd.params.vararg = none
  p4 : fd.params.kwonlyargs = []
  p5 : fd.params.kwarg = none
  pnd : d.params.Nodup
  dfl : dflOk K fd.defaults d.dfl = true
  rec_ : recOk K fd.code fd.qualname = true
  clo : fd.closure = []
theorem fdOk_inv {d : DefR} {fd : FuncData} (h : fdOk K d fd = true) : ∃ body, FdOk K d fd body := by
  unfold fdOk at h
  simp only [Bool.and_eq_true] at h
  obtain ⟨⟨⟨⟨⟨⟨⟨⟨⟨⟨⟨⟨⟨⟨⟨a1, a2⟩, a3⟩, a4⟩, a5⟩, a6⟩, a7⟩, a8⟩, a9⟩, a10⟩, a11⟩, a12⟩, a13⟩, a14⟩, a15⟩, a16⟩ := h
  obtain ⟨b, e, m⟩ : ∃ b, fd.body = .stmts b ∧ (mkS d.t ⟨fd.scope.names, d.vars, d.cells⟩ (.l b)).isSome = true := by
    cases e : fd.body with
    | stmts b => rw [e] at a1; exact ⟨b, rfl, a1⟩
    | _ => rw [e] at a1; cases a1
  exact ⟨b, e, mkS_ok m, of_decide_eq_true a2, beq_iff_eq.1 a3, by simpa using a4, by simpa using a5, beq_iff_eq.1 a6, beq_iff_eq.1 a7, List.isEmpty_iff.1 a8, of_decide_eq_true a9, Option.isNone_iff_eq_none.1 a10, List.isEmpty_iff.1 a11, Option.isNone_iff_eq_none.1 a12, of_decide_eq_true a13, a14, a15, List.isEmpty_iff.1 a16⟩
theorem recOk_code {cd : Value} {q : Str} {h : Heap} (x : K.In h) (e : recOk K cd q = true) : h.CodeRec cd q := by
  unfold recOk at e
  split at e
  · split at e
    · rename_i c _ cl _ vs sl ho
      split at e
      · rename_i y t hv
        exact ⟨c, _, vs, t, rfl, x _ _ ho, rfl, by rw [hv, beq_iff_eq.1 e]⟩
      · cases e
    · cases e
  · cases e

/-- the defaults: ints -/
theorem dfl_load {v : Value} {dfl : List Int} (h : dflOk K v dfl = true) {s : Shared} (x : K.In s.heap) : ∃ ds, RVs (dfl.map .int) ds ∧ ∀ (M : Model) (A : Around) (E : Value → Shared → Prop) (Q : Option (Array Value) → Shared → Prop), (∀ r, (r.getD #[]).toList = ds → Q r s) → wpAny M A (seqItems? v) Q E s := by
  unfold dflOk at h
  split at h
  · exact ⟨[], trivial, fun M A E Q q => wpAny_pure (q none rfl)⟩
  · rename_i ds T
    split at h
    · rename_i cl sl items m fr ho
      refine ⟨items.toList, ?_, fun M A E Q q => wpAny_seqItems (x _ _ ho) rfl (q (some items) rfl)⟩
      exact ints_RVs (beq_iff_eq.1 h)
    · cases h
  · cases h

theorem RVs.len {as : List AV} {vs : List Value} (h : RVs as vs) : vs.length = as.length := h.length.symm
/-- the locals at a call's start -/
noncomputable def loc0 (d : DefR) (vs : List AV) : List (Option AV) := (vs ++ (d.dfl.drop (d.dfl.length - (d.params.length - vs.length))).map AV.int).map some ++ List.replicate (d.vars.length - d.params.length) none
theorem lookup_rev {ps : List Str} {us : List Value} (nd : ps.Nodup) {i : Nat} {x : Str} {u : Value} (h1 : ps[i]? = some x) (h2 : us[i]? = some u) : (ps.zip us).reverse.lookup x = some u := by
  have hm : (x, u) ∈ (ps.zip us).reverse := by
    rw [List.mem_reverse]
    exact List.mem_of_getElem? (i := i) (List.getElem?_zip_eq_some.2 ⟨h1, h2⟩)
  have hnd : ((ps.zip us).reverse.map (·.1)).Nodup := by
    rw [List.map_reverse, zip_names]
    exact (List.reverse_perm _).nodup_iff.2 (nd.sublist (List.take_sublist _ _))
  generalize (ps.zip us).reverse = l at hm hnd
  induction l with
  | nil => cases hm
  | cons y l ih =>
    rw [List.lookup_cons]
    rcases List.mem_cons.1 hm with rfl | hm
    · rw [beq_self_eq_true]
    · rw [List.map_cons, List.nodup_cons] at hnd
      have : (x == y.1) = false := beq_eq_false_iff_ne.2 fun e => hnd.1 (by rw [← e]; exact List.mem_map.2 ⟨_, hm, rfl⟩)
      rw [this]
      exact ih hm hnd.2

theorem bind_def {d : DefR} {fd : FuncData} {body : List Stmt} (FO : FdOk K d fd body) {s : Shared} {vs : List AV} {vs' : List Value} (x : K.In s.heap) (rv : RVs vs vs') (l1 : vs.length ≤ d.params.length) (l2 : d.params.length ≤ vs.length + d.dfl.length) (l3 : d.dfl.length ≤ d.params.length) :
    ∃ us, RVs (vs ++ (d.dfl.drop (d.dfl.length - (d.params.length - vs.length))).map AV.int) us ∧ us.length = d.params.length ∧ BindsTo s fd ⟨vs', []⟩ (d.params.zip us) := by
  obtain ⟨ds, rd, hd⟩ := dfl_load FO.dfl x
  have lv := rv.len
  have ld := rd.len
  rw [List.length_map] at ld
  obtain ⟨a1, a2⟩ := bind_ar l1 l2 l3
  have lt : (d.params.take vs.length).length = vs.length := List.length_take_of_le l1
  have l4 : (d.params.drop vs.length).length = (ds.drop (d.dfl.length - (d.params.length - vs.length))).length := by rw [List.length_drop, List.length_drop, ld, a2]
  obtain ⟨T, e, hT⟩ := bind_eq (fd := fd) (vs := vs') FO.p1 FO.p2 FO.p3 FO.p4 FO.p5 FO.pnd
  refine ⟨vs' ++ ds.drop (d.dfl.length - (d.params.length - vs.length)), rv.append ?_, ?_, ?_⟩
  · rw [List.map_drop]
    exact rd.drop _
  · rw [List.length_append, lv, ← l4, List.length_drop, Nat.add_sub_cancel' l1]
  · intro M A E Q q
    rw [e]
    refine wpAny_bind (hd M A E _ fun r hr => ?_)
    rw [hT ((d.params.take vs.length).take (d.params.length - d.dfl.length)) ((d.params.take vs.length).drop (d.params.length - d.dfl.length)) (d.params.drop vs.length) (ds.take (d.dfl.length - (d.params.length - vs.length))) (ds.drop (d.dfl.length - (d.params.length - vs.length))) r
      (by rw [hr, List.take_append_drop]) (by rw [List.take_append_drop, List.take_append_drop]) (by rw [List.take_append_drop, lt, lv]) (by rw [List.length_drop, lt, a1, List.length_take_of_le (by rw [ld]; exact Nat.sub_le _ _)]) l4]
    exact wpAny_pure q

/-- a def without cells -/
theorem code_of (KF : KFacts K) {d : DefR} (ok : defOk K d = true) {vs : List AV} {H : AHeap} {Q : AV → AHeap → Prop} (l1 : vs.length ≤ d.params.length) (l2 : d.params.length ≤ vs.length + d.dfl.length) (l3 : d.dfl.length ≤ d.params.length)
    (h : vcS w K n d.t ⟨loc0 d vs, []⟩ H fun fl _ H' => Q fl.val H') : CodeOK w K (n + 2) d.addr vs H Q := by
  unfold defOk at ok
  split at ok
  · rename_i cl dc fd sl ho
    simp only [Bool.and_eq_true] at ok
    obtain ⟨⟨⟨⟨a1, a2⟩, a3⟩, a4⟩, a5⟩ := ok
    obtain ⟨body, FO⟩ := fdOk_inv a1
    have hc : d.cells = [] := of_decide_eq_true a2
    have FA : FnAt K d.addr fd d.t ⟨fd.scope.names, d.vars, []⟩ body := ⟨fun h x => ⟨_, x _ _ ho, rfl⟩, fun h x => recOk_code x FO.rec_, FO.bod, hc ▸ FO.m, rfl, FO.nd, FO.kind, FO.co, FO.gen, FO.glob, FO.blt⟩
    refine def_code KF FA rfl FO.clo (fun x hx e => ?_) (fun s vs' x rv => ?_) h
    · have := List.all_eq_true.1 a4 x hx
      rw [e] at this; cases this
    · obtain ⟨us, ru, lu, b⟩ := bind_def FO x rv l1 l2 l3
      refine ⟨_, b, fun y hy => ?_, fun i y v hy hv => ?_⟩
      · exact beq_iff_eq.1 (List.all_eq_true.1 a5 y.1 (List.of_mem_zip (a := y.1) (b := y.2) hy).1)
      · obtain ⟨r, hr⟩ := List.isPrefixOf_iff_prefix.1 a3
        have lu' : (vs ++ (d.dfl.drop (d.dfl.length - (d.params.length - vs.length))).map AV.int).length = d.params.length := ru.length.trans lu
        unfold loc0 at hv
        by_cases hi : i < d.params.length
        · rw [List.getElem?_append_left (by rw [List.length_map, lu']; exact hi), List.getElem?_map] at hv
          obtain ⟨v1, e1, e2⟩ := Option.map_eq_some_iff.1 hv
          cases e2
          obtain ⟨u, e3, r3⟩ := ru.get i _ e1
          refine ⟨u, lookup_rev FO.pnd ?_ e3, r3⟩
          rw [← hr, List.getElem?_append_left hi] at hy
          exact hy
        · rw [List.getElem?_append_right (by rw [List.length_map, lu']; omega)] at hv
          rw [List.getElem?_replicate] at hv
          split at hv <;> cases hv
  · cases ok
end
end
end Mine
namespace Mine
noncomputable section
-- Cursor.init: locals 0:self 1:data 2:at 3:end cells 
noncomputable def b_Cursor_init : S := (.cons (.asg (.attr (.loc 0) .data) (.loc 1))
    (.cons (.asg (.attr (.loc 0) .pos) (.loc 2))
    (.cons (.asg (.attr (.loc 0) .fin) (.ite (.cmp (.loc 3) (.ccons .Lt (.lit (.int 0)) .nil)) (.call (.glo (.fn .len)) (.cons (.loc 1) .nil)) (.call (.glo (.fn .min)) (.cons (.loc 3) (.cons (.call (.glo (.fn .len)) (.cons (.loc 1) .nil)) .nil)))))
    .nil)))
noncomputable def d_Cursor_init : DefR := ⟨36, b_Cursor_init, [Str.ofString "self", Str.ofString "data", Str.ofString "at", Str.ofString "end"], [], [Str.ofString "self", Str.ofString "data", Str.ofString "at", Str.ofString "end"], [0, -1]⟩
-- Cursor.is_done: locals 0:self cells 
noncomputable def b_Cursor_is_done : S := (.cons (.ret (.cmp (.attr (.loc 0) .pos) (.ccons .GtE (.attr (.loc 0) .fin) .nil)))
    .nil)
noncomputable def d_Cursor_is_done : DefR := ⟨43, b_Cursor_is_done, [Str.ofString "self"], [], [Str.ofString "self"], []⟩
-- Cursor.peek: locals 0:self 1:ahead 2:place cells 
noncomputable def b_Cursor_peek : S := (.cons (.asg (.loc 2) (.bin .Add (.attr (.loc 0) .pos) (.loc 1)))
    (.cons (.ret (.ite (.cmp (.lit (.int 0)) (.ccons .LtE (.loc 2) (.ccons .Lt (.attr (.loc 0) .fin) .nil))) (.item (.attr (.loc 0) .data) (.loc 2)) (.neg (.lit (.int 1)))))
    .nil))
noncomputable def d_Cursor_peek : DefR := ⟨51, b_Cursor_peek, [Str.ofString "self", Str.ofString "ahead", Str.ofString "place"], [], [Str.ofString "self", Str.ofString "ahead"], [0]⟩
-- Cursor.take: locals 0:self 1:code cells 
noncomputable def b_Cursor_take : S := (.cons (.asg (.loc 1) (.meth (.loc 0) .peek .nil))
    (.cons (.iff (.cmp (.loc 1) (.ccons .GtE (.lit (.int 0)) .nil)) (.cons (.asg (.attr (.loc 0) .pos) (.bin .Add (.attr (.loc 0) .pos) (.lit (.int 1))))
    .nil) .nil)
    (.cons (.ret (.loc 1))
    .nil)))
noncomputable def d_Cursor_take : DefR := ⟨58, b_Cursor_take, [Str.ofString "self", Str.ofString "code"], [], [Str.ofString "self"], []⟩
-- Cursor.starts: locals 0:self 1:word cells 
noncomputable def b_Cursor_starts : S := (.cons (.ret (.and_ (.cons (.cmp (.bin .Add (.attr (.loc 0) .pos) (.call (.glo (.fn .len)) (.cons (.loc 1) .nil))) (.ccons .LtE (.attr (.loc 0) .fin) .nil)) (.cons (.cmp (.slice (.attr (.loc 0) .data) (.cons (.attr (.loc 0) .pos) .nil) (.cons (.bin .Add (.attr (.loc 0) .pos) (.call (.glo (.fn .len)) (.cons (.loc 1) .nil))) .nil)) (.ccons .Eq (.loc 1) .nil)) .nil))))
    .nil)
noncomputable def d_Cursor_starts : DefR := ⟨65, b_Cursor_starts, [Str.ofString "self", Str.ofString "word"], [], [Str.ofString "self", Str.ofString "word"], []⟩
-- Cursor.skip: locals 0:self 1:word cells 
noncomputable def b_Cursor_skip : S := (.cons (.iff (.not (.meth (.loc 0) .starts (.cons (.loc 1) .nil))) (.cons (.ret (.lit (.bool false)))
    .nil) .nil)
    (.cons (.asg (.attr (.loc 0) .pos) (.bin .Add (.attr (.loc 0) .pos) (.call (.glo (.fn .len)) (.cons (.loc 1) .nil))))
    (.cons (.ret (.lit (.bool true)))
    .nil)))
noncomputable def d_Cursor_skip : DefR := ⟨72, b_Cursor_skip, [Str.ofString "self", Str.ofString "word"], [], [Str.ofString "self", Str.ofString "word"], []⟩
-- lower_code: locals 0:code cells 
noncomputable def b_lower_code : S := (.cons (.ret (.ite (.cmp (.lit (.int 65)) (.ccons .LtE (.loc 0) (.ccons .LtE (.lit (.int 90)) .nil))) (.bin .Add (.loc 0) (.lit (.int 32))) (.loc 0)))
    .nil)
noncomputable def d_lower_code : DefR := ⟨114, b_lower_code, [Str.ofString "code"], [], [Str.ofString "code"], []⟩
-- lower: locals 0:octets cells 
noncomputable def b_lower : S := (.cons (.ret (.call (.glo (.fn .bytes)) (.cons (.comp (.call (.glo (.ref 114)) (.cons (.loc 0) .nil)) (.one 0) (.loc 0) .nil) .nil)))
    .nil)
noncomputable def d_lower : DefR := ⟨119, b_lower, [Str.ofString "octets"], [], [Str.ofString "octets"], []⟩
-- lower_text: locals 0:text cells 
noncomputable def b_lower_text : S := (.cons (.ret (.meth (.lit (.str [])) .join (.cons (.comp (.call (.glo (.fn .chr)) (.cons (.call (.glo (.ref 114)) (.cons (.call (.glo (.fn .ord)) (.cons (.loc 0) .nil)) .nil)) .nil)) (.one 0) (.loc 0) .nil) .nil)))
    .nil)
noncomputable def d_lower_text : DefR := ⟨124, b_lower_text, [Str.ofString "text"], [], [Str.ofString "text"], []⟩
-- line_spans: locals 0:data 1:at 2:end 3:behind 4:found 5:begin 6:feed 7:last cells 
noncomputable def b_line_spans : S := (.cons (.asg (.loc 3) (.ite (.cmp (.loc 2) (.ccons .Lt (.lit (.int 0)) .nil)) (.call (.glo (.fn .len)) (.cons (.loc 0) .nil)) (.call (.glo (.fn .min)) (.cons (.loc 2) (.cons (.call (.glo (.fn .len)) (.cons (.loc 0) .nil)) .nil)))))
    (.cons (.asg (.loc 4) (.lst .nil))
    (.cons (.asg (.loc 5) (.loc 1))
    (.cons (.whl (.cmp (.loc 5) (.ccons .Lt (.loc 3) .nil)) (.cons (.asg (.loc 6) (.meth (.loc 0) .find (.cons (.lit (.bytes [10])) (.cons (.loc 5) (.cons (.loc 3) .nil)))))
    (.cons (.iff (.cmp (.loc 6) (.ccons .Lt (.lit (.int 0)) .nil)) (.cons (.exp (.meth (.loc 4) .append (.cons (.tup (.cons (.loc 5) (.cons (.loc 3) (.cons (.loc 3) .nil)))) .nil)))
    (.cons (.ret (.loc 4))
    .nil)) .nil)
    (.cons (.asg (.loc 7) (.ite (.and_ (.cons (.cmp (.loc 6) (.ccons .Gt (.loc 5) .nil)) (.cons (.cmp (.item (.loc 0) (.bin .Sub (.loc 6) (.lit (.int 1)))) (.ccons .Eq (.glo (.int 13)) .nil)) .nil))) (.bin .Sub (.loc 6) (.lit (.int 1))) (.loc 6)))
    (.cons (.exp (.meth (.loc 4) .append (.cons (.tup (.cons (.loc 5) (.cons (.loc 7) (.cons (.bin .Add (.loc 6) (.lit (.int 1))) .nil)))) .nil)))
    (.cons (.asg (.loc 5) (.bin .Add (.loc 6) (.lit (.int 1))))
    .nil))))))
    (.cons (.ret (.loc 4))
    .nil)))))
noncomputable def d_line_spans : DefR := ⟨132, b_line_spans, [Str.ofString "data", Str.ofString "at", Str.ofString "end", Str.ofString "behind", Str.ofString "found", Str.ofString "begin", Str.ofString "feed", Str.ofString "last"], [], [Str.ofString "data", Str.ofString "at", Str.ofString "end"], [0, -1]⟩
-- Field.init: locals 0:self 1:name 2:raw cells 
noncomputable def b_Field_init : S := (.cons (.asg (.attr (.loc 0) .name) (.loc 1))
    (.cons (.asg (.attr (.loc 0) .raw) (.loc 2))
    .nil))
noncomputable def d_Field_init : DefR := ⟨147, b_Field_init, [Str.ofString "self", Str.ofString "name", Str.ofString "raw"], [], [Str.ofString "self", Str.ofString "name", Str.ofString "raw"], []⟩
-- Field.word: locals 0:self cells 
noncomputable def b_Field_word : S := (.cons (.ret (.call (.glo (.ref 124)) (.cons (.meth (.lit (.str [])) .join (.cons (.comp (.call (.glo (.fn .chr)) (.cons (.loc 0) .nil)) (.one 0) (.attr (.loc 0) .name) .nil) .nil)) .nil)))
    .nil)
noncomputable def d_Field_word : DefR := ⟨152, b_Field_word, [Str.ofString "self"], [], [Str.ofString "self"], []⟩
-- line_at: locals 0:data 1:at 2:end 3:spot cells 
noncomputable def b_line_at : S := (.cons (.asg (.loc 3) (.meth (.loc 0) .find (.cons (.lit (.bytes [10])) (.cons (.loc 1) (.cons (.loc 2) .nil)))))
    (.cons (.iff (.cmp (.loc 3) (.ccons .Lt (.lit (.int 0)) .nil)) (.cons (.ret (.tup (.cons (.loc 2) (.cons (.loc 2) .nil))))
    .nil) .nil)
    (.cons (.iff (.and_ (.cons (.cmp (.loc 3) (.ccons .Gt (.loc 1) .nil)) (.cons (.cmp (.item (.loc 0) (.bin .Sub (.loc 3) (.lit (.int 1)))) (.ccons .Eq (.lit (.int 13)) .nil)) .nil))) (.cons (.ret (.tup (.cons (.bin .Sub (.loc 3) (.lit (.int 1))) (.cons (.bin .Add (.loc 3) (.lit (.int 1))) .nil))))
    .nil) .nil)
    (.cons (.ret (.tup (.cons (.loc 3) (.cons (.bin .Add (.loc 3) (.lit (.int 1))) .nil))))
    .nil))))
noncomputable def d_line_at : DefR := ⟨173, b_line_at, [Str.ofString "data", Str.ofString "at", Str.ofString "end", Str.ofString "spot"], [], [Str.ofString "data", Str.ofString "at", Str.ofString "end"], []⟩
-- is_name: locals 0:octets 1:code cells 
noncomputable def b_is_name : S := (.cons (.for_ (.one 1) (.loc 0) (.cons (.iff (.or_ (.cons (.cmp (.loc 1) (.ccons .Lt (.lit (.int 33)) .nil)) (.cons (.cmp (.loc 1) (.ccons .Gt (.lit (.int 126)) .nil)) (.cons (.cmp (.loc 1) (.ccons .Eq (.lit (.int 58)) .nil)) .nil)))) (.cons (.ret (.lit (.bool false)))
    .nil) .nil)
    .nil))
    (.cons (.ret (.cmp (.call (.glo (.fn .len)) (.cons (.loc 0) .nil)) (.ccons .Gt (.lit (.int 0)) .nil)))
    .nil))
noncomputable def d_is_name : DefR := ⟨180, b_is_name, [Str.ofString "octets", Str.ofString "code"], [], [Str.ofString "octets"], []⟩
-- colon_in: locals 0:data 1:at 2:end 3:spot cells 
noncomputable def b_colon_in : S := (.cons (.asg (.loc 3) (.meth (.loc 0) .find (.cons (.lit (.bytes [58])) (.cons (.loc 1) (.cons (.loc 2) .nil)))))
    (.cons (.ret (.ite (.and_ (.cons (.cmp (.loc 3) (.ccons .GtE (.lit (.int 0)) .nil)) (.cons (.call (.glo (.ref 180)) (.cons (.slice (.loc 0) (.cons (.loc 1) .nil) (.cons (.loc 3) .nil)) .nil)) .nil))) (.loc 3) (.neg (.lit (.int 1)))))
    .nil))
noncomputable def d_colon_in : DefR := ⟨187, b_colon_in, [Str.ofString "data", Str.ofString "at", Str.ofString "end", Str.ofString "spot"], [], [Str.ofString "data", Str.ofString "at", Str.ofString "end"], []⟩
-- read_spans: locals 0:data 1:at 2:end 3:stop 4:rows 5:here 6:last 7:later 8:colon cells 
noncomputable def b_read_spans : S := (.cons (.asg (.loc 3) (.ite (.cmp (.loc 2) (.ccons .Lt (.lit (.int 0)) .nil)) (.call (.glo (.fn .len)) (.cons (.loc 0) .nil)) (.loc 2)))
    (.cons (.asg (.loc 4) (.lst .nil))
    (.cons (.asg (.loc 5) (.loc 1))
    (.cons (.whl (.cmp (.loc 5) (.ccons .Lt (.loc 3) .nil)) (.cons (.asg (.tup (.cons (.loc 6) (.cons (.loc 7) .nil))) (.call (.glo (.ref 173)) (.cons (.loc 0) (.cons (.loc 5) (.cons (.loc 3) .nil)))))
    (.cons (.iff (.cmp (.loc 6) (.ccons .Eq (.loc 5) .nil)) (.cons (.ret (.tup (.cons (.loc 4) (.cons (.loc 7) .nil))))
    .nil) .nil)
    (.cons (.asg (.loc 8) (.call (.glo (.ref 187)) (.cons (.loc 0) (.cons (.loc 5) (.cons (.loc 6) .nil)))))
    (.cons (.iff (.cmp (.loc 8) (.ccons .Lt (.lit (.int 0)) .nil)) (.cons (.ret (.tup (.cons (.loc 4) (.cons (.loc 5) .nil))))
    .nil) .nil)
    (.cons (.whl (.and_ (.cons (.cmp (.loc 7) (.ccons .Lt (.loc 3) .nil)) (.cons (.cmp (.item (.loc 0) (.loc 7)) (.ccons .In (.glo (.con .whiteH)) .nil)) .nil))) (.cons (.asg (.tup (.cons (.loc 6) (.cons (.loc 7) .nil))) (.call (.glo (.ref 173)) (.cons (.loc 0) (.cons (.loc 7) (.cons (.loc 3) .nil)))))
    .nil))
    (.cons (.exp (.meth (.loc 4) .append (.cons (.tup (.cons (.call (.glo (.ref 162)) (.cons (.slice (.loc 0) (.cons (.loc 5) .nil) (.cons (.loc 8) .nil)) (.cons (.slice (.loc 0) (.cons (.bin .Add (.loc 8) (.lit (.int 1))) .nil) (.cons (.loc 6) .nil)) .nil))) (.cons (.loc 5) (.cons (.loc 7) .nil)))) .nil)))
    (.cons (.asg (.loc 5) (.loc 7))
    .nil))))))))
    (.cons (.ret (.tup (.cons (.loc 4) (.cons (.loc 3) .nil))))
    .nil)))))
noncomputable def d_read_spans : DefR := ⟨195, b_read_spans, [Str.ofString "data", Str.ofString "at", Str.ofString "end", Str.ofString "stop", Str.ofString "rows", Str.ofString "here", Str.ofString "last", Str.ofString "later", Str.ofString "colon"], [], [Str.ofString "data", Str.ofString "at", Str.ofString "end"], [0, -1]⟩
-- read_fields: locals 0:data 1:at 2:end 3:rows 4:body cells 
noncomputable def b_read_fields : S := (.cons (.asg (.tup (.cons (.loc 3) (.cons (.loc 4) .nil))) (.call (.glo (.ref 195)) (.cons (.loc 0) (.cons (.loc 1) (.cons (.loc 2) .nil)))))
    (.cons (.ret (.tup (.cons (.comp (.item (.loc 0) (.lit (.int 0))) (.one 0) (.loc 3) .nil) (.cons (.loc 4) .nil))))
    .nil))
noncomputable def d_read_fields : DefR := ⟨201, b_read_fields, [Str.ofString "data", Str.ofString "at", Str.ofString "end", Str.ofString "rows", Str.ofString "body"], [], [Str.ofString "data", Str.ofString "at", Str.ofString "end"], [0, -1]⟩
-- rows_of: locals 0:raw 1:rows 2:at 3:last 4:later cells 
noncomputable def b_rows_of : S := (.cons (.asg (.loc 1) (.lst .nil))
    (.cons (.asg (.loc 2) (.lit (.int 0)))
    (.cons (.whl (.lit (.bool true)) (.cons (.asg (.tup (.cons (.loc 3) (.cons (.loc 4) .nil))) (.call (.glo (.ref 173)) (.cons (.loc 0) (.cons (.loc 2) (.cons (.call (.glo (.fn .len)) (.cons (.loc 0) .nil)) .nil)))))
    (.cons (.exp (.meth (.loc 1) .append (.cons (.slice (.loc 0) (.cons (.loc 2) .nil) (.cons (.loc 3) .nil)) .nil)))
    (.cons (.iff (.cmp (.loc 3) (.ccons .Eq (.call (.glo (.fn .len)) (.cons (.loc 0) .nil)) .nil)) (.cons (.ret (.loc 1))
    .nil) .nil)
    (.cons (.asg (.loc 2) (.loc 4))
    .nil)))))
    .nil)))
noncomputable def d_rows_of : DefR := ⟨208, b_rows_of, [Str.ofString "raw", Str.ofString "rows", Str.ofString "at", Str.ofString "last", Str.ofString "later"], [], [Str.ofString "raw"], []⟩
-- unfolded: locals 0:raw cells 
noncomputable def b_unfolded : S := (.cons (.ret (.meth (.meth (.lit (.bytes [])) .join (.cons (.call (.glo (.ref 208)) (.cons (.loc 0) .nil)) .nil)) .strip (.cons (.lit (.bytes [32, 9])) .nil)))
    .nil)
noncomputable def d_unfolded : DefR := ⟨215, b_unfolded, [Str.ofString "raw"], [], [Str.ofString "raw"], []⟩
-- first_body: locals 0:fields 1:word 2:wanted 3:field cells 
noncomputable def b_first_body : S := (.cons (.asg (.loc 2) (.call (.glo (.ref 124)) (.cons (.loc 1) .nil)))
    (.cons (.for_ (.one 3) (.loc 0) (.cons (.iff (.cmp (.meth (.loc 3) .word .nil) (.ccons .Eq (.loc 2) .nil)) (.cons (.ret (.call (.glo (.ref 215)) (.cons (.attr (.loc 3) .raw) .nil)))
    .nil) .nil)
    .nil))
    (.cons (.ret (.lit .none))
    .nil)))
noncomputable def d_first_body : DefR := ⟨222, b_first_body, [Str.ofString "fields", Str.ofString "word", Str.ofString "wanted", Str.ofString "field"], [], [Str.ofString "fields", Str.ofString "word"], []⟩
-- need_charset: locals 0:charset cells 
noncomputable def b_need_charset : S := (.cons (.iff (.cmp (.loc 0) (.ccons .NotIn (.glo (.con .charsets)) .nil)) (.cons .bad
    .nil) .nil)
    .nil)
noncomputable def d_need_charset : DefR := ⟨296, b_need_charset, [Str.ofString "charset"], [], [Str.ofString "charset"], []⟩
-- follower_span: locals 0:lead cells 
noncomputable def b_follower_span : S := (.cons (.iff (.cmp (.lit (.int 194)) (.ccons .LtE (.loc 0) (.ccons .LtE (.lit (.int 223)) .nil))) (.cons (.ret (.tup (.cons (.lit (.int 128)) (.cons (.lit (.int 191)) (.cons (.lit (.int 1)) .nil)))))
    .nil) .nil)
    (.cons (.iff (.cmp (.lit (.int 224)) (.ccons .LtE (.loc 0) (.ccons .LtE (.lit (.int 239)) .nil))) (.cons (.ret (.tup (.cons (.meth .bad .get (.cons (.loc 0) (.cons (.lit (.int 128)) .nil))) (.cons (.meth .bad .get (.cons (.loc 0) (.cons (.lit (.int 191)) .nil))) (.cons (.lit (.int 2)) .nil)))))
    .nil) .nil)
    (.cons (.iff (.cmp (.lit (.int 240)) (.ccons .LtE (.loc 0) (.ccons .LtE (.lit (.int 244)) .nil))) (.cons (.ret (.tup (.cons (.meth .bad .get (.cons (.loc 0) (.cons (.lit (.int 128)) .nil))) (.cons (.meth .bad .get (.cons (.loc 0) (.cons (.lit (.int 191)) .nil))) (.cons (.lit (.int 3)) .nil)))))
    .nil) .nil)
    (.cons (.ret (.tup (.cons (.lit (.int 0)) (.cons (.lit (.int 0)) (.cons (.lit (.int 0)) .nil)))))
    .nil))))
noncomputable def d_follower_span : DefR := ⟨303, b_follower_span, [Str.ofString "lead"], [], [Str.ofString "lead"], []⟩
-- utf8_sign: locals 0:octets 1:at 2:lead 3:least 4:most 5:count 6:code 7:place cells 
noncomputable def b_utf8_sign : S := (.cons (.asg (.loc 2) (.item (.loc 0) (.loc 1)))
    (.cons (.iff (.cmp (.loc 2) (.ccons .Lt (.lit (.int 128)) .nil)) (.cons (.ret (.tup (.cons (.loc 2) (.cons (.lit (.int 1)) .nil))))
    .nil) .nil)
    (.cons (.asg (.tup (.cons (.loc 3) (.cons (.loc 4) (.cons (.loc 5) .nil)))) (.call (.glo (.ref 303)) (.cons (.loc 2) .nil)))
    (.cons (.iff (.cmp (.loc 5) (.ccons .Eq (.lit (.int 0)) .nil)) (.cons (.ret (.tup (.cons (.neg (.lit (.int 1))) (.cons (.lit (.int 1)) .nil))))
    .nil) .nil)
    (.cons (.asg (.loc 6) (.bin .Mod (.loc 2) .bad))
    (.cons (.for_ (.one 7) (.call (.glo (.fn .range)) (.cons (.lit (.int 1)) (.cons (.bin .Add (.loc 5) (.lit (.int 1))) .nil))) (.cons (.iff (.or_ (.cons (.cmp (.bin .Add (.loc 1) (.loc 7)) (.ccons .GtE (.call (.glo (.fn .len)) (.cons (.loc 0) .nil)) .nil)) (.cons (.not (.cmp (.loc 3) (.ccons .LtE (.item (.loc 0) (.bin .Add (.loc 1) (.loc 7))) (.ccons .LtE (.loc 4) .nil)))) .nil))) (.cons (.ret (.tup (.cons (.neg (.lit (.int 1))) (.cons (.loc 7) .nil))))
    .nil) .nil)
    (.cons (.asg (.loc 6) (.bin .Add (.bin .Mult (.loc 6) (.lit (.int 64))) (.bin .Mod (.item (.loc 0) (.bin .Add (.loc 1) (.loc 7))) (.lit (.int 64)))))
    (.cons .bad
    .nil))))
    (.cons (.ret (.tup (.cons (.loc 6) (.cons (.bin .Add (.loc 5) (.lit (.int 1))) .nil))))
    .nil)))))))
noncomputable def d_utf8_sign : DefR := ⟨310, b_utf8_sign, [Str.ofString "octets", Str.ofString "at", Str.ofString "lead", Str.ofString "least", Str.ofString "most", Str.ofString "count", Str.ofString "code", Str.ofString "place"], [], [Str.ofString "octets", Str.ofString "at"], []⟩
-- sign_at: locals 0:charset 1:octets 2:at cells 
noncomputable def b_sign_at : S := (.cons (.iff (.cmp (.loc 0) (.ccons .Eq (.glo (.str [117, 116, 102, 45, 56])) .nil)) (.cons (.ret (.call (.glo (.ref 310)) (.cons (.loc 1) (.cons (.loc 2) .nil))))
    .nil) .nil)
    (.cons (.iff (.and_ (.cons (.cmp (.loc 0) (.ccons .Eq (.glo (.str [117, 115, 45, 97, 115, 99, 105, 105])) .nil)) (.cons (.cmp (.item (.loc 1) (.loc 2)) (.ccons .Gt (.lit (.int 127)) .nil)) .nil))) (.cons (.ret (.tup (.cons (.neg (.lit (.int 1))) (.cons (.lit (.int 1)) .nil))))
    .nil) .nil)
    (.cons (.ret (.tup (.cons (.item (.loc 1) (.loc 2)) (.cons (.lit (.int 1)) .nil))))
    .nil)))
noncomputable def d_sign_at : DefR := ⟨317, b_sign_at, [Str.ofString "charset", Str.ofString "octets", Str.ofString "at"], [], [Str.ofString "charset", Str.ofString "octets", Str.ofString "at"], []⟩
-- strict_text: locals 0:charset 1:octets 2:signs 3:at 4:code 5:length cells 
noncomputable def b_strict_text : S := (.cons (.exp (.call (.glo (.ref 296)) (.cons (.loc 0) .nil)))
    (.cons (.asg (.loc 2) (.lst .nil))
    (.cons (.asg (.loc 3) (.lit (.int 0)))
    (.cons (.whl (.cmp (.loc 3) (.ccons .Lt (.call (.glo (.fn .len)) (.cons (.loc 1) .nil)) .nil)) (.cons (.asg (.tup (.cons (.loc 4) (.cons (.loc 5) .nil))) (.call (.glo (.ref 317)) (.cons (.loc 0) (.cons (.loc 1) (.cons (.loc 3) .nil)))))
    (.cons (.iff (.cmp (.loc 4) (.ccons .Lt (.lit (.int 0)) .nil)) (.cons .bad
    .nil) .nil)
    (.cons (.exp (.meth (.loc 2) .append (.cons (.call (.glo (.fn .chr)) (.cons (.loc 4) .nil)) .nil)))
    (.cons (.asg (.loc 3) (.bin .Add (.loc 3) (.loc 5)))
    .nil)))))
    (.cons (.ret (.meth (.lit (.str [])) .join (.cons (.loc 2) .nil)))
    .nil)))))
noncomputable def d_strict_text : DefR := ⟨331, b_strict_text, [Str.ofString "charset", Str.ofString "octets", Str.ofString "signs", Str.ofString "at", Str.ofString "code", Str.ofString "length"], [], [Str.ofString "charset", Str.ofString "octets"], []⟩
-- guessed_text: locals 0:octets cells 
noncomputable def b_guessed_text : S := (.cons (.try_ (.cons (.ret (.call (.glo (.ref 331)) (.cons (.glo (.str [117, 116, 102, 45, 56])) (.cons (.loc 0) .nil))))
    .nil))
    .nil)
noncomputable def d_guessed_text : DefR := ⟨338, b_guessed_text, [Str.ofString "octets"], [], [Str.ofString "octets"], []⟩
-- line_end: locals 0:data 1:at cells 
noncomputable def b_line_end : S := (.cons (.iff (.cmp (.slice (.loc 0) (.cons (.loc 1) .nil) (.cons (.bin .Add (.loc 1) (.lit (.int 1))) .nil)) (.ccons .Eq (.lit (.bytes [10])) .nil)) (.cons (.ret (.bin .Add (.loc 1) (.lit (.int 1))))
    .nil) .nil)
    (.cons (.ret (.ite (.cmp (.slice (.loc 0) (.cons (.loc 1) .nil) (.cons (.bin .Add (.loc 1) (.lit (.int 2))) .nil)) (.ccons .Eq (.lit (.bytes [13, 10])) .nil)) (.bin .Add (.loc 1) (.lit (.int 2))) (.neg (.lit (.int 1)))))
    .nil))
noncomputable def d_line_end : DefR := ⟨346, b_line_end, [Str.ofString "data", Str.ofString "at"], [], [Str.ofString "data", Str.ofString "at"], []⟩
-- inside_at: locals 0:data 1:at 2:begun 3:behind cells 
noncomputable def b_inside_at : S := (.cons (.iff (.or_ (.cons (.cmp (.loc 1) (.ccons .GtE (.call (.glo (.fn .len)) (.cons (.loc 0) .nil)) .nil)) (.cons (.and_ (.cons (.cmp (.item (.loc 0) (.loc 1)) (.ccons .Eq (.lit (.int 92)) .nil)) (.cons (.cmp (.bin .Add (.loc 1) (.lit (.int 1))) (.ccons .Eq (.call (.glo (.fn .len)) (.cons (.loc 0) .nil)) .nil)) .nil))) .nil))) (.cons .bad
    .nil) .nil)
    (.cons (.iff (.cmp (.item (.loc 0) (.loc 1)) (.ccons .Eq (.lit (.int 92)) .nil)) (.cons (.iff (.cmp (.item (.loc 0) (.bin .Add (.loc 1) (.lit (.int 1)))) (.ccons .In (.glo (.con .never)) .nil)) (.cons .bad
    .nil) .nil)
    (.cons (.ret (.tup (.cons (.slice (.loc 0) (.cons (.bin .Add (.loc 1) (.lit (.int 1))) .nil) (.cons (.bin .Add (.loc 1) (.lit (.int 2))) .nil)) (.cons (.bin .Add (.loc 1) (.lit (.int 2))) .nil))))
    .nil)) .nil)
    (.cons (.asg (.loc 3) (.call (.glo (.ref 346)) (.cons (.loc 0) (.cons (.loc 1) .nil))))
    (.cons (.iff (.cmp (.loc 3) (.ccons .GtE (.lit (.int 0)) .nil)) (.cons (.ret (.tup (.cons (.lit (.bytes [])) (.cons (.loc 3) .nil))))
    .nil) .nil)
    (.cons (.iff (.cmp (.item (.loc 0) (.loc 1)) (.ccons .In (.glo (.con .never)) .nil)) (.cons .bad
    .nil) .nil)
    (.cons (.ret (.tup (.cons (.slice (.loc 0) (.cons (.loc 1) .nil) (.cons (.bin .Add (.loc 1) (.lit (.int 1))) .nil)) (.cons (.bin .Add (.loc 1) (.lit (.int 1))) .nil))))
    .nil))))))
noncomputable def d_inside_at : DefR := ⟨353, b_inside_at, [Str.ofString "data", Str.ofString "at", Str.ofString "begun", Str.ofString "behind"], [], [Str.ofString "data", Str.ofString "at", Str.ofString "begun"], []⟩
-- closed_at: locals 0:data 1:begun 2:closing 3:barred 4:parts 5:at 6:octets cells 
noncomputable def b_closed_at : S := (.cons (.asg (.loc 4) (.lst .nil))
    (.cons (.asg (.loc 5) (.bin .Add (.loc 1) (.lit (.int 1))))
    (.cons (.whl (.cmp (.slice (.loc 0) (.cons (.loc 5) .nil) (.cons (.bin .Add (.loc 5) (.lit (.int 1))) .nil)) (.ccons .NotEq (.loc 2) .nil)) (.cons (.iff (.and_ (.cons (.cmp (.loc 5) (.ccons .Lt (.call (.glo (.fn .len)) (.cons (.loc 0) .nil)) .nil)) (.cons (.cmp (.item (.loc 0) (.loc 5)) (.ccons .In (.loc 3) .nil)) .nil))) (.cons .bad
    .nil) .nil)
    (.cons (.asg (.tup (.cons (.loc 6) (.cons (.loc 5) .nil))) (.call (.glo (.ref 353)) (.cons (.loc 0) (.cons (.loc 5) (.cons (.loc 1) .nil)))))
    (.cons (.exp (.meth (.loc 4) .append (.cons (.loc 6) .nil)))
    .nil))))
    (.cons (.ret (.tup (.cons (.meth (.lit (.bytes [])) .join (.cons (.loc 4) .nil)) (.cons (.bin .Add (.loc 5) (.lit (.int 1))) .nil))))
    .nil))))
noncomputable def d_closed_at : DefR := ⟨360, b_closed_at, [Str.ofString "data", Str.ofString "begun", Str.ofString "closing", Str.ofString "barred", Str.ofString "parts", Str.ofString "at", Str.ofString "octets"], [], [Str.ofString "data", Str.ofString "begun", Str.ofString "closing", Str.ofString "barred"], []⟩
-- Kind.init: locals 0:self 1:top 2:sub 3:params cells 
noncomputable def b_Kind_init : S := (.cons (.asg (.attr (.loc 0) .top) (.loc 1))
    (.cons (.asg (.attr (.loc 0) .sub) (.loc 2))
    (.cons (.asg (.attr (.loc 0) .params) (.loc 3))
    .nil)))
noncomputable def d_Kind_init : DefR := ⟨382, b_Kind_init, [Str.ofString "self", Str.ofString "top", Str.ofString "sub", Str.ofString "params"], [], [Str.ofString "self", Str.ofString "top", Str.ofString "sub", Str.ofString "params"], []⟩
-- Kind.is_multi: locals 0:self cells 
noncomputable def b_Kind_is_multi : S := (.cons (.ret (.cmp (.attr (.loc 0) .top) (.ccons .Eq (.lit (.str [109, 117, 108, 116, 105, 112, 97, 114, 116])) .nil)))
    .nil)
noncomputable def d_Kind_is_multi : DefR := ⟨396, b_Kind_is_multi, [Str.ofString "self"], [], [Str.ofString "self"], []⟩
-- Kind.is_letter: locals 0:self cells 
noncomputable def b_Kind_is_letter : S := (.cons (.ret (.and_ (.cons (.cmp (.attr (.loc 0) .top) (.ccons .Eq (.lit (.str [109, 101, 115, 115, 97, 103, 101])) .nil)) (.cons (.cmp (.attr (.loc 0) .sub) (.ccons .Eq (.lit (.str [114, 102, 99, 56, 50, 50])) .nil)) .nil))))
    .nil)
noncomputable def d_Kind_is_letter : DefR := ⟨403, b_Kind_is_letter, [Str.ofString "self"], [], [Str.ofString "self"], []⟩
-- plain_kind: locals  cells 
noncomputable def b_plain_kind : S := (.cons (.ret (.call (.glo (.ref 413)) (.cons (.lit (.str [116, 101, 120, 116])) (.cons (.lit (.str [112, 108, 97, 105, 110])) (.cons (.dct1 [99, 104, 97, 114, 115, 101, 116] [117, 115, 45, 97, 115, 99, 105, 105]) .nil)))))
    .nil)
noncomputable def d_plain_kind : DefR := ⟨424, b_plain_kind, [], [], [], []⟩
-- is_token_code: locals 0:code cells 
noncomputable def b_is_token_code : S := (.cons (.ret (.and_ (.cons (.cmp (.lit (.int 32)) (.ccons .Lt (.loc 0) (.ccons .Lt (.lit (.int 127)) .nil))) (.cons (.cmp (.loc 0) (.ccons .NotIn (.glo (.bytes [40, 41, 60, 62, 64, 44, 59, 58, 92, 34, 47, 91, 93, 63, 61])) .nil)) .nil))))
    .nil)
noncomputable def d_is_token_code : DefR := ⟨431, b_is_token_code, [Str.ofString "code"], [], [Str.ofString "code"], []⟩
-- skip_between: locals 0:cursor cells 
noncomputable def b_skip_between : S := (.cons (.whl (.not (.meth (.loc 0) .isDone .nil)) (.cons (.iff (.cmp (.meth (.loc 0) .peek .nil) (.ccons .In (.glo (.con .whiteP)) .nil)) (.cons (.exp (.meth (.loc 0) .take .nil))
    .nil) (.cons (.iff (.cmp (.meth (.loc 0) .peek .nil) (.ccons .Eq (.glo (.int 40)) .nil)) (.cons (.asg (.attr (.loc 0) .pos) (.item (.call (.glo (.ref 367)) (.cons (.attr (.loc 0) .data) (.cons (.attr (.loc 0) .pos) .nil))) (.lit (.int 1))))
    .nil) (.cons .ret0
    .nil))
    .nil))
    .nil))
    .nil)
noncomputable def d_skip_between : DefR := ⟨438, b_skip_between, [Str.ofString "cursor"], [], [Str.ofString "cursor"], []⟩
-- take_token: locals 0:cursor 1:first cells 
noncomputable def b_take_token : S := (.cons (.asg (.loc 1) (.attr (.loc 0) .pos))
    (.cons (.whl (.call (.glo (.ref 431)) (.cons (.meth (.loc 0) .peek .nil) .nil)) (.cons (.exp (.meth (.loc 0) .take .nil))
    .nil))
    (.cons (.iff (.cmp (.attr (.loc 0) .pos) (.ccons .Eq (.loc 1) .nil)) (.cons .bad
    .nil) .nil)
    (.cons (.ret (.slice (.attr (.loc 0) .data) (.cons (.loc 1) .nil) (.cons (.attr (.loc 0) .pos) .nil)))
    .nil))))
noncomputable def d_take_token : DefR := ⟨445, b_take_token, [Str.ofString "cursor", Str.ofString "first"], [], [Str.ofString "cursor"], []⟩
-- is_worth_code: locals 0:code cells 
noncomputable def b_is_worth_code : S := (.cons (.ret (.or_ (.cons (.cmp (.loc 0) (.ccons .Gt (.lit (.int 127)) .nil)) (.cons (.call (.glo (.ref 431)) (.cons (.loc 0) .nil)) .nil))))
    .nil)
noncomputable def d_is_worth_code : DefR := ⟨452, b_is_worth_code, [Str.ofString "code"], [], [Str.ofString "code"], []⟩
-- take_worth: locals 0:cursor 1:worth 2:first cells 
noncomputable def b_take_worth : S := (.cons (.iff (.cmp (.meth (.loc 0) .peek .nil) (.ccons .Eq (.glo (.int 34)) .nil)) (.cons (.asg (.tup (.cons (.loc 1) (.cons (.attr (.loc 0) .pos) .nil))) (.call (.glo (.ref 360)) (.cons (.attr (.loc 0) .data) (.cons (.attr (.loc 0) .pos) (.cons (.lit (.bytes [34])) (.cons (.lit (.bytes [])) .nil))))))
    (.cons (.ret (.loc 1))
    .nil)) .nil)
    (.cons (.asg (.loc 2) (.attr (.loc 0) .pos))
    (.cons (.whl (.call (.glo (.ref 452)) (.cons (.meth (.loc 0) .peek .nil) .nil)) (.cons (.exp (.meth (.loc 0) .take .nil))
    .nil))
    (.cons (.iff (.cmp (.attr (.loc 0) .pos) (.ccons .Eq (.loc 2) .nil)) (.cons .bad
    .nil) .nil)
    (.cons (.ret (.slice (.attr (.loc 0) .data) (.cons (.loc 2) .nil) (.cons (.attr (.loc 0) .pos) .nil)))
    .nil)))))
noncomputable def d_take_worth : DefR := ⟨459, b_take_worth, [Str.ofString "cursor", Str.ofString "worth", Str.ofString "first"], [], [Str.ofString "cursor"], []⟩
-- small_word: locals 0:octets cells 
noncomputable def b_small_word : S := (.cons (.ret (.meth (.lit (.str [])) .join (.cons (.comp (.call (.glo (.fn .chr)) (.cons (.loc 0) .nil)) (.one 0) (.call (.glo (.ref 119)) (.cons (.loc 0) .nil)) .nil) .nil)))
    .nil)
noncomputable def d_small_word : DefR := ⟨464, b_small_word, [Str.ofString "octets"], [], [Str.ofString "octets"], []⟩
-- take_pairs: locals 0:cursor 1:pairs 2:name cells 
noncomputable def b_take_pairs : S := (.cons (.asg (.loc 1) (.lst .nil))
    (.cons (.exp (.call (.glo (.ref 438)) (.cons (.loc 0) .nil)))
    (.cons (.whl (.not (.meth (.loc 0) .isDone .nil)) (.cons (.iff (.cmp (.meth (.loc 0) .take .nil) (.ccons .NotEq (.glo (.int 59)) .nil)) (.cons .bad
    .nil) .nil)
    (.cons (.exp (.call (.glo (.ref 438)) (.cons (.loc 0) .nil)))
    (.cons (.iff (.and_ (.cons (.not (.meth (.loc 0) .isDone .nil)) (.cons (.cmp (.meth (.loc 0) .peek .nil) (.ccons .NotEq (.glo (.int 59)) .nil)) .nil))) (.cons (.asg (.loc 2) (.call (.glo (.ref 464)) (.cons (.call (.glo (.ref 445)) (.cons (.loc 0) .nil)) .nil)))
    (.cons (.exp (.call (.glo (.ref 438)) (.cons (.loc 0) .nil)))
    (.cons (.iff (.cmp (.meth (.loc 0) .take .nil) (.ccons .NotEq (.glo (.int 61)) .nil)) (.cons .bad
    .nil) .nil)
    (.cons (.exp (.call (.glo (.ref 438)) (.cons (.loc 0) .nil)))
    (.cons (.exp (.meth (.loc 1) .append (.cons (.tup (.cons (.loc 2) (.cons (.call (.glo (.ref 459)) (.cons (.loc 0) .nil)) .nil))) .nil)))
    (.cons (.exp (.call (.glo (.ref 438)) (.cons (.loc 0) .nil)))
    .nil)))))) .nil)
    .nil))))
    (.cons (.ret (.loc 1))
    .nil))))
noncomputable def d_take_pairs : DefR := ⟨471, b_take_pairs, [Str.ofString "cursor", Str.ofString "pairs", Str.ofString "name"], [], [Str.ofString "cursor"], []⟩
-- part_of: locals 0:name 1:spot 2:is_encoded 3:number cells 
noncomputable def b_part_of : S := (.cons (.asg (.loc 1) (.meth (.loc 0) .find (.cons (.lit (.str [42])) .nil)))
    (.cons (.iff (.cmp (.loc 1) (.ccons .Lt (.lit (.int 1)) .nil)) (.cons (.ret (.lit .none))
    .nil) .nil)
    (.cons (.asg (.loc 2) (.cmp (.item (.loc 0) (.neg (.lit (.int 1)))) (.ccons .Eq (.lit (.str [42])) .nil)))
    (.cons (.iff (.and_ (.cons (.loc 2) (.cons (.cmp (.loc 1) (.ccons .Eq (.bin .Sub (.call (.glo (.fn .len)) (.cons (.loc 0) .nil)) (.lit (.int 1))) .nil)) .nil))) (.cons (.ret (.tup (.cons (.slice (.loc 0) .nil (.cons (.loc 1) .nil)) (.cons (.lit (.int 0)) (.cons (.lit (.bool true)) .nil)))))
    .nil) .nil)
    (.cons (.asg (.loc 3) .bad)
    (.cons (.ret (.ite (.cmp (.loc 3) (.ccons .GtE (.lit (.int 0)) .nil)) (.tup (.cons (.slice (.loc 0) .nil (.cons (.loc 1) .nil)) (.cons (.loc 3) (.cons (.loc 2) .nil)))) (.lit .none)))
    .nil))))))
noncomputable def d_part_of : DefR := ⟨485, b_part_of, [Str.ofString "name", Str.ofString "spot", Str.ofString "is_encoded", Str.ofString "number"], [], [Str.ofString "name"], []⟩
-- params_of: locals 0:pairs 1:plain 2:parted 3:name 4:worth 5:part 6:base 7:number 8:is_encoded cells 
noncomputable def b_params_of : S := (.cons (.asg (.loc 1) .dct0)
    (.cons (.asg (.loc 2) .dct0)
    (.cons (.for_ (.tup [3, 4]) (.loc 0) (.cons (.asg (.loc 5) (.call (.glo (.ref 485)) (.cons (.loc 3) .nil)))
    (.cons (.iff (.cmp (.loc 5) (.ccons .Is (.lit .none) .nil)) (.cons (.iff (.cmp (.loc 3) (.ccons .NotIn (.loc 1) .nil)) (.cons (.asg (.item (.loc 1) (.loc 3)) (.call (.glo (.ref 338)) (.cons (.loc 4) .nil)))
    .nil) .nil)
    .nil) (.cons (.asg (.tup (.cons (.loc 6) (.cons (.loc 7) (.cons (.loc 8) .nil)))) (.loc 5))
    (.cons (.iff (.cmp (.loc 6) (.ccons .NotIn (.loc 2) .nil)) (.cons (.asg (.item (.loc 2) (.loc 6)) .dct0)
    .nil) .nil)
    (.cons (.iff (.cmp (.loc 7) (.ccons .NotIn (.item (.loc 2) (.loc 6)) .nil)) (.cons (.asg (.item (.item (.loc 2) (.loc 6)) (.loc 7)) (.tup (.cons (.loc 8) (.cons (.loc 4) .nil))))
    .nil) .nil)
    .nil))))
    .nil)))
    (.cons (.for_ (.one 6) (.loc 2) (.cons (.iff (.cmp (.lit (.int 0)) (.ccons .In (.item (.loc 2) (.loc 6)) .nil)) (.cons (.asg (.item (.loc 1) (.loc 6)) .bad)
    .nil) .nil)
    .nil))
    (.cons (.ret (.loc 1))
    .nil)))))
noncomputable def d_params_of : DefR := ⟨516, b_params_of, [Str.ofString "pairs", Str.ofString "plain", Str.ofString "parted", Str.ofString "name", Str.ofString "worth", Str.ofString "part", Str.ofString "base", Str.ofString "number", Str.ofString "is_encoded"], [], [Str.ofString "pairs"], []⟩
-- strict_kind: locals 0:octets 1:cursor 2:top 3:sub cells 
noncomputable def b_strict_kind : S := (.cons (.asg (.loc 1) (.call (.glo (.ref 103)) (.cons (.loc 0) .nil)))
    (.cons (.exp (.call (.glo (.ref 438)) (.cons (.loc 1) .nil)))
    (.cons (.asg (.loc 2) (.call (.glo (.ref 464)) (.cons (.call (.glo (.ref 445)) (.cons (.loc 1) .nil)) .nil)))
    (.cons (.exp (.call (.glo (.ref 438)) (.cons (.loc 1) .nil)))
    (.cons (.iff (.not (.meth (.loc 1) .skip (.cons (.lit (.bytes [47])) .nil))) (.cons .bad
    .nil) .nil)
    (.cons (.exp (.call (.glo (.ref 438)) (.cons (.loc 1) .nil)))
    (.cons (.asg (.loc 3) (.call (.glo (.ref 464)) (.cons (.call (.glo (.ref 445)) (.cons (.loc 1) .nil)) .nil)))
    (.cons (.ret (.call (.glo (.ref 413)) (.cons (.loc 2) (.cons (.loc 3) (.cons (.call (.glo (.ref 516)) (.cons (.call (.glo (.ref 471)) (.cons (.loc 1) .nil)) .nil)) .nil)))))
    .nil))))))))
noncomputable def d_strict_kind : DefR := ⟨523, b_strict_kind, [Str.ofString "octets", Str.ofString "cursor", Str.ofString "top", Str.ofString "sub"], [], [Str.ofString "octets"], []⟩
-- read_kind: locals 0:octets cells 
noncomputable def b_read_kind : S := (.cons (.iff (.cmp (.loc 0) (.ccons .Is (.lit .none) .nil)) (.cons (.ret (.call (.glo (.ref 424)) .nil))
    .nil) .nil)
    (.cons (.try_ (.cons (.ret (.call (.glo (.ref 523)) (.cons (.loc 0) .nil)))
    .nil))
    .nil))
noncomputable def d_read_kind : DefR := ⟨530, b_read_kind, [Str.ofString "octets"], [], [Str.ofString "octets"], []⟩
-- Part.init: locals 0:self 1:begin 2:body 3:end 4:fields 5:kind cells 
noncomputable def b_Part_init : S := (.cons (.asg (.attr (.loc 0) .beg) (.loc 1))
    (.cons (.asg (.attr (.loc 0) .body) (.loc 2))
    (.cons (.asg (.attr (.loc 0) .fin) (.loc 3))
    (.cons (.asg (.attr (.loc 0) .fields) (.loc 4))
    (.cons (.asg (.attr (.loc 0) .kind) (.loc 5))
    (.cons (.asg (.attr (.loc 0) .enc) (.call (.glo (.ref 564)) (.cons (.loc 4) .nil)))
    (.cons (.asg (.attr (.loc 0) .kids) (.lst .nil))
    (.cons (.asg (.attr (.loc 0) .inner) (.lit .none))
    .nil))))))))
noncomputable def d_Part_init : DefR := ⟨545, b_Part_init, [Str.ofString "self", Str.ofString "begin", Str.ofString "body", Str.ofString "end", Str.ofString "fields", Str.ofString "kind"], [], [Str.ofString "self", Str.ofString "begin", Str.ofString "body", Str.ofString "end", Str.ofString "fields", Str.ofString "kind"], []⟩
-- encoding_of: locals 0:fields 1:told_body 2:at 3:word cells 
noncomputable def b_encoding_of : S := (.cons (.asg (.loc 1) (.call (.glo (.ref 222)) (.cons (.loc 0) (.cons (.lit (.str [99, 111, 110, 116, 101, 110, 116, 45, 116, 114, 97, 110, 115, 102, 101, 114, 45, 101, 110, 99, 111, 100, 105, 110, 103])) .nil))))
    (.cons (.iff (.cmp (.loc 1) (.ccons .Is (.lit .none) .nil)) (.cons (.ret (.glo (.str [55, 98, 105, 116])))
    .nil) .nil)
    (.cons (.asg (.loc 2) (.lit (.int 0)))
    (.cons (.whl (.and_ (.cons (.cmp (.loc 2) (.ccons .Lt (.call (.glo (.fn .len)) (.cons (.loc 1) .nil)) .nil)) (.cons (.cmp (.item (.loc 1) (.loc 2)) (.ccons .NotIn (.glo (.bytes [32, 9, 40, 59])) .nil)) .nil))) (.cons (.asg (.loc 2) (.bin .Add (.loc 2) (.lit (.int 1))))
    .nil))
    (.cons (.asg (.loc 3) (.call (.glo (.ref 124)) (.cons (.meth (.lit (.str [])) .join (.cons (.comp (.call (.glo (.fn .chr)) (.cons (.loc 0) .nil)) (.one 0) (.slice (.loc 1) .nil (.cons (.loc 2) .nil)) .nil) .nil)) .nil)))
    (.cons (.ret (.ite (.cmp (.loc 3) (.ccons .Eq (.lit (.str [])) .nil)) (.glo (.str [55, 98, 105, 116])) (.loc 3)))
    .nil))))))
noncomputable def d_encoding_of : DefR := ⟨564, b_encoding_of, [Str.ofString "fields", Str.ofString "told_body", Str.ofString "at", Str.ofString "word"], [], [Str.ofString "fields"], []⟩
-- boundary_way: locals 0:line 1:boundary 2:mark 3:rest cells 
noncomputable def b_boundary_way : S := (.cons (.asg (.loc 2) (.bin .Add (.lit (.bytes [45, 45])) (.loc 1)))
    (.cons (.iff (.cmp (.slice (.loc 0) .nil (.cons (.call (.glo (.fn .len)) (.cons (.loc 2) .nil)) .nil)) (.ccons .NotEq (.loc 2) .nil)) (.cons (.ret (.lit (.str [])))
    .nil) .nil)
    (.cons (.asg (.loc 3) (.meth (.slice (.loc 0) (.cons (.call (.glo (.fn .len)) (.cons (.loc 2) .nil)) .nil) .nil) .rstrip (.cons (.glo (.bytes [32, 9])) .nil)))
    (.cons (.iff (.cmp (.loc 3) (.ccons .Eq (.lit (.bytes [])) .nil)) (.cons (.ret (.lit (.str [110, 101, 120, 116])))
    .nil) .nil)
    (.cons (.ret (.ite (.cmp (.loc 3) (.ccons .Eq (.lit (.bytes [45, 45])) .nil)) (.lit (.str [108, 97, 115, 116])) (.lit (.str []))))
    .nil)))))
noncomputable def d_boundary_way : DefR := ⟨571, b_boundary_way, [Str.ofString "line", Str.ofString "boundary", Str.ofString "mark", Str.ofString "rest"], [], [Str.ofString "line", Str.ofString "boundary"], []⟩
-- part_spans: locals 0:data 1:at 2:end 3:boundary 4:found 5:begun 6:before 7:first 8:last 9:behind 10:way cells 
noncomputable def b_part_spans : S := (.cons (.asg (.loc 4) (.lst .nil))
    (.cons (.asg (.loc 5) (.neg (.lit (.int 1))))
    (.cons (.asg (.loc 6) (.loc 1))
    (.cons (.for_ (.tup [7, 8, 9]) (.call (.glo (.ref 132)) (.cons (.loc 0) (.cons (.loc 1) (.cons (.loc 2) .nil)))) (.cons (.asg (.loc 10) (.call (.glo (.ref 571)) (.cons (.slice (.loc 0) (.cons (.loc 7) .nil) (.cons (.loc 8) .nil)) (.cons (.loc 3) .nil))))
    (.cons (.iff (.cmp (.loc 10) (.ccons .NotEq (.lit (.str [])) .nil)) (.cons (.iff (.cmp (.loc 5) (.ccons .GtE (.lit (.int 0)) .nil)) (.cons (.exp (.meth (.loc 4) .append (.cons (.tup (.cons (.loc 5) (.cons (.call (.glo (.fn .max)) (.cons (.loc 5) (.cons (.loc 6) .nil))) .nil))) .nil)))
    .nil) .nil)
    (.cons (.iff (.cmp (.loc 10) (.ccons .Eq (.lit (.str [108, 97, 115, 116])) .nil)) (.cons (.ret (.loc 4))
    .nil) .nil)
    (.cons (.asg (.loc 5) (.loc 9))
    .nil))) .nil)
    (.cons (.asg (.loc 6) (.loc 8))
    .nil))))
    (.cons (.iff (.cmp (.loc 5) (.ccons .GtE (.lit (.int 0)) .nil)) (.cons (.exp (.meth (.loc 4) .append (.cons (.tup (.cons (.loc 5) (.cons (.loc 2) .nil))) .nil)))
    .nil) .nil)
    (.cons (.ret (.loc 4))
    .nil))))))
noncomputable def d_part_spans : DefR := ⟨578, b_part_spans, [Str.ofString "data", Str.ofString "at", Str.ofString "end", Str.ofString "boundary", Str.ofString "found", Str.ofString "begun", Str.ofString "before", Str.ofString "first", Str.ofString "last", Str.ofString "behind", Str.ofString "way"], [], [Str.ofString "data", Str.ofString "at", Str.ofString "end", Str.ofString "boundary"], []⟩
-- kid_spans: locals 0:data 1:part 2:told_boundary 3:boundary 4:found cells 
noncomputable def b_kid_spans : S := (.cons (.asg (.loc 2) (.meth (.attr (.attr (.loc 1) .kind) .params) .get (.cons (.lit (.str [98, 111, 117, 110, 100, 97, 114, 121])) (.cons (.lit (.str [])) .nil))))
    (.cons (.asg (.loc 3) (.call (.glo (.fn .bytes)) (.cons (.comp (.call (.glo (.fn .ord)) (.cons (.loc 0) .nil)) (.one 0) (.loc 2) (.cons (.cmp (.call (.glo (.fn .ord)) (.cons (.loc 0) .nil)) (.ccons .Lt (.lit (.int 256)) .nil)) .nil)) .nil)))
    (.cons (.asg (.loc 4) (.lst .nil))
    (.cons (.iff (.and_ (.cons (.cmp (.loc 2) (.ccons .NotEq (.lit (.str [])) .nil)) (.cons (.cmp (.call (.glo (.fn .len)) (.cons (.loc 3) .nil)) (.ccons .Eq (.call (.glo (.fn .len)) (.cons (.loc 2) .nil)) .nil)) .nil))) (.cons (.asg (.loc 4) (.call (.glo (.ref 578)) (.cons (.loc 0) (.cons (.attr (.loc 1) .body) (.cons (.attr (.loc 1) .fin) (.cons (.loc 3) .nil))))))
    .nil) .nil)
    (.cons (.ret (.ite (.cmp (.loc 4) (.ccons .NotEq (.lst .nil) .nil)) (.loc 4) (.lst (.cons (.tup (.cons (.attr (.loc 1) .fin) (.cons (.attr (.loc 1) .fin) .nil))) .nil))))
    .nil)))))
noncomputable def d_kid_spans : DefR := ⟨583, b_kid_spans, [Str.ofString "data", Str.ofString "part", Str.ofString "told_boundary", Str.ofString "boundary", Str.ofString "found"], [], [Str.ofString "data", Str.ofString "part"], []⟩
-- has_inner: locals 0:part cells 
noncomputable def b_has_inner : S := (.cons (.ret (.and_ (.cons (.meth (.attr (.loc 0) .kind) .isLetter .nil) (.cons (.cmp (.attr (.loc 0) .enc) (.ccons .In (.glo (.con .openE)) .nil)) .nil))))
    .nil)
noncomputable def d_has_inner : DefR := ⟨590, b_has_inner, [Str.ofString "part"], [], [Str.ofString "part"], []⟩
-- read_part: locals 0:begin 1:end 2:is_digest 3:fields 4:body 5:told_kind 6:kind 7:part cells data depth is_within_digest
noncomputable def b_read_part : S := (.cons (.asg (.tup (.cons (.loc 3) (.cons (.loc 4) .nil))) (.call (.glo (.ref 201)) (.cons (.cel 0) (.cons (.loc 0) (.cons (.loc 1) .nil)))))
    (.cons (.asg (.loc 5) (.call (.glo (.ref 222)) (.cons (.loc 3) (.cons (.lit (.str [99, 111, 110, 116, 101, 110, 116, 45, 116, 121, 112, 101])) .nil))))
    (.cons (.asg (.loc 6) (.ite (.and_ (.cons (.cmp (.loc 5) (.ccons .Is (.lit .none) .nil)) (.cons (.loc 2) .nil))) (.call (.glo (.ref 413)) (.cons (.lit (.str [109, 101, 115, 115, 97, 103, 101])) (.cons (.lit (.str [114, 102, 99, 56, 50, 50])) (.cons .dct0 .nil)))) (.call (.glo (.ref 530)) (.cons (.loc 5) .nil))))
    (.cons (.asg (.loc 7) (.call (.glo (.ref 555)) (.cons (.loc 0) (.cons (.loc 4) (.cons (.loc 1) (.cons (.loc 3) (.cons (.loc 6) .nil)))))))
    (.cons (.iff (.and_ (.cons (.cmp (.cel 1) (.ccons .Lt (.glo (.int 20)) .nil)) (.cons (.meth (.loc 6) .isMulti .nil) .nil))) (.cons (.asg (.cel 2) (.cmp (.attr (.loc 6) .sub) (.ccons .Eq (.lit (.str [100, 105, 103, 101, 115, 116])) .nil)))
    (.cons (.asg (.attr (.loc 7) .kids) (.comp (.call (.glo (.ref 595)) (.cons (.cel 0) (.cons (.loc 0) (.cons (.loc 1) (.cons (.bin .Add (.cel 1) (.lit (.int 1))) (.cons (.cel 2) .nil)))))) (.tup [0, 1]) (.call (.glo (.ref 583)) (.cons (.cel 0) (.cons (.loc 7) .nil))) .nil))
    .nil)) (.cons (.iff (.and_ (.cons (.cmp (.cel 1) (.ccons .Lt (.glo (.int 20)) .nil)) (.cons (.call (.glo (.ref 590)) (.cons (.loc 7) .nil)) .nil))) (.cons (.asg (.attr (.loc 7) .inner) (.call (.glo (.ref 595)) (.cons (.cel 0) (.cons (.loc 4) (.cons (.loc 1) (.cons (.bin .Add (.cel 1) (.lit (.int 1))) (.cons (.lit (.bool false)) .nil)))))))
    .nil) .nil)
    .nil))
    (.cons (.ret (.loc 7))
    .nil))))))
noncomputable def d_read_part : DefR := ⟨595, b_read_part, [Str.ofString "begin", Str.ofString "end", Str.ofString "is_digest", Str.ofString "fields", Str.ofString "body", Str.ofString "told_kind", Str.ofString "kind", Str.ofString "part"], [Str.ofString "data", Str.ofString "depth", Str.ofString "is_within_digest"], [Str.ofString "data", Str.ofString "begin", Str.ofString "end", Str.ofString "depth", Str.ofString "is_digest"], []⟩
-- read_message: locals 0:data cells 
noncomputable def b_read_message : S := (.cons (.ret (.call (.glo (.ref 595)) (.cons (.loc 0) (.cons (.lit (.int 0)) (.cons (.call (.glo (.fn .len)) (.cons (.loc 0) .nil)) (.cons (.lit (.int 0)) (.cons (.lit (.bool false)) .nil)))))))
    .nil)
noncomputable def d_read_message : DefR := ⟨602, b_read_message, [Str.ofString "data"], [], [Str.ofString "data"], []⟩
-- leaves: locals 0:part 1:found 2:line 3:here cells 
noncomputable def b_leaves : S := (.cons (.asg (.loc 1) (.lst .nil))
    (.cons (.asg (.loc 2) (.lst (.cons (.loc 0) .nil)))
    (.cons (.whl (.cmp (.loc 2) (.ccons .NotEq (.lst .nil) .nil)) (.cons (.asg (.loc 3) (.meth (.loc 2) .pop .nil))
    (.cons (.iff (.cmp (.attr (.loc 3) .inner) (.ccons .IsNot (.lit .none) .nil)) (.cons (.exp (.meth (.loc 2) .append (.cons (.attr (.loc 3) .inner) .nil)))
    .nil) (.cons (.iff (.cmp (.attr (.loc 3) .kids) (.ccons .NotEq (.lst .nil) .nil)) (.cons (.exp (.meth (.loc 2) .extend (.cons (.call (.glo (.fn .reversed)) (.cons (.attr (.loc 3) .kids) .nil)) .nil)))
    .nil) (.cons (.exp (.meth (.loc 1) .append (.cons (.loc 3) .nil)))
    .nil))
    .nil))
    .nil)))
    (.cons (.ret (.loc 1))
    .nil))))
noncomputable def d_leaves : DefR := ⟨609, b_leaves, [Str.ofString "part", Str.ofString "found", Str.ofString "line", Str.ofString "here"], [], [Str.ofString "part"], []⟩
-- law_draw: locals 0:tape 1:limit 2:cells 3:at cells 
noncomputable def b_law_draw : S := (.cons (.asg (.loc 2) (.item (.loc 0) (.lit (.int 0))))
    (.cons (.asg (.loc 3) (.item (.loc 0) (.lit (.int 1))))
    (.cons (.asg (.item (.loc 0) (.lit (.int 1))) (.bin .Add (.loc 3) (.lit (.int 1))))
    (.cons (.ret (.bin .Mod (.bin .Add (.item (.loc 2) (.bin .Mod (.loc 3) (.call (.glo (.fn .len)) (.cons (.loc 2) .nil)))) (.bin .Mult (.bin .FloorDiv (.loc 3) (.call (.glo (.fn .len)) (.cons (.loc 2) .nil))) (.bin .Add (.bin .Mult (.lit (.int 7)) (.loc 3)) (.lit (.int 3))))) (.loc 1)))
    .nil))))
noncomputable def d_law_draw : DefR := ⟨616, b_law_draw, [Str.ofString "tape", Str.ofString "limit", Str.ofString "cells", Str.ofString "at"], [], [Str.ofString "tape", Str.ofString "limit"], []⟩
-- law_is_sound: locals 0:part 1:low 2:high 3:here 4:kid cells 
noncomputable def b_law_is_sound : S := (.cons (.iff (.not (.cmp (.loc 1) (.ccons .LtE (.attr (.loc 0) .beg) (.ccons .LtE (.attr (.loc 0) .body) (.ccons .LtE (.attr (.loc 0) .fin) (.ccons .LtE (.loc 2) .nil)))))) (.cons (.ret (.lit (.bool false)))
    .nil) .nil)
    (.cons (.iff (.cmp (.attr (.loc 0) .inner) (.ccons .IsNot (.lit .none) .nil)) (.cons (.iff (.or_ (.cons (.cmp (.attr (.loc 0) .kids) (.ccons .NotEq (.lst .nil) .nil)) (.cons (.cmp (.tup (.cons (.attr (.attr (.loc 0) .inner) .beg) (.cons (.attr (.attr (.loc 0) .inner) .fin) .nil))) (.ccons .NotEq (.tup (.cons (.attr (.loc 0) .body) (.cons (.attr (.loc 0) .fin) .nil))) .nil)) .nil))) (.cons (.ret (.lit (.bool false)))
    .nil) .nil)
    (.cons (.ret (.call (.glo (.ref 624)) (.cons (.attr (.loc 0) .inner) (.cons (.attr (.loc 0) .body) (.cons (.attr (.loc 0) .fin) .nil)))))
    .nil)) .nil)
    (.cons (.asg (.loc 3) (.attr (.loc 0) .body))
    (.cons (.for_ (.one 4) (.attr (.loc 0) .kids) (.cons (.iff (.not (.call (.glo (.ref 624)) (.cons (.loc 4) (.cons (.loc 3) (.cons (.attr (.loc 0) .fin) .nil))))) (.cons (.ret (.lit (.bool false)))
    .nil) .nil)
    (.cons (.asg (.loc 3) (.attr (.loc 4) .fin))
    .nil)))
    (.cons (.ret (.lit (.bool true)))
    .nil)))))
noncomputable def d_law_is_sound : DefR := ⟨624, b_law_is_sound, [Str.ofString "part", Str.ofString "low", Str.ofString "high", Str.ofString "here", Str.ofString "kid"], [], [Str.ofString "part", Str.ofString "low", Str.ofString "high"], []⟩
-- law_bare: locals 0:part 1:found 2:kid cells 
noncomputable def b_law_bare : S := (.cons (.iff (.cmp (.attr (.loc 0) .inner) (.ccons .IsNot (.lit .none) .nil)) (.cons (.ret (.call (.glo (.ref 631)) (.cons (.attr (.loc 0) .inner) .nil)))
    .nil) .nil)
    (.cons (.asg (.loc 1) (.ite (.cmp (.attr (.loc 0) .kids) (.ccons .NotEq (.lst .nil) .nil)) (.lst .nil) (.lst (.cons (.tup (.cons (.attr (.loc 0) .body) (.cons (.attr (.loc 0) .fin) .nil))) .nil))))
    (.cons (.for_ (.one 2) (.attr (.loc 0) .kids) (.cons (.asg (.loc 1) (.bin .Add (.loc 1) (.call (.glo (.ref 631)) (.cons (.loc 2) .nil))))
    .nil))
    (.cons (.ret (.loc 1))
    .nil))))
noncomputable def d_law_bare : DefR := ⟨631, b_law_bare, [Str.ofString "part", Str.ofString "found", Str.ofString "kid"], [], [Str.ofString "part"], []⟩
-- law: locals 0:script 1:tape 2:data 3:k 4:end 5:whole_part cells found
noncomputable def b_law : S := (.cons (.asg (.loc 1) (.lst (.cons (.or_ (.cons (.call (.glo (.fn .list)) (.cons (.slice (.loc 0) .nil (.cons (.lit (.int 40)) .nil)) .nil)) (.cons (.lst (.cons (.lit (.int 0)) .nil)) .nil))) (.cons (.lit (.int 0)) .nil))))
    (.cons (.asg (.loc 2) (.lit (.bytes [])))
    (.cons (.for_ (.one 3) (.call (.glo (.fn .range)) (.cons (.call (.glo (.ref 616)) (.cons (.loc 1) (.cons (.lit (.int 17)) .nil))) .nil)) (.cons (.asg (.loc 4) (.item (.tup (.cons (.lit (.bytes [13, 10])) (.cons (.lit (.bytes [10])) (.cons (.lit (.bytes [13, 10])) .nil)))) (.call (.glo (.ref 616)) (.cons (.loc 1) (.cons (.lit (.int 3)) .nil)))))
    (.cons (.asg (.loc 2) (.bin .Add (.bin .Add (.loc 2) (.item (.glo (.con .lines)) (.call (.glo (.ref 616)) (.cons (.loc 1) (.cons (.lit (.int 12)) .nil))))) (.loc 4)))
    .nil)))
    (.cons (.asg (.loc 5) (.call (.glo (.ref 602)) (.cons (.loc 2) .nil)))
    (.cons (.iff (.or_ (.cons (.cmp (.tup (.cons (.attr (.loc 5) .beg) (.cons (.attr (.loc 5) .fin) .nil))) (.ccons .NotEq (.tup (.cons (.lit (.int 0)) (.cons (.call (.glo (.fn .len)) (.cons (.loc 2) .nil)) .nil))) .nil)) (.cons (.not (.call (.glo (.ref 624)) (.cons (.loc 5) (.cons (.lit (.int 0)) (.cons (.call (.glo (.fn .len)) (.cons (.loc 2) .nil)) .nil))))) .nil))) (.cons (.ret (.lit (.bool false)))
    .nil) .nil)
    (.cons (.asg (.cel 0) (.comp (.tup (.cons (.attr (.loc 0) .body) (.cons (.attr (.loc 0) .fin) .nil))) (.one 0) (.call (.glo (.ref 609)) (.cons (.loc 5) .nil)) .nil))
    (.cons (.iff (.or_ (.cons (.cmp (.cel 0) (.ccons .NotEq (.call (.glo (.ref 631)) (.cons (.loc 5) .nil)) .nil)) (.cons (.cmp (.cel 0) (.ccons .Eq (.lst .nil) .nil)) .nil))) (.cons (.ret (.lit (.bool false)))
    .nil) .nil)
    (.cons (.ret (.cmp (.comp (.loc 0) (.one 0) (.call (.glo (.fn .range)) (.cons (.lit (.int 1)) (.cons (.call (.glo (.fn .len)) (.cons (.cel 0) .nil)) .nil))) (.cons (.cmp (.item (.item (.cel 0) (.loc 0)) (.lit (.int 0))) (.ccons .Lt (.item (.item (.cel 0) (.bin .Sub (.loc 0) (.lit (.int 1)))) (.lit (.int 1))) .nil)) .nil)) (.ccons .Eq (.lst .nil) .nil)))
    .nil))))))))
noncomputable def d_law : DefR := ⟨636, b_law, [Str.ofString "script", Str.ofString "tape", Str.ofString "data", Str.ofString "k", Str.ofString "end", Str.ofString "whole_part"], [Str.ofString "found"], [Str.ofString "script"], []⟩
noncomputable def plainDefs : List DefR := [d_Cursor_init, d_Cursor_is_done, d_Cursor_peek, d_Cursor_take, d_Cursor_starts, d_Cursor_skip, d_lower_code, d_lower, d_lower_text, d_line_spans, d_Field_init, d_Field_word, d_line_at, d_is_name, d_colon_in, d_read_spans, d_read_fields, d_rows_of, d_unfolded, d_first_body, d_need_charset, d_follower_span, d_utf8_sign, d_sign_at, d_strict_text, d_guessed_text, d_line_end, d_inside_at, d_closed_at, d_Kind_init, d_Kind_is_multi, d_Kind_is_letter, d_plain_kind, d_is_token_code, d_skip_between, d_take_token, d_is_worth_code, d_take_worth, d_small_word, d_take_pairs, d_part_of, d_params_of, d_strict_kind, d_read_kind, d_Part_init, d_encoding_of, d_boundary_way, d_part_spans, d_kid_spans, d_has_inner, d_read_message, d_leaves, d_law_draw, d_law_is_sound, d_law_bare]
end
end Mine
namespace Mine
noncomputable section
set_option backward.match.sparseCases false

/-! closed evaluations: refs are places of an own heap -/
abbrev Hp := List AO
abbrev Ls := List (Option AV)
noncomputable def bnd {α β : Type} (x : Option α) (f : α → Option β) : Option β := match x with
  | some a => f a
  | none => none
noncomputable def gd {β : Type} (b : Bool) (x : Option β) : Option β := match b with
  | true => x
  | false => none
noncomputable def okLen (n : Nat) : Bool := Nat.ble n 16777216
noncomputable def isRef (v : AV) : Bool := match v with | .ref _ => true | _ => false
noncomputable def aInt (v : AV) : Option Int := match v with | .int i => some i | _ => none
noncomputable def aBool (v : AV) : Option Bool := match v with | .bool i => some i | _ => none
noncomputable def aRef (v : AV) : Option Addr := match v with | .ref i => some i | _ => none
noncomputable def aBytes (v : AV) : Option (List UInt8) := match v with | .bytes i => some i | _ => none
noncomputable def a1 (vs : List AV) : Option AV := match vs with | [v] => some v | _ => none
noncomputable def oList (o : Option AO) : Option (List AV) := match o with | some (.list xs) => some xs | _ => none
noncomputable def oTup (o : Option AO) : Option (List AV) := match o with | some (.tup xs) => some xs | _ => none
noncomputable def oInst (o : Option AO) : Option (Addr × Addr) := match o with | some (.inst c d) => some (c, d) | _ => none
noncomputable def oAttrs (o : Option AO) : Option (List (At × AV)) := match o with | some (.attrs xs) => some xs | _ => none
noncomputable def oDict (o : Option AO) : Option (List (List Nat × AV)) := match o with | some (.dict xs) => some xs | _ => none
noncomputable def rFin (tm : Bool) (v : AV) (h : Hp) : Option (AV × Hp) := match tm with
  | true => bnd (aBool v) fun b => some (.bool b, h)
  | false => some (v, h)

noncomputable def rBin (o : Operator) (a b : AV) : Option AV := match a with
  | .int x => bnd (aInt b) fun y => (match o with
    | .Add => some (.int (x + y))
    | .Sub => some (.int (x - y))
    | _ => none)
  | .bytes x => bnd (aBytes b) fun y => (match o with
    | .Add => gd (okLen (x.length + y.length)) (some (.bytes (x ++ y)))
    | _ => none)
  | _ => none
noncomputable def rCmpI (o : CmpOp) (x y : Int) : Option Bool := match o with
  | .Lt => some (decide (x < y))
  | .LtE => some (decide (x ≤ y))
  | .Gt => some (decide (y < x))
  | .GtE => some (decide (y ≤ x))
  | .Eq => some (decide (x = y))
  | .NotEq => some (!decide (x = y))
  | _ => none
noncomputable def rEq (o : CmpOp) (e : Bool) : Option Bool := match o with
  | .Eq => some e
  | .NotEq => some (!e)
  | _ => none
noncomputable def rIn (o : CmpOp) (e : Bool) : Option Bool := match o with
  | .In => some e
  | .NotIn => some (!e)
  | _ => none
noncomputable def rIs (o : CmpOp) (e : Bool) : Option Bool := match o with
  | .Is => some e
  | .IsNot => some (!e)
  | _ => none
noncomputable def rCmp (o : CmpOp) (a b : AV) (h : Hp) : Option Bool := match b with
  | .none => gd (noFn a) (rIs o (isNone a))
  | .int y => bnd (aInt a) fun x => rCmpI o x y
  | .str y => (match a with
    | .str x => rEq o (decide (x = y))
    | _ => none)
  | .bytes y => (match a with
    | .bytes x => rEq o (decide (x = y))
    | .int i => gd (decide (0 ≤ i ∧ i < 256)) (rIn o (y.contains i.toNat.toUInt8))
    | _ => none)
  | .con c => (match a with
    | .int i => bnd (intsOf c.items) fun ns => rIn o (ns.any (· == i))
    | .str x => bnd (strsOf c.items) fun ys => rIn o (ys.any (· == x))
    | _ => none)
  | .ref y => (match a with
    | .str k => (match o with
      | .NotIn => bnd (oDict h[y]?) fun kvs => some (!(lookS k kvs).isSome)
      | _ => none)
    | _ => none)
  | _ => none
noncomputable def rItem (v i : AV) : Option AV := bnd (aInt i) fun k => bnd (aBytes v) fun l => gd (decide (0 ≤ k ∧ k < 1000000000) && okLen l.length) (match l[k.toNat]? with
  | some b => some (.int b.toNat)
  | none => none)
noncomputable def bytesOf : List AV → Option (List UInt8)
  | [] => some []
  | .int i :: r => gd (decide (0 ≤ i ∧ i < 256)) (bnd (bytesOf r) fun l => some (i.toNat.toUInt8 :: l))
  | _ :: _ => none
noncomputable def linesOf : List AV → Option (List (List UInt8))
  | [] => some []
  | .bytes i :: r => bnd (linesOf r) fun l => some (i :: l)
  | _ :: _ => none
noncomputable def rLen (v : AV) (h : Hp) : Option Nat := match v with
  | .bytes l => some l.length
  | .str l => some l.length
  | .ref a => bnd (oList h[a]?) fun xs => some xs.length
  | _ => none
noncomputable def rB (b : Bf) (vs : List AV) (h : Hp) : Option AV := bnd (a1 vs) fun v => (match b with
  | .len => bnd (rLen v h) fun n => gd (okLen n) (some (.int n))
  | .bytes => bnd (aRef v) fun a => bnd (oList h[a]?) fun xs => bnd (bytesOf xs) fun l => gd (okLen l.length) (some (.bytes l))
  | .chr => bnd (aInt v) fun i => gd (decide (0 ≤ i ∧ i < 256)) (some (.str [i.toNat]))
  | .ord => (match v with
    | .str [c] => some (.int c)
    | _ => none)
  | _ => none)
noncomputable def rBytesM (d : List UInt8) (m : Mt) (vs : List AV) (h : Hp) : Option AV := match m with
  | .find => (match vs with
    | [.bytes s, .int a, .int b] => gd (decide (0 ≤ a ∧ 0 ≤ b)) (some (.int (bfind d s a.toNat b.toNat)))
    | _ => none)
  | .strip => bnd (a1 vs) fun v => bnd (aBytes v) fun s => gd (okLen d.length) (some (.bytes (rstripB (lstripB d s) s)))
  | .rstrip => bnd (a1 vs) fun v => bnd (aBytes v) fun s => gd (okLen d.length) (some (.bytes (rstripB d s)))
  | .join => bnd (a1 vs) fun v => bnd (aRef v) fun a => bnd (oList h[a]?) fun xs => bnd (linesOf xs) fun ls => gd (d.isEmpty && okLen ls.flatten.length) (some (.bytes ls.flatten))
  | _ => none
noncomputable def rStrM (d : List Nat) (m : Mt) (vs : List AV) (h : Hp) : Option AV := bnd (a1 vs) fun v => (match m with
  | .find => (match v with
    | .str [c] => gd (!d.contains c) (some (.int (-1)))
    | _ => none)
  | .join => bnd (aRef v) fun a => bnd (oList h[a]?) fun xs => bnd (strsOf xs) fun ls => gd (d.isEmpty && okLen ls.flatten.length) (some (.str ls.flatten))
  | _ => none)
/-- what a loop takes -/
noncomputable def rItems (v : AV) (h : Hp) : Option (List AV) := match v with
  | .bytes l => gd (okLen l.length) (some (l.map fun b => .int b.toNat))
  | .str l => gd (okLen l.length && l.all fun c => Nat.blt c 256) (some (l.map fun c => .str [c]))
  | .ref a => (match h[a]? with
    | some (.list xs) => gd (okLen xs.length) (some xs)
    | some (.dict []) => some []
    | _ => none)
  | _ => none
noncomputable def rStays (v : AV) (xs : List AV) (h : Hp) : Bool := match v with
  | .ref a => (match h[a]? with
    | some (.list ys) => decide (ys = xs)
    | _ => false)
  | _ => true
noncomputable def rPat (p : Pt) (x : AV) (ls : Ls) (h : Hp) : Option Ls := match p with
  | .one i => some (ls.set i (some x))
  | .tup is => bnd (aRef x) fun a => bnd (oTup h[a]?) fun xs => gd (decide (xs.length = is.length ∧ xs.length ≤ 8)) (some (setLocs ls is xs))
noncomputable def rComp (ev : Ls → Hp → Option (AV × Hp)) (i : Nat) : List AV → Hp → List AV → Option (List AV × Hp)
  | [], h, acc => some (acc, h)
  | x :: xs, h, acc => bnd (ev ([none, none, none].set i (some x)) h) fun r => rComp ev i xs r.2 (acc ++ [r.1])

section
variable (cal : Addr → List AV → Hp → Option (AV × Hp))
mutual
noncomputable def rG : E → Bool → Ls → Hp → Option (AV × Hp)
  | .lit v, tm, _, h => gd (!isRef v) (rFin tm v h)
  | .glo v, tm, _, h => gd (!isRef v) (rFin tm v h)
  | .loc i, tm, l, h => bnd (bnd l[i]? id) fun v => rFin tm v h
  | .bin o a b, tm, l, h => bnd (rG a false l h) fun x => bnd (rG b false l x.2) fun y => bnd (rBin o x.1 y.1) fun v => rFin tm v y.2
  | .neg a, tm, l, h => bnd (rG a false l h) fun x => bnd (aInt x.1) fun i => rFin tm (.int (-i)) x.2
  | .not a, tm, l, h => gd tm (bnd (rG a true l h) fun x => bnd (aBool x.1) fun b => some (.bool (!b), x.2))
  | .and_ r, tm, l, h => rA r true tm l h
  | .or_ r, tm, l, h => rA r false tm l h
  | .ite c a b, tm, l, h => gd (!tm) (bnd (rG c true l h) fun x => bnd (aBool x.1) fun t => match t with
    | true => rG a false l x.2
    | false => rG b false l x.2)
  | .cmp a r, _, l, h => bnd (rG a false l h) fun x => bnd (rC r x.1 l x.2) fun y => some (.bool y.1, y.2)
  | .call f args, tm, l, h => (match f with
    | .glo (.ref a) => gd (calleeOk a) (bnd (rL args l h) fun vs => bnd (cal a vs.1 vs.2) fun x => rFin tm x.1 x.2)
    | .glo (.fn b) => bnd (rL args l h) fun vs => bnd (rB b vs.1 vs.2) fun v => rFin tm v vs.2
    | _ => none)
  | .meth o m args, tm, l, h => bnd (rG o false l h) fun x => (match x.1 with
    | .bytes d => gd (bytesM m).isSome (bnd (rL args l x.2) fun vs => bnd (rBytesM d m vs.1 vs.2) fun v => rFin tm v vs.2)
    | .str d => gd (strM m).isSome (bnd (rL args l x.2) fun vs => bnd (rStrM d m vs.1 vs.2) fun v => rFin tm v vs.2)
    | .ref a => (match x.2[a]? with
      | some (.list _) => (match m with
        | .append => bnd (rL args l x.2) fun vs => bnd (a1 vs.1) fun y => bnd (oList vs.2[a]?) fun ys => gd (Nat.blt ys.length 16777216) (rFin tm .none (vs.2.set a (.list (ys ++ [y]))))
        | _ => none)
      | some (.inst c d) => bnd (oAttrs x.2[d]?) fun _ => bnd (methAddr c m) fun f => bnd (rL args l x.2) fun vs => bnd (cal f (x.1 :: vs.1) vs.2) fun y => rFin tm y.1 y.2
      | _ => none)
    | _ => none)
  | .attr o a, tm, l, h => bnd (rG o false l h) fun x => bnd (aRef x.1) fun r => bnd (oInst x.2[r]?) fun cd => bnd (oAttrs x.2[cd.2]?) fun kvs => bnd (lookA a kvs) fun v => rFin tm v x.2
  | .item o i, tm, l, h => bnd (rG o false l h) fun x => bnd (rG i false l x.2) fun y => bnd (rItem x.1 y.1) fun v => rFin tm v y.2
  | .slice o lo hi, tm, l, h => bnd (rG o false l h) fun x => bnd (rO lo l x.2) fun y => bnd (rO hi l y.2) fun z => bnd (aBytes x.1) fun d => gd (okLen d.length) (rFin tm (.bytes (sl d y.1 z.1)) z.2)
  | .tup r, tm, l, h => gd (!tm) (bnd (rL r l h) fun vs => gd (okLen vs.1.length) (some (.ref vs.2.length, vs.2 ++ [.tup vs.1])))
  | .lst r, tm, l, h => gd (!tm) (bnd (rL r l h) fun vs => gd (okLen vs.1.length) (some (.ref vs.2.length, vs.2 ++ [.list vs.1])))
  | .dct0, tm, _, h => gd (!tm) (some (.ref h.length, h ++ [.dict []]))
  | .dct1 k v, tm, _, h => gd (!tm) (some (.ref h.length, h ++ [.dict [(k, .str v)]]))
  | .comp elt p iter cond, tm, l, h => gd (!tm && isNil cond) (match p with
    | .one i => bnd (rG iter false l h) fun x => gd (!isRef x.1) (bnd (rItems x.1 x.2) fun xs => gd (okLen xs.length) (bnd (rComp (fun l h => rG elt false l h) i xs x.2 []) fun r => some (.ref r.2.length, r.2 ++ [.list r.1])))
    | _ => none)
  | _, _, _, _ => none
noncomputable def rL : E → Ls → Hp → Option (List AV × Hp)
  | .nil, _, h => some ([], h)
  | .cons a r, l, h => bnd (rG a false l h) fun x => bnd (rL r l x.2) fun y => some (x.1 :: y.1, y.2)
  | _, _, _ => none
noncomputable def rO : E → Ls → Hp → Option (Option Int × Hp)
  | .nil, _, h => some (none, h)
  | .cons a _, l, h => bnd (rG a false l h) fun x => bnd (aInt x.1) fun i => gd (decide (0 ≤ i)) (some (some i, x.2))
  | _, _, _ => none
noncomputable def rC : E → AV → Ls → Hp → Option (Bool × Hp)
  | .ccons o a r, x, l, h => bnd (rG a false l h) fun y => bnd (rCmp o x y.1 y.2) fun b => match isNil r with
    | true => some (b, y.2)
    | false => (match b with
      | true => rC r y.1 l y.2
      | false => some (false, y.2))
  | _, _, _, _ => none
noncomputable def rA : E → Bool → Bool → Ls → Hp → Option (AV × Hp)
  | .cons a r, c, tm, l, h => (match isNil r with
    | true => rG a tm l h
    | false => bnd (rG a tm l h) fun x => bnd (aBool x.1) fun b => (match b == c with
      | true => rA r c tm l x.2
      | false => some (.bool b, x.2)))
  | _, _, _, _, _ => none
end
mutual
noncomputable def rTg : Tg → AV → Ls → Hp → Option (Ls × Hp)
  | .loc i, v, l, h => some (l.set i (some v), h)
  | .attr o a, v, l, h => bnd (rG cal o false l h) fun x => bnd (aRef x.1) fun r => bnd (oInst x.2[r]?) fun cd => bnd (oAttrs x.2[cd.2]?) fun kvs => gd (Nat.ble kvs.length 100) (some (l, x.2.set cd.2 (.attrs (putA a v kvs))))
  | .item o i, v, l, h => bnd (rG cal o false l h) fun x => bnd (rG cal i false l x.2) fun y => bnd (aRef x.1) fun r => (match y.1 with
    | .str k => bnd (oDict y.2[r]?) fun kvs => gd (Nat.ble kvs.length 100) (some (l, y.2.set r (.dict (putS k v kvs))))
    | _ => none)
  | .tup t, v, l, h => bnd (aRef v) fun a => bnd (oTup h[a]?) fun xs => gd (decide (xs.length = tgLen t)) (rTgs t xs l h)
  | _, _, _, _ => none
noncomputable def rTgs : Tg → List AV → Ls → Hp → Option (Ls × Hp)
  | .nil, [], l, h => some (l, h)
  | .cons t r, y :: ys, l, h => bnd (rTg t y l h) fun x => rTgs r ys x.1 x.2
  | _, _, _, _ => none
end
abbrev Rs := Option (Fl × Ls × Hp)
noncomputable def rWhl (c : Ls → Hp → Option (AV × Hp)) (b : Ls → Hp → Rs) : Nat → Ls → Hp → Rs
  | 0, _, _ => none
  | k + 1, l, h => bnd (c l h) fun x => bnd (aBool x.1) fun t => match t with
    | true => bnd (b l x.2) fun r => (match r.1 with
      | .next => rWhl c b k r.2.1 r.2.2
      | .ret v => some (.ret v, r.2))
    | false => some (.next, l, x.2)
noncomputable def rFor (p : Pt) (v : AV) (all : List AV) (b : Ls → Hp → Rs) : List AV → Ls → Hp → Rs
  | [], l, h => some (.next, l, h)
  | x :: xs, l, h => bnd (rPat p x l h) fun l => bnd (b l h) fun r => (match r.1 with
    | .next => gd (rStays v all r.2.2) (rFor p v all b xs r.2.1 r.2.2)
    | .ret v => some (.ret v, r.2))
noncomputable def rS (fuel : Nat) : S → Ls → Hp → Rs
  | .nil, l, h => some (.next, l, h)
  | .cons s r, l, h => bnd (rS fuel s l h) fun x => (match x.1 with
    | .next => rS fuel r x.2.1 x.2.2
    | .ret v => some (.ret v, x.2))
  | .asg t e, l, h => bnd (rG cal e false l h) fun x => bnd (rTg cal t x.1 l x.2) fun y => some (.next, y)
  | .exp e, l, h => bnd (rG cal e false l h) fun x => gd (notRef x.1) (some (.next, l, x.2))
  | .iff c a b, l, h => bnd (rG cal c true l h) fun x => bnd (aBool x.1) fun t => (match t with
    | true => rS fuel a l x.2
    | false => rS fuel b l x.2)
  | .whl c b, l, h => rWhl (fun l h => rG cal c true l h) (fun l h => rS fuel b l h) fuel l h
  | .for_ p e b, l, h => bnd (rG cal e false l h) fun x => bnd (rItems x.1 x.2) fun xs => rFor p x.1 xs (fun l h => rS fuel b l h) xs l x.2
  | .ret e, l, h => bnd (rG cal e false l h) fun x => some (.ret x.1, l, x.2)
  | .ret0, l, h => some (.ret .none, l, h)
  | .try_ b, l, h => rS fuel b l h
  | .pass_, l, h => some (.next, l, h)
  | _, _, _ => none
end
/-- the classes' makers -/
noncomputable def initOf (a : Addr) : Option Addr := match a with
  | 103 => some 36
  | 162 => some 147
  | 413 => some 382
  | _ => none
noncomputable def arity (d : DefR) (n : Nat) : Bool := Nat.ble n d.params.length && Nat.ble d.params.length (n + d.dfl.length) && Nat.ble d.dfl.length d.params.length
noncomputable def rCall (tab : List DefR) (fuel : Nat) : Nat → Addr → List AV → Hp → Option (AV × Hp)
  | 0, _, _, _ => none
  | N + 1, f, vs, h => (match initOf f with
    | some fi => bnd (tab.find? fun d => Nat.beq d.addr fi) fun d => gd (arity d (vs.length + 1)) (bnd (rS (rCall tab fuel N) fuel d.t (loc0 d (.ref (h.length + 1) :: vs)) (h ++ [.attrs [], .inst f h.length])) fun r => (match r.1.val with
      | .none => some (.ref (h.length + 1), r.2.2)
      | _ => none))
    | none => bnd (tab.find? fun d => Nat.beq d.addr f) fun d => gd (arity d vs.length) (bnd (rS (rCall tab fuel N) fuel d.t (loc0 d vs) h) fun r => some (r.1.val, r.2.2)))
end
end Mine
namespace Mine
noncomputable section
set_option backward.match.sparseCases false

theorem bnd_inv {α β : Type} {x : Option α} {f : α → Option β} {r : β} (h : bnd x f = some r) : ∃ a, x = some a ∧ f a = some r := by
  cases x with
  | none => cases h
  | some a => exact ⟨a, rfl, h⟩
theorem gd_inv {β : Type} {b : Bool} {x : Option β} {r : β} (h : gd b x = some r) : b = true ∧ x = some r := by
  cases b with
  | false => cases h
  | true => exact ⟨rfl, h⟩
theorem okLen_le {n : Nat} (h : okLen n = true) : n ≤ 16777216 := Nat.le_of_ble_eq_true h

noncomputable def All2 {α β : Type} (R : α → β → Prop) : List α → List β → Prop
  | [], [] => True
  | a :: as, b :: bs => R a b ∧ All2 R as bs
  | _, _ => False
section
variable {α β : Type} {R S : α → β → Prop}
theorem All2.mono (f : ∀ a b, R a b → S a b) : ∀ {as : List α} {bs : List β}, All2 R as bs → All2 S as bs
  | [], [], _ => trivial
  | _ :: _, _ :: _, h => ⟨f _ _ h.1, All2.mono f h.2⟩
  | [], _ :: _, h => h.elim
  | _ :: _, [], h => h.elim
theorem All2.len : ∀ {as : List α} {bs : List β}, All2 R as bs → bs.length = as.length
  | [], [], _ => rfl
  | _ :: _, _ :: _, h => congrArg Nat.succ (All2.len h.2)
  | [], _ :: _, h => h.elim
  | _ :: _, [], h => h.elim
theorem All2.get : ∀ {as : List α} {bs : List β}, All2 R as bs → ∀ {i : Nat} {a : α}, as[i]? = some a → ∃ b, bs[i]? = some b ∧ R a b
  | a :: _, b :: _, h, 0, x, e => by cases e; exact ⟨b, rfl, h.1⟩
  | _ :: _, _ :: _, h, i + 1, x, e => All2.get h.2 (i := i) e
  | [], [], _, _, _, e => by cases e
  | [], _ :: _, h, _, _, _ => h.elim
  | _ :: _, [], h, _, _, _ => h.elim
theorem All2.app : ∀ {as as' : List α} {bs bs' : List β}, All2 R as bs → All2 R as' bs' → All2 R (as ++ as') (bs ++ bs')
  | [], _, [], _, _, h => h
  | _ :: _, _, _ :: _, _, h, h' => ⟨h.1, All2.app h.2 h'⟩
  | [], _, _ :: _, _, h, _ => h.elim
  | _ :: _, _, [], _, h, _ => h.elim
theorem All2.set : ∀ {as : List α} {bs : List β}, All2 R as bs → ∀ {i : Nat} {a : α} {b : β}, R a b → All2 R (as.set i a) (bs.set i b)
  | _ :: _, _ :: _, h, 0, _, _, r => ⟨r, h.2⟩
  | _ :: _, _ :: _, h, i + 1, _, _, r => ⟨h.1, All2.set h.2 (i := i) r⟩
  | [], [], _, _, _, _, _ => trivial
  | [], _ :: _, h, _, _, _, _ => h.elim
  | _ :: _, [], h, _, _, _, _ => h.elim
theorem All2.one {a : α} {bs : List β} (h : All2 R [a] bs) : ∃ b, bs = [b] ∧ R a b := by
  cases bs with
  | nil => exact h.elim
  | cons b bs => cases bs with
    | nil => exact ⟨b, rfl, h.1⟩
    | cons => exact h.2.elim
end

/-- a value and what stands for it: refs by their places -/
noncomputable def RA (σ : List Addr) : AV → AV → Prop
  | .ref i, a => ∃ x, σ[i]? = some x ∧ a = .ref x
  | v, a => a = v
noncomputable def ROp (σ : List Addr) : Option AV → Option AV → Prop
  | none, _ => True
  | some v, b => ∃ a, b = some a ∧ RA σ v a
abbrev RLs (σ : List Addr) : Ls → Ls → Prop := All2 (ROp σ)
abbrev RAs (σ : List Addr) : List AV → List AV → Prop := All2 (RA σ)
abbrev RKs {κ : Type} (σ : List Addr) : List (κ × AV) → List (κ × AV) → Prop := All2 fun p q => q.1 = p.1 ∧ RA σ p.2 q.2
noncomputable def RAO (σ : List Addr) : AO → AO → Prop
  | .list xs, o => ∃ ys, o = .list ys ∧ RAs σ xs ys
  | .tup xs, o => ∃ ys, o = .tup ys ∧ RAs σ xs ys
  | .inst c d, o => ∃ x, σ[d]? = some x ∧ o = .inst c x
  | .attrs xs, o => ∃ ys, o = .attrs ys ∧ RKs σ xs ys
  | .dict xs, o => ∃ ys, o = .dict ys ∧ RKs σ xs ys
  | _, _ => False

theorem get_app {σ τ : List Addr} {i : Nat} {x : Addr} (h : σ[i]? = some x) : (σ ++ τ)[i]? = some x := by
  rw [List.getElem?_append_left (List.getElem?_eq_some_iff.1 h).1]; exact h
theorem RA.app {σ : List Addr} (τ : List Addr) {v a : AV} (h : RA σ v a) : RA (σ ++ τ) v a := by
  cases v with
  | ref i => obtain ⟨x, e, rfl⟩ := h; exact ⟨x, get_app e, rfl⟩
  | _ => exact h
theorem RAs.app {σ : List Addr} (τ : List Addr) {v a : List AV} (h : RAs σ v a) : RAs (σ ++ τ) v a := h.mono fun _ _ => RA.app τ
theorem RKs.app {κ : Type} {σ : List Addr} (τ : List Addr) {v a : List (κ × AV)} (h : RKs σ v a) : RKs (σ ++ τ) v a := h.mono fun _ _ p => ⟨p.1, p.2.app τ⟩
theorem RLs.app {σ : List Addr} (τ : List Addr) {v a : Ls} (h : RLs σ v a) : RLs (σ ++ τ) v a := h.mono fun v _ p => by
  cases v with
  | none => exact p
  | some v => obtain ⟨x, e, r⟩ := p; exact ⟨x, e, r.app τ⟩
theorem RAO.app {σ : List Addr} (τ : List Addr) {o o' : AO} (h : RAO σ o o') : RAO (σ ++ τ) o o' := by
  cases o with
  | list xs => obtain ⟨ys, e, r⟩ := h; exact ⟨ys, e, r.app τ⟩
  | tup xs => obtain ⟨ys, e, r⟩ := h; exact ⟨ys, e, r.app τ⟩
  | inst c d => obtain ⟨x, e, r⟩ := h; exact ⟨x, get_app e, r⟩
  | attrs xs => obtain ⟨ys, e, r⟩ := h; exact ⟨ys, e, r.app τ⟩
  | dict xs => obtain ⟨ys, e, r⟩ := h; exact ⟨ys, e, r.app τ⟩
  | _ => exact h.elim
theorem RA.plain {σ : List Addr} {v : AV} (h : isRef v = false) : RA σ v v := by
  cases v with
  | ref => cases h
  | _ => rfl
theorem RA.eq {σ : List Addr} {v a : AV} (h : isRef v = false) (r : RA σ v a) : a = v := by
  cases v with
  | ref => cases h
  | _ => exact r

theorem nodup_ix {l : List Addr} (nd : l.Nodup) {i j : Nat} {x : Addr} (h1 : l[i]? = some x) (h2 : l[j]? = some x) : i = j := by
  obtain ⟨a, b⟩ := List.getElem?_eq_some_iff.1 h1
  obtain ⟨c, d⟩ := List.getElem?_eq_some_iff.1 h2
  have key := List.pairwise_iff_getElem.1 nd
  rcases Nat.lt_trichotomy i j with h | h | h
  · exact absurd (b.trans d.symm) (key i j a c h)
  · exact h
  · exact absurd (d.trans b.symm) (key j i c a h)
/-- the own heap and the true one -/
structure HR (σ : List Addr) (h : Hp) (H : AHeap) : Prop where
  len : σ.length = h.length
  nd : σ.Nodup
  get : ∀ {i : Nat} {o : AO}, h[i]? = some o → ∃ x o', σ[i]? = some x ∧ H x = some o' ∧ RAO σ o o'
  dn : ∀ {i : Nat} {kvs : List (List Nat × AV)} {x : Addr}, h[i]? = some (.dict kvs) → σ[i]? = some x → x ≠ sysModules
structure Ext (σ : List Addr) (H : AHeap) (σ' : List Addr) (H' : AHeap) : Prop where
  app : ∃ τ, σ' = σ ++ τ ∧ ∀ b ∈ τ, b ∉ σ → H b = none
  off : ∀ b, b ∉ σ' → H' b = H b
section
variable {σ σ' σ'' : List Addr} {h : Hp} {H H' H'' : AHeap}
theorem Ext.refl : Ext σ H σ H := ⟨⟨[], (List.append_nil _).symm, fun _ m => by cases m⟩, fun _ _ => rfl⟩
theorem Ext.trans (a : Ext σ H σ' H') (b : Ext σ' H' σ'' H'') : Ext σ H σ'' H'' := by
  obtain ⟨⟨τ, rfl, n⟩, o⟩ := a
  obtain ⟨⟨τ', rfl, n'⟩, o'⟩ := b
  refine ⟨⟨τ ++ τ', List.append_assoc _ _ _, fun b hb hs => ?_⟩, fun b hb => ?_⟩
  · by_cases m : b ∈ τ
    · exact n b m hs
    · have hm : b ∉ σ ++ τ := fun x => (List.mem_append.1 x).elim hs m
      rw [← o b hm]; exact n' b ((List.mem_append.1 hb).resolve_left m) hm
  · rw [o' b hb, o b fun m => hb (List.mem_append_left _ m)]
theorem RA.ext {v a : AV} (r : RA σ v a) (E : Ext σ H σ' H') : RA σ' v a := by obtain ⟨⟨τ, rfl, _⟩, _⟩ := E; exact r.app τ
theorem RAs.ext {v a : List AV} (r : RAs σ v a) (E : Ext σ H σ' H') : RAs σ' v a := by obtain ⟨⟨τ, rfl, _⟩, _⟩ := E; exact r.app τ
theorem RLs.ext {v a : Ls} (r : RLs σ v a) (E : Ext σ H σ' H') : RLs σ' v a := by obtain ⟨⟨τ, rfl, _⟩, _⟩ := E; exact r.app τ

/-- a new object -/
theorem HR.push (R : HR σ h H) {a : Addr} {o o' : AO} (ha : H a = none) (r : RAO (σ ++ [a]) o o') (dn : ∀ kvs, o = .dict kvs → a ≠ sysModules) : HR (σ ++ [a]) (h ++ [o]) (upd H a o') := by
  have old : ∀ {i x}, σ[i]? = some x → H x ≠ none := fun {i x} e => by
    obtain ⟨y, o1, e1, e2, _⟩ := R.get (i := i) (o := h[i]'(by rw [← R.len]; exact (List.getElem?_eq_some_iff.1 e).1)) (List.getElem?_eq_getElem _)
    rw [e] at e1; cases e1
    rw [e2]; exact nofun
  have hn : a ∉ σ := fun m => by
    obtain ⟨i, e⟩ := List.mem_iff_getElem?.1 m
    exact old e ha
  refine ⟨by rw [List.length_append, List.length_append, R.len]; rfl, ?_, fun {i o1} e => ?_, fun {i kvs x} e ex => ?_⟩
  · rw [List.nodup_append]
    exact ⟨R.nd, List.nodup_cons.2 ⟨nofun, List.nodup_nil⟩, fun b hb c hc e => by rw [List.mem_singleton] at hc; subst hc; subst e; exact hn hb⟩
  · by_cases hi : i < h.length
    · rw [List.getElem?_append_left hi] at e
      obtain ⟨x, o2, e1, e2, e3⟩ := R.get e
      exact ⟨x, o2, get_app e1, by rw [upd_ne (by rintro rfl; rw [ha] at e2; cases e2)]; exact e2, e3.app _⟩
    · rw [List.getElem?_append_right (Nat.le_of_not_lt hi)] at e
      have hi' : i - h.length = 0 := by
        cases q : i - h.length with
        | zero => rfl
        | succ k => rw [q] at e; cases e
      rw [hi'] at e; cases e
      have : i = σ.length := by rw [R.len]; omega
      subst this
      exact ⟨a, o', by rw [List.getElem?_append_right (Nat.le_refl _), Nat.sub_self]; rfl, upd_self, r⟩
  · by_cases hi : i < h.length
    · rw [List.getElem?_append_left hi] at e
      rw [List.getElem?_append_left (by rw [R.len]; exact hi)] at ex
      exact R.dn e ex
    · rw [List.getElem?_append_right (Nat.le_of_not_lt hi)] at e
      rw [List.getElem?_append_right (by rw [R.len]; omega)] at ex
      have hi' : i - h.length = 0 := by
        cases q : i - h.length with
        | zero => rfl
        | succ k => rw [q] at e; cases e
      rw [hi'] at e; cases e
      rw [R.len, hi'] at ex; cases ex
      exact dn _ rfl
theorem Ext.push {a : Addr} {o' : AO} (ha : H a = none) : Ext σ H (σ ++ [a]) (upd H a o') :=
  ⟨⟨[a], rfl, fun b hb _ => by rw [List.mem_singleton] at hb; subst hb; exact ha⟩, fun b hb => upd_ne fun e => hb (by rw [e]; exact List.mem_append_right _ List.mem_cons_self)⟩
theorem HR.top (R : HR σ h H) (a : Addr) : (σ ++ [a])[h.length]? = some a := by
  rw [List.getElem?_append_right (by rw [R.len]; exact Nat.le_refl _), R.len, Nat.sub_self]; rfl
/-- an object changed -/
theorem HR.put (R : HR σ h H) {i : Nat} {x : Addr} {o o' : AO} (e : σ[i]? = some x) (r : RAO σ o o') (dn : ∀ kvs, o = .dict kvs → x ≠ sysModules) : HR σ (h.set i o) (upd H x o') := by
  refine ⟨by rw [List.length_set]; exact R.len, R.nd, fun {j o1} ej => ?_, fun {j kvs y} ej ey => ?_⟩
  · by_cases hj : i = j
    · subst hj
      rw [List.getElem?_set_self (by rw [← R.len]; exact (List.getElem?_eq_some_iff.1 e).1)] at ej
      cases ej
      exact ⟨x, o', e, upd_self, r⟩
    · rw [List.getElem?_set_ne hj] at ej
      obtain ⟨y, o2, e1, e2, e3⟩ := R.get ej
      refine ⟨y, o2, e1, ?_, e3⟩
      rw [upd_ne]; exact e2
      rintro rfl
      have h1 := List.getElem?_eq_some_iff.1 e
      have h2 := List.getElem?_eq_some_iff.1 e1
      exact hj (nodup_ix R.nd e e1)
  · by_cases hj : i = j
    · subst hj
      rw [List.getElem?_set_self (by rw [← R.len]; exact (List.getElem?_eq_some_iff.1 e).1)] at ej
      cases ej
      rw [e] at ey; cases ey
      exact dn _ rfl
    · rw [List.getElem?_set_ne hj] at ej
      exact R.dn ej ey
theorem Ext.put {i : Nat} {x : Addr} {o' : AO} (e : σ[i]? = some x) : Ext σ H σ (upd H x o') :=
  ⟨⟨[], (List.append_nil _).symm, fun _ m => by cases m⟩, fun b hb => upd_ne fun q => hb (by rw [q]; exact List.mem_of_getElem? e)⟩
/-- what a ref stands for -/
theorem HR.at (R : HR σ h H) {i : Nat} {a : AV} (r : RA σ (.ref i) a) {o : AO} (e : h[i]? = some o) : ∃ x o', a = .ref x ∧ σ[i]? = some x ∧ H x = some o' ∧ RAO σ o o' := by
  obtain ⟨x, e1, rfl⟩ := r
  obtain ⟨y, o', e2, e3, e4⟩ := R.get e
  rw [e1] at e2; cases e2
  exact ⟨x, o', rfl, e1, e3, e4⟩
theorem oList_inv {o : Option AO} {xs : List AV} (e : oList o = some xs) : o = some (.list xs) := by
  unfold oList at e; split at e <;> cases e; rfl
theorem oTup_inv {o : Option AO} {xs : List AV} (e : oTup o = some xs) : o = some (.tup xs) := by
  unfold oTup at e; split at e <;> cases e; rfl
theorem oInst_inv {o : Option AO} {cd : Addr × Addr} (e : oInst o = some cd) : o = some (.inst cd.1 cd.2) := by
  unfold oInst at e; split at e <;> cases e; rfl
theorem oAttrs_inv {o : Option AO} {xs : List (At × AV)} (e : oAttrs o = some xs) : o = some (.attrs xs) := by
  unfold oAttrs at e; split at e <;> cases e; rfl
theorem oDict_inv {o : Option AO} {xs : List (List Nat × AV)} (e : oDict o = some xs) : o = some (.dict xs) := by
  unfold oDict at e; split at e <;> cases e; rfl
theorem aRef_inv {v : AV} {a : Addr} (e : aRef v = some a) : v = .ref a := by
  unfold aRef at e; split at e <;> cases e; rfl
theorem aInt_inv {v : AV} {a : Int} (e : aInt v = some a) : v = .int a := by
  unfold aInt at e; split at e <;> cases e; rfl
theorem aBool_inv {v : AV} {a : Bool} (e : aBool v = some a) : v = .bool a := by
  unfold aBool at e; split at e <;> cases e; rfl
theorem aBytes_inv {v : AV} {a : List UInt8} (e : aBytes v = some a) : v = .bytes a := by
  unfold aBytes at e; split at e <;> cases e; rfl
theorem a1_inv {vs : List AV} {a : AV} (e : a1 vs = some a) : vs = [a] := by
  unfold a1 at e; split at e <;> cases e; rfl
theorem RKs.lookA {k : At} : ∀ {xs ys : List (At × AV)}, RKs σ xs ys → ∀ {v : AV}, Mine.lookA k xs = some v → ∃ a, Mine.lookA k ys = some a ∧ RA σ v a
  | (p, v) :: xs, (q, a) :: ys, h, u, e => by
    obtain ⟨⟨e1, r⟩, h⟩ := h
    obtain rfl : q = p := e1
    simp only [Mine.lookA] at e ⊢
    split
    · rename_i c; rw [if_pos c] at e; cases e; exact ⟨a, rfl, r⟩
    · rename_i c; rw [if_neg c] at e; exact RKs.lookA h e
  | [], [], _, _, e => by cases e
  | [], _ :: _, h, _, _ => h.elim
  | _ :: _, [], h, _, _ => h.elim
theorem RKs.putA {k : At} {v a : AV} (r : RA σ v a) : ∀ {xs ys : List (At × AV)}, RKs σ xs ys → RKs σ (Mine.putA k v xs) (Mine.putA k a ys)
  | (p, u) :: xs, (q, b) :: ys, h => by
    obtain ⟨⟨e1, r1⟩, h⟩ := h
    obtain rfl : q = p := e1
    simp only [Mine.putA]
    split
    · exact ⟨⟨rfl, r⟩, h⟩
    · exact ⟨⟨rfl, r1⟩, RKs.putA r h⟩
  | [], [], _ => ⟨⟨rfl, r⟩, trivial⟩
  | [], _ :: _, h => h.elim
  | _ :: _, [], h => h.elim
theorem RKs.lookS {k : List Nat} : ∀ {xs ys : List (List Nat × AV)}, RKs σ xs ys → (Mine.lookS k ys).isSome = (Mine.lookS k xs).isSome
  | (p, v) :: xs, (q, a) :: ys, h => by
    obtain ⟨⟨e1, r⟩, h⟩ := h
    obtain rfl : q = p := e1
    simp only [Mine.lookS]
    split
    · rfl
    · exact RKs.lookS h
  | [], [], _ => rfl
  | [], _ :: _, h => h.elim
  | _ :: _, [], h => h.elim
theorem RKs.putS {k : List Nat} {v a : AV} (r : RA σ v a) {xs ys : List (List Nat × AV)} (h : RKs σ xs ys) : RKs σ (Mine.putS k v xs) (Mine.putS k a ys) := by
  have e : ∀ {xs ys : List (List Nat × AV)}, RKs σ xs ys → (ys.any fun p => p.1 = k) = xs.any fun p => p.1 = k := by
    intro xs
    induction xs with
    | nil => intro ys h; cases ys with
      | nil => rfl
      | cons => exact h.elim
    | cons p xs ih => intro ys h; cases ys with
      | nil => exact h.elim
      | cons q ys => rw [List.any_cons, List.any_cons, ih h.2, h.1.1]
  have m : ∀ {xs ys : List (List Nat × AV)}, RKs σ xs ys → RKs σ (xs.map fun p => if p.1 = k then (p.1, v) else p) (ys.map fun p => if p.1 = k then (p.1, a) else p) := by
    intro xs
    induction xs with
    | nil => intro ys h; cases ys with
      | nil => trivial
      | cons => exact h.elim
    | cons p xs ih => intro ys h; cases ys with
      | nil => exact h.elim
      | cons q ys =>
        refine ⟨?_, ih h.2⟩
        dsimp only
        rw [h.1.1]
        split
        · exact ⟨rfl, r⟩
        · exact h.1
  unfold Mine.putS
  rw [e h]
  split
  · exact m h
  · exact All2.app h ⟨⟨rfl, r⟩, trivial⟩
end
end
end Mine
namespace Mine
noncomputable section
set_option backward.match.sparseCases false

section
variable {w : World} {K : Frag} {n : Nat} {σ : List Addr} {h : Hp} {H : AHeap}

theorem fin_ok {tm : Bool} {v v' : AV} {r : AV × Hp} {Q : AV → AHeap → Prop} (e : rFin tm v h = some r) (rv : RA σ v v') (k : r.2 = h → ∀ u, RA σ r.1 u → Q u H) : fin tm v' H Q := by
  cases tm with
  | false => cases e; exact k rfl v' rv
  | true =>
    obtain ⟨b, e1, e2⟩ := bnd_inv e
    obtain rfl := aBool_inv e1
    cases e2
    obtain rfl : v' = .bool b := rv
    exact k rfl (.bool b) rfl
theorem bin_ok {o : Operator} {a b a' b' v : AV} {Q : AV → AHeap → Prop} (e : rBin o a b = some v) (ra : RA σ a a') (rb : RA σ b b') (k : ∀ u, RA σ v u → Q u H) : binVC o a' b' H Q := by
  cases a with
  | int x =>
    obtain ⟨y, e1, ee⟩ := bnd_inv e; clear e; revert ee; intro e
    obtain rfl := aInt_inv e1
    obtain rfl : a' = .int x := ra
    obtain rfl : b' = .int y := rb
    cases o with
    | Add => cases e; exact k _ rfl
    | Sub => cases e; exact k _ rfl
    | _ => cases e
  | bytes x =>
    obtain ⟨y, e1, ee⟩ := bnd_inv e; clear e; revert ee; intro e
    obtain rfl := aBytes_inv e1
    obtain rfl : a' = .bytes x := ra
    obtain rfl : b' = .bytes y := rb
    cases o with
    | Add =>
      obtain ⟨l, ee⟩ := gd_inv e; clear e; revert ee; intro e
      cases e
      exact ⟨rfl, okLen_le l, k _ rfl⟩
    | _ => cases e
  | _ => cases e
theorem cmpI_ok {o : CmpOp} {x y : Int} {t : Bool} {Q : Bool → Prop} (e : rCmpI o x y = some t) (k : Q t) : cmpI o x y Q := by
  cases o <;> first | (cases e; exact k) | cases e
theorem rEq_ok {o : CmpOp} {x t : Bool} {Q : Bool → Prop} (e : rEq o x = some t) (k : Q t) : eqB o x Q := by
  cases o <;> first | (cases e; exact k) | cases e
theorem rIn_ok {o : CmpOp} {x t : Bool} {Q : Bool → Prop} (e : rIn o x = some t) (k : Q t) : inB o x Q := by
  cases o <;> first | (cases e; exact k) | cases e
theorem rIs_ok {o : CmpOp} {x t : Bool} {Q : Bool → Prop} (e : rIs o x = some t) (k : Q t) : isB o x Q := by
  cases o <;> first | (cases e; exact k) | cases e
theorem cmp_ok {o : CmpOp} {a b a' b' : AV} {t : Bool} {Q : Bool → Prop} (R : HR σ h H) (e : rCmp o a b h = some t) (ra : RA σ a a') (rb : RA σ b b') (k : Q t) : cmpVC o a' b' H Q := by
  cases b with
  | none =>
    obtain rfl : b' = .none := rb
    obtain ⟨e1, ee⟩ := gd_inv e; clear e; revert ee; intro e
    have : noFn a' = noFn a ∧ isNone a' = isNone a := by
      cases a with
      | ref i => obtain ⟨x, _, rfl⟩ := ra; exact ⟨rfl, rfl⟩
      | _ => rw [show a' = _ from ra]; exact ⟨rfl, rfl⟩
    exact ⟨this.1.trans e1, this.2 ▸ rIs_ok e k⟩
  | int y =>
    obtain rfl : b' = .int y := rb
    obtain ⟨x, e1, ee⟩ := bnd_inv e; clear e; revert ee; intro e
    obtain rfl := aInt_inv e1
    obtain rfl : a' = .int x := ra
    exact cmpI_ok e k
  | str y =>
    obtain rfl : b' = .str y := rb
    cases a with
    | str x =>
      obtain rfl : a' = .str x := ra
      exact rEq_ok e k
    | _ => cases e
  | bytes y =>
    obtain rfl : b' = .bytes y := rb
    cases a with
    | bytes x =>
      obtain rfl : a' = .bytes x := ra
      exact rEq_ok e k
    | int i =>
      obtain rfl : a' = .int i := ra
      obtain ⟨e1, ee⟩ := gd_inv e; clear e; revert ee; intro e
      exact ⟨(of_decide_eq_true e1).1, (of_decide_eq_true e1).2, rIn_ok e k⟩
    | _ => cases e
  | con c =>
    obtain rfl : b' = .con c := rb
    cases a with
    | int i =>
      obtain rfl : a' = .int i := ra
      obtain ⟨ns, e1, ee⟩ := bnd_inv e; clear e; revert ee; intro e
      exact ⟨ns, e1, rIn_ok e k⟩
    | str i =>
      obtain rfl : a' = .str i := ra
      obtain ⟨ns, e1, ee⟩ := bnd_inv e; clear e; revert ee; intro e
      exact ⟨ns, e1, rIn_ok e k⟩
    | _ => cases e
  | ref y =>
    cases a with
    | str i =>
      obtain rfl : a' = .str i := ra
      cases o with
      | NotIn =>
        obtain ⟨kvs, e1, ee⟩ := bnd_inv e; clear e; revert ee; intro e
        cases e
        obtain ⟨x, o', rfl, e3, e4, ys, rfl, r⟩ := R.at rb (oDict_inv e1)
        refine ⟨rfl, R.dn (oDict_inv e1) e3, ys, e4, ?_⟩
        rw [RKs.lookS r]; exact k
      | _ => cases e
    | _ => cases e
  | _ => cases e
theorem item_ok {v i v' i' u : AV} {Q : AV → Prop} (e : rItem v i = some u) (rv : RA σ v v') (ri : RA σ i i') (k : ∀ u', RA σ u u' → Q u') : itemVC v' i' H Q := by
  obtain ⟨y, e1, ee⟩ := bnd_inv e; clear e; revert ee; intro e
  obtain ⟨l, e2, ee⟩ := bnd_inv e; clear e; revert ee; intro e
  obtain rfl := aInt_inv e1
  obtain rfl := aBytes_inv e2
  obtain rfl : i' = .int y := ri
  obtain rfl : v' = .bytes l := rv
  obtain ⟨e3, ee⟩ := gd_inv e; clear e; revert ee; intro e
  obtain ⟨e3, e4⟩ := Bool.and_eq_true_iff.1 e3
  split at e
  · rename_i b eb; cases e; exact ⟨(of_decide_eq_true e3).1, (of_decide_eq_true e3).2, okLen_le e4, b, eb, k _ rfl⟩
  · cases e
theorem onInt_of {v : AV} {P : Int → Prop} {i : Int} (h : v = .int i) (k : P i) : onInt v P := by subst h; exact k

theorem bytesOf_inv : ∀ {xs : List AV} {l : List UInt8}, bytesOf xs = some l → xs = l.map fun b => .int b.toNat
  | [], l, e => by cases e; rfl
  | .int i :: r, l, e => by
    obtain ⟨e1, ee⟩ := gd_inv e; clear e; revert ee; intro e
    obtain ⟨m, e2, ee⟩ := bnd_inv e; clear e; revert ee; intro e
    cases e
    rw [List.map_cons, bytesOf_inv e2]
    have := of_decide_eq_true e1
    congr 2
    have h1 : i.toNat < 256 := by omega
    have : i.toNat.toUInt8.toNat = i.toNat := by
      rw [Nat.toUInt8, UInt8.toNat_ofNat']; exact Nat.mod_eq_of_lt h1
    rw [this]; omega
  | .none :: _, _, e => by cases e
  | .bool _ :: _, _, e => by cases e
  | .str _ :: _, _, e => by cases e
  | .bytes _ :: _, _, e => by cases e
  | .ref _ :: _, _, e => by cases e
  | .fn _ :: _, _, e => by cases e
  | .con _ :: _, _, e => by cases e
theorem linesOf_inv : ∀ {xs : List AV} {l : List (List UInt8)}, linesOf xs = some l → xs = l.map .bytes
  | [], l, e => by cases e; rfl
  | .bytes i :: r, l, e => by
    obtain ⟨m, e2, ee⟩ := bnd_inv e; clear e; revert ee; intro e
    cases e
    rw [List.map_cons, linesOf_inv e2]
  | .none :: _, _, e => by cases e
  | .bool _ :: _, _, e => by cases e
  | .str _ :: _, _, e => by cases e
  | .int _ :: _, _, e => by cases e
  | .ref _ :: _, _, e => by cases e
  | .fn _ :: _, _, e => by cases e
  | .con _ :: _, _, e => by cases e
theorem strsOf_inv : ∀ {xs : List AV} {l : List (List Nat)}, strsOf xs = some l → xs = l.map .str
  | [], l, e => by cases e; rfl
  | .str i :: r, l, e => by
    obtain ⟨m, e2, e⟩ := Option.map_eq_some_iff.1 e
    cases e
    rw [List.map_cons, strsOf_inv e2]
  | .none :: _, _, e => by cases e
  | .bool _ :: _, _, e => by cases e
  | .bytes _ :: _, _, e => by cases e
  | .int _ :: _, _, e => by cases e
  | .ref _ :: _, _, e => by cases e
  | .fn _ :: _, _, e => by cases e
  | .con _ :: _, _, e => by cases e
theorem RAs.plain {xs ys : List AV} (h : ∀ x ∈ xs, isRef x = false) (r : RAs σ xs ys) : ys = xs := by
  induction xs generalizing ys with
  | nil => cases ys with
    | nil => rfl
    | cons => exact r.elim
  | cons x xs ih => cases ys with
    | nil => exact r.elim
    | cons y ys => rw [RA.eq (h x List.mem_cons_self) r.1, ih (fun z m => h z (List.mem_cons_of_mem _ m)) r.2]
theorem mapped {α : Type} {f : α → AV} (hf : ∀ a, isRef (f a) = false) {l : List α} {ys : List AV} (r : RAs σ (l.map f) ys) : ys = l.map f := RAs.plain (fun x m => by obtain ⟨a, _, rfl⟩ := List.mem_map.1 m; exact hf a) r
/-- a list of plain values at a ref -/
theorem HR.listAt (R : HR σ h H) {i : Nat} {a : AV} (r : RA σ (.ref i) a) {xs : List AV} (e : oList h[i]? = some xs) : ∃ x ys, a = .ref x ∧ σ[i]? = some x ∧ H x = some (.list ys) ∧ RAs σ xs ys := by
  obtain ⟨x, o', rfl, e1, e2, ys, rfl, r⟩ := R.at r (oList_inv e)
  exact ⟨x, ys, rfl, e1, e2, r⟩

theorem rB_ok {b : Bf} {vs vs' : List AV} {v : AV} {Q : AV → AHeap → Prop} (R : HR σ h H) (e : rB b vs h = some v) (rv : RAs σ vs vs') (k : ∀ u, RA σ v u → Q u H) : callB b vs' H Q := by
  obtain ⟨u, e1, ee⟩ := bnd_inv e; clear e; revert ee; intro e
  obtain rfl := a1_inv e1
  obtain ⟨u', rfl, ru⟩ := rv.one
  cases b with
  | len =>
    obtain ⟨m, e2, ee⟩ := bnd_inv e; clear e; revert ee; intro e
    obtain ⟨lm, ee⟩ := gd_inv e; clear e; revert ee; intro e
    cases e
    refine ⟨rfl, ?_⟩
    cases u with
    | bytes l => cases e2; obtain rfl : u' = .bytes l := ru; exact ⟨okLen_le lm, k _ rfl⟩
    | str l => cases e2; obtain rfl : u' = .str l := ru; exact ⟨okLen_le lm, k _ rfl⟩
    | ref i =>
      obtain ⟨xs, e3, e2⟩ := bnd_inv e2
      cases e2
      obtain ⟨x, ys, rfl, _, e4, r⟩ := R.listAt ru e3
      exact ⟨ys, e4, by rw [r.len]; exact okLen_le lm, by rw [r.len]; exact k _ rfl⟩
    | _ => cases e2
  | bytes =>
    obtain ⟨i, e2, ee⟩ := bnd_inv e; clear e; revert ee; intro e
    obtain rfl := aRef_inv e2
    obtain ⟨xs, e3, ee⟩ := bnd_inv e; clear e; revert ee; intro e
    obtain ⟨l, e4, ee⟩ := bnd_inv e; clear e; revert ee; intro e
    obtain ⟨lm, ee⟩ := gd_inv e; clear e; revert ee; intro e
    cases e
    obtain ⟨x, ys, rfl, _, e5, r⟩ := R.listAt ru e3
    rw [bytesOf_inv e4] at r
    rw [mapped (fun _ => rfl) r] at e5
    exact ⟨rfl, l, e5, okLen_le lm, k _ rfl⟩
  | chr =>
    obtain ⟨i, e2, ee⟩ := bnd_inv e; clear e; revert ee; intro e
    obtain rfl := aInt_inv e2
    obtain ⟨lm, ee⟩ := gd_inv e; clear e; revert ee; intro e
    cases e
    obtain rfl : u' = .int i := ru
    exact ⟨rfl, (of_decide_eq_true lm).1, (of_decide_eq_true lm).2, k _ rfl⟩
  | ord =>
    cases u with
    | str l =>
      cases l with
      | nil => cases e
      | cons c r => cases r with
        | cons => cases e
        | nil =>
          cases e
          obtain rfl : u' = .str [c] := ru
          exact ⟨rfl, c, rfl, k _ rfl⟩
    | _ => cases e
  | _ => cases e

theorem bytesM_ok {d : List UInt8} {m : Mt} {vs vs' : List AV} {v : AV} {Q : AV → AHeap → Prop} (R : HR σ h H) (e : rBytesM d m vs h = some v) (rv : RAs σ vs vs') (k : ∀ u, RA σ v u → Q u H) : bytesVC d m vs' H Q := by
  cases m with
  | find =>
    unfold rBytesM at e
    dsimp only at e
    split at e
    · rename_i s a b
      obtain ⟨lm, ee⟩ := gd_inv e; clear e; revert ee; intro e
      cases e
      have := of_decide_eq_true lm
      have e2 := RAs.plain (ys := vs') (by intro x m; simp at m; rcases m with rfl | rfl | rfl <;> rfl) rv
      subst e2
      exact ⟨rfl, this.1, this.2, k _ rfl⟩
    · cases e
  | strip =>
    obtain ⟨u, e1, ee⟩ := bnd_inv e; clear e; revert ee; intro e
    obtain ⟨s, e2, ee⟩ := bnd_inv e; clear e; revert ee; intro e
    obtain ⟨lm, ee⟩ := gd_inv e; clear e; revert ee; intro e
    obtain rfl := a1_inv e1
    obtain rfl := aBytes_inv e2
    cases e
    obtain ⟨u', rfl, ru⟩ := rv.one
    obtain rfl : u' = .bytes s := ru
    exact ⟨rfl, okLen_le lm, k _ rfl⟩
  | rstrip =>
    obtain ⟨u, e1, ee⟩ := bnd_inv e; clear e; revert ee; intro e
    obtain ⟨s, e2, ee⟩ := bnd_inv e; clear e; revert ee; intro e
    obtain ⟨lm, ee⟩ := gd_inv e; clear e; revert ee; intro e
    obtain rfl := a1_inv e1
    obtain rfl := aBytes_inv e2
    cases e
    obtain ⟨u', rfl, ru⟩ := rv.one
    obtain rfl : u' = .bytes s := ru
    exact ⟨rfl, okLen_le lm, k _ rfl⟩
  | join =>
    obtain ⟨u, e1, ee⟩ := bnd_inv e; clear e; revert ee; intro e
    obtain ⟨i, e2, ee⟩ := bnd_inv e; clear e; revert ee; intro e
    obtain ⟨xs, e3, ee⟩ := bnd_inv e; clear e; revert ee; intro e
    obtain ⟨ls, e4, ee⟩ := bnd_inv e; clear e; revert ee; intro e
    obtain ⟨lm, ee⟩ := gd_inv e; clear e; revert ee; intro e
    obtain rfl := a1_inv e1
    obtain rfl := aRef_inv e2
    cases e
    obtain ⟨lm1, lm2⟩ := Bool.and_eq_true_iff.1 lm
    obtain ⟨u', rfl, ru⟩ := rv.one
    obtain ⟨x, ys, rfl, _, e5, r⟩ := R.listAt ru e3
    rw [linesOf_inv e4] at r
    rw [mapped (fun _ => rfl) r] at e5
    exact ⟨rfl, List.isEmpty_iff.1 lm1, ls, e5, okLen_le lm2, k _ rfl⟩
  | _ => cases e
theorem strM_ok {d : List Nat} {m : Mt} {vs vs' : List AV} {v : AV} {Q : AV → AHeap → Prop} (R : HR σ h H) (e : rStrM d m vs h = some v) (rv : RAs σ vs vs') (k : ∀ u, RA σ v u → Q u H) : strVC d m vs' H Q := by
  obtain ⟨u, e1, ee⟩ := bnd_inv e; clear e; revert ee; intro e
  obtain rfl := a1_inv e1
  obtain ⟨u', rfl, ru⟩ := rv.one
  cases m with
  | find =>
    cases u with
    | str l =>
      cases l with
      | nil => cases e
      | cons c r => cases r with
        | cons => cases e
        | nil =>
          obtain ⟨lm, ee⟩ := gd_inv e; clear e; revert ee; intro e
          cases e
          obtain rfl : u' = .str [c] := ru
          refine ⟨rfl, c, rfl, fun m => ?_, k _ rfl⟩
          rw [List.contains_iff_mem.2 m] at lm; cases lm
    | _ => cases e
  | join =>
    obtain ⟨i, e2, ee⟩ := bnd_inv e; clear e; revert ee; intro e
    obtain ⟨xs, e3, ee⟩ := bnd_inv e; clear e; revert ee; intro e
    obtain ⟨ls, e4, ee⟩ := bnd_inv e; clear e; revert ee; intro e
    obtain ⟨lm, ee⟩ := gd_inv e; clear e; revert ee; intro e
    obtain rfl := aRef_inv e2
    cases e
    obtain ⟨lm1, lm2⟩ := Bool.and_eq_true_iff.1 lm
    obtain ⟨x, ys, rfl, _, e5, r⟩ := R.listAt ru e3
    rw [strsOf_inv e4] at r
    rw [mapped (fun _ => rfl) r] at e5
    exact ⟨rfl, List.isEmpty_iff.1 lm1, ls, e5, okLen_le lm2, k _ rfl⟩
  | _ => cases e

/-- what a loop takes -/
theorem items_ok {v v' : AV} {xs : List AV} {Q : List AV → Prop} (R : HR σ h H) (e : rItems v h = some xs) (rv : RA σ v v') (k : ∀ ys, RAs σ xs ys → xs.length ≤ 16777216 → Q ys) : itemsVC v' H Q := by
  have pl : ∀ {α : Type} (f : α → AV) (_ : ∀ a, isRef (f a) = false) (l : List α), RAs σ (l.map f) (l.map f) := by
    intro α f hf l
    induction l with
    | nil => trivial
    | cons a l ih => exact ⟨RA.plain (hf a), ih⟩
  cases v with
  | bytes l =>
    obtain ⟨lm, ee⟩ := gd_inv e; clear e; revert ee; intro e
    cases e
    obtain rfl : v' = .bytes l := rv
    exact ⟨okLen_le lm, k _ (pl _ (fun _ => rfl) l) (by rw [List.length_map]; exact okLen_le lm)⟩
  | str l =>
    obtain ⟨lm, ee⟩ := gd_inv e; clear e; revert ee; intro e
    cases e
    obtain ⟨lm, l2⟩ := Bool.and_eq_true_iff.1 lm
    obtain rfl : v' = .str l := rv
    exact ⟨okLen_le lm, fun c m => Nat.le_of_ble_eq_true (List.all_eq_true.1 l2 c m), k _ (pl _ (fun _ => rfl) l) (by rw [List.length_map]; exact okLen_le lm)⟩
  | ref i =>
    unfold rItems at e
    dsimp only at e
    split at e
    · rename_i xs' eo
      obtain ⟨lm, ee⟩ := gd_inv e; clear e; revert ee; intro e
      cases e
      obtain ⟨x, o', rfl, _, e5, ys, rfl, r⟩ := R.at rv eo
      exact .inl ⟨ys, e5, by rw [r.len]; exact okLen_le lm, k _ r (okLen_le lm)⟩
    · rename_i eo
      cases e
      obtain ⟨x, o', rfl, e4, e5, ys, rfl, r⟩ := R.at rv eo
      have : ys = [] := by cases ys with
        | nil => rfl
        | cons => exact r.elim
      subst this
      exact .inr (.inr ⟨e5, R.dn eo e4, k _ trivial (Nat.zero_le _)⟩)
    · cases e
  | _ => cases e
end
end
end Mine
namespace Mine
noncomputable section
set_option backward.match.sparseCases false

theorem bnd_el {α β : Type} {x : Option α} {f : α → Option β} {r : β} {P : Prop} (h : bnd x f = some r) (k : ∀ a, x = some a → f a = some r → P) : P := by
  cases x with
  | none => cases h
  | some a => exact k a rfl h
theorem gd_el {β : Type} {b : Bool} {x : Option β} {r : β} {P : Prop} (h : gd b x = some r) (k : b = true → x = some r → P) : P := by
  cases b with
  | false => cases h
  | true => exact k rfl h
theorem no_some {β : Type} {r : β} {P : Prop} (h : (none : Option β) = some r) : P := by cases h
theorem ff_tt {P : Prop} (h : false = true) : P := by cases h
theorem nil_of_isNil {e : E} (h : isNil e = true) : e = .nil := by cases e <;> first | rfl | exact ff_tt h
noncomputable def isSeq : E → Bool
  | .nil => true
  | .cons _ _ => true
  | .ccons _ _ _ => true
  | _ => false
theorem seq_none {cal : Addr → List AV → Hp → Option (AV × Hp)} {e : E} (h : isSeq e = false) : (∀ l h, rL cal e l h = none) ∧ (∀ l h, rO cal e l h = none) ∧ (∀ x l h, rC cal e x l h = none) ∧ (∀ c tm l h, rA cal e c tm l h = none) := by
  cases e <;> first | exact ⟨fun _ _ => rfl, fun _ _ => rfl, fun _ _ _ => rfl, fun _ _ _ _ => rfl⟩ | exact ff_tt h.symm

section
variable {w : World} {K : Frag} {n : Nat} {cal : Addr → List AV → Hp → Option (AV × Hp)} {fuel : Nat}

/-- what is wanted of a value that came back -/
abbrev KK (σ : List Addr) (H : AHeap) (h' : Hp) (v : AV) (Q : AV → AHeap → Prop) : Prop := ∀ σ' H' v', HR σ' h' H' → Ext σ H σ' H' → RA σ' v v' → Q v' H'
theorem KK.after {σ σ' : List Addr} {H H' : AHeap} {h' : Hp} {v : AV} {Q : AV → AHeap → Prop} (k : KK σ H h' v Q) (E : Ext σ H σ' H') : KK σ' H' h' v Q := fun _ _ _ R E' r => k _ _ _ R (E.trans E') r
noncomputable def CS (w : World) (K : Frag) (n : Nat) (cal : Addr → List AV → Hp → Option (AV × Hp)) : Prop :=
  ∀ f vs h (r : AV × Hp), cal f vs h = some r → ∀ σ H vs' Q, HR σ h H → RAs σ vs vs' → KK σ H r.2 r.1 Q → CallOK w K n f vs' H Q

noncomputable def GK (w : World) (K : Frag) (n : Nat) (cal : Addr → List AV → Hp → Option (AV × Hp)) (e : E) : Prop := ∀ {tm l h r}, rG cal e tm l h = some r → ∀ {σ H ls cel Q}, HR σ h H → RLs σ l ls → KK σ H r.2 r.1 Q → vcG w K n e tm ⟨ls, cel⟩ H Q
noncomputable def LK (w : World) (K : Frag) (n : Nat) (cal : Addr → List AV → Hp → Option (AV × Hp)) (e : E) : Prop := ∀ {l h r}, rL cal e l h = some r → ∀ {σ H ls cel} {Q : List AV → AHeap → Prop}, HR σ h H → RLs σ l ls → (∀ σ' H' vs', HR σ' r.2 H' → Ext σ H σ' H' → RAs σ' r.1 vs' → Q vs' H') → vcL w K n e ⟨ls, cel⟩ H Q
noncomputable def OK (w : World) (K : Frag) (n : Nat) (cal : Addr → List AV → Hp → Option (AV × Hp)) (e : E) : Prop := ∀ {l h r}, rO cal e l h = some r → ∀ {σ H ls cel} {Q : Option Int → AHeap → Prop}, HR σ h H → RLs σ l ls → (∀ σ' H', HR σ' r.2 H' → Ext σ H σ' H' → Q r.1 H') → vcO w K n e ⟨ls, cel⟩ H Q
noncomputable def CK (w : World) (K : Frag) (n : Nat) (cal : Addr → List AV → Hp → Option (AV × Hp)) (e : E) : Prop := ∀ {x l h r}, rC cal e x l h = some r → ∀ {σ H ls cel x'} {Q : Bool → AHeap → Prop}, HR σ h H → RLs σ l ls → RA σ x x' → (∀ σ' H', HR σ' r.2 H' → Ext σ H σ' H' → Q r.1 H') → vcC w K n e x' ⟨ls, cel⟩ H Q
noncomputable def AK (w : World) (K : Frag) (n : Nat) (cal : Addr → List AV → Hp → Option (AV × Hp)) (e : E) : Prop := ∀ {c tm l h r}, rA cal e c tm l h = some r → ∀ {σ H ls cel Q}, HR σ h H → RLs σ l ls → KK σ H r.2 r.1 Q → vcA w K n e c tm ⟨ls, cel⟩ H Q
structure AllK (w : World) (K : Frag) (n : Nat) (cal : Addr → List AV → Hp → Option (AV × Hp)) (e : E) : Prop where
  g : GK w K n cal e
  l : LK w K n cal e
  o : OK w K n cal e
  c : CK w K n cal e
  a : AK w K n cal e

theorem K_lit {v : AV} : GK w K n cal (.lit v) := by
  intro tm l h r e σ H ls cel Q R L k
  exact gd_el e fun e1 e => fin_ok e (RA.plain (by simpa using e1)) fun hh u ru => k σ H u (hh ▸ R) .refl ru
theorem K_glo {v : AV} : GK w K n cal (.glo v) := by
  intro tm l h r e σ H ls cel Q R L k
  exact gd_el e fun e1 e => fin_ok e (RA.plain (by simpa using e1)) fun hh u ru => k σ H u (hh ▸ R) .refl ru
theorem K_loc {i : Nat} : GK w K n cal (.loc i) := by
  intro tm l h r e σ H ls cel Q R L k
  refine bnd_el e fun v e1 e => bnd_el e1 fun o e1 e2 => ?_
  obtain rfl : o = some v := e2
  obtain ⟨b, eb, a, rfl, ra⟩ := L.get e1
  exact onLoc_of eb (fin_ok e ra fun hh u ru => k σ H u (hh ▸ R) .refl ru)
theorem K_bin {o : Operator} {a b : E} (ha : GK w K n cal a) (hb : GK w K n cal b) : GK w K n cal (.bin o a b) := by
  intro tm l h r e σ H ls cel Q R L k
  refine bnd_el e fun x e1 e => bnd_el e fun y e2 e => bnd_el e fun v e3 e => ha e1 R L fun σ1 H1 x' R1 E1 rx => hb e2 R1 (L.ext E1) fun σ2 H2 y' R2 E2 ry => ?_
  exact bin_ok e3 (rx.ext E2) ry fun u ru => fin_ok e ru fun hh u ru => k σ2 H2 u (hh ▸ R2) (E1.trans E2) ru
theorem K_neg {a : E} (ha : GK w K n cal a) : GK w K n cal (.neg a) := by
  intro tm l h r e σ H ls cel Q R L k
  refine bnd_el e fun x e1 e => bnd_el e fun i e2 e => ha e1 R L fun σ1 H1 x' R1 E1 rx => ?_
  rw [aInt_inv e2] at rx
  exact onInt_of rx (fin_ok (σ := σ1) (v := .int (-i)) e rfl fun hh u ru => k σ1 H1 u (hh ▸ R1) E1 ru)
theorem onB_of {v : AV} {P : Bool → Prop} {b : Bool} (h : v = .bool b) (k : P b) : onB v P := by subst h; exact k
theorem K_not {a : E} (ha : GK w K n cal a) : GK w K n cal (.not a) := by
  intro tm l h r e σ H ls cel Q R L k
  refine gd_el e fun et e => bnd_el e fun x e1 e => bnd_el e fun b e2 e => ⟨et, ha e1 R L fun σ1 H1 x' R1 E1 rx => ?_⟩
  rw [aBool_inv e2] at rx
  cases e
  exact onB_of rx (k σ1 H1 (.bool (!b)) R1 E1 rfl)
theorem K_ite {c a b : E} (hc : GK w K n cal c) (ha : GK w K n cal a) (hb : GK w K n cal b) : GK w K n cal (.ite c a b) := by
  intro tm l h r e σ H ls cel Q R L k
  refine gd_el e fun et e => bnd_el e fun x e1 e => bnd_el e fun t e2 e => ⟨by simpa using et, hc e1 R L fun σ1 H1 x' R1 E1 rx => ?_⟩
  rw [aBool_inv e2] at rx
  refine onB_of rx ⟨fun ht => ?_, fun ht => ?_⟩
  · subst ht; exact ha e R1 (L.ext E1) (k.after E1)
  · subst ht; exact hb e R1 (L.ext E1) (k.after E1)
theorem K_cmp {a r : E} (ha : GK w K n cal a) (hr : CK w K n cal r) : GK w K n cal (.cmp a r) := by
  intro tm l h r e σ H ls cel Q R L k
  refine bnd_el e fun x e1 e => bnd_el e fun y e2 e => ha e1 R L fun σ1 H1 x' R1 E1 rx => hr e2 R1 (L.ext E1) rx fun σ2 H2 R2 E2 => ?_
  cases e
  exact k σ2 H2 (.bool y.1) R2 (E1.trans E2) rfl
theorem C_ccons {o : CmpOp} {a r : E} (ha : GK w K n cal a) (hr : CK w K n cal r) : CK w K n cal (.ccons o a r) := by
  intro x l h q e σ H ls cel x' Q R L rx k
  refine bnd_el e fun y e1 e => bnd_el e fun b e2 e => ha e1 R L fun σ1 H1 y' R1 E1 ry => cmp_ok R1 e2 (rx.ext E1) ry (ifNil_of (fun hn => ?_) fun hn => ⟨fun hb => ?_, fun hb => ?_⟩)
  · rw [hn] at e; cases e; exact k σ1 H1 R1 E1
  · rw [hn, hb] at e; exact hr e R1 (L.ext E1) ry fun σ2 H2 R2 E2 => k σ2 H2 R2 (E1.trans E2)
  · rw [hn, hb] at e; cases e; exact k σ1 H1 R1 E1
theorem truth_of {v : AV} {P : Bool → Prop} {b : Bool} {H : AHeap} (h : v = .bool b) (k : P b) : truthVC v H P := by subst h; exact k
theorem A_cons' {a r : E} (ha : GK w K n cal a) (hr : AK w K n cal r) : AK w K n cal (.cons a r) := by
  intro c tm l h q e σ H ls cel Q R L k
  have e : (match isNil r with
    | true => rG cal a tm l h
    | false => bnd (rG cal a tm l h) fun x => bnd (aBool x.1) fun b => (match b == c with
      | true => rA cal r c tm l x.2
      | false => some (.bool b, x.2))) = some q := e
  refine ifNil_of (fun hn => ?_) fun hn => ?_
  · rw [hn] at e; exact ha e R L k
  · rw [hn] at e
    refine bnd_el e fun x e1 e => bnd_el e fun b e2 e => ?_
    have go : ∀ σ1 H1, HR σ1 x.2 H1 → Ext σ H σ1 H1 → (b = c → vcA w K n r c tm ⟨ls, cel⟩ H1 Q) ∧ (b = !c → Q (.bool b) H1) := fun σ1 H1 R1 E1 => by
      refine ⟨fun hb => ?_, fun hb => ?_⟩
      · rw [hb, beq_self_eq_true] at e; exact hr e R1 (L.ext E1) (k.after E1)
      · have : (b == c) = false := by rw [hb]; cases c <;> rfl
        rw [this] at e; cases e; exact k σ1 H1 (.bool b) R1 E1 rfl
    cases tm with
    | true =>
      refine ha e1 R L fun σ1 H1 x' R1 E1 rx => ?_
      rw [aBool_inv e2] at rx
      exact onB_of rx (go σ1 H1 R1 E1)
    | false =>
      refine ha e1 R L fun σ1 H1 x' R1 E1 rx => ?_
      rw [aBool_inv e2] at rx
      obtain rfl : x' = .bool b := rx
      exact go σ1 H1 R1 E1
theorem L_nil' : LK w K n cal .nil := by
  intro l h r e σ H ls cel Q R L k
  cases e; exact k σ H [] R .refl trivial
theorem L_cons' {a r : E} (ha : GK w K n cal a) (hr : LK w K n cal r) : LK w K n cal (.cons a r) := by
  intro l h q e σ H ls cel Q R L k
  refine bnd_el e fun x e1 e => bnd_el e fun y e2 e => ha e1 R L fun σ1 H1 x' R1 E1 rx => hr e2 R1 (L.ext E1) fun σ2 H2 ys R2 E2 ry => ?_
  cases e
  exact k σ2 H2 (x' :: ys) R2 (E1.trans E2) ⟨rx.ext E2, ry⟩
theorem O_nil' : OK w K n cal .nil := by
  intro l h r e σ H ls cel Q R L k
  cases e; exact k σ H R .refl
theorem O_cons' {a r : E} (ha : GK w K n cal a) : OK w K n cal (.cons a r) := by
  intro l h q e σ H ls cel Q R L k
  refine bnd_el e fun x e1 e => bnd_el e fun i e2 e => gd_el e fun e3 e => ha e1 R L fun σ1 H1 x' R1 E1 rx => ?_
  rw [aInt_inv e2] at rx
  cases e
  exact onInt_of rx ⟨of_decide_eq_true e3, k σ1 H1 R1 E1⟩
theorem K_call {f args : E} (hcs : CS w K n cal) (hl : LK w K n cal args) : GK w K n cal (.call f args) := by
  intro tm l h r e σ H ls cel Q R L k
  cases f with
  | glo g =>
    cases g with
    | ref a =>
      exact gd_el e fun ec e => bnd_el e fun vs e1 e => bnd_el e fun x e2 e => hl e1 R L fun σ1 H1 vs' R1 E1 rv =>
        ⟨ec, hcs a _ _ _ e2 σ1 H1 vs' _ R1 rv fun σ2 H2 u R2 E2 ru => fin_ok e ru fun hh u ru => k σ2 H2 u (hh ▸ R2) (E1.trans E2) ru⟩
    | fn b =>
      exact bnd_el e fun vs e1 e => bnd_el e fun v e2 e => hl e1 R L fun σ1 H1 vs' R1 E1 rv =>
        rB_ok (Q := fun v H => fin tm v H Q) R1 e2 rv fun u ru => fin_ok e ru fun hh u ru => k σ1 H1 u (hh ▸ R1) E1 ru
    | _ => exact no_some e
  | _ => exact no_some e
theorem K_attr {o : E} {a : At} (ho : GK w K n cal o) : GK w K n cal (.attr o a) := by
  intro tm l h r e σ H ls cel Q R L k
  refine bnd_el e fun x e1 e => bnd_el e fun i e2 e => bnd_el e fun cd e3 e => bnd_el e fun kvs e4 e => bnd_el e fun v e5 e => ho e1 R L fun σ1 H1 x' R1 E1 rx => ?_
  rw [aRef_inv e2] at rx
  obtain ⟨y, o1, rfl, _, h1, d, hd, rfl⟩ := R1.at rx (oInst_inv e3)
  obtain ⟨d', o2, hd', h2, kvs', rfl, rk⟩ := R1.get (oAttrs_inv e4)
  rw [hd] at hd'; cases hd'
  obtain ⟨u, l1, ru⟩ := rk.lookA e5
  exact ⟨_, _, _, u, h1, h2, l1, fin_ok e ru fun hh u ru => k σ1 H1 u (hh ▸ R1) E1 ru⟩
theorem K_item {o i : E} (ho : GK w K n cal o) (hi : GK w K n cal i) : GK w K n cal (.item o i) := by
  intro tm l h r e σ H ls cel Q R L k
  exact bnd_el e fun x e1 e => bnd_el e fun y e2 e => bnd_el e fun v e3 e => ho e1 R L fun σ1 H1 x' R1 E1 rx => hi e2 R1 (L.ext E1) fun σ2 H2 y' R2 E2 ry =>
    item_ok e3 (rx.ext E2) ry fun u ru => fin_ok e ru fun hh u ru => k σ2 H2 u (hh ▸ R2) (E1.trans E2) ru
theorem slice_of {v : AV} {d : List UInt8} {lo hi : Option Int} {H : AHeap} {Q : AV → AHeap → Prop} (h : v = .bytes d) (l : d.length ≤ 16777216) (k : Q (.bytes (sl d lo hi)) H) : sliceVC v lo hi H Q := by subst h; exact ⟨l, k⟩
theorem K_slice {o lo hi : E} (ho : GK w K n cal o) (hl : OK w K n cal lo) (hu : OK w K n cal hi) : GK w K n cal (.slice o lo hi) := by
  intro tm l h r e σ H ls cel Q R L k
  refine bnd_el e fun x e1 e => bnd_el e fun y e2 e => bnd_el e fun z e3 e => bnd_el e fun d e4 e => gd_el e fun e5 e => ho e1 R L fun σ1 H1 x' R1 E1 rx => hl e2 R1 (L.ext E1) fun σ2 H2 R2 E2 => hu e3 R2 ((L.ext E1).ext E2) fun σ3 H3 R3 E3 => ?_
  rw [aBytes_inv e4] at rx
  exact slice_of rx (okLen_le e5) (fin_ok (σ := σ3) (v := .bytes (sl d y.1 z.1)) e rfl fun hh u ru => k σ3 H3 u (hh ▸ R3) ((E1.trans E2).trans E3) ru)
/-- a new object that comes back -/
theorem new_ok {σ : List Addr} {h : Hp} {H : AHeap} {o o' : AO} {a : Addr} {r : AV × Hp} {Q : AV → AHeap → Prop} (e : (AV.ref h.length, h ++ [o]) = r) (R : HR σ h H) (ro : RAO σ o o') (ha : H a = none) (dn : ∀ kvs, o = .dict kvs → a ≠ sysModules) (k : KK σ H r.2 r.1 Q) : Q (.ref a) (upd H a o') := by
  subst e
  exact k _ _ _ (R.push ha (ro.app _) dn) (Ext.push ha) ⟨a, R.top a, rfl⟩
theorem K_tup {a : E} (hl : LK w K n cal a) : GK w K n cal (.tup a) := by
  intro tm l h r e σ H ls cel Q R L k
  exact gd_el e fun et e => bnd_el e fun vs e1 e => gd_el e fun e2 e => ⟨by simpa using et, hl e1 R L fun σ1 H1 vs' R1 E1 rv =>
    ⟨by rw [rv.len]; exact okLen_le e2, fun a ha => new_ok (Option.some.inj e) R1 ⟨vs', rfl, rv⟩ ha nofun (k.after E1)⟩⟩
theorem K_lst {a : E} (hl : LK w K n cal a) : GK w K n cal (.lst a) := by
  intro tm l h r e σ H ls cel Q R L k
  cases tm with
  | true => exact gd_el e fun et _ => by cases et
  | false =>
  refine gd_el e fun et e => bnd_el e fun vs e1 e => gd_el e fun e2 e => ?_
  exact hl e1 R L fun σ1 H1 vs' R1 E1 rv => ⟨by rw [rv.len]; exact okLen_le e2, fun a ha => new_ok (Option.some.inj e) R1 ⟨vs', rfl, rv⟩ ha nofun (k.after E1)⟩
theorem K_dct0 : GK w K n cal .dct0 := by
  intro tm l h r e σ H ls cel Q R L k
  exact gd_el e fun et e => ⟨by simpa using et, fun a ha hs => new_ok (Option.some.inj e) R ⟨[], rfl, trivial⟩ ha (fun _ _ => hs) k⟩
theorem K_dct1 {x v : List Nat} : GK w K n cal (.dct1 x v) := by
  intro tm l h r e σ H ls cel Q R L k
  exact gd_el e fun et e => ⟨by simpa using et, fun a ha hs => new_ok (Option.some.inj e) R ⟨_, rfl, ⟨rfl, rfl⟩, trivial⟩ ha (fun _ _ => hs) k⟩

theorem stays_plain {v : AV} {H H' : AHeap} (h : isRef v = false) : Stays v H H' := by
  cases v with
  | ref => cases h
  | _ => trivial
theorem comp_run {ev : Ls → Hp → Option (AV × Hp)} {i : Nat} : ∀ {xs : List AV} {h : Hp} {acc : List AV} {r : List AV × Hp}, rComp ev i xs h acc = some r → acc.length ≤ r.1.length ∧ r.1.length = acc.length + xs.length
  | [], h, acc, r, e => by cases e; exact ⟨Nat.le_refl _, rfl⟩
  | x :: xs, h, acc, r, e => by
    refine bnd_el e fun y e1 e => ?_
    have := comp_run e
    rw [List.length_append] at this
    exact ⟨by have := this.1; simp at this; omega, by rw [this.2, List.length_cons]; simp; omega⟩
theorem RLs3 {σ : List Addr} {i : Nat} {v a : AV} (r : RA σ v a) : RLs σ ([none, none, none].set i (some v)) ([none, none, none].set i (some a)) :=
  All2.set (R := ROp σ) (as := [none, none, none]) (bs := [none, none, none]) (show ROp σ none none ∧ ROp σ none none ∧ ROp σ none none ∧ True from ⟨trivial, trivial, trivial, trivial⟩) ⟨a, rfl, r⟩
theorem K_comp {elt iter cond : E} {p : Pt} (he : GK w K n cal elt) (hi : GK w K n cal iter) : GK w K n cal (.comp elt p iter cond) := by
  intro tm l h r e σ H ls cel Q R L k
  refine gd_el e fun et' e' => ?_
  clear e
  obtain ⟨et, ec⟩ := Bool.and_eq_true_iff.1 et'
  obtain rfl := nil_of_isNil ec
  cases p with
  | tup => cases e'
  | one i =>
    refine bnd_el e' fun x e1 e => gd_el e fun ex e => bnd_el e fun xs e2 e => gd_el e fun e3 e => bnd_el e fun q e4 e => ⟨by simpa using et, hi e1 R L fun σ1 H1 x' R1 E1 rx => ?_⟩
    have ex : isRef x.1 = false := by simpa using ex
    obtain rfl := RA.eq ex rx
    refine items_ok R1 e2 rx fun ys ry hx => ⟨by rw [ry.len]; exact hx, fun j acc Hk => ∃ σk hk acc₀, HR σk hk Hk ∧ Ext σ1 H1 σk Hk ∧ RAs σk acc₀ acc ∧ rComp (fun l h => rG cal elt false l h) i (xs.drop j) hk acc₀ = some q, ⟨σ1, x.2, [], R1, .refl, trivial, e4⟩, ?_, ?_⟩
    · rintro j acc Hk y hy ⟨σk, hk, acc₀, Rk, Ek, ra, er⟩ -
      have hj : j < xs.length := by
        have := (List.getElem?_eq_some_iff.1 hy).1
        rw [ry.len] at this; exact this
      rw [List.drop_eq_getElem_cons hj] at er
      obtain ⟨y', ey, r1⟩ := ry.get (List.getElem?_eq_getElem hj)
      rw [hy] at ey; cases ey
      refine bnd_el er fun z ez er => ⟨fun _ => he ez Rk (RLs3 (r1.ext Ek)) fun σ2 H2 u R2 E2 ru => ⟨stays_plain ex, σ2, z.2, acc₀ ++ [z.1], R2, Ek.trans E2, All2.app (ra.ext E2) ⟨ru, trivial⟩, er⟩, nofun⟩
    · rintro acc He ⟨σk, hk, acc₀, Rk, Ek, ra, er⟩ - a ha
      rw [ry.len, List.drop_length] at er
      cases er
      exact new_ok (Option.some.inj e) Rk ⟨acc, rfl, ra⟩ ha nofun (k.after (E1.trans Ek))
theorem K_meth {o args : E} {m : Mt} (hcs : CS w K n cal) (ho : GK w K n cal o) (hl : LK w K n cal args) : GK w K n cal (.meth o m args) := by
  intro tm l h r e σ H ls cel Q R L k
  refine bnd_el e fun x e1 e => ho e1 R L fun σ1 H1 x' R1 E1 rx => ?_
  obtain ⟨x, h1⟩ := x
  cases x with
  | bytes d =>
    obtain rfl : x' = .bytes d := rx
    refine gd_el e fun em e => bnd_el e fun vs e2 e => bnd_el e fun v e3 e => ?_
    obtain ⟨i, ei⟩ := Option.isSome_iff_exists.1 em
    exact ⟨i, ei, hl e2 R1 (L.ext E1) fun σ2 H2 vs' R2 E2 rv => bytesM_ok (Q := fun v H => fin tm v H Q) R2 e3 rv fun u ru => fin_ok e ru fun hh u ru => k σ2 H2 u (hh ▸ R2) (E1.trans E2) ru⟩
  | str d =>
    obtain rfl : x' = .str d := rx
    refine gd_el e fun em e => bnd_el e fun vs e2 e => bnd_el e fun v e3 e => ?_
    obtain ⟨i, ei⟩ := Option.isSome_iff_exists.1 em
    exact ⟨i, ei, hl e2 R1 (L.ext E1) fun σ2 H2 vs' R2 E2 rv => strM_ok (Q := fun v H => fin tm v H Q) R2 e3 rv fun u ru => fin_ok e ru fun hh u ru => k σ2 H2 u (hh ▸ R2) (E1.trans E2) ru⟩
  | ref a =>
    dsimp only at e
    generalize ho : h1[a]? = oo at e
    cases oo with
    | none => exact no_some e
    | some ob =>
      cases ob with
      | list xs =>
        cases m with
        | append =>
          refine bnd_el e fun vs e2 e => bnd_el e fun y e3 e => bnd_el e fun ys e4 e => gd_el e fun e5 e => ?_
          obtain ⟨z, o1, rfl, hz, hx, xs', rfl, rxs⟩ := R1.at rx ho
          refine .inl ⟨_, _, rfl, hx, hl e2 R1 (L.ext E1) fun σ2 H2 vs' R2 E2 rv => ?_⟩
          rw [a1_inv e3] at rv
          obtain ⟨u, rfl, ru⟩ := rv.one
          obtain ⟨z', ys', hz', hs, h2, r2⟩ := R2.listAt (rx.ext E2) e4
          cases hz'
          refine ⟨rfl, ys', h2, by rw [r2.len]; exact Nat.le_of_ble_eq_true e5, ?_⟩
          exact fin_ok (σ := σ2) (v := .none) e rfl fun hh u' ru' => k σ2 _ u' (hh ▸ R2.put hs ⟨_, rfl, All2.app r2 ⟨ru, trivial⟩⟩ nofun) ((E1.trans E2).trans (Ext.put hs)) ru'
        | _ => exact no_some e
      | inst c d =>
        refine bnd_el e fun kvs e2 e => bnd_el e fun f e3 e => bnd_el e fun vs e4 e => bnd_el e fun y e5 e => ?_
        obtain ⟨z, o1, rfl, hz, hx, d', hd, rfl⟩ := R1.at rx ho
        obtain ⟨d'', o2, hd', h2, kvs', rfl, rk⟩ := R1.get (oAttrs_inv e2)
        rw [hd] at hd'; cases hd'
        exact .inr (.inr ⟨_, _, _, f, hx, h2, e3, hl e4 R1 (L.ext E1) fun σ2 H2 vs' R2 E2 rv => hcs f _ _ _ e5 σ2 H2 (.ref z :: vs') _ R2 ⟨rx.ext E2, rv⟩ fun σ3 H3 u R3 E3 ru =>
          fin_ok e ru fun hh u ru => k σ3 H3 u (hh ▸ R3) ((E1.trans E2).trans E3) ru⟩)
      | _ => exact no_some e
  | _ => exact no_some e

theorem ofG {e : E} (g : GK w K n cal e) (h : isSeq e = false) : AllK w K n cal e :=
  ⟨g, fun q => no_some ((seq_none h).1 _ _ ▸ q), fun q => no_some ((seq_none h).2.1 _ _ ▸ q), fun q => no_some ((seq_none h).2.2.1 _ _ _ ▸ q), fun q => no_some ((seq_none h).2.2.2 _ _ _ _ ▸ q)⟩
theorem all_ok (hcs : CS w K n cal) (e : E) : AllK w K n cal e := by
  induction e with
  | lit v => exact ofG K_lit rfl
  | glo v => exact ofG K_glo rfl
  | loc i => exact ofG K_loc rfl
  | bin o a b ha hb => exact ofG (K_bin ha.g hb.g) rfl
  | neg a ha => exact ofG (K_neg ha.g) rfl
  | not a ha => exact ofG (K_not ha.g) rfl
  | and_ a ha => exact ofG (fun e _ _ _ _ _ R L k => ha.a e R L k) rfl
  | or_ a ha => exact ofG (fun e _ _ _ _ _ R L k => ha.a e R L k) rfl
  | ite c a b hc ha hb => exact ofG (K_ite hc.g ha.g hb.g) rfl
  | cmp a r ha hr => exact ofG (K_cmp ha.g hr.c) rfl
  | call f a _ ha => exact ofG (K_call hcs ha.l) rfl
  | meth o m a ho ha => exact ofG (K_meth hcs ho.g ha.l) rfl
  | attr o a ho => exact ofG (K_attr ho.g) rfl
  | item o i ho hi => exact ofG (K_item ho.g hi.g) rfl
  | slice o l u ho hl hu => exact ofG (K_slice ho.g hl.o hu.o) rfl
  | tup a ha => exact ofG (K_tup ha.l) rfl
  | lst a ha => exact ofG (K_lst ha.l) rfl
  | dct0 => exact ofG K_dct0 rfl
  | dct1 => exact ofG K_dct1 rfl
  | comp elt p it c he hi _ => exact ofG (K_comp he.g hi.g) rfl
  | nil => exact ⟨fun q => no_some q, L_nil', O_nil', fun q => no_some q, fun q => no_some q⟩
  | cons a r ha hr => exact ⟨fun q => no_some q, L_cons' ha.g hr.l, O_cons' ha.g, fun q => no_some q, A_cons' ha.g hr.a⟩
  | ccons o a r ha hr => exact ⟨fun q => no_some q, fun q => no_some q, fun q => no_some q, C_ccons ha.g hr.c, fun q => no_some q⟩
  | cel | bad | absent => exact ofG (fun q => no_some q) rfl
end
end
end Mine
namespace Mine
noncomputable section
set_option backward.match.sparseCases false

section
variable {w : World} {K : Frag} {n : Nat} {cal : Addr → List AV → Hp → Option (AV × Hp)} {fuel : Nat}

theorem RLs.set {σ : List Addr} {l ls : Ls} {i : Nat} {v a : AV} (L : RLs σ l ls) (r : RA σ v a) : RLs σ (l.set i (some v)) (ls.set i (some a)) := All2.set (R := ROp σ) L ⟨a, rfl, r⟩
theorem RLs.setLocs {σ : List Addr} : ∀ {is : List Nat} {xs ys : List AV} {l ls : Ls}, RAs σ xs ys → RLs σ l ls → RLs σ (Mine.setLocs l is xs) (Mine.setLocs ls is ys)
  | [], _, _, _, _, _, L => L
  | _ :: _, [], [], _, _, _, L => L
  | _ :: _, [], _ :: _, _, _, r, _ => r.elim
  | _ :: _, _ :: _, [], _, _, r, _ => r.elim
  | _ :: is, _ :: _, _ :: _, _, _, r, L => RLs.setLocs (is := is) r.2 (L.set r.1)

abbrev TQ (σ : List Addr) (H : AHeap) (r : Ls × Hp) (cel : List Addr) (Q : Rho → AHeap → Prop) : Prop := ∀ σ' H' ls', HR σ' r.2 H' → Ext σ H σ' H' → RLs σ' r.1 ls' → Q ⟨ls', cel⟩ H'
noncomputable def GT (w : World) (K : Frag) (n : Nat) (cal : Addr → List AV → Hp → Option (AV × Hp)) (t : Tg) : Prop := ∀ {v l h r}, rTg cal t v l h = some r → ∀ {σ H ls cel v' Q}, HR σ h H → RLs σ l ls → RA σ v v' → TQ σ H r cel Q → vcT w K n t v' ⟨ls, cel⟩ H Q
noncomputable def GTs (w : World) (K : Frag) (n : Nat) (cal : Addr → List AV → Hp → Option (AV × Hp)) (t : Tg) : Prop := ∀ {vs l h r}, rTgs cal t vs l h = some r → ∀ {σ H ls cel vs' Q}, HR σ h H → RLs σ l ls → RAs σ vs vs' → TQ σ H r cel Q → vcTs w K n t vs' ⟨ls, cel⟩ H Q
theorem tg_ok (hcs : CS w K n cal) (t : Tg) : GT w K n cal t ∧ GTs w K n cal t := by
  induction t with
  | loc i =>
    refine ⟨fun e σ H ls cel v' Q R L r k => ?_, fun {vs} _ _ _ e => by cases vs <;> exact no_some e⟩
    cases e
    exact k σ H _ R .refl (L.set r)
  | cel => exact ⟨fun e => no_some e, fun {vs} _ _ _ e => by cases vs <;> exact no_some e⟩
  | attr o a =>
    refine ⟨fun e σ H ls cel v' Q R L r k => ?_, fun {vs} _ _ _ e => by cases vs <;> exact no_some e⟩
    refine bnd_el e fun x e1 e => bnd_el e fun i e2 e => bnd_el e fun cd e3 e => bnd_el e fun kvs e4 e => gd_el e fun e5 e => (all_ok hcs o).g e1 R L fun σ1 H1 x' R1 E1 rx => ?_
    rw [aRef_inv e2] at rx
    obtain ⟨y, o1, rfl, _, h1, d, hd, rfl⟩ := R1.at rx (oInst_inv e3)
    obtain ⟨d', o2, hd', h2, kvs', rfl, rk⟩ := R1.get (oAttrs_inv e4)
    rw [hd] at hd'; cases hd'
    refine ⟨_, _, kvs', h1, h2, by rw [rk.len]; exact Nat.le_of_ble_eq_true e5, ?_⟩
    cases e
    exact k σ1 _ _ (R1.put hd ⟨_, rfl, rk.putA (r.ext E1)⟩ nofun) (E1.trans (Ext.put hd)) (L.ext E1)
  | item o i =>
    refine ⟨fun e σ H ls cel v' Q R L r k => ?_, fun {vs} _ _ _ e => by cases vs <;> exact no_some e⟩
    refine bnd_el e fun x e1 e => bnd_el e fun y e2 e => bnd_el e fun a e3 e => (all_ok hcs o).g e1 R L fun σ1 H1 x' R1 E1 rx => (all_ok hcs i).g e2 R1 (L.ext E1) fun σ2 H2 y' R2 E2 ry => ?_
    obtain ⟨y, hy⟩ := y
    rw [aRef_inv e3] at rx
    cases y with
    | str s =>
      obtain rfl : y' = .str s := ry
      refine bnd_el e fun kvs e4 e => gd_el e fun e5 e => ?_
      obtain ⟨z, o1, rfl, hz, h1, kvs', rfl, rk⟩ := R2.at (rx.ext E2) (oDict_inv e4)
      refine ⟨kvs', h1, by rw [rk.len]; exact Nat.le_of_ble_eq_true e5, ?_⟩
      cases e
      exact k σ2 _ _ (R2.put hz ⟨_, rfl, rk.putS ((r.ext E1).ext E2)⟩ fun _ _ => R2.dn (oDict_inv e4) hz) ((E1.trans E2).trans (Ext.put hz)) ((L.ext E1).ext E2)
    | _ => exact no_some e
  | tup t ht =>
    refine ⟨fun e σ H ls cel v' Q R L r k => ?_, fun {vs} _ _ _ e => by cases vs <;> exact no_some e⟩
    refine bnd_el e fun a e1 e => bnd_el e fun xs e2 e => gd_el e fun e3 e => ?_
    rw [aRef_inv e1] at r
    obtain ⟨z, o1, rfl, hz, h1, ys, rfl, ry⟩ := R.at r (oTup_inv e2)
    exact ⟨z, ys, rfl, h1, ry.len.trans (of_decide_eq_true e3), ht.2 e R L ry k⟩
  | nil =>
    refine ⟨fun e => no_some e, fun {vs} _ _ _ e σ H ls cel vs' Q R L r k => ?_⟩
    cases vs with
    | cons => exact no_some e
    | nil =>
      cases e
      cases vs' with
      | nil => exact ⟨rfl, k σ H ls R .refl L⟩
      | cons => exact r.elim
  | cons t u ht hu =>
    refine ⟨fun e => no_some e, fun {vs} _ _ _ e σ H ls cel vs' Q R L r k => ?_⟩
    cases vs with
    | nil => exact no_some e
    | cons y ys =>
      cases vs' with
      | nil => exact r.elim
      | cons y' ys' =>
        exact bnd_el e fun x e1 e => ⟨y', ys', rfl, ht.1 e1 R L r.1 fun σ1 H1 ls1 R1 E1 L1 => hu.2 e R1 L1 (RAs.ext r.2 E1) fun σ2 H2 ls2 R2 E2 L2 => k σ2 H2 ls2 R2 (E1.trans E2) L2⟩

noncomputable def RFw (σ : List Addr) : Fl → Fl → Prop
  | .next, f => f = .next
  | .ret v, f => ∃ a, f = .ret a ∧ RA σ v a
abbrev SQ (σ : List Addr) (H : AHeap) (r : Fl × Ls × Hp) (cel : List Addr) (Q : Fl → Rho → AHeap → Prop) : Prop := ∀ σ' H' ls' fl', HR σ' r.2.2 H' → Ext σ H σ' H' → RLs σ' r.2.1 ls' → RFw σ' r.1 fl' → Q fl' ⟨ls', cel⟩ H'
theorem SQ.after {σ σ' : List Addr} {H H' : AHeap} {r : Fl × Ls × Hp} {cel : List Addr} {Q : Fl → Rho → AHeap → Prop} (k : SQ σ H r cel Q) (E : Ext σ H σ' H') : SQ σ' H' r cel Q := fun _ _ _ _ R E' L f => k _ _ _ _ R (E.trans E') L f
noncomputable def GS (w : World) (K : Frag) (n : Nat) (cal : Addr → List AV → Hp → Option (AV × Hp)) (fuel : Nat) (t : S) : Prop := ∀ {l h r}, rS cal fuel t l h = some r → ∀ {σ H ls cel Q}, HR σ h H → RLs σ l ls → SQ σ H r cel Q → vcS w K n t ⟨ls, cel⟩ H Q

theorem pat_ok {σ : List Addr} {H : AHeap} {h : Hp} {p : Pt} {x x' : AV} {l l' ls : Ls} {P : Ls → Prop} (R : HR σ h H) (e : rPat p x l h = some l') (rx : RA σ x x') (L : RLs σ l ls) (k : ∀ ls', RLs σ l' ls' → P ls') : patVC p x' ls H P := by
  cases p with
  | one i => cases e; exact k _ (L.set rx)
  | tup is =>
    refine bnd_el e fun a e1 e => bnd_el e fun xs e2 e => gd_el e fun e3 e => ?_
    rw [aRef_inv e1] at rx
    obtain ⟨z, o1, rfl, hz, h1, ys, rfl, ry⟩ := R.at rx (oTup_inv e2)
    have e3 := of_decide_eq_true e3
    cases e
    exact ⟨z, ys, rfl, h1, ry.len.trans e3.1, by rw [ry.len]; exact e3.2, k _ (L.setLocs ry)⟩
theorem RAs.fn {σ : List Addr} : ∀ {xs ys zs : List AV}, RAs σ xs ys → RAs σ xs zs → zs = ys
  | [], [], [], _, _ => rfl
  | [], [], _ :: _, _, h => h.elim
  | [], _ :: _, _, h, _ => h.elim
  | _ :: _, [], _, h, _ => h.elim
  | _ :: _, _ :: _, [], _, h => h.elim
  | x :: _, _ :: _, _ :: _, h, h' => by
    rw [RAs.fn h.2 h'.2]
    congr 1
    have h1 := h.1
    have h2 := h'.1
    cases x with
    | ref i => obtain ⟨a, e, rfl⟩ := h1; obtain ⟨b, f, rfl⟩ := h2; rw [e] at f; cases f; rfl
    | _ => exact Eq.trans h2 (Eq.symm h1)
theorem stays_ok {σ1 σ2 : List Addr} {h1 h2 : Hp} {H1 H2 : AHeap} {v v' : AV} {xs : List AV} (R1 : HR σ1 h1 H1) (R2 : HR σ2 h2 H2) (E : Ext σ1 H1 σ2 H2) (rv : RA σ1 v v') (hi : rItems v h1 = some xs) (hx : xs ≠ []) (e : rStays v xs h2 = true) : Stays v' H1 H2 := by
  cases v with
  | ref a =>
    have e1 : h1[a]? = some (.list xs) := by
      unfold rItems at hi
      dsimp only at hi
      split at hi
      · rename_i ys eo
        exact gd_el hi fun _ hi => by cases hi; exact eo
      · cases hi; exact absurd rfl hx
      · exact no_some hi
    have e2 : h2[a]? = some (.list xs) := by
      unfold rStays at e
      dsimp only at e
      split at e
      · rename_i ys eo
        rw [of_decide_eq_true e] at eo; exact eo
      · exact ff_tt e
    obtain ⟨x, o1, rfl, hz, g1, ys, rfl, ry⟩ := R1.at rv e1
    obtain ⟨x', o2, hx', hz', g2, zs, rfl, rz⟩ := R2.at (rv.ext E) e2
    cases hx'
    show H2 x = H1 x
    rw [g1, g2, RAs.fn (ry.ext E) rz]
  | _ =>
    obtain rfl : v' = _ := rv
    trivial

theorem s_ok (hcs : CS w K n cal) (t : S) : GS w K n cal fuel t := by
  induction t with
  | bad => exact fun e => no_some e
  | nil =>
    intro l h r e σ H ls cel Q R L k
    cases e
    exact k σ H ls .next R .refl L rfl
  | cons s t hs ht =>
    intro l h r e σ H ls cel Q R L k
    refine bnd_el e fun x e1 e => hs e1 R L fun σ1 H1 ls1 fl R1 E1 L1 rf => ?_
    obtain ⟨f, l1, h1⟩ := x
    cases f with
    | next => obtain rfl : fl = .next := rf; exact ht e R1 L1 (k.after E1)
    | ret v =>
      obtain ⟨a, rfl, ra⟩ := rf
      cases e
      exact k σ1 H1 ls1 (.ret a) R1 E1 L1 ⟨a, rfl, ra⟩
  | asg t e' =>
    intro l h r e σ H ls cel Q R L k
    refine bnd_el e fun x e1 e => bnd_el e fun y e2 e => (all_ok hcs e').g e1 R L fun σ1 H1 x' R1 E1 rx => (tg_ok hcs t).1 e2 R1 (L.ext E1) rx fun σ2 H2 ls2 R2 E2 L2 => ?_
    cases e
    exact k σ2 H2 ls2 .next R2 (E1.trans E2) L2 rfl
  | exp e' =>
    intro l h r e σ H ls cel Q R L k
    refine bnd_el e fun x e1 e => gd_el e fun e2 e => (all_ok hcs e').g e1 R L fun σ1 H1 x' R1 E1 rx => ⟨?_, ?_⟩
    · obtain ⟨v, hv⟩ := x
      cases v with
      | ref => exact ff_tt e2
      | _ => rw [show x' = _ from rx]; exact e2
    · cases e
      exact k σ1 H1 ls .next R1 E1 (L.ext E1) rfl
  | iff c a b ha hb =>
    intro l h r e σ H ls cel Q R L k
    refine bnd_el e fun x e1 e => bnd_el e fun t e2 e => (all_ok hcs c).g e1 R L fun σ1 H1 x' R1 E1 rx => ?_
    rw [aBool_inv e2] at rx
    refine onB_of rx ⟨fun ht => ?_, fun ht => ?_⟩
    · rw [ht] at e; exact ha e R1 (L.ext E1) (k.after E1)
    · rw [ht] at e; exact hb e R1 (L.ext E1) (k.after E1)
  | whl c b hb =>
    intro l h r e σ H ls cel Q R L k
    refine ⟨fuel, fun j ρ Hk => ∃ σk hk lk lsk, ρ = ⟨lsk, cel⟩ ∧ HR σk hk Hk ∧ Ext σ H σk Hk ∧ RLs σk lk lsk ∧ rWhl (fun l h => rG cal c true l h) (fun l h => rS cal fuel b l h) j lk hk = some r, ⟨σ, h, l, ls, rfl, R, .refl, L, e⟩, ?_⟩
    rintro j ρ Hk ⟨σk, hk, lk, lsk, rfl, Rk, Ek, Lk, e⟩
    cases j with
    | zero => exact no_some e
    | succ j =>
      refine bnd_el e fun x e1 e => bnd_el e fun t e2 e => (all_ok hcs c).g e1 Rk Lk fun σ1 H1 x' R1 E1 rx => ?_
      rw [aBool_inv e2] at rx
      refine onB_of rx ⟨fun ht => ?_, fun ht => ?_⟩
      · rw [ht] at e
        refine bnd_el e fun y e3 e => hb e3 R1 (Lk.ext E1) fun σ2 H2 ls2 fl R2 E2 L2 rf => ?_
        obtain ⟨f, l2, h2⟩ := y
        cases f with
        | next =>
          obtain rfl : fl = .next := rf
          exact ⟨j, Nat.lt_succ_self j, σ2, h2, l2, ls2, rfl, R2, (Ek.trans E1).trans E2, L2, e⟩
        | ret v =>
          obtain ⟨a, rfl, ra⟩ := rf
          cases e
          exact k σ2 H2 ls2 (.ret a) R2 ((Ek.trans E1).trans E2) L2 ⟨a, rfl, ra⟩
      · rw [ht] at e
        cases e
        exact k σ1 H1 lsk .next R1 (Ek.trans E1) (Lk.ext E1) rfl
  | for_ p e' b hb =>
    intro l h r e σ H ls cel Q R L k
    refine bnd_el e fun x e1 e => bnd_el e fun xs e2 e => (all_ok hcs e').g e1 R L fun σ1 H1 x' R1 E1 rx => items_ok R1 e2 rx fun ys ry _ => ?_
    refine ⟨fun j ρ Hk => ∃ σk hk lk lsk, ρ = ⟨lsk, cel⟩ ∧ HR σk hk Hk ∧ Ext σ1 H1 σk Hk ∧ RLs σk lk lsk ∧ rFor p x.1 xs (fun l h => rS cal fuel b l h) (xs.drop j) lk hk = some r, ⟨σ1, x.2, l, ls, rfl, R1, .refl, L.ext E1, e⟩, ?_, ?_⟩
    · rintro j ρ Hk y hy ⟨σk, hk, lk, lsk, rfl, Rk, Ek, Lk, e⟩ -
      have hj : j < xs.length := by
        have := (List.getElem?_eq_some_iff.1 hy).1
        rw [ry.len] at this; exact this
      rw [List.drop_eq_getElem_cons hj] at e
      obtain ⟨y', ey, r1⟩ := ry.get (List.getElem?_eq_getElem hj)
      rw [hy] at ey; cases ey
      refine bnd_el e fun l1 e3 e => bnd_el e fun q e4 e => pat_ok Rk e3 (r1.ext Ek) Lk fun ls1 L1 => hb e4 Rk L1 fun σ2 H2 ls2 fl R2 E2 L2 rf => ?_
      obtain ⟨f, l2, h2⟩ := q
      cases f with
      | next =>
        obtain rfl : fl = .next := rf
        exact gd_el e fun e5 e => ⟨stays_ok R1 R2 (Ek.trans E2) rx e2 (fun q => by rw [q] at hj; exact absurd hj (Nat.not_lt_zero _)) e5, σ2, h2, l2, ls2, rfl, R2, Ek.trans E2, L2, e⟩
      | ret v =>
        obtain ⟨a, rfl, ra⟩ := rf
        cases e
        exact k σ2 H2 ls2 (.ret a) R2 ((E1.trans Ek).trans E2) L2 ⟨a, rfl, ra⟩
    · rintro ρ He ⟨σk, hk, lk, lsk, rfl, Rk, Ek, Lk, e⟩
      rw [ry.len, List.drop_length] at e
      cases e
      exact k σk He lsk .next Rk (E1.trans Ek) Lk rfl
  | ret e' =>
    intro l h r e σ H ls cel Q R L k
    refine bnd_el e fun x e1 e => (all_ok hcs e').g e1 R L fun σ1 H1 x' R1 E1 rx => ?_
    cases e
    exact k σ1 H1 ls (.ret x') R1 E1 (L.ext E1) ⟨x', rfl, rx⟩
  | ret0 =>
    intro l h r e σ H ls cel Q R L k
    cases e
    exact k σ H ls (.ret .none) R .refl L ⟨.none, rfl, rfl⟩
  | try_ b hb => exact fun e _ _ _ _ _ R L k => hb e R L k
  | pass_ =>
    intro l h r e σ H ls cel Q R L k
    cases e
    exact k σ H ls .next R .refl L rfl
end

/-- what the classes must be -/
noncomputable def ClsOK (K : Frag) : Prop := ∀ C fi, initOf C = some fi → isCls C = true ∧ makesIn K C = true ∧ findIn K (.ref C) "__init__" = some (some (.ref fi)) ∧ typeIn K (.ref fi) = some (.type "function")
section
variable {w : World} {K : Frag} {fuel : Nat}
theorem RLs_loc0 {σ : List Addr} {d : DefR} {vs vs' : List AV} (r : RAs σ vs vs') : RLs σ (loc0 d vs) (loc0 d vs') := by
  have pl : ∀ l : List Int, RAs σ (l.map .int) (l.map .int) := fun l => by
    induction l with
    | nil => trivial
    | cons a l ih => exact ⟨rfl, ih⟩
  have mp : ∀ {xs ys : List AV}, RAs σ xs ys → RLs σ (xs.map some) (ys.map some) := by
    intro xs
    induction xs with
    | nil => intro ys h; cases ys with
      | nil => trivial
      | cons => exact h.elim
    | cons x xs ih => intro ys h; cases ys with
      | nil => exact h.elim
      | cons y ys => exact ⟨⟨y, rfl, h.1⟩, ih h.2⟩
  have rep : ∀ m, RLs σ (List.replicate m none) (List.replicate m none) := fun m => by
    induction m with
    | zero => trivial
    | succ m ih => exact ⟨trivial, ih⟩
  unfold loc0
  rw [r.len]
  exact All2.app (mp (All2.app r (pl _))) (rep _)
theorem fl_val {σ : List Addr} {f f' : Fl} (r : RFw σ f f') : RA σ f.val f'.val := by
  cases f with
  | next => obtain rfl : f' = .next := r; rfl
  | ret v => obtain ⟨a, rfl, ra⟩ := r; exact ra
theorem find_mem {tab : List DefR} {f : Addr} {d : DefR} (h : (tab.find? fun d => Nat.beq d.addr f) = some d) : d ∈ tab ∧ d.addr = f :=
  ⟨List.mem_of_find?_eq_some h, Nat.eq_of_beq_eq_true (List.find?_some (p := fun d : DefR => Nat.beq d.addr f) h)⟩
theorem rCall_ok (KF : KFacts K) {tab : List DefR} (ht : tab.all (defOk K) = true) (hc : ClsOK K) : ∀ N, CS w K (4 * N) (rCall tab fuel N)
  | 0 => fun _ _ _ _ e => no_some e
  | N + 1 => fun f vs h r e σ H vs' Q R rv k => by
    have ih := rCall_ok KF ht hc N
    have e : (match initOf f with
      | some fi => bnd (tab.find? fun d => Nat.beq d.addr fi) fun d => gd (arity d (vs.length + 1)) (bnd (rS (rCall tab fuel N) fuel d.t (loc0 d (.ref (h.length + 1) :: vs)) (h ++ [.attrs [], .inst f h.length])) fun r => (match r.1.val with
        | .none => some (.ref (h.length + 1), r.2.2)
        | _ => none))
      | none => bnd (tab.find? fun d => Nat.beq d.addr f) fun d => gd (arity d vs.length) (bnd (rS (rCall tab fuel N) fuel d.t (loc0 d vs) h) fun r => some (r.1.val, r.2.2))) = some r := e
    cases hi : initOf f with
    | none =>
      rw [hi] at e
      refine bnd_el e fun d e1 e => gd_el e fun e2 e => bnd_el e fun q e3 e => ?_
      obtain ⟨m, hf⟩ := find_mem e1
      obtain ⟨e4, e5⟩ := Bool.and_eq_true_iff.1 e2
      obtain ⟨e4, e6⟩ := Bool.and_eq_true_iff.1 e4
      have := code_of KF (n := 4 * N) (List.all_eq_true.1 ht d m) (by rw [rv.len]; exact Nat.le_of_ble_eq_true e4) (by rw [rv.len]; exact Nat.le_of_ble_eq_true e6) (Nat.le_of_ble_eq_true e5)
        (s_ok ih d.t e3 R (RLs_loc0 rv) (cel := []) (Q := fun fl _ H' => Q fl.val H') fun σ1 H1 ls1 fl R1 E1 _ rf => by
          cases e
          exact k σ1 H1 _ R1 E1 (fl_val rf))
      exact hf ▸ this.call.le (by omega)
    | some fi =>
      rw [hi] at e
      refine bnd_el e fun d e1 e => gd_el e fun e2 e => bnd_el e fun q e3 e => ?_
      obtain ⟨m, hf⟩ := find_mem e1
      obtain ⟨e4, e5⟩ := Bool.and_eq_true_iff.1 e2
      obtain ⟨e4, e6⟩ := Bool.and_eq_true_iff.1 e4
      obtain ⟨c1, c2, c3, c4⟩ := hc f fi hi
      rw [← hf] at c3 c4
      have := make_code (w := w) (n := 4 * N + 2) (H := H) (vs := vs') (Q := Q) c1 c2 c3 c4 fun x y hx hy hxy => by
        have R1 := R.push (o := .attrs []) (o' := .attrs []) hy ⟨[], rfl, trivial⟩ nofun
        have hx' : upd H y (.attrs []) x = none := by rw [upd_ne hxy]; exact hx
        have hd : (σ ++ [y])[h.length]? = some y := R.top y
        have R2 := R1.push (o := .inst f h.length) (o' := .inst f y) hx' ⟨y, get_app hd, rfl⟩ nofun
        have E2 : Ext σ H ((σ ++ [y]) ++ [x]) (upd (upd H y (.attrs [])) x (.inst f y)) := (Ext.push hy).trans (Ext.push hx')
        have hself : ((σ ++ [y]) ++ [x])[h.length + 1]? = some x := by
          have := R1.top x
          rw [List.length_append] at this; exact this
        rw [List.append_assoc h] at R2
        refine code_of KF (n := 4 * N) (List.all_eq_true.1 ht d m) (by rw [List.length_cons, rv.len]; exact Nat.le_of_ble_eq_true e4) (by rw [List.length_cons, rv.len]; exact Nat.le_of_ble_eq_true e6) (Nat.le_of_ble_eq_true e5)
          (s_ok ih d.t e3 R2 (RLs_loc0 (d := d) (vs := .ref (h.length + 1) :: vs) (vs' := .ref x :: vs') ⟨⟨x, hself, rfl⟩, RAs.ext rv E2⟩) (cel := []) fun σ1 H1 ls1 fl R3 E3 _ rf => ?_)
        have rf := fl_val rf
        generalize q.1.val = u at e rf
        cases u with
        | none =>
          cases e
          exact ⟨rf, k σ1 H1 _ R3 (E2.trans E3) (RA.ext (v := .ref (h.length + 1)) ⟨x, hself, rfl⟩ E3)⟩
        | _ => exact no_some e
      exact this.call.le (by omega)
end
end
end Mine
namespace Mine
noncomputable section

/-! plain: lines of octets -/
theorem take1 (D : List UInt8) (c : UInt8) (i : Nat) : ((D.drop i).take 1 == [c]) = true ↔ D[i]? = some c := by
  rw [← List.head?_drop]
  cases h : D.drop i with
  | nil => simp
  | cons x r => simp
theorem bf_ar {a e : Nat} (h : ((e : Nat) : Int) - (a : Int) < (1 : Nat)) : e ≤ a := by omega
theorem bfind_one {D : List UInt8} {c : UInt8} {a e : Nat} (ha : a ≤ e) (he : e ≤ D.length) :
    (bfind D [c] a e = -1 ∧ ∀ i, a ≤ i → i < e → D[i]? ≠ some c) ∨ ∃ s : Nat, bfind D [c] a e = (s : Int) ∧ a ≤ s ∧ s < e ∧ D[s]? = some c ∧ ∀ i, a ≤ i → i < s → D[i]? ≠ some c := by
  unfold bfind
  rw [Nat.min_eq_right he]
  by_cases h : ((e : Nat) : Int) - (a : Int) < ([c].length : Int)
  · rw [if_pos h]
    exact .inl ⟨rfl, fun i h1 h2 => absurd (Nat.lt_of_le_of_lt h1 h2) (Nat.not_lt.2 (bf_ar h))⟩
  · rw [if_neg h, show e + 1 - (a + [c].length) = e - a from Nat.add_sub_add_right e 1 a]
    cases hs : ((List.range (e - a)).map (· + a)).find? (fun i => (D.drop i).take [c].length == [c]) with
    | some s =>
      rw [List.find?_eq_some_iff_getElem] at hs
      obtain ⟨hp, j, hj, e1, hb⟩ := hs
      rw [List.length_map, List.length_range] at hj
      rw [List.getElem_map, List.getElem_range] at e1
      subst e1
      have hje : j + a < e := Nat.add_lt_of_lt_sub hj
      refine .inr ⟨j + a, rfl, Nat.le_add_left _ _, hje, (take1 D c _).1 hp, fun i h1 h2 q => ?_⟩
      have hi : i - a < j := Nat.sub_lt_right_of_lt_add h1 h2
      have := hb (i - a) hi
      rw [List.getElem_map, List.getElem_range, Nat.sub_add_cancel h1, show [c].length = 1 from rfl, (take1 D c i).2 q] at this
      cases this
    | none =>
      rw [List.find?_eq_none] at hs
      exact .inl ⟨rfl, fun i h1 h2 q => hs i (List.mem_map.2 ⟨i - a, List.mem_range.2 (Nat.sub_lt_sub_right h1 h2), Nat.sub_add_cancel h1⟩) ((take1 D c i).2 q)⟩

/-- a line from a, no further than e: its end, and the next one's begin -/
noncomputable def LA (D : List UInt8) (a e l n : Nat) : Prop :=
  (l = e ∧ n = e ∧ ∀ i, a ≤ i → i < e → D[i]? ≠ some 10) ∨
  ∃ s, a ≤ s ∧ s < e ∧ D[s]? = some 10 ∧ (∀ i, a ≤ i → i < s → D[i]? ≠ some 10) ∧ n = s + 1 ∧ ((a < s ∧ D[s - 1]? = some 13 ∧ l + 1 = s) ∨ (¬(a < s ∧ D[s - 1]? = some 13) ∧ l = s))
theorem LA.le {D : List UInt8} {a e l n : Nat} (ha : a ≤ e) (h : LA D a e l n) : a ≤ l ∧ l ≤ n ∧ n ≤ e ∧ (a < e → a < n) := by
  rcases h with ⟨rfl, rfl, _⟩ | ⟨s, h1, h2, _, _, rfl, ⟨h3, _, h4⟩ | ⟨_, rfl⟩⟩
  · exact ⟨ha, Nat.le_refl _, Nat.le_refl _, id⟩
  · subst h4
    exact ⟨Nat.le_of_lt_succ h3, Nat.le_succ_of_le (Nat.le_succ _), h2, fun _ => Nat.lt_succ_of_lt h3⟩
  · exact ⟨h1, Nat.le_succ _, h2, fun _ => Nat.lt_succ_of_le h1⟩

noncomputable def menu (k : Nat) : List UInt8 := match Con.lines.items[k]? with | some (.bytes l) => l | _ => []
noncomputable def term (b : Bool) : List UInt8 := match b with | true => [13, 10] | false => [10]
noncomputable def flat (ls : List (Nat × Bool)) : List UInt8 := (ls.map fun x => menu x.1 ++ term x.2).flatten
/-- where a line begins -/
noncomputable def LS (D : List UInt8) (i : Nat) : Prop := i ≤ D.length ∧ (i = 0 ∨ D[i - 1]? = some 10) ∧ ∃ ls : List (Nat × Bool), (∀ x ∈ ls, x.1 < 12) ∧ D.drop i = flat ls
/-- where a part may end -/
noncomputable def En (D : List UInt8) (e : Nat) : Prop := e ≤ D.length ∧ (e = D.length ∨ e = 0 ∨ D[e - 1]? = some 10 ∨ ((D[e]? = some 10 ∨ D[e]? = some 13) ∧ D[e - 1]? ≠ some 13))
theorem LS.en {D : List UInt8} {i : Nat} (h : LS D i) : En D i := ⟨h.1, .inr (h.2.1.imp_right .inl)⟩
theorem menu_plain : ∀ k, k < 12 → ∀ c ∈ menu k, c ≠ 10 ∧ c ≠ 13 := by decide +kernel
theorem txt_first : ∀ k, k < 12 → ∀ b, ∀ c, (menu k ++ term b).head? = some c → c ≠ 32 ∧ c ≠ 9 := by
  have : ∀ k, k < 12 → ∀ b, ((menu k ++ term b).head?.all fun c => c != 32 && c != 9) = true := by decide +kernel
  intro k hk b c h
  have := this k hk b
  rw [h] at this
  simpa using this

/-- the first line feed ends the line -/
theorem LA.at {D : List UInt8} {a e l n f : Nat} (h : LA D a e l n) (hf : a ≤ f) (he : f < e) (h10 : D[f]? = some 10) (hno : ∀ i, a ≤ i → i < f → D[i]? ≠ some 10) :
    n = f + 1 ∧ ((a < f ∧ D[f - 1]? = some 13 ∧ l + 1 = f) ∨ (¬(a < f ∧ D[f - 1]? = some 13) ∧ l = f)) := by
  rcases h with ⟨_, _, q⟩ | ⟨s, s1, s2, s3, s4, s5, s6⟩
  · exact absurd h10 (q f hf he)
  · have : s = f := by
      rcases Nat.lt_trichotomy s f with q | q | q
      · exact absurd s3 (hno s s1 q)
      · exact q
      · exact absurd h10 (s4 f hf q)
    subst this
    exact ⟨s5, s6⟩
theorem LA.none {D : List UInt8} {a e l n : Nat} (h : LA D a e l n) (hno : ∀ i, a ≤ i → i < e → D[i]? ≠ some 10) : l = e ∧ n = e := by
  rcases h with ⟨h1, h2, _⟩ | ⟨s, s1, s2, s3, _⟩
  · exact ⟨h1, h2⟩
  · exact absurd s3 (hno s s1 s2)
/-- a line of the menu stands at a -/
structure LnAt (D : List UInt8) (a p : Nat) (T : List UInt8) : Prop where
  len : a + p + T.length ≤ D.length
  text : ∀ i, i < p → ∃ c, D[a + i]? = some c ∧ c ≠ 10 ∧ c ≠ 13
  term : ∀ i, i < T.length → D[a + p + i]? = T[i]?
section
variable {D T : List UInt8} {a p e l n : Nat}
theorem LnAt.no10 (L : LnAt D a p T) : ∀ i, a ≤ i → i < a + p → D[i]? ≠ some 10 := fun i h1 h2 q => by
  obtain ⟨j, rfl⟩ := Nat.exists_eq_add_of_le h1
  obtain ⟨c, c1, c2, -⟩ := L.text j (Nat.lt_of_add_lt_add_left h2)
  rw [q] at c1; cases c1; exact c2 rfl
theorem LnAt.prev (L : LnAt D a p T) (h : a < a + p) : D[a + p - 1]? ≠ some 13 := fun q => by
  cases p with
  | zero => exact absurd h (Nat.lt_irrefl _)
  | succ m =>
    obtain ⟨c, c1, -, c3⟩ := L.text m (Nat.lt_succ_self m)
    rw [show a + (m + 1) - 1 = a + m from rfl, c1] at q; cases q; exact c3 rfl
/-- a part's end is not within the text -/
theorem LnAt.ge (L : LnAt D a p T) (he : En D e) (hae : a < e) : a + p ≤ e := by
  obtain ⟨j, rfl⟩ := Nat.exists_eq_add_of_lt hae
  refine Nat.le_of_not_lt fun hlt => ?_
  have hj : j + 1 < p := Nat.lt_of_add_lt_add_left (n := a) hlt
  rcases he.2 with q | q | q | ⟨q, -⟩
  · exact absurd (Nat.le_trans (Nat.le_add_right _ _) L.len) (Nat.not_le.2 (q ▸ hlt))
  · cases q
  · obtain ⟨c, c1, c2, -⟩ := L.text j (Nat.lt_of_succ_lt hj)
    rw [show a + j + 1 - 1 = a + j from rfl, c1] at q; cases q; exact c2 rfl
  · obtain ⟨c, c1, c2, c3⟩ := L.text (j + 1) hj
    rw [show a + j + 1 = a + (j + 1) from rfl, c1] at q
    rcases q with q | q <;> cases q
    · exact c2 rfl
    · exact c3 rfl
theorem LnAt.en (L : LnAt D a p T) (ha : a = 0 ∨ D[a - 1]? = some 10) (q : D[a + p]? = some 10 ∨ D[a + p]? = some 13) : En D (a + p) := by
  refine ⟨Nat.le_trans (Nat.le_add_right _ _) L.len, ?_⟩
  cases p with
  | zero => exact .inr (ha.imp_right .inl)
  | succ m => exact .inr (.inr (.inr ⟨q, L.prev (Nat.lt_add_of_pos_right (Nat.succ_pos m))⟩))
end
theorem line_key {D : List UInt8} {a e l n : Nat} (hs : LS D a) (he : En D e) (hae : a < e) (h : LA D a e l n) :
    ∃ k, k < 12 ∧ l = a + (menu k).length ∧ (D.drop a).take (l - a) = menu k ∧ (n = e ∨ LS D n) ∧ En D l ∧ l ≤ e ∧ n ≤ D.length := by
  obtain ⟨h1, h2, ls, h3, h4⟩ := hs
  cases ls with
  | nil => exact absurd (List.drop_eq_nil_iff.1 h4) (Nat.not_le.2 (Nat.lt_of_lt_of_le hae he.1))
  | cons x ls =>
    obtain ⟨k, b⟩ := x
    have hk : k < 12 := h3 (k, b) List.mem_cons_self
    have h4 : D.drop a = menu k ++ (term b ++ flat ls) := by rw [h4]; exact List.append_assoc _ _ _
    have hget : ∀ i, D[a + i]? = (menu k ++ (term b ++ flat ls))[i]? := fun i => by rw [← h4, List.getElem?_drop]
    have L : LnAt D a (menu k).length (term b) := by
      refine ⟨?_, fun i hi => ?_, fun i hi => ?_⟩
      · have := congrArg List.length h4
        rw [List.length_drop, List.length_append, List.length_append] at this
        rw [← Nat.add_sub_of_le h1, this, Nat.add_assoc]
        exact Nat.add_le_add_left (Nat.add_le_add_left (Nat.le_add_right _ _) _) _
      · rw [hget, List.getElem?_append_left hi]
        exact ⟨_, List.getElem?_eq_getElem hi, menu_plain k hk _ (List.getElem_mem hi)⟩
      · rw [Nat.add_assoc, hget, List.getElem?_append_right (Nat.le_add_right _ _), Nat.add_sub_cancel_left, List.getElem?_append_left hi]
    have hge := L.ge he hae
    have htake : (D.drop a).take (a + (menu k).length - a) = menu k := by rw [h4, Nat.add_sub_cancel_left, List.take_left]
    have hLS : LS D (a + (menu k).length + (term b).length) := by
      refine ⟨L.len, .inr ?_, ls, fun x hx => h3 x (List.mem_cons_of_mem _ hx), ?_⟩
      · cases b with
        | true => exact L.term 1 (by decide)
        | false => exact L.term 0 (by decide)
      · rw [Nat.add_assoc, ← List.drop_drop, h4, ← List.append_assoc, ← List.length_append, List.drop_left]
    have tl : 0 < (term b).length := by cases b <;> decide
    have hp := L.term 0 tl
    have hel : En D (a + (menu k).length) := L.en h2 (by cases b; exact .inl hp; exact .inr hp)
    rcases Nat.lt_or_eq_of_le hge with hgt | heq
    · cases b with
      | false =>
        obtain ⟨e1, e2⟩ := h.at (Nat.le_add_right _ _) hgt hp L.no10
        have hl : l = a + (menu k).length := e2.elim (fun q => absurd q.2.1 (L.prev q.1)) fun q => q.2
        subst hl e1
        exact ⟨k, hk, rfl, htake, .inr hLS, hel, hge, L.len⟩
      | true =>
        have h10 : D[a + (menu k).length + 1]? = some 10 := L.term 1 (by decide)
        have h13 : D[a + (menu k).length]? = some 13 := hp
        have hgt2 : a + (menu k).length + 1 < e := by
          refine Nat.lt_of_le_of_ne hgt fun q => ?_
          subst q
          rcases he.2 with q | q | q | ⟨_, q⟩
          · exact absurd L.len (Nat.not_le.2 (q ▸ Nat.lt_succ_self _))
          · cases q
          · rw [show a + (menu k).length + 1 - 1 = a + (menu k).length from rfl, h13] at q; cases q
          · exact q h13
        obtain ⟨e1, e2⟩ := h.at (f := a + (menu k).length + 1) (Nat.le_trans (Nat.le_add_right _ _) (Nat.le_succ _)) hgt2 h10 fun i i1 i2 q => by
          rcases Nat.lt_or_eq_of_le (Nat.le_of_lt_succ i2) with i3 | i3
          · exact L.no10 i i1 i3 q
          · subst i3; rw [h13] at q; cases q
        have hl : l = a + (menu k).length := e2.elim (fun q => Nat.succ.inj q.2.2) fun q => absurd ⟨Nat.lt_succ_of_le (Nat.le_add_right _ _), h13⟩ q.1
        subst hl e1
        exact ⟨k, hk, rfl, htake, .inr hLS, hel, hge, L.len⟩
    · subst heq
      obtain ⟨rfl, rfl⟩ := h.none L.no10
      exact ⟨k, hk, rfl, htake, .inl rfl, hel, Nat.le_refl _, he.1⟩
/-- no line begins with a blank -/
theorem first_plain {D : List UInt8} {n : Nat} {c : UInt8} (h : LS D n) (hc : D[n]? = some c) : c ≠ 32 ∧ c ≠ 9 := by
  obtain ⟨_, _, ls, h3, h4⟩ := h
  rw [← List.head?_drop, h4] at hc
  cases ls with
  | nil => cases hc
  | cons x ls =>
    refine txt_first x.1 (h3 x List.mem_cons_self) x.2 c ?_
    have e : flat (x :: ls) = (menu x.1 ++ term x.2) ++ flat ls := rfl
    rw [e, List.head?_append] at hc
    cases q : (menu x.1 ++ term x.2).head? with
    | some y => rw [q] at hc; exact hc
    | none =>
      have := List.head?_eq_none_iff.1 q
      have := congrArg List.length this
      rw [List.length_append] at this
      have h1 : 1 ≤ (term x.2).length := by cases x.2 <;> decide
      simp only [List.length_nil] at this
      omega
end
end Mine
namespace Mine
noncomputable section

/-- nothing that stood is changed -/
noncomputable def Grow (H H' : AHeap) : Prop := ∀ a o, H a = some o → H' a = some o
section
variable {H H' H'' : AHeap}
theorem Grow.refl : Grow H H := fun _ _ h => h
theorem Grow.trans (g : Grow H H') (g' : Grow H' H'') : Grow H H'' := fun a o h => g' a o (g a o h)
theorem Grow.push {a : Addr} {o : AO} (ha : H a = none) : Grow H (upd H a o) := fun _ _ h => upd_old h ha
theorem Grow.back (g : Grow H H') {a : Addr} (ha : H' a = .none) : H a = .none := by
  cases q : H a with
  | none => rfl
  | some o => rw [g a o q] at ha; cases ha
/-- what was new may be changed -/
theorem Grow.put (g : Grow H H') {a : Addr} {o : AO} (ha : H a = none) : Grow H (upd H' a o) := fun b o' h => by
  rw [upd_ne]
  · exact g b o' h
  · rintro rfl; rw [ha] at h; cases h
theorem Ext.grow {σ : List Addr} (E : Ext [] H σ H') : Grow H H' := fun a o h => by
  obtain ⟨⟨τ, e, n⟩, off⟩ := E
  rw [List.nil_append] at e; subst e
  by_cases m : a ∈ σ
  · rw [n a m nofun] at h; cases h
  · rw [off a m]; exact h
end
theorem int_sub1 (l : Nat) : ((l + 1 : Nat) : Int) - 1 = (l : Int) := show ((l : Int) + 1) - 1 = l from Int.add_sub_cancel _ _
theorem bool_no {b : Bool} {P : Prop} (h1 : b = false) (h2 : b = true) : P := by rw [h1] at h2; cases h2
theorem lt_nat {a b : Nat} (h : decide ((a : Int) < (b : Int)) = true) : a < b := Int.ofNat_lt.1 (of_decide_eq_true h)
theorem ge_nat {a b : Nat} (h : decide ((a : Int) < (b : Int)) = false) : ¬ a < b := fun q => of_decide_eq_false h (Int.ofNat_lt.2 q)
theorem nat_lt_no {s : Nat} {P : Prop} (h : decide ((s : Int) < 0) = true) : P := absurd (of_decide_eq_true h) (Int.not_lt.2 (Int.natCast_nonneg s))
theorem get_ex {α : Type} {l : List α} {i : Nat} (h : i < l.length) : ∃ b, l[i]? = some b := ⟨_, List.getElem?_eq_getElem h⟩
theorem u8_eq {b c : UInt8} (h : decide ((b.toNat : Int) = (c.toNat : Int)) = true) : b = c := UInt8.toNat_inj.1 (Int.ofNat.inj (of_decide_eq_true h))
theorem u8_ne {b c : UInt8} (h : decide ((b.toNat : Int) = (c.toNat : Int)) = false) : b ≠ c := fun e => of_decide_eq_false h (by rw [e])
theorem small_nat {s e : Nat} (h1 : s < e) (h2 : e ≤ 16777216) : (s : Int) < 1000000000 := Int.ofNat_lt.2 (Nat.lt_of_lt_of_le h1 (Nat.le_trans h2 (by decide)))
theorem HR.empty {H : AHeap} : HR [] [] H := ⟨rfl, List.nodup_nil, nofun, nofun⟩

/-- what is known of the text's objects -/
structure E0 (K : Frag) : Prop where
  KF : KFacts K
  tab : plainDefs.all (defOk K) = true
  cls : ClsOK K
  part : makesIn K 555 = true ∧ findIn K (.ref 555) "__init__" = some (some (.ref 545)) ∧ typeIn K (.ref 545) = some (.type "function")

section
variable {w : World} {K : Frag} {n : Nat}
theorem E0.code (e : E0 K) (i : Nat) {d : DefR} (hi : plainDefs[i]? = some d) {vs : List AV} {H : AHeap} {Q : AV → AHeap → Prop} (l : arity d vs.length = true)
    (h : vcS w K n d.t ⟨loc0 d vs, []⟩ H fun fl _ H' => Q fl.val H') : CodeOK w K (n + 2) d.addr vs H Q := by
  obtain ⟨e4, e5⟩ := Bool.and_eq_true_iff.1 l
  obtain ⟨e4, e6⟩ := Bool.and_eq_true_iff.1 e4
  exact code_of e.KF (List.all_eq_true.1 e.tab d (List.mem_of_getElem? hi)) (Nat.le_of_ble_eq_true e4) (Nat.le_of_ble_eq_true e6) (Nat.le_of_ble_eq_true e5) h
/-- a call that the interpreter runs, over nothing -/
theorem E0.run (e : E0 K) {fuel N : Nat} {f : Addr} {vs : List AV} {r : AV × Hp} (h : rCall plainDefs fuel N f vs [] = some r) (hv : vs.all (fun v => !isRef v) = true) {H : AHeap} {Q : AV → AHeap → Prop}
    (k : ∀ σ H' v, Grow H H' → HR σ r.2 H' → RA σ r.1 v → Q v H') : CallOK w K (4 * N) f vs H Q := by
  refine rCall_ok e.KF e.tab e.cls N f vs [] r h [] H vs Q .empty ?_ fun σ' H' v' R E r => k σ' H' v' E.grow R r
  have : ∀ {l : List AV}, l.all (fun v => !isRef v) = true → RAs [] l l := fun {l} => by
    induction l with
    | nil => exact fun _ => trivial
    | cons a l ih =>
      intro h
      obtain ⟨a1, a2⟩ := Bool.and_eq_true_iff.1 h
      exact ⟨RA.plain (by simpa using a1), ih a2⟩
  exact this hv

theorem line_at_ok (e0 : E0 K) {D : List UInt8} {a e : Nat} (hae : a ≤ e) (he : e ≤ D.length) (hD : D.length ≤ 16777216) {H : AHeap} {Q : AV → AHeap → Prop}
    (k : ∀ l m t : Nat, LA D a e l m → H t = none → Q (.ref t) (upd H t (.tup [.int l, .int m]))) : CodeOK w K (n + 2) 173 [.bytes D, .int a, .int e] H Q := by
  refine e0.code 12 (d := d_line_at) rfl rfl ?_
  refine ⟨"bytes.find", rfl, rfl, Int.natCast_nonneg a, Int.natCast_nonneg e, ?_⟩
  rcases bfind_one (c := 10) hae he with ⟨hb, hno⟩ | ⟨s, hb, h1, h2, h3, h4⟩
  · rw [show bfind D [10] (a : Int).toNat (e : Int).toNat = -1 from hb]
    exact ⟨fun _ => ⟨rfl, Nat.le_of_ble_eq_true rfl, fun t ht => k e e t (.inl ⟨rfl, rfl, hno⟩) ht⟩, nofun⟩
  · rw [show bfind D [10] (a : Int).toNat (e : Int).toNat = s from hb]
    refine ⟨fun h => nat_lt_no h, fun _ => ⟨fun h => ?_, fun h => ⟨fun q => bool_no h q, fun _ => ⟨rfl, Nat.le_of_ble_eq_true rfl, fun t ht => k s (s + 1) t (.inr ⟨s, h1, h2, h3, h4, rfl, .inr ⟨fun q => ge_nat h q.1, rfl⟩⟩) ht⟩⟩⟩⟩
    have h := lt_nat h
    obtain ⟨l, rfl⟩ : ∃ l, s = l + 1 := ⟨s - 1, (Nat.sub_add_cancel (Nat.lt_of_le_of_lt (Nat.zero_le _) h)).symm⟩
    have hl : l < D.length := Nat.lt_of_lt_of_le (Nat.lt_of_succ_lt h2) he
    obtain ⟨b, eb⟩ := get_ex hl
    have hi := int_sub1 l
    refine ⟨hi ▸ Int.natCast_nonneg l, hi ▸ small_nat hl hD, hD, b, hi.symm ▸ eb, fun h' => ⟨rfl, Nat.le_of_ble_eq_true rfl, fun t ht => ?_⟩, fun h' => ⟨rfl, Nat.le_of_ble_eq_true rfl, fun t ht => ?_⟩⟩
    · have := k l (l + 2) t (.inr ⟨l + 1, h1, h2, h3, h4, rfl, .inl ⟨h, by rw [Nat.add_sub_cancel, eb, u8_eq (c := 13) h'], rfl⟩⟩) ht
      rw [← hi] at this
      exact this
    · exact k (l + 1) (l + 2) t (.inr ⟨l + 1, h1, h2, h3, h4, rfl, .inr ⟨fun q => u8_ne (c := 13) h' (Option.some.inj (eb.symm.trans q.2)), rfl⟩⟩) ht
end
end
end Mine
namespace Mine
noncomputable section
noncomputable def col (k : Nat) : Nat := (menu k).idxOf 58
noncomputable def hasCol (k : Nat) : Bool := (menu k).contains 58
noncomputable def fname (k : Nat) : List UInt8 := (menu k).take (col k)
noncomputable def fraw (k : Nat) : List UInt8 := (menu k).drop (col k + 1)
noncomputable def fbody (k : Nat) : List UInt8 := rstripB (lstripB (fraw k) [32, 9]) [32, 9]
noncomputable def fword (k : Nat) : List Nat := (fname k).map fun c => let n := c.toNat; if 65 ≤ n ∧ n ≤ 90 then n + 32 else n
/-- a kind: its words and its pairs -/
abbrev Kd := List Nat × List Nat × List (List Nat × AV)
noncomputable def kindChk (r : Option (AV × Hp)) (kd : Kd) : Option Addr := bnd r fun r => bnd (aRef r.1) fun i => bnd (oInst r.2[i]?) fun cd => bnd (oAttrs r.2[cd.2]?) fun o => bnd (lookA .params o) fun q => bnd (aRef q) fun p => bnd (oDict r.2[p]?) fun kvs =>
  gd (decide (cd.1 = 413 ∧ o = [(.top, .str kd.1), (.sub, .str kd.2.1), (.params, .ref p)] ∧ kvs = kd.2.2) && kvs.all fun q => !isRef q.2) (some p)
noncomputable def plainR (r : Option (AV × Hp)) : Option AV := bnd r fun r => gd (!isRef r.1) (some r.1)
noncomputable def bnds (b : Bool) : List UInt8 := match b with | true => [113] | false => [114, 32, 115]
noncomputable def way (b : Bool) (k : Nat) : List Nat := if menu k = [45, 45] ++ bnds b then [110, 101, 120, 116] else if menu k = [45, 45] ++ bnds b ++ [45, 45] then [108, 97, 115, 116] else []
noncomputable def sCT : List Nat := [99, 111, 110, 116, 101, 110, 116, 45, 116, 121, 112, 101]
noncomputable def sCE : List Nat := [99, 111, 110, 116, 101, 110, 116, 45, 116, 114, 97, 110, 115, 102, 101, 114, 45, 101, 110, 99, 111, 100, 105, 110, 103]
noncomputable def kindOf (v : AV) (kd : Kd) : Bool := (kindChk (rCall plainDefs 100 12 530 [v] []) kd).isSome
noncomputable def fheap (k : Nat) : Hp := [.attrs [(.name, .bytes (fname k)), (.raw, .bytes (fraw k))], .inst 162 0]
theorem is_name_run : ∀ k, k < 12 → hasCol k = true → plainR (rCall plainDefs 100 1 180 [.bytes (fname k)] []) = some (.bool true) := by decide +kernel
theorem unfolded_run : ∀ k, k < 12 → hasCol k = true → plainR (rCall plainDefs 100 4 215 [.bytes (fraw k)] []) = some (.bytes (fbody k)) := by decide +kernel
theorem way_run : ∀ k, k < 12 → ∀ b : Bool, plainR (rCall plainDefs 100 4 571 [.bytes (menu k), .bytes (bnds b)] []) = some (.str (way b k)) := by decide +kernel
noncomputable def wordR (k : Nat) : Option AV := bnd (rCall plainDefs 100 4 152 [.ref 1] (fheap k)) fun r => gd (decide (oAttrs r.2[0]? = some [(.name, .bytes (fname k)), (.raw, .bytes (fraw k))]) && decide (oInst r.2[1]? = some (162, 0)) && !isRef r.1) (some r.1)
theorem word_run : ∀ k, k < 12 → hasCol k = true → wordR k = some (.str (fword k)) := by decide +kernel
theorem lower_run1 : plainR (rCall plainDefs 100 2 124 [.str sCT] []) = some (.str sCT) := by decide +kernel
theorem lower_run2 : plainR (rCall plainDefs 100 2 124 [.str sCE] []) = some (.str sCE) := by decide +kernel

theorem plainR_inv {r : Option (AV × Hp)} {v : AV} (h : plainR r = some v) : ∃ h', r = some (v, h') ∧ isRef v = false := by
  obtain ⟨⟨a, h'⟩, e, q⟩ := bnd_inv h
  obtain ⟨q1, q2⟩ := gd_inv q
  cases q2
  exact ⟨h', e, by simpa using q1⟩
/-- the kinds -/
noncomputable def kdN : Kd := ([116, 101, 120, 116], [112, 108, 97, 105, 110], [([99, 104, 97, 114, 115, 101, 116], .str [117, 115, 45, 97, 115, 99, 105, 105])])
noncomputable def sMP : List Nat := [109, 117, 108, 116, 105, 112, 97, 114, 116]
noncomputable def sBd : List Nat := [98, 111, 117, 110, 100, 97, 114, 121]
noncomputable def kdL : Kd := ([109, 101, 115, 115, 97, 103, 101], [114, 102, 99, 56, 50, 50], [])
noncomputable def kdF (k : Nat) : Kd := match k with
  | 0 => (sMP, [109, 105, 120, 101, 100], [(sBd, .str [113])])
  | 1 => kdL
  | 2 => (sMP, [100, 105, 103, 101, 115, 116], [(sBd, .str [114, 32, 115])])
  | _ => (sMP, [120], [])
theorem kinds_run : kindOf .none kdN = true ∧ ∀ k, k < 12 → hasCol k = true → fword k = sCT → kindOf (.bytes (fbody k)) (kdF k) = true := by decide +kernel
section
variable {w : World} {K : Frag} {H : AHeap} {Q : AV → AHeap → Prop}
/-- a run that gives a plain value -/
theorem E0.plain (e : E0 K) {fuel N : Nat} {f : Addr} {vs : List AV} {v : AV} (h : plainR (rCall plainDefs fuel N f vs []) = some v) (hv : vs.all (fun v => !isRef v) = true) (k : ∀ H', Grow H H' → Q v H') : CallOK w K (4 * N) f vs H Q := by
  obtain ⟨h', e1, e2⟩ := plainR_inv h
  exact e.run e1 hv fun σ H' u g R r => RA.eq e2 r ▸ k H' g

noncomputable def KindAt (H : AHeap) (x : Addr) (kd : Kd) : Prop := ∃ d p, H x = some (.inst 413 d) ∧ H d = some (.attrs [(.top, .str kd.1), (.sub, .str kd.2.1), (.params, .ref p)]) ∧ H p = some (.dict kd.2.2) ∧ p ≠ sysModules
theorem KindAt.grow {H' : AHeap} {x : Addr} {kd : Kd} (g : Grow H H') (h : KindAt H x kd) : KindAt H' x kd := let ⟨d, p, a, b, c, e⟩ := h; ⟨d, p, g _ _ a, g _ _ b, g _ _ c, e⟩
theorem RKs.plain {κ : Type} {σ : List Addr} : ∀ {l m : List (κ × AV)}, RKs σ l m → l.all (fun q => !isRef q.2) = true → m = l
  | [], [], _, _ => rfl
  | [], _ :: _, h, _ => h.elim
  | _ :: _, [], h, _ => h.elim
  | (a, v) :: l, (b, u) :: m, h, q => by
    obtain ⟨q1, q2⟩ := Bool.and_eq_true_iff.1 q
    obtain rfl : b = a := h.1.1
    obtain rfl : u = v := RA.eq (by simpa using q1) h.1.2
    rw [RKs.plain h.2 q2]
theorem All2.cons' {α β : Type} {R : α → β → Prop} {a : α} {as : List α} {bs : List β} (h : All2 R (a :: as) bs) : ∃ b r, bs = b :: r ∧ R a b ∧ All2 R as r := by
  cases bs with
  | nil => exact h.elim
  | cons b r => exact ⟨b, r, rfl, h.1, h.2⟩
theorem RKs.three {κ : Type} {σ : List Addr} {a b c : κ} {x y z : AV} {l : List (κ × AV)} (h : RKs σ [(a, x), (b, y), (c, z)] l) : ∃ x' y' z', l = [(a, x'), (b, y'), (c, z')] ∧ RA σ x x' ∧ RA σ y y' ∧ RA σ z z' := by
  obtain ⟨⟨p1, x'⟩, r1, rfl, ⟨e1, h1⟩, h⟩ := All2.cons' h
  obtain ⟨⟨p2, y'⟩, r2, rfl, ⟨e2, h2⟩, h⟩ := All2.cons' h
  obtain ⟨⟨p3, z'⟩, r3, rfl, ⟨e3, h3⟩, h4⟩ := All2.cons' h
  obtain rfl : p1 = a := e1
  obtain rfl : p2 = b := e2
  obtain rfl : p3 = c := e3
  cases r3 with
  | nil => exact ⟨x', y', z', rfl, h1, h2, h3⟩
  | cons => exact h4.elim
theorem read_kind_ok (e0 : E0 K) {v : AV} {kd : Kd} (h : kindOf v kd = true) (hv : isRef v = false) (k : ∀ H' x, Grow H H' → KindAt H' x kd → Q (.ref x) H') : CallOK w K 48 530 [v] H Q := by
  obtain ⟨p, h⟩ := Option.isSome_iff_exists.1 h
  obtain ⟨⟨u, h'⟩, e1, e2⟩ := bnd_inv h
  refine e0.run (N := 12) e1 (by rw [List.all_cons, hv]; rfl) fun σ H' u' g R r => ?_
  refine bnd_el e2 fun i a1 e2 => bnd_el e2 fun cd a2 e2 => bnd_el e2 fun o a3 e2 => bnd_el e2 fun q a4 e2 => bnd_el e2 fun p' a5 e2 => bnd_el e2 fun kvs a6 e2 => gd_el e2 fun a7 e2 => ?_
  rw [aRef_inv a1] at r
  obtain ⟨a7, a8⟩ := Bool.and_eq_true_iff.1 a7
  obtain ⟨c1, c2, c3⟩ := of_decide_eq_true a7
  obtain ⟨x, o1, rfl, _, h1, d, hd, rfl⟩ := R.at r (oInst_inv a2)
  obtain ⟨d', o2, hd', h2, kvs', rfl, rk⟩ := R.get (oAttrs_inv a3)
  rw [hd] at hd'; cases hd'
  rw [c2] at rk
  obtain ⟨x1, x2, x3, rfl, rfl, rfl, rp⟩ := rk.three
  obtain ⟨y, o3, rfl, hy, h3, kv3, rfl, r3⟩ := R.at rp (oDict_inv a6)
  rw [RKs.plain r3 a8, c3] at h3
  exact k H' x g ⟨d, y, by rw [h1, c1], h2, h3, R.dn (oDict_inv a6) hy⟩

/-! a field -/
noncomputable def FieldAt (H : AHeap) (x : Addr) (k : Nat) : Prop := ∃ d, H x = some (.inst 162 d) ∧ H d = some (.attrs [(.name, .bytes (fname k)), (.raw, .bytes (fraw k))])
theorem FieldAt.grow {H' : AHeap} {x : Addr} {k : Nat} (g : Grow H H') (h : FieldAt H x k) : FieldAt H' x k := let ⟨d, a, b⟩ := h; ⟨d, g _ _ a, g _ _ b⟩
theorem word_ok (e0 : E0 K) {x : Addr} {i : Nat} (hi : i < 12) (hc : hasCol i = true) (h : FieldAt H x i) (k : ∀ H', Grow H H' → Q (.str (fword i)) H') : CallOK w K 16 152 [.ref x] H Q := by
  obtain ⟨d, a, b⟩ := h
  obtain ⟨⟨u, h'⟩, e1, e2⟩ := bnd_inv (word_run i hi hc)
  obtain ⟨e3, e2⟩ := gd_inv e2
  obtain ⟨e3, e6⟩ := Bool.and_eq_true_iff.1 e3
  obtain ⟨e4, e5⟩ := Bool.and_eq_true_iff.1 e3
  cases e2
  have e4 := oAttrs_inv (of_decide_eq_true e4)
  have e5 := oInst_inv (of_decide_eq_true e5)
  have hxd : d ≠ x := by rintro rfl; rw [a] at b; cases b
  refine rCall_ok e0.KF e0.tab e0.cls 4 152 _ _ _ e1 [d, x] H _ Q ?_ ⟨⟨x, rfl, rfl⟩, trivial⟩ fun σ' H' v' R E r => ?_
  · refine ⟨rfl, by simp [hxd], fun {j o} ej => ?_, fun {j kvs y} ej => ?_⟩
    · match j, ej with
      | 0, ej => cases ej; exact ⟨d, _, rfl, b, _, rfl, ⟨rfl, rfl⟩, ⟨rfl, rfl⟩, trivial⟩
      | 1, ej => cases ej; exact ⟨x, _, rfl, a, d, rfl, rfl⟩
    · match j, ej with
      | 0, ej => cases ej
      | 1, ej => cases ej
  · obtain rfl : v' = .str (fword i) := r
    refine k H' fun p o hp => ?_
    obtain ⟨τ, rfl, nw⟩ := E.app
    by_cases hpd : p = d
    · subst hpd
      obtain ⟨_, o1, q1, q2, kvs, rfl, rk⟩ := R.get e4
      cases q1
      rw [q2, RKs.plain rk rfl, ← hp, b]
    · by_cases hpx : p = x
      · subst hpx
        obtain ⟨_, o1, q1, q2, y, q3, rfl⟩ := R.get e5
        cases q1; cases q3
        rw [q2, ← hp, a]
      · by_cases m : p ∈ τ
        · rw [nw p m (by simp [hpd, hpx])] at hp; cases hp
        · rw [E.off p (by simp [hpd, hpx, m])]; exact hp
end
end
end Mine
namespace Mine
noncomputable section

/-! a line's colon -/
theorem idx_at {c : UInt8} : ∀ {M : List UInt8} {j : Nat}, M[j]? = some c → (∀ i, i < j → M[i]? ≠ some c) → M.idxOf c = j ∧ M.contains c = true
  | [], _, h, _ => by cases h
  | x :: M, 0, h, _ => by cases h; exact ⟨List.idxOf_cons_self, by rw [List.contains_cons, beq_self_eq_true]; rfl⟩
  | x :: M, j + 1, h, q => by
    have hx : x ≠ c := fun e => q 0 (Nat.succ_pos j) (by rw [e]; rfl)
    obtain ⟨a, b⟩ := idx_at (M := M) h fun i hi => q (i + 1) (Nat.succ_lt_succ hi)
    exact ⟨by rw [List.idxOf_cons, beq_eq_false_iff_ne.2 hx, a]; rfl, by rw [List.contains_cons, b, Bool.or_true]⟩
theorem col_le (k : Nat) : col k ≤ (menu k).length := List.idxOf_le_length
/-- a line of the menu at a -/
structure Ln (D : List UInt8) (a l k : Nat) : Prop where
  hk : k < 12
  hl : l = a + (menu k).length
  hle : l ≤ D.length
  ht : (D.drop a).take (l - a) = menu k
section
variable {D : List UInt8} {a l k : Nat}
theorem Ln.get (L : Ln D a l k) {i : Nat} (hi : i < (menu k).length) : (menu k)[i]? = D[a + i]? := by
  have := L.ht
  rw [← this, List.getElem?_take, List.getElem?_drop, if_pos]
  rw [L.hl, Nat.add_sub_cancel_left]; exact hi
theorem Ln.colon (L : Ln D a l k) : (bfind D [58] a l = -1 ∧ hasCol k = false) ∨ (bfind D [58] a l = ((a + col k : Nat) : Int) ∧ hasCol k = true) := by
  rcases bfind_one (c := 58) (show a ≤ l from L.hl ▸ Nat.le_add_right _ _) L.hle with ⟨h, n⟩ | ⟨s, h, h1, h2, h3, h4⟩
  · refine .inl ⟨h, Bool.not_eq_true _ ▸ fun q => ?_⟩
    obtain ⟨i, hi, e⟩ := List.mem_iff_getElem.1 (List.contains_iff_mem.1 q)
    exact n (a + i) (Nat.le_add_right _ _) (L.hl ▸ Nat.add_lt_add_left hi a) (by rw [← L.get hi, List.getElem?_eq_getElem hi, e])
  · obtain ⟨j, rfl⟩ := Nat.exists_eq_add_of_le h1
    have hj : j < (menu k).length := Nat.lt_of_add_lt_add_left (L.hl ▸ h2)
    obtain ⟨p, q⟩ := idx_at (M := menu k) (j := j) (c := 58) (by rw [L.get hj, h3]) fun i hi => by
      rw [L.get (Nat.lt_trans hi hj)]
      exact h4 _ (Nat.le_add_right _ _) (Nat.add_lt_add_left hi a)
    exact .inr ⟨by rw [h, show col k = j from p], q⟩
theorem Ln.name (L : Ln D a l k) : sl D (some (a : Int)) (some ((a + col k : Nat) : Int)) = fname k := by
  show (D.drop a).take (a + col k - a) = (menu k).take (col k)
  have := col_le k
  rw [← L.ht, List.take_take, Nat.add_sub_cancel_left, L.hl, Nat.add_sub_cancel_left, Nat.min_eq_left this]
theorem Ln.raw (L : Ln D a l k) : sl D (some ((a + col k + 1 : Nat) : Int)) (some (l : Int)) = fraw k := by
  show (D.drop (a + col k + 1)).take (l - (a + col k + 1)) = (menu k).drop (col k + 1)
  rw [← L.ht, List.drop_take, List.drop_drop, Nat.add_assoc, Nat.sub_add_eq]
end
noncomputable def colI (a k : Nat) : Int := match hasCol k with | true => ((a + col k : Nat) : Int) | false => -1

/-- what is no list stays -/
noncomputable def G1 (H H' : AHeap) : Prop := ∀ a o, H a = some o → (∀ xs, o ≠ .list xs) → H' a = some o
section
variable {H H' H'' : AHeap}
theorem Grow.g1 (g : Grow H H') : G1 H H' := fun a o h _ => g a o h
theorem G1.trans (g : G1 H H') (g' : G1 H' H'') : G1 H H'' := fun a o h n => g' a o (g a o h n) n
theorem G1.put {r : Addr} {xs : List AV} {o : AO} (h : H r = some (.list xs)) : G1 H (upd H r o) := fun a o' e n => by
  rw [upd_ne]
  · exact e
  · rintro rfl; rw [h] at e; cases e; exact n xs rfl
theorem FieldAt.g1 {x : Addr} {k : Nat} (g : G1 H H') (h : FieldAt H x k) : FieldAt H' x k := let ⟨d, a, b⟩ := h; ⟨d, g _ _ a nofun, g _ _ b nofun⟩
end

section
variable {w : World} {K : Frag} {H : AHeap} {Q : AV → AHeap → Prop}
theorem colon_in_ok (e0 : E0 K) {D : List UInt8} {a l i : Nat} (L : Ln D a l i) (hD : D.length ≤ 16777216) (k : ∀ H', Grow H H' → Q (.int (colI a i)) H') : CallOK w K 6 187 [.bytes D, .int a, .int l] H Q := by
  refine (e0.code 14 (n := 4) (d := d_colon_in) rfl rfl ?_).call
  refine ⟨"bytes.find", rfl, rfl, Int.natCast_nonneg a, Int.natCast_nonneg l, ?_⟩
  unfold colI at k
  rcases L.colon with ⟨hb, hc⟩ | ⟨hb, hc⟩
  · rw [show bfind D [58] (a : Int).toNat (l : Int).toNat = -1 from hb]
    rw [hc] at k
    exact ⟨rfl, nofun, fun _ => ⟨nofun, fun _ => k H .refl⟩⟩
  · rw [show bfind D [58] (a : Int).toNat (l : Int).toNat = ((a + col i : Nat) : Int) from hb]
    rw [hc] at k
    have h0 : decide ((0 : Int) ≤ ((a + col i : Nat) : Int)) = true := decide_eq_true (Int.natCast_nonneg _)
    refine ⟨rfl, fun _ => ⟨Int.natCast_nonneg a, Int.natCast_nonneg _, hD, rfl, ?_⟩, fun h => bool_no h h0⟩
    rw [L.name]
    exact e0.plain (is_name_run i L.hk hc) rfl fun H' g => ⟨fun _ => k H' g, nofun⟩

theorem field_ok (e0 : E0 K) {i : Nat} (k : ∀ H' x, Grow H H' → FieldAt H' x i → Q (.ref x) H') : CallOK w K 4 162 [.bytes (fname i), .bytes (fraw i)] H Q := by
  obtain ⟨c1, c2, c3, c4⟩ := e0.cls 162 147 rfl
  refine (make_code (n := 2) c1 c2 c3 c4 fun x d hx hd hxd => e0.code 10 (n := 0) (d := d_Field_init) rfl rfl ?_).call
  have e1 : upd (upd H d (.attrs [])) x (.inst 162 d) d = some (.attrs []) := by rw [upd_ne hxd.symm, upd_self]
  refine ⟨162, d, _, upd_self, e1, Nat.zero_le _, ?_⟩
  refine ⟨162, d, _, ?_, upd_self, Nat.le_of_ble_eq_true rfl, rfl, ?_⟩
  · rw [upd_ne hxd, upd_self]
  · refine k _ x ?_ ⟨d, ?_, upd_self⟩
    · exact (((Grow.push hd).trans (Grow.push (by rw [upd_ne hxd]; exact hx))).put hd).put hd
    · rw [upd_ne hxd, upd_ne hxd, upd_self]
theorem field_ok' (e0 : E0 K) {i : Nat} {a b : List UInt8} (ha : a = fname i) (hb : b = fraw i) (k : ∀ H' x, Grow H H' → FieldAt H' x i → Q (.ref x) H') : CallOK w K 4 162 [.bytes a, .bytes b] H Q := by
  subst ha hb; exact field_ok e0 k
end
end
end Mine
namespace Mine
noncomputable section

noncomputable def Pos (D : List UInt8) (i e : Nat) : Prop := i = e ∨ LS D i
noncomputable def RowAt (H : AHeap) (v : AV) (k : Nat) : Prop := ∃ t x i j, v = .ref t ∧ H t = some (.tup [.ref x, i, j]) ∧ FieldAt H x k ∧ k < 12 ∧ hasCol k = true
theorem RowAt.g1 {H H' : AHeap} {v : AV} {k : Nat} (g : G1 H H') (h : RowAt H v k) : RowAt H' v k := let ⟨t, x, i, j, a, b, c, d⟩ := h; ⟨t, x, i, j, a, g _ _ b nofun, c.g1 g, d⟩
abbrev RowsAt (H : AHeap) : List AV → List Nat → Prop := All2 (RowAt H)
theorem not_white {c : UInt8} (h : c ≠ 32 ∧ c ≠ 9) : ([32, 9] : List Int).any (· == (c.toNat : Int)) = false := by
  have h1 : ((32 : Int) == (c.toNat : Int)) = false := beq_eq_false_iff_ne.2 fun e => h.1 (UInt8.toNat_inj.1 (Int.ofNat.inj e.symm))
  have h2 : ((9 : Int) == (c.toNat : Int)) = false := beq_eq_false_iff_ne.2 fun e => h.2 (UInt8.toNat_inj.1 (Int.ofNat.inj e.symm))
  rw [List.any_cons, List.any_cons, h1, h2]; rfl
theorem dec_lt {m here e m' : Nat} (hm : m + here = e) (h : here < m') (h2 : here < e) : e - m' < m := Nat.sub_eq_of_eq_add hm.symm ▸ Nat.sub_lt_sub_left h2 h
theorem eq_nat {a b : Nat} (h : decide ((a : Int) = (b : Int)) = true) : a = b := Int.ofNat.inj (of_decide_eq_true h)
theorem ne_nat {a b : Nat} (h : decide ((a : Int) = (b : Int)) = false) : a ≠ b := fun e => of_decide_eq_false h (by rw [e])
theorem All2.snoc {α β : Type} {R : α → β → Prop} {as : List α} {bs : List β} {a : α} {b : β} (h : All2 R as bs) (r : R a b) : All2 R (as ++ [a]) (bs ++ [b]) := All2.app h ⟨r, trivial⟩

inductive RsInv (D : List UInt8) (a e : Nat) (r : Addr) (H : AHeap) (m : Nat) (ρ : Rho) (Hk : AHeap) : Prop
  | mk (here : Nat) (xs : List AV) (ks : List Nat) (o6 o7 o8 : Option AV) (h1 : m + here = e) (h2 : a ≤ here) (h3 : Pos D here e)
      (h4 : ρ = ⟨[some (.bytes D), some (.int a), some (.int e), some (.int e), some (.ref r), some (.int (here : Nat)), o6, o7, o8], []⟩) (h5 : Grow H Hk) (h6 : Hk r = some (.list xs)) (h7 : RowsAt Hk xs ks) (h8 : xs.length ≤ here)
section
variable {w : World} {K : Frag} {H : AHeap} {Q : AV → AHeap → Prop}
theorem read_spans_ok (e0 : E0 K) {D : List UInt8} {a e : Nat} (hp : Pos D a e) (he : En D e) (hae : a ≤ e) (hD : D.length ≤ 16777000)
    (k : ∀ H' t r xs ks (b : Nat), Grow H H' → H' t = some (.tup [.ref r, .int b]) → H' r = some (.list xs) → RowsAt H' xs ks → a ≤ b → b ≤ e → Pos D b e → xs.length ≤ e → Q (.ref t) H') : CallOK w K 8 195 [.bytes D, .int a, .int e] H Q := by
  have hD' : D.length ≤ 16777216 := Nat.le_trans hD (by decide)
  refine (e0.code 15 (n := 6) (d := d_read_spans) rfl rfl ?_).call
  refine ⟨rfl, fun h => nat_lt_no h, fun _ => ⟨Nat.zero_le _, fun r hr => ?_⟩⟩
  refine ⟨e - a, RsInv D a e r H,
    ⟨a, [], [], none, none, none, Nat.sub_add_cancel hae, Nat.le_refl _, hp, rfl, Grow.push hr, upd_self, trivial, Nat.zero_le _⟩, ?_⟩
  rintro m _ Hk ⟨here, xs, ks, o6, o7, o8, hm, hah, hpk, rfl, g, hrk, hrows, hlen⟩
  have hle : here ≤ e := hm ▸ Nat.le_add_left _ _
  refine ⟨fun h => ?_, fun h => ?_⟩
  · have hlt := lt_nat h
    have hs : LS D here := hpk.resolve_left (Nat.ne_of_lt hlt)
    refine ⟨rfl, ((line_at_ok e0 (n := 0) hle he.1 hD' fun l m' t hla ht => ?_).call.le (by decide))⟩
    obtain ⟨i, hi, hl, htk, hn, hel, hlle, hm'⟩ := line_key hs he hlt hla
    have hg := Grow.push (o := .tup [.int l, .int m']) ht
    have hge := hla.le hle
    refine ⟨t, _, rfl, upd_self, rfl, _, _, rfl, _, _, rfl, rfl, ?_⟩
    refine ⟨fun h2 => ⟨rfl, Nat.le_of_ble_eq_true rfl, fun t2 ht2 => ?_⟩, fun h2 => ?_⟩
    · have g2 := hg.trans (Grow.push (o := .tup [.ref r, .int m']) ht2)
      exact k _ t2 r xs ks m' (g.trans g2) upd_self (g2 _ _ hrk) (hrows.mono fun _ _ => RowAt.g1 g2.g1) (Nat.le_trans hah (Nat.le_trans hge.1 hge.2.1)) hge.2.2.1 hn (Nat.le_trans hlen hle)
    · refine ⟨rfl, ((colon_in_ok e0 (Q := _) ⟨hi, hl, Nat.le_trans hlle he.1, htk⟩ hD' fun H1 g1 => ?_))⟩
      have g2 := hg.trans g1
      unfold colI
      cases hc : hasCol i with
      | false =>
        refine ⟨fun _ => ⟨rfl, Nat.le_of_ble_eq_true rfl, fun t2 ht2 => ?_⟩, nofun⟩
        have g3 := g2.trans (Grow.push (o := .tup [.ref r, .int here]) ht2)
        exact k _ t2 r xs ks here (g.trans g3) upd_self (g3 _ _ hrk) (hrows.mono fun _ _ => RowAt.g1 g3.g1) hah hle hpk (Nat.le_trans hlen hle)
      | true =>
        refine ⟨fun q => nat_lt_no q, fun _ => ?_⟩
        refine ⟨0, fun _ ρ' H' => ρ' = _ ∧ H' = _, ⟨rfl, rfl⟩, ?_⟩
        rintro _ _ _ ⟨rfl, rfl⟩
        have hw : m' < e → ∃ c, D[m']? = some c ∧ c ≠ 32 ∧ c ≠ 9 := fun q => by
          obtain ⟨c, hc⟩ := get_ex (Nat.lt_of_lt_of_le q he.1)
          exact ⟨c, hc, first_plain (hn.resolve_left (Nat.ne_of_lt q)) hc⟩
        refine (fun (go : _) => ⟨fun h1 => (let ⟨c, q1, q2⟩ := hw (lt_nat h1); ⟨Int.natCast_nonneg _, small_nat (lt_nat h1) (Nat.le_trans he.1 hD'), hD', c, q1, _, rfl, ⟨fun q => bool_no (not_white q2) q, fun _ => go⟩⟩), fun h1 => ⟨fun q => bool_no h1 q, fun _ => go⟩⟩) ?_
        have L : Ln D here l i := ⟨hi, hl, Nat.le_trans hlle he.1, htk⟩
        refine .inl ⟨"list.append", xs, rfl, g2 _ _ hrk, rfl, Int.natCast_nonneg here, Int.natCast_nonneg (here + col i), hD', Int.natCast_nonneg (here + col i + 1), Int.natCast_nonneg l, hD', rfl, (field_ok' e0 L.name L.raw fun H2 x g3 hx => ?_).le (by decide)⟩
        refine ⟨Nat.le_of_ble_eq_true rfl, fun t2 ht2 => ?_⟩
        have g4 := (g2.trans g3).trans (Grow.push (o := .tup [.ref x, .int here, .int m']) ht2)
        have hr4 := g4 _ _ hrk
        have hlen' : xs.length < m' := Nat.lt_of_le_of_lt hlen (hge.2.2.2 hlt)
        refine ⟨rfl, xs, hr4, Nat.lt_of_lt_of_le hlen' (Nat.le_trans hm' hD'), rfl, e - m', ?_, m', xs ++ [.ref t2], ks ++ [i], _, _, _, Nat.sub_add_cancel hge.2.2.1, Nat.le_trans hah (Nat.le_of_lt (hge.2.2.2 hlt)), hn, rfl, (g.trans g4).put hr, upd_self, ?_, ?_⟩
        · exact dec_lt hm (hge.2.2.2 hlt) hlt
        · exact (hrows.mono fun _ _ => RowAt.g1 (g4.g1.trans (G1.put hr4))).snoc ⟨t2, x, _, _, rfl, G1.put hr4 _ _ upd_self nofun, (hx.grow (Grow.push ht2)).g1 (G1.put hr4), hi, hc⟩
        · rw [List.length_append]; exact hlen'
  · exact ⟨rfl, Nat.le_of_ble_eq_true rfl, fun t2 ht2 => by
      have g3 := Grow.push (o := .tup [.ref r, .int e]) ht2
      exact k _ t2 r xs ks e (g.trans g3) upd_self (g3 _ _ hrk) (hrows.mono fun _ _ => RowAt.g1 g3.g1) hae (Nat.le_refl _) (.inl rfl) (Nat.le_trans hlen hle)⟩
end
end
end Mine
namespace Mine
noncomputable section

/-- a list's item that is a field of the menu -/
noncomputable def FldV (H : AHeap) (v : AV) : Prop := ∃ x k, v = .ref x ∧ FieldAt H x k ∧ k < 12 ∧ hasCol k = true
noncomputable def FldsAt (H : AHeap) (r : Addr) (m : Nat) : Prop := ∃ xs, H r = some (.list xs) ∧ (∀ v ∈ xs, FldV H v) ∧ xs.length ≤ m
theorem FldV.grow {H H' : AHeap} {v : AV} (g : Grow H H') (h : FldV H v) : FldV H' v := let ⟨x, k, a, b, c⟩ := h; ⟨x, k, a, b.grow g, c⟩
theorem FldsAt.grow {H H' : AHeap} {r : Addr} {m : Nat} (g : Grow H H') (h : FldsAt H r m) : FldsAt H' r m := let ⟨xs, a, b, c⟩ := h; ⟨xs, g _ _ a, fun v hv => (b v hv).grow g, c⟩

section
variable {w : World} {K : Frag} {H : AHeap} {Q : AV → AHeap → Prop}
theorem read_fields_ok (e0 : E0 K) {D : List UInt8} {a e : Nat} (hp : Pos D a e) (he : En D e) (hae : a ≤ e) (hD : D.length ≤ 16777000)
    (k : ∀ H' t r (b : Nat), Grow H H' → H' t = some (.tup [.ref r, .int b]) → FldsAt H' r e → a ≤ b → b ≤ e → Pos D b e → Q (.ref t) H') : CallOK w K 10 201 [.bytes D, .int a, .int e] H Q := by
  refine (e0.code 16 (n := 8) (d := d_read_fields) rfl rfl ?_).call
  refine ⟨rfl, read_spans_ok e0 hp he hae hD fun H1 t r xs ks b g1 ht hr hrows hab hbe hpb hlen => ?_⟩
  refine ⟨t, _, rfl, ht, rfl, _, _, rfl, _, _, rfl, rfl, ?_⟩
  have hl : xs.length ≤ 16777216 := Nat.le_trans hlen (Nat.le_trans he.1 (Nat.le_trans hD (by decide)))
  refine ⟨rfl, rfl, .inl ⟨xs, hr, hl, hl, fun j acc Hk => Hk = H1 ∧ acc.length = j ∧ ∀ v ∈ acc, FldV H1 v, ⟨rfl, rfl, fun v hv => (List.not_mem_nil hv).elim⟩, ?_, ?_⟩⟩
  · rintro j acc _ y hy ⟨rfl, hj, hacc⟩ hs
    obtain ⟨i, hi, t', x, p, q, rfl, h1, h2, h3, h4⟩ := All2.get hrows hy
    refine ⟨fun _ => ⟨Int.le_refl 0, by decide, _, _, .inr (.inl h1), rfl, hs, rfl, by rw [List.length_append, hj]; rfl, fun v hv => ?_⟩, nofun⟩
    rcases List.mem_append.1 hv with hv | hv
    · exact hacc v hv
    · rw [List.mem_singleton] at hv; subst hv; exact ⟨x, i, rfl, h2, h3, h4⟩
  · rintro acc _ ⟨rfl, hj, hacc⟩ - fl hfl
    have g2 := Grow.push (o := .list acc) hfl
    refine ⟨Nat.le_of_ble_eq_true rfl, fun t2 ht2 => ?_⟩
    have g3 := g2.trans (Grow.push (o := .tup [.ref fl, .int b]) ht2)
    exact k _ t2 fl b (g1.trans g3) upd_self ⟨acc, upd_old upd_self ht2, fun v hv => (hacc v hv).grow g3, hj ▸ hlen⟩ hab hbe hpb

theorem first_body_ok (e0 : E0 K) {r : Addr} {m : Nat} {wd : List Nat} (hw : plainR (rCall plainDefs 100 2 124 [.str wd] []) = some (.str wd)) (hf : FldsAt H r m) (hm : m ≤ 16777216)
    (k : ∀ H' v, Grow H H' → (v = .none ∨ ∃ i, i < 12 ∧ hasCol i = true ∧ fword i = wd ∧ v = .bytes (fbody i)) → Q v H') : CallOK w K 18 222 [.ref r, .str wd] H Q := by
  refine (e0.code 19 (n := 16) (d := d_first_body) rfl rfl ?_).call
  refine ⟨rfl, (e0.plain hw rfl fun H1 g1 => ?_).le (by decide)⟩
  obtain ⟨xs, hr, hx, hl⟩ := hf.grow g1
  refine .inl ⟨xs, hr, Nat.le_trans hl hm, fun _ ρ Hk => Grow H1 Hk ∧ ∃ o, ρ = ⟨[some (.ref r), some (.str wd), some (.str wd), o], []⟩, ⟨.refl, _, rfl⟩, ?_, ?_⟩
  · rintro j _ Hk y hy ⟨g, o, rfl⟩ hs
    obtain ⟨x, i, rfl, h1, h2, h3⟩ := (hx y (List.mem_of_getElem? hy)).grow g
    obtain ⟨d, a, b⟩ := h1
    refine .inr (.inr ⟨162, d, _, 152, a, b, rfl, ?_⟩)
    refine (word_ok e0 h2 h3 ⟨d, a, b⟩ fun H2 g2 => ⟨fun hq => ?_, fun hq => ⟨(g.trans g2 _ _ hr).trans hr.symm, g.trans g2, some (.ref x), rfl⟩⟩)
    refine ⟨162, d, _, _, g2 _ _ a, g2 _ _ b, rfl, rfl, (e0.plain (unfolded_run i h2 h3) rfl fun H3 g3 => ?_)⟩
    exact k _ _ (((g1.trans g).trans g2).trans g3) (.inr ⟨i, h2, h3, of_decide_eq_true hq, rfl⟩)
  · rintro _ Hk ⟨g, o, rfl⟩
    exact k _ _ (g1.trans g) (.inl rfl)
end
end
end Mine
namespace Mine
noncomputable section

noncomputable def tlS : S → S
  | .cons _ r => r
  | _ => .nil
noncomputable def encRun (v : AV) : Option (Fl × Ls × Hp) := rS (rCall plainDefs 100 2) 100 (tlS b_encoding_of) [none, some v, none, none] []
noncomputable def isStrRet (f : Fl) : Bool := match f with
  | .ret (.str _) => true
  | _ => false
noncomputable def encOk (v : AV) : Bool := match encRun v with
  | some r => isStrRet r.1
  | none => false
theorem enc_run : encOk .none = true ∧ ∀ k, k < 12 → hasCol k = true → fword k = sCE → encOk (.bytes (fbody k)) = true := by decide +kernel
theorem encOk_inv {v : AV} (h : encOk v = true) : ∃ s l h', encRun v = some (.ret (.str s), l, h') := by
  unfold encOk at h
  split at h
  · rename_i r e
    obtain ⟨f, l, h'⟩ := r
    cases f with
    | next => cases h
    | ret v => cases v with
      | str s => exact ⟨s, l, h', e⟩
      | _ => cases h
  · cases h

/-- a part as it is made -/
structure MadeAt (H : AHeap) (x : Addr) (b m e : Nat) (fl kx : Addr) (d l : Addr) (s : List Nat) : Prop where
  hx : H x = some (.inst 555 d)
  hd : H d = some (.attrs [(.beg, .int b), (.body, .int m), (.fin, .int e), (.fields, .ref fl), (.kind, .ref kx), (.enc, .str s), (.kids, .ref l), (.inner, .none)])
  hl : H l = some (.list [])
theorem MadeAt.grow {H H' : AHeap} {x : Addr} {b m e : Nat} {fl kx d l : Addr} {s : List Nat} (g : Grow H H') (h : MadeAt H x b m e fl kx d l s) : MadeAt H' x b m e fl kx d l s := ⟨g _ _ h.hx, g _ _ h.hd, g _ _ h.hl⟩

section
variable {w : World} {K : Frag} {H : AHeap} {Q : AV → AHeap → Prop}
theorem encoding_of_ok (e0 : E0 K) {r : Addr} {m : Nat} (hf : FldsAt H r m) (hm : m ≤ 16777216) (k : ∀ H' s, Grow H H' → Q (.str s) H') : CallOK w K 20 564 [.ref r] H Q := by
  refine (e0.code 45 (n := 18) (d := d_encoding_of) rfl rfl ?_).call
  refine ⟨rfl, first_body_ok e0 lower_run2 hf hm fun H1 v g1 hv => ?_⟩
  have key : encOk v = true := by
    rcases hv with rfl | ⟨i, h1, h2, h3, rfl⟩
    · exact enc_run.1
    · exact enc_run.2 i h1 h2 h3
  have hp : isRef v = false := by rcases hv with rfl | ⟨i, h1, h2, h3, rfl⟩ <;> rfl
  obtain ⟨s, l, h', e⟩ := encOk_inv key
  have hcs : CS w K 18 (rCall plainDefs 100 2) := fun f vs h r e σ H vs' Q R rv k => ((rCall_ok e0.KF e0.tab e0.cls 2) f vs h r e σ H vs' Q R rv k).le (by decide)
  have L : RLs [] [none, some v, none, none] [some (.ref r), some v, none, none] := ⟨trivial, ⟨v, rfl, RA.plain hp⟩, trivial, trivial, trivial⟩
  refine s_ok hcs (tlS b_encoding_of) e .empty L fun σ H2 ls fl R E L rf => ?_
  obtain ⟨_, rfl, rfl⟩ := rf
  exact k H2 s (g1.trans E.grow)

theorem part_ok (e0 : E0 K) {b m e : Nat} {fl kx : Addr} {mm : Nat} (hf : FldsAt H fl mm) (hm : mm ≤ 16777216)
    (k : ∀ H' x d l s, Grow H H' → H x = none → H d = none → H l = none → MadeAt H' x b m e fl kx d l s → Q (.ref x) H') : CallOK w K 24 555 [.int b, .int m, .int e, .ref fl, .ref kx] H Q := by
  obtain ⟨c2, c3, c4⟩ := e0.part
  refine (make_code (n := 22) rfl c2 c3 c4 fun x d hx hd hxd => e0.code 44 (n := 20) (d := d_Part_init) rfl rfl ?_).call
  have hx1 : upd (upd H d (.attrs [])) x (.inst 555 d) d = some (.attrs []) := by rw [upd_ne hxd.symm, upd_self]
  have hx0 : upd (upd H d (.attrs [])) x (.inst 555 d) x = some (.inst 555 d) := upd_self
  have hxn : upd H d (.attrs []) x = none := by rw [upd_ne hxd]; exact hx
  have g : Grow H (upd (upd H d (.attrs [])) x (.inst 555 d)) := (Grow.push hd).trans (Grow.push hxn)
  generalize upd (upd H d (.attrs [])) x (.inst 555 d) = H0 at hx0 hx1 g ⊢
  have st : ∀ {Ha : AHeap} {o : AO}, Ha x = some (.inst 555 d) → Grow H Ha → (upd Ha d o) x = some (.inst 555 d) ∧ (upd Ha d o) d = some o ∧ Grow H (upd Ha d o) := fun h1 h2 => ⟨by rw [upd_ne hxd]; exact h1, upd_self, h2.put hd⟩
  refine ⟨555, d, _, hx0, hx1, Nat.zero_le _, ?_⟩
  obtain ⟨hx0, hx1, g⟩ := st (o := .attrs (putA .beg (.int b) [])) hx0 g
  generalize upd H0 d (.attrs (putA .beg (.int b) [])) = H0 at hx0 hx1 g ⊢
  refine ⟨555, d, _, hx0, hx1, Nat.le_of_ble_eq_true rfl, ?_⟩
  obtain ⟨hx0, hx1, g⟩ := st (o := .attrs [(.beg, .int b), (.body, .int m)]) hx0 g
  change vcS _ _ _ _ _ (upd H0 d (.attrs [(.beg, .int b), (.body, .int m)])) _
  generalize upd H0 d (.attrs [(.beg, .int b), (.body, .int m)]) = H0 at hx0 hx1 g ⊢
  refine ⟨555, d, _, hx0, hx1, Nat.le_of_ble_eq_true rfl, ?_⟩
  obtain ⟨hx0, hx1, g⟩ := st (o := .attrs [(.beg, .int b), (.body, .int m), (.fin, .int e)]) hx0 g
  change vcS _ _ _ _ _ (upd H0 d (.attrs [(.beg, .int b), (.body, .int m), (.fin, .int e)])) _
  generalize upd H0 d (.attrs [(.beg, .int b), (.body, .int m), (.fin, .int e)]) = H0 at hx0 hx1 g ⊢
  refine ⟨555, d, _, hx0, hx1, Nat.le_of_ble_eq_true rfl, ?_⟩
  obtain ⟨hx0, hx1, g⟩ := st (o := .attrs [(.beg, .int b), (.body, .int m), (.fin, .int e), (.fields, .ref fl)]) hx0 g
  change vcS _ _ _ _ _ (upd H0 d (.attrs [(.beg, .int b), (.body, .int m), (.fin, .int e), (.fields, .ref fl)])) _
  generalize upd H0 d (.attrs [(.beg, .int b), (.body, .int m), (.fin, .int e), (.fields, .ref fl)]) = H0 at hx0 hx1 g ⊢
  refine ⟨555, d, _, hx0, hx1, Nat.le_of_ble_eq_true rfl, ?_⟩
  obtain ⟨hx0, hx1, g⟩ := st (o := .attrs [(.beg, .int b), (.body, .int m), (.fin, .int e), (.fields, .ref fl), (.kind, .ref kx)]) hx0 g
  change vcS _ _ _ _ _ (upd H0 d (.attrs [(.beg, .int b), (.body, .int m), (.fin, .int e), (.fields, .ref fl), (.kind, .ref kx)])) _
  generalize upd H0 d (.attrs [(.beg, .int b), (.body, .int m), (.fin, .int e), (.fields, .ref fl), (.kind, .ref kx)]) = H0 at hx0 hx1 g ⊢
  refine ⟨rfl, encoding_of_ok e0 (hf.grow g) hm fun H1 s g1 => ?_⟩
  have hx1 := g1 _ _ hx1
  have hx0 := g1 _ _ hx0
  have g := g.trans g1
  refine ⟨555, d, _, hx0, hx1, Nat.le_of_ble_eq_true rfl, ?_⟩
  obtain ⟨hx0, hx1, g⟩ := st (o := .attrs [(.beg, .int b), (.body, .int m), (.fin, .int e), (.fields, .ref fl), (.kind, .ref kx), (.enc, .str s)]) hx0 g
  change vcS _ _ _ _ _ (upd H1 d (.attrs [(.beg, .int b), (.body, .int m), (.fin, .int e), (.fields, .ref fl), (.kind, .ref kx), (.enc, .str s)])) _
  generalize upd H1 d (.attrs [(.beg, .int b), (.body, .int m), (.fin, .int e), (.fields, .ref fl), (.kind, .ref kx), (.enc, .str s)]) = H1 at hx0 hx1 g ⊢
  refine ⟨Nat.zero_le _, fun l hl => ?_⟩
  have hdl : d ≠ l := by rintro rfl; rw [hl] at hx1; cases hx1
  have g2 := Grow.push (o := .list []) hl
  refine ⟨555, d, _, g2 _ _ hx0, g2 _ _ hx1, Nat.le_of_ble_eq_true rfl, ?_⟩
  have hl' : ∀ {o : AO}, upd (upd H1 l (.list [])) d o l = some (.list []) := fun {o} => by rw [upd_ne hdl.symm, upd_self]
  obtain ⟨hx0, hx1, g3⟩ := st (o := .attrs [(.beg, .int b), (.body, .int m), (.fin, .int e), (.fields, .ref fl), (.kind, .ref kx), (.enc, .str s), (.kids, .ref l)]) (g2 _ _ hx0) (g.trans g2)
  refine ⟨555, d, _, hx0, hx1, Nat.le_of_ble_eq_true rfl, ?_⟩
  obtain ⟨hx4, hx5, g4⟩ := st (o := .attrs [(.beg, .int b), (.body, .int m), (.fin, .int e), (.fields, .ref fl), (.kind, .ref kx), (.enc, .str s), (.kids, .ref l), (.inner, .none)]) hx0 g3
  exact ⟨rfl, k _ x d l s g4 hx hd (g.back hl) ⟨hx4, hx5, by rw [upd_ne hdl.symm]; exact hl'⟩⟩
end
end
end Mine
namespace Mine
noncomputable section

/-- a row of line_spans -/
noncomputable def LineAt (H : AHeap) (v : AV) (a l n : Nat) : Prop := ∃ t, v = .ref t ∧ H t = some (.tup [.int a, .int l, .int n])
theorem LineAt.g1 {H H' : AHeap} {v : AV} {a l n : Nat} (g : G1 H H') (h : LineAt H v a l n) : LineAt H' v a l n := let ⟨t, e, q⟩ := h; ⟨t, e, g _ _ q nofun⟩
inductive LineC (D : List UInt8) (e : Nat) (H : AHeap) (T : Nat → Prop) (a : Nat) (v : AV) : Prop
  | mk (l n : Nat) (h1 : LineAt H v a l n) (h2 : a < e) (h3 : LA D a e l n) (h4 : T n)
noncomputable def Lines (D : List UInt8) (e : Nat) (H : AHeap) : Nat → List AV → Nat → Prop
  | a, [], z => a = z
  | a, v :: r, z => LineC D e H (fun n => Lines D e H n r z) a v
theorem Lines.g1 {D : List UInt8} {e : Nat} {H H' : AHeap} (g : G1 H H') : ∀ {xs : List AV} {a z : Nat}, Lines D e H a xs z → Lines D e H' a xs z
  | [], _, _, h => h
  | _ :: _, _, _, ⟨l, n, h1, h2, h3, h4⟩ => ⟨l, n, h1.g1 g, h2, h3, h4.g1 g⟩
theorem Lines.snoc {D : List UInt8} {e : Nat} {H : AHeap} {v : AV} {l n : Nat} : ∀ {xs : List AV} {a z : Nat}, Lines D e H a xs z → LineAt H v z l n → z < e → LA D z e l n → Lines D e H a (xs ++ [v]) n
  | [], _, _, rfl, h1, h2, h3 => ⟨l, n, h1, h2, h3, rfl⟩
  | _ :: _, _, _, ⟨l', n', a1, a2, a3, a4⟩, h1, h2, h3 => ⟨l', n', a1, a2, a3, a4.snoc h1 h2 h3⟩
theorem min_nat {a b : Nat} (h : a ≤ b) : min (a : Int) (b : Int) = (a : Int) := Int.min_eq_left (Int.ofNat_le.2 h)
theorem gt_nat {a b : Nat} (h : decide ((b : Int) < (a : Int)) = true) : b < a := Int.ofNat_lt.1 (of_decide_eq_true h)

inductive LsInv (D : List UInt8) (a e : Nat) (r : Addr) (H : AHeap) (m : Nat) (ρ : Rho) (Hk : AHeap) : Prop
  | mk (here : Nat) (xs : List AV) (o6 o7 : Option AV) (h1 : m + here = e) (h4 : ρ = ⟨[some (.bytes D), some (.int a), some (.int e), some (.int e), some (.ref r), some (.int (here : Nat)), o6, o7], []⟩) (h5 : Grow H Hk) (h6 : Hk r = some (.list xs)) (h7 : Lines D e Hk a xs here) (h8 : xs.length ≤ here)
inductive LsPut (D : List UInt8) (a e : Nat) (r : Addr) (H : AHeap) (xs : List AV) (H1 H2 : AHeap) (t : Addr) (n : Nat) : Prop
  | mk (h1 : H1 r = some (.list xs)) (h2 : xs.length < 16777216) (h3 : Grow H H2) (h4 : Lines D e H2 a (xs ++ [.ref t]) n) (h5 : (xs ++ [AV.ref t]).length ≤ n) (h6 : n ≤ e)
section
variable {w : World} {K : Frag} {H : AHeap} {Q : AV → AHeap → Prop}
theorem line_spans_ok (e0 : E0 K) {D : List UInt8} {a e : Nat} (he : e ≤ D.length) (hae : a ≤ e) (hD : D.length ≤ 16777000)
    (k : ∀ H' r xs z, Grow H H' → H r = none → H' r = some (.list xs) → Lines D e H' a xs z → xs.length ≤ e → Q (.ref r) H') : CallOK w K 4 132 [.bytes D, .int a, .int e] H Q := by
  have hD' : D.length ≤ 16777216 := Nat.le_trans hD (by decide)
  have hm := min_nat he
  refine (e0.code 9 (n := 2) (d := d_line_spans) rfl rfl ?_).call
  refine ⟨rfl, fun h => nat_lt_no h, fun _ => ⟨rfl, hD', rfl, ?_⟩⟩
  change vcS _ _ _ _ ⟨[some (.bytes D), some (.int a), some (.int e), some (.int (min (e : Int) (D.length : Int))), none, none, none, none], []⟩ _ _
  rw [hm]
  refine ⟨Nat.zero_le _, fun r hr => ?_⟩
  refine ⟨e - a, LsInv D a e r H,
    ⟨a, [], none, none, Nat.sub_add_cancel hae, rfl, Grow.push hr, upd_self, rfl, Nat.zero_le _⟩, ?_⟩
  rintro m _ Hk ⟨here, xs, o6, o7, hm, rfl, g, hrk, hrows, hlen⟩
  have hle : here ≤ e := hm ▸ Nat.le_add_left _ _
  refine ⟨fun h => ?_, fun _ => k Hk r xs here g hr hrk hrows (Nat.le_trans hlen hle)⟩
  have hlt := lt_nat h
  refine ⟨"bytes.find", rfl, rfl, Int.natCast_nonneg here, Int.natCast_nonneg e, ?_⟩
  have app : ∀ (l n : Nat) (t : Addr), Hk t = none → LA D here e l n → LsPut D a e r H xs (upd Hk t (.tup [.int here, .int l, .int n])) (upd (upd Hk t (.tup [.int here, .int l, .int n])) r (.list (xs ++ [.ref t]))) t n := fun l n t ht hla => by
    have g2 := Grow.push (o := .tup [.int here, .int l, .int n]) ht
    have hr2 := g2 _ _ hrk
    have gg := G1.put (o := .list (xs ++ [.ref t])) hr2
    have hn := hla.le hle
    refine ⟨hr2, Nat.lt_of_le_of_lt hlen (Nat.lt_of_lt_of_le hlt (Nat.le_trans he hD')), (g.trans g2).put hr, ((hrows.g1 g2.g1).g1 gg).snoc ⟨t, rfl, gg _ _ upd_self nofun⟩ hlt hla, ?_, hn.2.2.1⟩
    rw [List.length_append]
    exact Nat.lt_of_le_of_lt hlen (hn.2.2.2 hlt)
  rcases bfind_one (c := 10) hle he with ⟨hb, hno⟩ | ⟨s, hb, h1, h2, h3, h4⟩
  · rw [show bfind D [10] (here : Int).toNat (e : Int).toNat = -1 from hb]
    refine ⟨fun _ => ?_, nofun⟩
    refine .inl ⟨"list.append", xs, rfl, hrk, rfl, Nat.le_of_ble_eq_true rfl, fun t ht => ?_⟩
    obtain ⟨q1, q2, q3, q4, q5, q6⟩ := app e e t ht (.inl ⟨rfl, rfl, hno⟩)
    exact ⟨rfl, _, q1, q2, rfl, k _ r _ e q3 hr upd_self q4 (Nat.le_trans q5 q6)⟩
  · rw [show bfind D [10] (here : Int).toNat (e : Int).toNat = s from hb]
    refine ⟨fun h => nat_lt_no h, fun _ => ?_⟩
    have last : ∀ l : Nat, LA D here e l (s + 1) → vcS w K 2 (.cons (.exp (.meth (.loc 4) .append (.cons (.tup (.cons (.loc 5) (.cons (.loc 7) (.cons (.bin .Add (.loc 6) (.lit (.int 1))) .nil)))) .nil)))
        (.cons (.asg (.loc 5) (.bin .Add (.loc 6) (.lit (.int 1)))) .nil)) ⟨[some (.bytes D), some (.int a), some (.int e), some (.int e), some (.ref r), some (.int (here : Nat)), some (.int (s : Nat)), some (.int (l : Nat))], []⟩ Hk
        fun f ρ' H' => onFl f (∃ m', m' < m ∧ LsInv D a e r H m' ρ' H') fun v => Q v H' := fun l hla => by
      refine .inl ⟨"list.append", xs, rfl, hrk, rfl, Nat.le_of_ble_eq_true rfl, fun t ht => ?_⟩
      obtain ⟨q1, q2, q3, q4, q5, q6⟩ := app l (s + 1) t ht hla
      exact ⟨rfl, _, q1, q2, rfl, e - (s + 1), dec_lt hm (Nat.lt_succ_of_le h1) hlt, s + 1, _, _, _, Nat.sub_add_cancel q6, rfl, q3, upd_self, q4, q5⟩
    refine ⟨rfl, fun h => ?_, fun h => ⟨fun q => bool_no h q, fun _ => last s (.inr ⟨s, h1, h2, h3, h4, rfl, .inr ⟨fun q => ge_nat h q.1, rfl⟩⟩)⟩⟩
    have h := lt_nat h
    obtain ⟨l, rfl⟩ : ∃ l, s = l + 1 := ⟨s - 1, (Nat.sub_add_cancel (Nat.lt_of_le_of_lt (Nat.zero_le _) h)).symm⟩
    have hl : l < D.length := Nat.lt_of_lt_of_le (Nat.lt_of_succ_lt h2) he
    obtain ⟨b, eb⟩ := get_ex hl
    have hi := int_sub1 l
    refine ⟨hi ▸ Int.natCast_nonneg l, hi ▸ small_nat hl hD', hD', b, hi.symm ▸ eb, fun h' => ?_, fun h' => ?_⟩
    · have := last l (.inr ⟨l + 1, h1, h2, h3, h4, rfl, .inl ⟨h, by rw [Nat.add_sub_cancel, eb, u8_eq (c := 13) h'], rfl⟩⟩)
      rw [← hi] at this
      exact this
    · exact last (l + 1) (.inr ⟨l + 1, h1, h2, h3, h4, rfl, .inr ⟨fun q => u8_ne (c := 13) h' (Option.some.inj (eb.symm.trans q.2)), rfl⟩⟩)
end
end
end Mine
namespace Mine
noncomputable section

/-- a span of a part -/
noncomputable def SpanAt (H : AHeap) (v : AV) (a b : Nat) : Prop := ∃ t, v = .ref t ∧ H t = some (.tup [.int a, .int b])
theorem SpanAt.g1 {H H' : AHeap} {v : AV} {a b : Nat} (g : G1 H H') (h : SpanAt H v a b) : SpanAt H' v a b := let ⟨t, e, q⟩ := h; ⟨t, e, g _ _ q nofun⟩
inductive SpanC (D : List UInt8) (e : Nat) (H : AHeap) (T : Nat → Prop) (lo : Nat) (v : AV) : Prop
  | mk (a b : Nat) (h1 : SpanAt H v a b) (h2 : lo < a) (h3 : a ≤ b) (h4 : b ≤ e) (h5 : Pos D a b) (h6 : En D b) (h7 : T b)
noncomputable def Spans (D : List UInt8) (e : Nat) (H : AHeap) : Nat → List AV → Nat → Prop
  | lo, [], hi => lo = hi
  | lo, v :: r, hi => SpanC D e H (fun b => Spans D e H b r hi) lo v
section
variable {D : List UInt8} {e : Nat} {H H' : AHeap}
theorem Spans.g1 (g : G1 H H') : ∀ {xs : List AV} {a z : Nat}, Spans D e H a xs z → Spans D e H' a xs z
  | [], _, _, h => h
  | _ :: _, _, _, ⟨a, b, h1, h2, h3, h4, h5, h6, h7⟩ => ⟨a, b, h1.g1 g, h2, h3, h4, h5, h6, h7.g1 g⟩
theorem Spans.snoc {v : AV} {x y : Nat} : ∀ {xs : List AV} {a z : Nat}, Spans D e H a xs z → SpanAt H v x y → z < x → x ≤ y → y ≤ e → Pos D x y → En D y → Spans D e H a (xs ++ [v]) y
  | [], _, _, rfl, h1, h2, h3, h4, h5, h6 => ⟨x, y, h1, h2, h3, h4, h5, h6, rfl⟩
  | _ :: _, _, _, ⟨a, b, h1, h2, h3, h4, h5, h6, h7⟩, q1, q2, q3, q4, q5, q6 => ⟨a, b, h1, h2, h3, h4, h5, h6, h7.snoc q1 q2 q3 q4 q5 q6⟩
theorem Pos.en {i : Nat} (p : Pos D i e) (h : En D e) : En D i := by
  rcases p with rfl | p
  · exact h
  · exact p.en
end
theorem max_nat {a b : Nat} : max (a : Int) (b : Int) = ((max a b : Nat) : Int) := by
  rcases Nat.le_total a b with h | h
  · rw [Int.max_eq_right (Int.ofNat_le.2 h), Nat.max_eq_right h]
  · rw [Int.max_eq_left (Int.ofNat_le.2 h), Nat.max_eq_left h]
theorem drop_cons {α : Type} : ∀ {l : List α} {j : Nat} {y : α}, l[j]? = some y → l.drop j = y :: l.drop (j + 1)
  | [], _, _, h => by cases h
  | _ :: _, 0, _, h => by cases h; rfl
  | _ :: _, j + 1, _, h => drop_cons (j := j) h
theorem way_cases (b : Bool) (k : Nat) : way b k = [] ∨ way b k = [110, 101, 120, 116] ∨ way b k = [108, 97, 115, 116] := by
  unfold way
  split
  · exact .inr (.inl rfl)
  · split
    · exact .inr (.inr rfl)
    · exact .inl rfl
theorem all_mem {H : AHeap} {D : List UInt8} {e : Nat} : ∀ {xs : List AV} {a z : Nat} (j : Nat), Lines D e H a xs z → ∃ y, Lines D e H y (xs.drop j) z
  | _, a, _, 0, h => ⟨a, h⟩
  | [], a, _, _ + 1, h => ⟨a, h⟩
  | _ :: _, _, _, j + 1, ⟨_, _, _, _, _, h⟩ => all_mem j h

inductive PsInv (D : List UInt8) (a e : Nat) (bd : Bool) (r t : Addr) (xs : List AV) (zz : Nat) (H : AHeap) (j : Nat) (ρ : Rho) (Hk : AHeap) : Prop
  | mk (z : Nat) (ys : List AV) (hi : Nat) (bg : Int) (bf : Nat) (o7 o8 o9 o10 : Option AV) (e1 : ρ = ⟨[some (.bytes D), some (.int a), some (.int e), some (.bytes (bnds bd)), some (.ref r), some (.int bg), some (.int bf), o7, o8, o9, o10], []⟩)
      (g : Grow H Hk) (hr : Hk r = some (.list ys)) (ht : Hk t = some (.list xs)) (hl : Lines D e Hk z (xs.drop j) zz) (hs : Spans D e Hk a ys hi) (hc : a + ys.length ≤ hi) (h1 : hi ≤ z) (h2 : z ≤ e) (h3 : Pos D z e) (h4 : bf ≤ z) (h5 : En D bf)
      (h6 : bg = -1 ∨ ∃ B : Nat, bg = B ∧ hi < B ∧ B ≤ z ∧ Pos D B e)
inductive PsPut (D : List UInt8) (a e : Nat) (r t : Addr) (xs : List AV) (zz j m z : Nat) (H : AHeap) (ys : List AV) (H1 H2 : AHeap) (s : Addr) (B bf : Nat) : Prop
  | mk (h1 : H1 r = some (.list ys)) (h2 : ys.length < 16777216) (h3 : Grow H H2) (h4 : H2 t = some (.list xs)) (h5 : Lines D e H2 m (xs.drop (j + 1)) zz) (h6 : Spans D e H2 a (ys ++ [.ref s]) (max B bf)) (h7 : a + (ys ++ [AV.ref s]).length ≤ max B bf) (h8 : max B bf ≤ z)
section
variable {w : World} {K : Frag} {H : AHeap} {Q : AV → AHeap → Prop}
theorem part_spans_ok (e0 : E0 K) {D : List UInt8} {a e : Nat} {bd : Bool} (hp : Pos D a e) (he : En D e) (hae : a ≤ e) (hD : D.length ≤ 16777000)
    (k : ∀ H' r xs z, Grow H H' → H' r = some (.list xs) → Spans D e H' a xs z → a + xs.length ≤ z → z ≤ e → Q (.ref r) H') : CallOK w K 18 578 [.bytes D, .int a, .int e, .bytes (bnds bd)] H Q := by
  have hD' : D.length ≤ 16777216 := Nat.le_trans hD (by decide)
  refine (e0.code 47 (n := 16) (d := d_part_spans) rfl rfl ?_).call
  refine ⟨Nat.zero_le _, fun r hr => ?_⟩
  refine ⟨rfl, (line_spans_ok e0 he.1 hae hD fun H1 t xs zz g1 htn ht hlines hlen => ?_).le (by decide)⟩
  have hr1 := g1 _ _ (upd_self (H := H) (a := r) (o := .list []))
  have g0 : Grow H H1 := (Grow.push hr).trans g1
  have htr : t ≠ r := by
    rintro rfl
    rw [upd_self] at htn; cases htn
  refine .inl ⟨xs, ht, Nat.le_trans hlen (Nat.le_trans he.1 hD'), PsInv D a e bd r t xs zz H, ?_, ?_, ?_⟩
  · exact ⟨a, [], a, -1, a, none, none, none, none, rfl, g0, hr1, ht, hlines, rfl, Nat.le_refl _, Nat.le_refl _, hae, hp, Nat.le_refl _, hp.en he, .inl rfl⟩
  · rintro j _ Hk y hy ⟨z, ys, hi, bg, bf, o7, o8, o9, o10, rfl, g, hrk, htk, hl, hs, hc, h1, h2, h3, h4, h5, h6⟩ hst
    rw [drop_cons hy] at hl
    obtain ⟨l, m, ⟨t', rfl, ht'⟩, hze, hla, hl'⟩ := hl
    have hzs : LS D z := h3.resolve_left (Nat.ne_of_lt hze)
    obtain ⟨i, hi', hl1, htake, hn, hel, hle, hm⟩ := line_key hzs he hze hla
    have hge := hla.le h2
    have hzm := hge.2.2.2 hze
    refine ⟨t', _, rfl, ht', rfl, Nat.le_of_ble_eq_true rfl, ?_⟩
    refine ⟨Int.natCast_nonneg z, Int.natCast_nonneg l, hD', rfl, ?_⟩
    rw [show sl D (some (z : Int)) (some (l : Int)) = menu i from htake]
    refine (e0.plain (way_run i hi' bd) rfl fun H2 g2 => ?_)
    have hcy : hi + 1 ≤ 16777216 := Nat.le_trans (Nat.lt_of_le_of_lt h1 hze) (Nat.le_trans he.1 hD')
    have hr2 := g2 _ _ hrk
    have ht2 := g2 _ _ htk
    have hs2 := hs.g1 g2.g1
    have hl2 := hl'.g1 g2.g1
    have hst2 : H2 t = H1 t := ht2.trans ht.symm
    have g02 := g.trans g2
    -- what is put behind the list
    have put : ∀ B : Nat, hi < B → B ≤ z → Pos D B e → ∀ s, H2 s = none → PsPut D a e r t xs zz j m z H ys (upd H2 s (.tup [.int B, .int (max (B : Int) (bf : Int))])) (upd (upd H2 s (.tup [.int B, .int (max (B : Int) (bf : Int))])) r (.list (ys ++ [.ref s]))) s B bf := fun B b1 b2 b3 s hs' => by
      rw [max_nat]
      have g3 := Grow.push (o := .tup [.int B, .int ((max B bf : Nat) : Int)]) hs'
      have hr3 := g3 _ _ hr2
      have gg := G1.put (o := .list (ys ++ [.ref s])) hr3
      have hmz : max B bf ≤ z := Nat.max_le.2 ⟨b2, h4⟩
      have hBs : Pos D B (max B bf) := .inr (b3.resolve_left (Nat.ne_of_lt (Nat.lt_of_le_of_lt b2 hze)))
      have hEn : En D (max B bf) := by
        rcases Nat.le_total B bf with q | q
        · rw [Nat.max_eq_right q]; exact h5
        · rw [Nat.max_eq_left q]; exact b3.en he
      refine ⟨hr3, ?_, (g02.trans g3).put hr, ?_, (hl2.g1 g3.g1).g1 gg, ((hs2.g1 g3.g1).g1 gg).snoc ⟨s, rfl, gg _ _ upd_self nofun⟩ b1 (Nat.le_max_left _ _) (Nat.le_trans hmz h2) hBs hEn, ?_, hmz⟩
      · exact Nat.lt_of_lt_of_le (Nat.lt_succ_of_le (Nat.le_trans (Nat.le_add_left _ _) hc)) hcy
      · rw [upd_ne htr]; exact g3 _ _ ht2
      · rw [List.length_append]
        exact Nat.le_trans (Nat.succ_le_of_lt (Nat.lt_of_le_of_lt hc b1)) (Nat.le_max_left _ _)
    rcases way_cases bd i with ew | ew | ew <;> rw [ew]
    · refine ⟨fun h => absurd h (by decide), fun _ => ⟨hst2, m, ys, hi, bg, l, _, _, _, _, rfl, g02, hr2, ht2, hl2, hs2, hc, Nat.le_trans h1 (Nat.le_of_lt hzm), hge.2.2.1, hn, hge.2.1, hel, ?_⟩⟩
      exact h6.imp_right fun ⟨B, b0, b1, b2, b3⟩ => ⟨B, b0, b1, Nat.le_trans b2 (Nat.le_of_lt hzm), b3⟩
    · refine ⟨fun _ => ?_, fun h => absurd h (by decide)⟩
      rcases h6 with rfl | ⟨B, rfl, b1, b2, b3⟩
      · refine ⟨nofun, fun _ => ⟨fun h => absurd h (by decide), fun _ => ?_⟩⟩
        exact ⟨hst2, m, ys, hi, m, l, _, _, _, _, rfl, g02, hr2, ht2, hl2, hs2, hc, Nat.le_trans h1 (Nat.le_of_lt hzm), hge.2.2.1, hn, hge.2.1, hel, .inr ⟨m, rfl, Nat.lt_of_le_of_lt h1 hzm, Nat.le_refl _, hn⟩⟩
      · refine ⟨fun _ => ?_, fun h => bool_no h (decide_eq_true (Int.natCast_nonneg B))⟩
        refine .inl ⟨"list.append", ys, rfl, hr2, rfl, rfl, Nat.le_of_ble_eq_true rfl, fun s hs' => ?_⟩
        obtain ⟨q1, q2, q3, q4, q5, q6, q7, q8⟩ := put B b1 b2 b3 s hs'
        refine ⟨rfl, _, q1, q2, rfl, fun h => absurd h (by decide), fun _ => ?_⟩
        exact ⟨q4.trans ht.symm, m, _, _, m, l, _, _, _, _, rfl, q3, upd_self, q4, q5, q6, q7, Nat.le_trans q8 (Nat.le_of_lt hzm), hge.2.2.1, hn, hge.2.1, hel, .inr ⟨m, rfl, Nat.lt_of_le_of_lt q8 hzm, Nat.le_refl _, hn⟩⟩
    · refine ⟨fun _ => ?_, fun h => absurd h (by decide)⟩
      rcases h6 with rfl | ⟨B, rfl, b1, b2, b3⟩
      · refine ⟨nofun, fun _ => ⟨fun _ => ?_, fun h => absurd h (by decide)⟩⟩
        exact k _ r ys hi g02 hr2 hs2 hc (Nat.le_trans h1 h2)
      · refine ⟨fun _ => ?_, fun h => bool_no h (decide_eq_true (Int.natCast_nonneg B))⟩
        refine .inl ⟨"list.append", ys, rfl, hr2, rfl, rfl, Nat.le_of_ble_eq_true rfl, fun s hs' => ?_⟩
        obtain ⟨q1, q2, q3, q4, q5, q6, q7, q8⟩ := put B b1 b2 b3 s hs'
        refine ⟨rfl, _, q1, q2, rfl, fun _ => ?_, fun h => absurd h (by decide)⟩
        exact k _ r _ _ q3 upd_self q6 q7 (Nat.le_trans q8 h2)
  · rintro _ Hk ⟨z, ys, hi, bg, bf, o7, o8, o9, o10, rfl, g, hrk, htk, hl, hs, hc, h1, h2, h3, h4, h5, h6⟩
    rcases h6 with rfl | ⟨B, rfl, b1, b2, b3⟩
    · exact ⟨nofun, fun _ => k _ r ys hi g hrk hs hc (Nat.le_trans h1 h2)⟩
    · refine ⟨fun _ => ?_, fun h => bool_no h (decide_eq_true (Int.natCast_nonneg B))⟩
      refine .inl ⟨"list.append", ys, rfl, hrk, rfl, Nat.le_of_ble_eq_true rfl, fun s hs' => ?_⟩
      have g3 := Grow.push (o := .tup [.int B, .int e]) hs'
      have hr3 := g3 _ _ hrk
      have gg := G1.put (o := .list (ys ++ [.ref s])) hr3
      have hBe : B ≤ e := Nat.le_trans b2 h2
      refine ⟨rfl, ys, hr3, ?_, rfl, k _ r _ e ((g.trans g3).put hr) upd_self (((hs.g1 g3.g1).g1 gg).snoc ⟨s, rfl, gg _ _ upd_self nofun⟩ b1 hBe (Nat.le_refl _) b3 he) ?_ (Nat.le_refl _)⟩
      · exact Nat.lt_of_le_of_lt (Nat.le_trans (Nat.le_add_left _ _) hc) (Nat.lt_of_lt_of_le b1 (Nat.le_trans hBe (Nat.le_trans he.1 hD')))
      · rw [List.length_append]
        exact Nat.le_trans (Nat.succ_le_of_lt (Nat.lt_of_le_of_lt hc b1)) hBe
end
end
end Mine
namespace Mine
noncomputable section

noncomputable def bdo : Option Bool → List UInt8
  | none => []
  | some b => bnds b
/-- a kind's boundary -/
noncomputable def KdOk (kd : Kd) : Prop := ∃ o, (lookS sBd kd.2.2).getD (.str []) = .str ((bdo o).map UInt8.toNat)
theorem kdN_ok : KdOk kdN := ⟨none, by rfl⟩
theorem kdL_ok : KdOk kdL := ⟨none, by rfl⟩
theorem kdF_ok (k : Nat) : KdOk (kdF k) := by
  unfold kdF
  split
  · exact ⟨some true, by rfl⟩
  · exact kdL_ok
  · exact ⟨some false, by rfl⟩
  · exact ⟨none, by rfl⟩
noncomputable def KidSp (D : List UInt8) (m e : Nat) (H : AHeap) (xs : List AV) : Prop := (∃ z, xs ≠ [] ∧ Spans D e H m xs z ∧ m + xs.length ≤ z ∧ z ≤ e) ∨ ∃ v, xs = [v] ∧ SpanAt H v e e
theorem KidSp.grow {D : List UInt8} {m e : Nat} {H H' : AHeap} {xs : List AV} (g : Grow H H') : KidSp D m e H xs → KidSp D m e H' xs
  | .inl ⟨z, a, b, c, d⟩ => .inl ⟨z, a, b.g1 g.g1, c, d⟩
  | .inr ⟨v, a, b⟩ => .inr ⟨v, a, b.g1 g.g1⟩
theorem bdo_len (o : Option Bool) : (bdo o).length ≤ 3 := by
  cases o with
  | none => decide
  | some b => cases b <;> decide
theorem u8_lt (b : UInt8) : b.toNat < 256 := b.toNat_lt
theorem take_succ_map {bs : List UInt8} {j : Nat} {b : UInt8} (h : bs[j]? = some b) : (bs.take j).map (fun c => AV.int c.toNat) ++ [.int b.toNat] = (bs.take (j + 1)).map fun c => AV.int c.toNat := by
  rw [List.take_add_one, h]
  simp

section
variable {w : World} {K : Frag} {n : Nat} {H : AHeap} {Q : AV → AHeap → Prop}
theorem kid_spans_ok (e0 : E0 K) {D : List UInt8} {x : Addr} {b m e : Nat} {fl kx d l : Addr} {s : List Nat} {kd : Kd} (M : MadeAt H x b m e fl kx d l s) (hk : KindAt H kx kd) (hkd : KdOk kd) (hp : Pos D m e) (he : En D e) (hme : m ≤ e) (hD : D.length ≤ 16777000)
    (k : ∀ H' r xs, Grow H H' → H' r = some (.list xs) → KidSp D m e H' xs → xs.length ≤ 16777216 → Q (.ref r) H') : CallOK w K 20 583 [.bytes D, .ref x] H Q := by
  obtain ⟨kd', p, k1, k2, k3, k4⟩ := hk
  obtain ⟨o, hb⟩ := hkd
  have hlen := bdo_len o
  refine (e0.code 48 (n := 18) (d := d_kid_spans) rfl rfl ?_).call
  refine ⟨_, _, _, _, M.hx, M.hd, rfl, _, _, _, _, k1, k2, rfl, .inr (.inl ⟨"dict.get", _, rfl, k3, rfl, k4, _, k3, ?_⟩)⟩
  rw [show (lookS [98, 111, 117, 110, 100, 97, 114, 121] kd.2.2).getD (.str []) = .str ((bdo o).map UInt8.toNat) from hb]
  have hl3 : ((bdo o).map UInt8.toNat).length ≤ 16777216 := by rw [List.length_map]; exact Nat.le_trans hlen (by decide)
  refine ⟨rfl, hl3, fun c hc => ?_, ?_, fun j acc Hk => Hk = H ∧ acc = ((bdo o).take j).map fun c => AV.int c.toNat, ⟨rfl, rfl⟩, ?_, ?_⟩
  · obtain ⟨y, _, rfl⟩ := List.mem_map.1 hc; exact u8_lt y
  · rw [List.length_map]; exact hl3
  · rintro j acc _ y hy ⟨rfl, rfl⟩ -
    rw [List.map_map, List.getElem?_map] at hy
    obtain ⟨c, hc, rfl⟩ := Option.map_eq_some_iff.1 hy
    have h256 : decide ((c.toNat : Int) < 256) = true := decide_eq_true (Int.ofNat_lt.2 (u8_lt c))
    refine ⟨rfl, rfl, c.toNat, rfl, ?_⟩
    refine ⟨fun _ => ⟨rfl, c.toNat, rfl, trivial, rfl, take_succ_map hc⟩, fun h => bool_no h h256⟩
  · rintro acc H0 ⟨rfl, rfl⟩ - a ha
    rw [List.length_map, List.length_map, List.take_length]
    have g1 := Grow.push (o := .list ((bdo o).map fun c => AV.int c.toNat)) ha
    refine ⟨rfl, bdo o, upd_self, Nat.le_trans hlen (by decide), ?_⟩
    refine ⟨Nat.zero_le _, fun f hf => ?_⟩
    have g2 := g1.trans (Grow.push (o := .list []) hf)
    have hf2 : upd (upd H0 a (.list ((bdo o).map fun c => AV.int c.toNat))) f (.list []) f = some (.list []) := upd_self
    generalize upd (upd H0 a (.list ((bdo o).map fun c => AV.int c.toNat))) f (.list []) = H2 at g2 hf2 ⊢
    have tail : ∀ H3 f xs o2 o3, Grow H0 H3 → H3 f = some (.list xs) → (xs = [] ∨ KidSp D m e H3 xs) → xs.length ≤ 16777216 → vcS w K 18 (.cons (.ret (.ite (.cmp (.loc 4) (.ccons .NotEq (.lst .nil) .nil)) (.loc 4) (.lst (.cons (.tup (.cons (.attr (.loc 1) .fin) (.cons (.attr (.loc 1) .fin) .nil))) .nil)))) .nil)
        ⟨[some (.bytes D), some (.ref x), o2, o3, some (.ref f)], []⟩ H3 fun fl _ H' => Q fl.val H' := fun H3 f xs o2 o3 g hf hxs hl => by
      refine ⟨rfl, Nat.zero_le _, fun a ha => .inl ⟨xs, upd_old hf ha, upd_self, ?_, ?_⟩⟩
      · intro q
        have hne : xs ≠ [] := by rintro rfl; cases q
        have g3 := Grow.push (o := .list []) ha
        exact k _ f xs (g.trans g3) (g3 _ _ hf) ((hxs.resolve_left hne).grow g3) hl
      · intro _
        have g3 := g.trans (Grow.push (o := .list []) ha)
        have M3 := M.grow g3
        refine ⟨rfl, _, _, _, _, M3.hx, M3.hd, rfl, _, _, _, _, M3.hx, M3.hd, rfl, Nat.le_of_ble_eq_true rfl, fun t ht => ⟨Nat.le_of_ble_eq_true rfl, fun r hr => ?_⟩⟩
        have g4 := (g3.trans (Grow.push (o := .tup [.int e, .int e]) ht)).trans (Grow.push (o := .list [.ref t]) hr)
        exact k _ r _ g4 upd_self (.inr ⟨_, rfl, t, rfl, upd_old upd_self hr⟩) (Nat.le_of_ble_eq_true rfl)
    cases o with
    | none => exact ⟨fun h => absurd h (by decide), fun _ => ⟨nofun, fun _ => tail H2 f [] _ _ g2 hf2 (.inl rfl) (Nat.zero_le _)⟩⟩
    | some bd =>
      refine ⟨fun _ => ?_, fun h => by cases bd <;> exact absurd h (by decide)⟩
      refine ⟨rfl, Nat.le_trans hlen (by decide), rfl, hl3, fun _ => ?_, fun h => by cases bd <;> exact absurd h (by decide)⟩
      have M2 := M.grow g2
      refine ⟨_, _, _, _, M2.hx, M2.hd, rfl, _, _, _, _, M2.hx, M2.hd, rfl, rfl, ?_⟩
      refine part_spans_ok e0 (bd := bd) hp he hme hD fun H3 r xs z g3 hr hs hl hz => ?_
      have hx16 : xs.length ≤ 16777216 := Nat.le_trans (Nat.le_trans (Nat.le_add_left _ _) hl) (Nat.le_trans hz (Nat.le_trans he.1 (Nat.le_trans hD (by decide))))
      refine tail H3 r xs _ _ (g2.trans g3) hr ?_ hx16
      cases xs with
      | nil => exact .inl rfl
      | cons v xs => exact .inr (.inl ⟨z, nofun, hs, hl, hz⟩)

theorem has_inner_ok (e0 : E0 K) {x : Addr} {b m e : Nat} {fl kx d l : Addr} {s : List Nat} {kd : Kd} (M : MadeAt H x b m e fl kx d l s) (hk : KindAt H kx kd) (k : ∀ t : Bool, Q (.bool t) H) : CallOK w K 4 590 [.ref x] H Q := by
  obtain ⟨kd', p, k1, k2, k3, k4⟩ := hk
  refine (e0.code 49 (n := 2) (d := d_has_inner) rfl rfl ?_).call
  refine ⟨_, _, _, _, M.hx, M.hd, rfl, .inr (.inr ⟨_, _, _, 403, k1, k2, rfl, (e0.code 31 (n := 0) (d := d_Kind_is_letter) rfl rfl ?_).call⟩)⟩
  have rest : ∀ t : Bool, truthVC (.bool t) H fun b => (b = true → vcA w K 2 (.cons (.cmp (.attr (.loc 0) .enc) (.ccons .In (.glo (.con .openE)) .nil)) .nil) true false ⟨[some (.ref x)], []⟩ H fun v H => Q v H) ∧ (b = false → Q (.bool t) H) := fun t =>
    ⟨fun _ => ⟨_, _, _, _, M.hx, M.hd, rfl, _, rfl, k _⟩, fun _ => k t⟩
  refine ⟨_, _, _, _, k1, k2, rfl, ⟨fun _ => ?_, fun _ => rest _⟩⟩
  exact ⟨_, _, _, _, k1, k2, rfl, rest _⟩

theorem is_multi_ok (e0 : E0 K) {kx : Addr} {kd : Kd} (hk : KindAt H kx kd) (k : Q (.bool (decide (kd.1 = sMP))) H) : CallOK w K 2 396 [.ref kx] H Q := by
  obtain ⟨kd', p, k1, k2, k3, k4⟩ := hk
  refine (e0.code 30 (n := 0) (d := d_Kind_is_multi) rfl rfl ?_).call
  exact ⟨_, _, _, _, k1, k2, rfl, k⟩
end
end
end Mine
namespace Mine
noncomputable section

theorem cellsFrom_some {x : Str} : ∀ {names : List (Str × NameKind)} {acc : List (Str × Addr)} {L : Nat}, ((x, NameKind.cell) ∈ names ∨ (acc.lookup x).isSome = true) → ((cellsFrom L names acc).lookup x).isSome = true
  | [], acc, _, h => by
    rcases h with h | h
    · cases h
    · exact h
  | (y, k) :: r, acc, L, h => by
    unfold cellsFrom
    split
    · rename_i hk
      refine cellsFrom_some ?_
      rcases h with h | h
      · rcases List.mem_cons.1 h with e | h
        · cases e
          exact .inr (by rw [List.lookup_cons_self]; rfl)
        · exact .inl h
      · refine .inr ?_
        rw [List.lookup_cons]
        split
        · rfl
        · exact h
    · rename_i hk
      refine cellsFrom_some ?_
      rcases h with h | h
      · rcases List.mem_cons.1 h with e | h
        · cases e
          exact absurd rfl hk
        · exact .inl h
      · exact .inr h
section
variable {kind : Str → Option NameKind}
theorem bindL_not {x : Str} : ∀ {ps : List Str} {us : List Value} {m : Str → Option Value}, x ∉ ps → bindL kind (ps.zip us) m x = m x
  | [], _, _, _ => rfl
  | _ :: _, [], _, _ => rfl
  | p :: ps, u :: us, m, h => by
    have hp : x ≠ p := fun e => h (e ▸ List.mem_cons_self)
    show bindL kind (ps.zip us) (if kind p = some .local then fun y => if y = p then some u else m y else m) x = m x
    rw [bindL_not fun q => h (List.mem_cons_of_mem _ q)]
    split
    · exact if_neg hp
    · rfl
theorem bindL_get : ∀ {ps : List Str} {us : List Value} {m : Str → Option Value}, ps.Nodup → ∀ {i : Nat} {x : Str} {u : Value}, ps[i]? = some x → us[i]? = some u → kind x = some .local → bindL kind (ps.zip us) m x = some u
  | p :: ps, v :: us, m, nd, 0, x, u, h1, h2, hk => by
    cases h1; cases h2
    show bindL kind (ps.zip us) (if kind p = some .local then fun y => if y = p then some v else m y else m) p = _
    rw [bindL_not (List.nodup_cons.1 nd).1, if_pos hk]
    exact if_pos rfl
  | p :: ps, v :: us, m, nd, i + 1, x, u, h1, h2, hk => bindL_get (ps := ps) (us := us) (List.nodup_cons.1 nd).2 (i := i) h1 h2 hk
  | [], _, _, _, _, _, _, h1, _, _ => by cases h1
  | _ :: _, [], _, _, _, _, _, _, h2, _ => by cases h2
theorem bindC_not {x : Str} : ∀ {ps : List Str} {us : List Value} {m : Str → Option Value}, x ∉ ps → bindC kind (ps.zip us) m x = m x
  | [], _, _, _ => rfl
  | _ :: _, [], _, _ => rfl
  | p :: ps, u :: us, m, h => by
    have hp : x ≠ p := fun e => h (e ▸ List.mem_cons_self)
    show bindC kind (ps.zip us) (if kind p = some .local then m else fun y => if y = p then some u else m y) x = m x
    rw [bindC_not fun q => h (List.mem_cons_of_mem _ q)]
    split
    · rfl
    · exact if_neg hp
theorem bindC_get : ∀ {ps : List Str} {us : List Value} {m : Str → Option Value}, ps.Nodup → ∀ {i : Nat} {x : Str} {u : Value}, ps[i]? = some x → us[i]? = some u → kind x ≠ some .local → bindC kind (ps.zip us) m x = some u
  | p :: ps, v :: us, m, nd, 0, x, u, h1, h2, hk => by
    cases h1; cases h2
    show bindC kind (ps.zip us) (if kind p = some .local then m else fun y => if y = p then some v else m y) p = _
    rw [bindC_not (List.nodup_cons.1 nd).1, if_neg hk]
    exact if_pos rfl
  | p :: ps, v :: us, m, nd, i + 1, x, u, h1, h2, hk => bindC_get (ps := ps) (us := us) (List.nodup_cons.1 nd).2 (i := i) h1 h2 hk
  | [], _, _, _, _, _, _, h1, _, _ => by cases h1
  | _ :: _, [], _, _, _, _, _, _, h2, _ => by cases h2
end

theorem bindArgs_plain {fd : FuncData} {vs : List Value} {ps : List Str} (h1 : fd.params.posonlyargs = []) (h2 : fd.params.args.map (·.arg) = ps) (h3 : fd.params.vararg = none) (h4 : fd.params.kwonlyargs = []) (h5 : fd.params.kwarg = none) (h6 : fd.defaults = .none)
    (nd : ps.Nodup) (l : ps.length = vs.length) : bindArgs fd ⟨vs, []⟩ = pure (ps.zip vs) := by
  obtain ⟨T, e, hT⟩ := bind_eq (fd := fd) (vs := vs) h1 h2 h3 h4 h5 nd
  rw [e, h6, show seqItems? .none = pure none from rfl, pure_bind, hT ps [] [] [] [] none rfl (by rw [List.append_nil, List.append_nil]) (by rw [List.append_nil]; exact l) rfl rfl, List.append_nil]

/-- a def with cells -/
noncomputable def cellsOk (K : Frag) (d : DefR) : Bool := match K.lookup d.addr with
  | some ⟨_, _, .func fd, _⟩ => fdOk K d fd && fd.defaults == .none && decide d.cells.Nodup && (d.params.all fun x => fd.scope.names.lookup x == some .local || d.cells.contains x) && (d.vars.all fun x => fd.scope.names.lookup x == some .local) && (d.cells.all fun x => fd.scope.names.lookup x == some .cell)
  | _ => false
section
variable {w : World} {K : Frag} {n : Nat}
theorem cells_of (KF : KFacts K) {d : DefR} (ok : cellsOk K d = true) {vs : List AV} {H : AHeap} {Q : AV → AHeap → Prop} {ls cl : List (Option AV)} (l : vs.length = d.params.length)
    (h1 : ∀ (i : Nat) (x : Str) (v : AV), d.vars[i]? = some x → ls[i]? = some (some v) → ∃ j : Nat, d.params[j]? = some x ∧ vs[j]? = some v) (hl : cl.length = d.cells.length)
    (h2 : ∀ (i : Nat) (x : Str) (v : AV), d.cells[i]? = some x → cl[i]? = some (some v) → ∃ j : Nat, d.params[j]? = some x ∧ vs[j]? = some v) (h3 : ∀ (i : Nat) (x : Str), d.cells[i]? = some x → cl[i]? = some none → x ∉ d.params)
    (h : ∀ cs : List Addr, cs.length = d.cells.length → cs.Nodup → (∀ c ∈ cs, H c = none) → vcS w K n d.t ⟨ls, cs⟩ (layCells H cs cl) fun fl _ H' => Q fl.val H') : CodeAt w K (n + 2) d.addr vs H Q := by
  unfold cellsOk at ok
  split at ok
  · rename_i q1 q2 fd sl ho
    simp only [Bool.and_eq_true] at ok
    obtain ⟨⟨⟨⟨⟨a1, a2⟩, a3⟩, a4⟩, a5⟩, a6⟩ := ok
    obtain ⟨body, FO⟩ := fdOk_inv a1
    have FA : FnAt K d.addr fd d.t ⟨fd.scope.names, d.vars, d.cells⟩ body := ⟨fun h x => ⟨_, x _ _ ho, rfl⟩, fun h x => recOk_code x FO.rec_, FO.bod, FO.m, rfl, FO.nd, FO.kind, FO.co, FO.gen, FO.glob, FO.blt⟩
    have hcell : ∀ x ∈ d.cells, fd.scope.names.lookup x = some .cell := fun x hx => beq_iff_eq.1 (List.all_eq_true.1 a6 x hx)
    have hsome : ∀ L, ∀ x ∈ d.cells, ((cellsFrom L fd.scope.names []).lookup x).isSome = true := fun L x hx => cellsFrom_some (.inl (mem_of_lookup (hcell x hx)))
    refine cells_gen KF FA FO.clo (fun L => ⟨of_decide_eq_true a3, hsome L⟩) hl (fun s vs' x rv => ?_) h
    have lv : d.params.length = vs'.length := l.symm.trans rv.length
    refine ⟨d.params.zip vs', bindArgs_plain FO.p1 FO.p2 FO.p3 FO.p4 FO.p5 (beq_iff_eq.1 a2) FO.pnd lv, fun L y hy => ?_, fun i y v hy hv => ?_, fun i y o hy ho => ?_⟩
    · have hm := (List.of_mem_zip (a := y.1) (b := y.2) hy).1
      have := List.all_eq_true.1 a4 y.1 hm
      rcases Bool.or_eq_true_iff.1 this with q | q
      · exact .inl (beq_iff_eq.1 q)
      · have q := List.contains_iff_mem.1 q
        exact .inr ⟨hcell _ q, hsome L _ q⟩
    · obtain ⟨j, e1, e2⟩ := h1 i y v hy hv
      obtain ⟨u, e3, e4⟩ := rv.get j v e2
      exact ⟨u, bindL_get FO.pnd e1 e3 (beq_iff_eq.1 (List.all_eq_true.1 a5 y (List.mem_of_getElem? hy))), e4⟩
    · have hk : fd.scope.names.lookup y ≠ some .local := by rw [hcell y (List.mem_of_getElem? hy)]; exact nofun
      cases o with
      | none => exact bindC_not (h3 i y hy ho)
      | some v =>
        obtain ⟨j, e1, e2⟩ := h2 i y v hy ho
        obtain ⟨u, e3, e4⟩ := rv.get j v e2
        exact ⟨u, bindC_get FO.pnd e1 e3 hk, e4⟩
  · cases ok
end
end
end Mine
namespace Mine
noncomputable section

/-- what is new -/
noncomputable def NewIn (H H' : AHeap) : AHeap := fun a => match H a with
  | none => H' a
  | some _ => none
section
variable {H H' H'' : AHeap} {a : Addr} {o : AO}
theorem NewIn.of (h : H a = none) (h' : H' a = some o) : NewIn H H' a = some o := by unfold NewIn; rw [h]; exact h'
theorem NewIn.inv (h : NewIn H H' a = some o) : H a = none ∧ H' a = some o := by
  unfold NewIn at h
  cases q : H a with
  | none => rw [q] at h; exact ⟨rfl, h⟩
  | some _ => rw [q] at h; cases h
theorem NewIn.sub : Grow (NewIn H H') H' := fun _ _ h => (NewIn.inv h).2
theorem NewIn.back (g : Grow H H') : Grow (NewIn H' H'') (NewIn H H'') := fun _ _ h => let ⟨p, q⟩ := NewIn.inv h; NewIn.of (g.back p) q
theorem NewIn.on (g : Grow H' H'') : Grow (NewIn H H') (NewIn H H'') := fun _ _ h => let ⟨p, q⟩ := NewIn.inv h; NewIn.of p (g _ _ q)
theorem NewIn.put (h : H a ≠ none) : Grow (NewIn H H') (NewIn H (upd H' a o)) := fun b _ e => let ⟨p, q⟩ := NewIn.inv e; NewIn.of p (by rw [upd_ne]; exact q; rintro rfl; exact h p)
end

/-- parts, one behind the other -/
inductive KidC (R : AV → Nat → Nat → List (Nat × Nat) → Prop) (T : Nat → List (Nat × Nat) → Prop) (lo : Nat) (v : AV) (L : List (Nat × Nat)) : Prop
  | mk (b e : Nat) (L1 L2 : List (Nat × Nat)) (h1 : R v b e L1) (h2 : lo ≤ b) (h3 : T e L2) (h4 : L = L1 ++ L2)
noncomputable def Kids (R : AV → Nat → Nat → List (Nat × Nat) → Prop) : Nat → List AV → Nat → List (Nat × Nat) → Prop
  | lo, [], hi, L => lo = hi ∧ L = []
  | lo, v :: r, hi, L => KidC R (fun e L2 => Kids R e r hi L2) lo v L
theorem Kids.mono {R S : AV → Nat → Nat → List (Nat × Nat) → Prop} (f : ∀ v b e L, R v b e L → S v b e L) : ∀ {xs : List AV} {lo hi : Nat} {L : List (Nat × Nat)}, Kids R lo xs hi L → Kids S lo xs hi L
  | [], _, _, _, h => h
  | _ :: _, _, _, _, ⟨b, e, L1, L2, h1, h2, h3, h4⟩ => ⟨b, e, L1, L2, f _ _ _ _ h1, h2, Kids.mono f h3, h4⟩
theorem Kids.snoc {R : AV → Nat → Nat → List (Nat × Nat) → Prop} {v : AV} {b e : Nat} {L1 : List (Nat × Nat)} : ∀ {xs : List AV} {lo hi : Nat} {L : List (Nat × Nat)}, Kids R lo xs hi L → R v b e L1 → hi ≤ b → Kids R lo (xs ++ [v]) e (L ++ L1)
  | [], _, _, _, ⟨h1, h2⟩, r, q => by subst h1 h2; exact ⟨b, e, L1, [], r, q, ⟨rfl, rfl⟩, by rw [List.append_nil]; rfl⟩
  | _ :: _, _, _, _, ⟨b', e', L1', L2', h1, h2, h3, h4⟩, r, q => ⟨b', e', L1', L2' ++ L1, h1, h2, Kids.snoc h3 r q, by rw [h4, List.append_assoc]⟩

/-- a part's three kinds: a leaf, a letter within, kids -/
inductive PartC (R : AV → Nat → Nat → List (Nat × Nat) → Prop) (m e : Nat) (L : List (Nat × Nat)) (inn : AV) (xs : List AV) : Prop
  | leaf (h1 : inn = .none) (h2 : xs = []) (h3 : L = [(m, e)])
  | inner (y : Addr) (h1 : inn = .ref y) (h2 : xs = []) (h3 : R (.ref y) m e L)
  | kids (h1 : inn = .none) (h2 : xs ≠ []) (hi : Nat) (h3 : hi ≤ e) (h4 : Kids R m xs hi L)
inductive PartW (G : AHeap) (R : AV → Nat → Nat → List (Nat × Nat) → Prop) (v : AV) (b e : Nat) (L : List (Nat × Nat)) : Prop
  | mk (x d m l fl kx : Nat) (s : List Nat) (inn : AV) (xs : List AV) (h1 : v = .ref x) (h2 : G x = some (.inst 555 d))
      (h3 : G d = some (.attrs [(.beg, .int b), (.body, .int m), (.fin, .int e), (.fields, .ref fl), (.kind, .ref kx), (.enc, .str s), (.kids, .ref l), (.inner, inn)]))
      (h4 : G l = some (.list xs)) (h5 : b ≤ m) (h6 : m ≤ e) (h7 : L.length + b ≤ e + 1) (h8 : PartC R m e L inn xs)
/-- a part as it stands: where it begins and ends; the leaves' spans -/
noncomputable def PartAt (G : AHeap) : Nat → AV → Nat → Nat → List (Nat × Nat) → Prop
  | 0 => fun _ _ _ _ => False
  | N + 1 => PartW G (PartAt G N)
theorem PartC.mono {R S : AV → Nat → Nat → List (Nat × Nat) → Prop} (f : ∀ v b e L, R v b e L → S v b e L) {m e : Nat} {L : List (Nat × Nat)} {inn : AV} {xs : List AV} (h : PartC R m e L inn xs) : PartC S m e L inn xs := by
  cases h with
  | leaf h1 h2 h3 => exact .leaf h1 h2 h3
  | inner y h1 h2 h3 => exact .inner y h1 h2 (f _ _ _ _ h3)
  | kids h1 h2 hi h3 h4 => exact .kids h1 h2 hi h3 (h4.mono f)
theorem PartAt.grow {G G' : AHeap} (g : Grow G G') {N : Nat} : ∀ {v : AV} {b e : Nat} {L : List (Nat × Nat)}, PartAt G N v b e L → PartAt G' N v b e L := by
  induction N with
  | zero => exact fun h => h
  | succ N ih =>
    intro v b e L h
    obtain ⟨x, d, m, l, fl, kx, s, inn, xs, h1, h2, h3, h4, h5, h6, h7, h8⟩ := h
    exact ⟨x, d, m, l, fl, kx, s, inn, xs, h1, g _ _ h2, g _ _ h3, g _ _ h4, h5, h6, h7, h8.mono fun _ _ _ _ => ih⟩
theorem PartAt.le {G : AHeap} {N : Nat} {v : AV} {b e : Nat} {L : List (Nat × Nat)} (h : PartAt G N v b e L) : b ≤ e ∧ L.length + b ≤ e + 1 := by
  cases N with
  | zero => exact h.elim
  | succ N =>
    obtain ⟨x, d, m, l, fl, kx, s, inn, xs, h1, h2, h3, h4, h5, h6, h7, h8⟩ := h
    exact ⟨Nat.le_trans h5 h6, h7⟩

/-- the spans that are still to be read -/
noncomputable def Todo (D : List UInt8) (m e : Nat) (H : AHeap) (hi c : Nat) (xs : List AV) : Prop :=
  (∃ z, Spans D e H hi xs z ∧ z ≤ e ∧ c + m ≤ hi) ∨ (∃ v, xs = [v] ∧ SpanAt H v e e ∧ c = 0 ∧ hi ≤ e) ∨ (xs = [] ∧ hi ≤ e ∧ c + m ≤ e + 1)
section
variable {D : List UInt8} {m e hi c : Nat} {H H' : AHeap} {xs : List AV} {v : AV}
theorem Todo.g1 (g : G1 H H') : Todo D m e H hi c xs → Todo D m e H' hi c xs
  | .inl ⟨z, a, b⟩ => .inl ⟨z, a.g1 g, b⟩
  | .inr (.inl ⟨v, a, b, c⟩) => .inr (.inl ⟨v, a, b.g1 g, c⟩)
  | .inr (.inr h) => .inr (.inr h)
theorem Todo.end_ (h : Todo D m e H hi c []) : hi ≤ e ∧ c + m ≤ e + 1 := by
  rcases h with ⟨z, h1, h2, h3⟩ | ⟨v, h1, _⟩ | ⟨_, h2, h3⟩
  · obtain rfl : hi = z := h1
    exact ⟨h2, Nat.le_succ_of_le (Nat.le_trans h3 h2)⟩
  · cases h1
  · exact ⟨h2, h3⟩
theorem Todo.step (he : En D e) (hm : m ≤ e) (h : Todo D m e H hi c (v :: xs)) : ∃ a b, SpanAt H v a b ∧ hi ≤ a ∧ a ≤ b ∧ Pos D a b ∧ En D b ∧ ∀ c1, c1 + a ≤ b + 1 → Todo D m e H b (c + c1) xs := by
  rcases h with ⟨z, ⟨a, b, h1, h2, h3, h4, h5, h6, h7⟩, h8, h9⟩ | ⟨u, h1, h2, h3, h4⟩ | ⟨h1, _⟩
  · exact ⟨a, b, h1, Nat.le_of_lt h2, h3, h5, h6, fun c1 hc => .inl ⟨z, h7, h8, by omega⟩⟩
  · cases h1
    exact ⟨e, e, h2, h4, Nat.le_refl _, .inl rfl, he, fun c1 hc => .inr (.inr ⟨rfl, Nat.le_refl _, by omega⟩)⟩
  · cases h1
theorem KidSp.todo (h : KidSp D m e H xs) (hm : m ≤ e) : xs ≠ [] ∧ Todo D m e H m 0 xs := by
  rcases h with ⟨z, h1, h2, _, h3⟩ | ⟨v, rfl, h⟩
  · exact ⟨h1, .inl ⟨z, h2, h3, Nat.le_of_eq (Nat.zero_add _)⟩⟩
  · exact ⟨nofun, .inr (.inl ⟨v, rfl, h, rfl, hm⟩)⟩
end

section
variable {w : World} {K : Frag} {H : AHeap} {Q : AV → AHeap → Prop}
theorem kind_ok (e0 : E0 K) {p : Addr} (hp : H p = some (.dict [])) (hs : p ≠ sysModules) (k : ∀ H' x, Grow H H' → KindAt H' x kdL → Q (.ref x) H') : CallOK w K 4 413 [.str [109, 101, 115, 115, 97, 103, 101], .str [114, 102, 99, 56, 50, 50], .ref p] H Q := by
  obtain ⟨c1, c2, c3, c4⟩ := e0.cls 413 382 rfl
  refine (make_code (n := 2) c1 c2 c3 c4 fun x d hx hd hxd => e0.code 29 (n := 0) (d := d_Kind_init) rfl rfl ?_).call
  have e1 : upd (upd H d (.attrs [])) x (.inst 413 d) d = some (.attrs []) := by rw [upd_ne hxd.symm, upd_self]
  refine ⟨413, d, _, upd_self, e1, Nat.zero_le _, ?_⟩
  refine ⟨413, d, _, ?_, upd_self, Nat.le_of_ble_eq_true rfl, ?_⟩
  · rw [upd_ne hxd, upd_self]
  · refine ⟨413, d, _, ?_, upd_self, Nat.le_of_ble_eq_true rfl, rfl, ?_⟩
    · rw [upd_ne hxd, upd_ne hxd, upd_self]
    · have g := ((((Grow.push (o := .attrs []) hd).trans (Grow.push (o := .inst 413 d) (by rw [upd_ne hxd]; exact hx))).put (o := .attrs [(.top, .str kdL.1)]) hd).put (o := .attrs [(.top, .str kdL.1), (.sub, .str kdL.2.1)]) hd).put (o := .attrs [(.top, .str kdL.1), (.sub, .str kdL.2.1), (.params, .ref p)]) hd
      refine k _ x g ⟨d, p, ?_, upd_self, g _ _ hp, hs⟩
      rw [upd_ne hxd, upd_ne hxd, upd_ne hxd, upd_self]
end
end
end Mine
namespace Mine
noncomputable section

noncomputable def hdS : S → S
  | .cons s _ => s
  | _ => .nil
noncomputable def iffB : S → S
  | .iff _ _ b => b
  | _ => .nil
theorem upd_keep {H : AHeap} {a b : Addr} {o o1 o2 : AO} (hb : H b = some o) (ha : H a = some o1) (n : o ≠ o1) : upd H a o2 b = some o := by
  rw [upd_ne]
  · exact hb
  · rintro rfl; rw [ha] at hb; cases hb; exact n rfl

section
variable {w : World} {K : Frag} {H : AHeap} {Q : AV → AHeap → Prop}
theorem asg_loc {n : Nat} {i : Nat} {v : AV} {ls : List (Option AV)} {cel : List Addr} {P : Rho → AHeap → Prop} (h : P ⟨ls.set i (some v), cel⟩ H) : fin false v H (fun v H => vcT w K n (.loc i) v ⟨ls, cel⟩ H P) := h
theorem next_of {P : Prop} {R : AV → Prop} (h : P) : onFl .next P R := h
theorem told_kind_ok (e0 : E0 K) {v : AV} (hv : v = .none ∨ ∃ i, i < 12 ∧ hasCol i = true ∧ fword i = sCT ∧ v = .bytes (fbody i)) (k : ∀ H' x kd, Grow H H' → KindAt H' x kd → KdOk kd → Q (.ref x) H') : CallOK w K 48 530 [v] H Q := by
  rcases hv with rfl | ⟨i, h1, h2, h3, rfl⟩
  · exact read_kind_ok e0 kinds_run.1 rfl fun H' x g hk => k H' x _ g hk kdN_ok
  · exact read_kind_ok e0 (kinds_run.2 i h1 h2 h3) rfl fun H' x g hk => k H' x _ g hk (kdF_ok i)

inductive KidInv (D : List UInt8) (m e N : Nat) (xs : List AV) (H : AHeap) (j : Nat) (acc : List AV) (Hk : AHeap) : Prop
  | mk (g : Grow H Hk) (hi : Nat) (L : List (Nat × Nat)) (hK : Kids (PartAt (NewIn H Hk) N) m acc hi L) (hj : acc.length = j) (hT : Todo D m e Hk hi L.length (xs.drop j))
theorem read_part_one (e0 : E0 K) (ok : cellsOk K d_read_part = true) {D : List UInt8} (hD : D.length ≤ 16777000) {N dp : Nat} (hdp : dp + N = 20)
    (rec : ∀ N', N = N' + 1 → ∀ {a e : Nat} {dg : Bool} {H : AHeap} {Q : AV → AHeap → Prop}, Pos D a e → En D e → a ≤ e →
      (∀ H' x L, Grow H H' → PartAt (NewIn H H') N (.ref x) a e L → Q (.ref x) H') → CallOK w K (4 * N + 56) 595 [.bytes D, .int a, .int e, .int (dp + 1 : Nat), .bool dg] H Q)
    {a e : Nat} {dg : Bool} (hp : Pos D a e) (he : En D e) (hae : a ≤ e)
    (k : ∀ H' x L, Grow H H' → PartAt (NewIn H H') (N + 1) (.ref x) a e L → Q (.ref x) H') : CallOK w K (4 * N + 60) 595 [.bytes D, .int a, .int e, .int dp, .bool dg] H Q := by
  have hD' : D.length ≤ 16777216 := Nat.le_trans hD (by decide)
  have hn : ∀ {n : Nat}, n ≤ 48 → n ≤ 4 * N + 58 := fun h => Nat.le_trans h (Nat.le_trans (by decide) (Nat.le_add_left _ _))
  have hdd : ∀ {P : Prop}, decide ((dp : Int) < 20) = true → (∀ N', N = N' + 1 → P) → P := fun {P} h f => by
    have := of_decide_eq_true h
    cases N with
    | zero => obtain rfl : dp = 20 := hdp; exact absurd this (by decide)
    | succ N' => exact f N' rfl
  refine (cells_of e0.KF ok (n := 4 * N + 58) (vs := [.bytes D, .int a, .int e, .int dp, .bool dg]) (ls := [some (.int a), some (.int e), some (.bool dg), none, none, none, none, none]) (cl := [some (.bytes D), some (.int dp), none]) rfl ?_ rfl ?_ ?_ fun cs hcl hcn hcf => ?_).ok.call
  · intro i x v h1 h2
    match i, h1, h2 with
    | 0, h1, h2 => exact ⟨1, h1, Option.some.inj h2 ▸ rfl⟩
    | 1, h1, h2 => exact ⟨2, h1, Option.some.inj h2 ▸ rfl⟩
    | 2, h1, h2 => exact ⟨4, h1, Option.some.inj h2 ▸ rfl⟩
    | 3, _, h2 => cases h2
    | 4, _, h2 => cases h2
    | 5, _, h2 => cases h2
    | 6, _, h2 => cases h2
    | 7, _, h2 => cases h2
  · intro i x v h1 h2
    match i, h1, h2 with
    | 0, h1, h2 => exact ⟨0, h1, Option.some.inj h2 ▸ rfl⟩
    | 1, h1, h2 => exact ⟨3, h1, Option.some.inj h2 ▸ rfl⟩
    | 2, _, h2 => cases h2
  · intro i x h1 h2
    match i, h1, h2 with
    | 0, _, h2 => cases h2
    | 1, _, h2 => cases h2
    | 2, h1, _ => cases h1; decide +kernel
  obtain ⟨c0, c1, c2, rfl⟩ : ∃ c0 c1 c2, cs = [c0, c1, c2] := by
    match cs, hcl with
    | [c0, c1, c2], _ => exact ⟨c0, c1, c2, rfl⟩
  have hf0 := hcf c0 List.mem_cons_self
  have hf1 := hcf c1 (List.mem_cons_of_mem _ List.mem_cons_self)
  have hf2 := hcf c2 (List.mem_cons_of_mem _ (List.mem_cons_of_mem _ List.mem_cons_self))
  have hcn1 := List.nodup_cons.1 hcn
  have h01 : c0 ≠ c1 := fun e => hcn1.1 (e ▸ List.mem_cons_self)
  have h02 : c0 ≠ c2 := fun e => hcn1.1 (e ▸ List.mem_cons_of_mem _ List.mem_cons_self)
  have h12 : c1 ≠ c2 := fun e => (List.nodup_cons.1 hcn1.2).1 (e ▸ List.mem_cons_self)
  have hc0 : layCells H [c0, c1, c2] [some (.bytes D), some (.int dp), none] c0 = some (.cell (.bytes D)) := upd_self
  have hc1 : layCells H [c0, c1, c2] [some (.bytes D), some (.int dp), none] c1 = some (.cell (.int dp)) := (upd_ne h01.symm).trans upd_self
  have hc2 : layCells H [c0, c1, c2] [some (.bytes D), some (.int dp), none] c2 = some .ucell := (upd_ne h02.symm).trans ((upd_ne h12.symm).trans upd_self)
  have g0 : Grow H (layCells H [c0, c1, c2] [some (.bytes D), some (.int dp), none]) := ((Grow.push (o := .ucell) hf2).put hf1).put hf0
  generalize layCells H [c0, c1, c2] [some (.bytes D), some (.int dp), none] = H0 at hc0 hc1 hc2 g0 ⊢
  -- the fields
  refine ⟨c0, _, rfl, hc0, rfl, (read_fields_ok e0 hp he hae hD fun H1 t r m g1 ht hr ham hme hpm => ?_).le (hn (by decide))⟩
  refine ⟨t, _, rfl, ht, rfl, _, _, rfl, _, _, rfl, rfl, ?_⟩
  have he16 : e ≤ 16777216 := Nat.le_trans he.1 hD'
  -- the kind told
  refine ⟨rfl, (first_body_ok e0 lower_run1 hr he16 fun H2 tk g2 htk => ?_).le (hn (by decide))⟩
  have g02 := g1.trans g2
  -- behind the kind
  have rest : ∀ H3 kx kd o5, Grow H2 H3 → KindAt H3 kx kd → KdOk kd → vcS w K (4 * N + 58)
      (tlS (tlS (tlS b_read_part))) ⟨[some (.int a), some (.int e), some (.bool dg), some (.ref r), some (.int m), o5, some (.ref kx), none], [c0, c1, c2]⟩ H3 fun fl _ H' => Q fl.val H' := by
    intro H3 kx kd o5 g3 hk hkd
    refine ⟨rfl, (part_ok e0 (hr.grow (g2.trans g3)) he16 fun H4 x d l s g4 hx hd hl M => ?_).le (hn (by decide))⟩
    have gA : Grow H H3 := (g0.trans g02).trans g3
    have hx0 := gA.back hx
    have hd0 := gA.back hd
    have hl0 := gA.back hl
    have g04 : Grow H0 H4 := (g02.trans g3).trans g4
    have gH : Grow H H4 := g0.trans g04
    have hk4 := hk.grow g4
    have hc0 := g04 _ _ hc0
    have hc1 := g04 _ _ hc1
    have hc2 := g04 _ _ hc2
    have leaf : Q (.ref x) H4 := k H4 x [(m, e)] gH ⟨x, d, m, l, r, kx, s, .none, [], rfl, NewIn.of hx0 M.hx, NewIn.of hd0 M.hd, NewIn.of hl0 M.hl, ham, hme, (by have : [(m, e)].length = 1 := rfl; omega), .leaf rfl rfl rfl⟩
    have els : vcS w K (4 * N + 58) (iffB (hdS (tlS (tlS (tlS (tlS b_read_part)))))) ⟨[some (.int a), some (.int e), some (.bool dg), some (.ref r), some (.int m), o5, some (.ref kx), some (.ref x)], [c0, c1, c2]⟩ H4
        fun f ρ H' => onFl f (vcS w K (4 * N + 58) (.cons (.ret (.loc 7)) .nil) ρ H' fun fl _ H' => Q fl.val H') fun v => Q v H' := by
      refine ⟨c1, _, rfl, hc1, ⟨fun h => ⟨rfl, (has_inner_ok e0 M hk4 fun t => ⟨fun _ => ?_, fun _ => leaf⟩).le (hn (by decide))⟩, fun h => ⟨fun q => bool_no h q, fun _ => leaf⟩⟩⟩
      refine hdd h fun N' hN => ⟨c0, _, rfl, hc0, c1, _, rfl, hc1, rfl, (rec N' hN hpm he hme fun H5 y L g5 hpt => ?_).le (Nat.add_le_add_left (by decide) _)⟩
      have q1 := g5 _ _ M.hx
      have q2 := g5 _ _ M.hd
      have q3 := g5 _ _ M.hl
      refine ⟨555, d, _, q1, q2, Nat.le_of_ble_eq_true rfl, ?_⟩
      refine k _ x L ((gH.trans g5).put hd0) ⟨x, d, m, l, r, kx, s, .ref y, [], rfl, NewIn.of hx0 (upd_keep q1 q2 nofun), NewIn.of hd0 upd_self, NewIn.of hl0 (upd_keep q3 q2 nofun), ham, hme, (by have := hpt.le.2; omega), .inner y rfl rfl (hpt.grow ?_)⟩
      exact (NewIn.put (by rw [M.hd]; exact nofun)).trans (NewIn.back gH)
    refine ⟨c1, _, rfl, hc1, ⟨fun h => ?_, fun h => ⟨fun q => bool_no h q, fun _ => els⟩⟩⟩
    have hk5 := hk4
    obtain ⟨kd', p, k1, k2, k3, k4⟩ := hk4
    refine .inr (.inr ⟨413, kd', _, 396, k1, k2, rfl, (is_multi_ok e0 hk5 ⟨fun _ => ?_, fun _ => els⟩).le (hn (by decide))⟩)
    refine hdd h fun N' hN => ?_
    -- the digest's cell
    refine ⟨413, kd', _, _, k1, k2, rfl, c2, rfl, .inl hc2, ?_⟩
    generalize decide (kd.2.1 = [100, 105, 103, 101, 115, 116]) = dv
    have M5 : MadeAt (upd H4 c2 (.cell (.bool dv))) x a m e r kx d l s := ⟨upd_keep M.hx hc2 nofun, upd_keep M.hd hc2 nofun, upd_keep M.hl hc2 nofun⟩
    have hk5 : KindAt (upd H4 c2 (.cell (.bool dv))) kx kd := ⟨kd', p, upd_keep k1 hc2 nofun, upd_keep k2 hc2 nofun, upd_keep k3 hc2 nofun, k4⟩
    have hc0 : upd H4 c2 (.cell (.bool dv)) c0 = some (.cell (.bytes D)) := upd_keep hc0 hc2 nofun
    have hc1 : upd H4 c2 (.cell (.bool dv)) c1 = some (.cell (.int dp)) := upd_keep hc1 hc2 nofun
    have hc2 : upd H4 c2 (.cell (.bool dv)) c2 = some (.cell (.bool dv)) := upd_self
    have gH : Grow H (upd H4 c2 (.cell (.bool dv))) := gH.put hf2
    generalize upd H4 c2 (.cell (.bool dv)) = H5 at M5 hk5 hc0 hc1 hc2 gH ⊢
    refine ⟨rfl, c0, _, rfl, hc0, rfl, (kid_spans_ok e0 M5 hk5 hkd hpm he hme hD fun H6 rr xs g6 hrr hks hl => ?_).le (hn (by decide))⟩
    obtain ⟨hne, hT⟩ := hks.todo hme
    have gH6 := gH.trans g6
    refine .inl ⟨xs, hrr, hl, hl, KidInv D m e N xs H6, ⟨.refl, m, [], ⟨rfl, rfl⟩, rfl, hT⟩, ?_, ?_⟩
    · rintro j acc Hk y hy ⟨g7, hi, L, hK, hj, hT⟩ hst
      rw [drop_cons hy] at hT
      obtain ⟨a', b', ⟨t', rfl, ht'⟩, q1, q2, q3, q4, q5⟩ := hT.step he hme
      have g57 := g6.trans g7
      refine ⟨t', _, rfl, ht', rfl, Nat.le_of_ble_eq_true rfl, fun _ => ?_, nofun⟩
      refine ⟨c0, _, rfl, g57 _ _ hc0, c1, _, rfl, g57 _ _ hc1, c2, _, rfl, g57 _ _ hc2, rfl, (rec N' hN q3 q4 q2 fun H8 y L1 g8 hpt => ?_).le (Nat.add_le_add_left (by decide) _)⟩
      refine ⟨(g7.trans g8 _ _ hrr).trans hrr.symm, g7.trans g8, b', L ++ L1, (hK.mono fun _ _ _ _ h => h.grow (NewIn.on g8)).snoc (hpt.grow (NewIn.back g7)) q1, by rw [List.length_append, hj]; rfl, ?_⟩
      rw [List.length_append]
      exact (q5 _ hpt.le.2).g1 g8.g1
    · rintro acc He ⟨g7, hi, L, hK, hj, hT⟩ - la hla
      rw [List.drop_length] at hT
      obtain ⟨e1, e2⟩ := hT.end_
      have g8 := Grow.push (o := .list acc) hla
      have M7 := M5.grow ((g6.trans g7).trans g8)
      refine ⟨555, d, _, M7.hx, M7.hd, Nat.le_of_ble_eq_true rfl, ?_⟩
      have hla0 := (gH6.trans g7).back hla
      refine k _ x L (((gH6.trans g7).trans g8).put hd0) ⟨x, d, m, la, r, kx, s, .none, acc, rfl, NewIn.of hx0 (upd_keep M7.hx M7.hd nofun), NewIn.of hd0 upd_self, NewIn.of hla0 (upd_keep upd_self M7.hd nofun), ham, hme, (by omega), .kids rfl ?_ hi e1 (hK.mono fun _ _ _ _ h => h.grow ?_)⟩
      · rintro rfl; exact hne (List.length_eq_zero_iff.1 hj.symm)
      · exact ((NewIn.on g8).trans (NewIn.put (by rw [(M5.grow g6).hd]; exact nofun))).trans (NewIn.back gH6)
  have hnf : noFn tk = true := by rcases htk with rfl | ⟨i, _, _, _, rfl⟩ <;> rfl
  refine ⟨rfl, hnf, fun _ => ⟨fun _ => ⟨rfl, fun p hp hps => ⟨rfl, (kind_ok e0 upd_self hps fun H3 kx g3 hk => asg_loc (next_of (rest H3 kx kdL _ ((Grow.push hp).trans g3) hk kdL_ok))).le (hn (by decide))⟩⟩, fun _ => ⟨rfl, (told_kind_ok e0 htk fun H3 kx kd g3 hk hkd => asg_loc (next_of (rest H3 kx kd _ g3 hk hkd))).le (hn (by decide))⟩⟩, fun h => ⟨fun q => bool_no h q, fun _ => ⟨rfl, (told_kind_ok e0 htk fun H3 kx kd g3 hk hkd => asg_loc (next_of (rest H3 kx kd _ g3 hk hkd))).le (hn (by decide))⟩⟩⟩

theorem read_part_ok (e0 : E0 K) (ok : cellsOk K d_read_part = true) {D : List UInt8} (hD : D.length ≤ 16777000) : ∀ (N dp : Nat), dp + N = 20 → ∀ {a e : Nat} {dg : Bool} {H : AHeap} {Q : AV → AHeap → Prop}, Pos D a e → En D e → a ≤ e →
    (∀ H' x L, Grow H H' → PartAt (NewIn H H') (N + 1) (.ref x) a e L → Q (.ref x) H') → CallOK w K (4 * N + 60) 595 [.bytes D, .int a, .int e, .int dp, .bool dg] H Q
  | 0, _, h, _, _, _, _, _, hp, he, hae, k => read_part_one e0 ok hD h (fun _ q => nomatch q) hp he hae k
  | N + 1, dp, h, _, _, _, _, _, hp, he, hae, k => read_part_one e0 ok hD h (fun N' q _ _ _ _ _ hp he hae k => by
      cases q
      exact read_part_ok e0 ok hD N (dp + 1) (by omega) hp he hae k) hp he hae k

theorem read_message_ok (e0 : E0 K) (ok : cellsOk K d_read_part = true) {D : List UInt8} (hD : D.length ≤ 16777000) (hs : LS D 0) (k : ∀ H' x L, Grow H H' → PartAt (NewIn H H') 21 (.ref x) 0 D.length L → Q (.ref x) H') : CallOK w K 142 602 [.bytes D] H Q := by
  have hD' : D.length ≤ 16777216 := Nat.le_trans hD (by decide)
  refine (e0.code 50 (n := 140) (d := d_read_message) rfl rfl ?_).call
  exact ⟨rfl, hD', rfl, read_part_ok e0 ok hD 20 0 rfl (.inr hs) ⟨Nat.le_refl _, .inl rfl⟩ (Nat.zero_le _) k⟩
end
end
end Mine
namespace Mine
noncomputable section

theorem PartAt.ne {G : AHeap} {N : Nat} : ∀ {v : AV} {b e : Nat} {L : List (Nat × Nat)}, PartAt G N v b e L → 1 ≤ L.length := by
  induction N with
  | zero => exact fun h => h.elim
  | succ N ih =>
    intro v b e L h
    obtain ⟨x, d, m, l, fl, kx, s, inn, xs, h1, h2, h3, h4, h5, h6, h7, h8⟩ := h
    cases h8 with
    | leaf _ _ h => rw [h]; exact Nat.le_refl _
    | inner y _ _ h => exact ih h
    | kids _ hx hi _ h =>
      cases xs with
      | nil => exact absurd rfl hx
      | cons v xs =>
        obtain ⟨b, e, L1, L2, h1, _, _, rfl⟩ := h
        rw [List.length_append]
        exact Nat.le_trans (ih h1) (Nat.le_add_right _ _)
theorem Kids.len {R : AV → Nat → Nat → List (Nat × Nat) → Prop} (f : ∀ v b e L, R v b e L → 1 ≤ L.length) : ∀ {xs : List AV} {lo hi : Nat} {L : List (Nat × Nat)}, Kids R lo xs hi L → xs.length ≤ L.length
  | [], _, _, _, _ => Nat.zero_le _
  | v :: xs, _, _, _, ⟨b, e, L1, L2, h1, _, h3, h4⟩ => by
    rw [h4, List.length_append, List.length_cons, Nat.add_comm]
    exact Nat.add_le_add (f _ _ _ _ h1) (Kids.len f h3)
theorem Kids.le {R : AV → Nat → Nat → List (Nat × Nat) → Prop} (f : ∀ v b e L, R v b e L → b ≤ e) : ∀ {xs : List AV} {lo hi : Nat} {L : List (Nat × Nat)}, Kids R lo xs hi L → lo ≤ hi
  | [], _, _, _, h => Nat.le_of_eq h.1
  | _ :: _, _, _, _, ⟨_, _, _, _, h1, h2, h3, _⟩ => Nat.le_trans h2 (Nat.le_trans (f _ _ _ _ h1) (Kids.le f h3))
/-- the spans of the leaves, read off -/
noncomputable def TupsAt (H : AHeap) : List AV → List (Nat × Nat) → Prop := All2 fun v p => SpanAt H v p.1 p.2
theorem le_int {a b : Nat} (h : a ≤ b) : decide ((a : Int) ≤ (b : Int)) = true := decide_eq_true (Int.ofNat_le.2 h)

theorem not_no {b : Bool} {P : Prop} (h1 : b = true) (h2 : (!b) = true) : P := by rw [h1] at h2; cases h2
/-- a part's begin and end -/
theorem PartAt.ends {G : AHeap} {N : Nat} {v : AV} {b e : Nat} {L : List (Nat × Nat)} (h : PartAt G N v b e L) : ∃ x d kvs, v = .ref x ∧ G x = some (.inst 555 d) ∧ G d = some (.attrs kvs) ∧ lookA .beg kvs = some (.int b) ∧ lookA .fin kvs = some (.int e) := by
  cases N with
  | zero => exact h.elim
  | succ N =>
    obtain ⟨x, d, m, l, fl, kx, s, inn, xs, h1, h2, h3, h4, h5, h6, h7, h8⟩ := h
    exact ⟨x, d, _, h1, h2, h3, rfl, rfl⟩
/-- the kids of a part without a letter within -/
theorem kids_of {G : AHeap} {N m e : Nat} {inn : AV} {xs : List AV} {L : List (Nat × Nat)} (hi : inn = .none) (h : PartC (PartAt G N) m e L inn xs) (hm : m ≤ e) :
    ∃ hi L', hi ≤ e ∧ Kids (PartAt G N) m xs hi L' ∧ xs.length ≤ L.length ∧ ((xs = [] ∧ L' = [] ∧ L = [(m, e)]) ∨ (xs ≠ [] ∧ L' = L)) := by
  cases h with
  | leaf _ h2 h3 => subst h2 h3; exact ⟨m, [], hm, ⟨rfl, rfl⟩, Nat.zero_le _, .inl ⟨rfl, rfl, rfl⟩⟩
  | inner y h => rw [hi] at h; cases h
  | kids _ hx hi' h1 h2 => exact ⟨hi', L, h1, h2, h2.len fun _ _ _ _ => PartAt.ne, .inr ⟨hx, rfl⟩⟩
theorem inner_of {G : AHeap} {N m e : Nat} {inn : AV} {xs : List AV} {L : List (Nat × Nat)} (hin : inn ≠ .none) (h : PartC (PartAt G N) m e L inn xs) : ∃ y, inn = .ref y ∧ xs = [] ∧ PartAt G N (.ref y) m e L := by
  cases h with
  | leaf h => exact absurd h hin
  | inner y h1 h2 h3 => exact ⟨y, h1, h2, h3⟩
  | kids h => exact absurd h hin

inductive SoInv (G : AHeap) (N e : Nat) (x : Addr) (low high : Nat) (xs : List AV) (H : AHeap) (j : Nat) (ρ : Rho) (Hk : AHeap) : Prop
  | mk (g : Grow H Hk) (here hi : Nat) (L' : List (Nat × Nat)) (o4 : Option AV) (e1 : ρ = ⟨[some (.ref x), some (.int low), some (.int high), some (.int here), o4], []⟩) (q1 : hi ≤ e) (q2 : Kids (PartAt G N) here (xs.drop j) hi L')
section
variable {w : World} {K : Frag}
theorem sound_ok (e0 : E0 K) {G : AHeap} {N : Nat} : ∀ {v : AV} {b e : Nat} {L : List (Nat × Nat)} {low high : Nat} {H : AHeap} {Q : AV → AHeap → Prop}, PartAt G N v b e L → e ≤ 16777000 → Grow G H → low ≤ b → e ≤ high → (∀ H', Grow H H' → Q (.bool true) H') → CallOK w K (2 * N) 624 [v, .int low, .int high] H Q := by
  induction N with
  | zero => exact fun h => h.elim
  | succ N sound_ih =>
    intro v b e L low high H Q hpt0 he gG hlo hhi k
    obtain ⟨x, d, m, l, fl, kx, s, inn, xs, rfl, h2, h3, h4, h5, h6, h7, h8⟩ := hpt0
    have hx := gG _ _ h2
    have hd := gG _ _ h3
    have hl := gG _ _ h4
    have h16 : ∀ {n : Nat}, n ≤ L.length → n ≤ 16777216 := fun h => by omega
    refine (e0.code 53 (n := 2 * N) (d := d_law_is_sound) rfl rfl ?_).call
    refine ⟨rfl, _, _, _, _, hx, hd, rfl, ⟨fun _ => ⟨_, _, _, _, hx, hd, rfl, ⟨fun _ => ⟨_, _, _, _, hx, hd, rfl, ⟨fun _ => ⟨fun h => not_no (le_int hhi) h, fun _ => ?_⟩, fun h => bool_no h (le_int h6)⟩⟩, fun h => bool_no h (le_int h5)⟩⟩, fun h => bool_no h (le_int hlo)⟩⟩
    by_cases hin : inn = .none
    · obtain ⟨hi, L', q1, q2, q3, -⟩ := kids_of hin h8 h6
      subst hin
      refine ⟨_, _, _, _, hx, hd, rfl, rfl, nofun, fun _ => ?_⟩
      refine ⟨_, _, _, _, hx, hd, rfl, _, _, _, _, hx, hd, rfl, .inl ⟨xs, hl, h16 q3, SoInv G N e x low high xs H, ⟨.refl, m, hi, L', none, rfl, q1, q2⟩, ?_, ?_⟩⟩
      · rintro j _ Hk y hy ⟨g, here, hi, L', o4, rfl, q1, q2⟩ hst
        rw [drop_cons hy] at q2
        obtain ⟨b', e', L1, L2, p1, p2, p3, rfl⟩ := q2
        have p4 := Nat.le_trans (p3.le fun _ _ _ _ h => h.le.1) q1
        refine ⟨rfl, _, _, _, _, g _ _ hx, g _ _ hd, rfl, rfl, sound_ih p1 (Nat.le_trans p4 he) (gG.trans g) p2 p4 fun H' g' => ⟨nofun, fun _ => ?_⟩⟩
        obtain ⟨x', d', kvs, rfl, r1, r2, _, r3⟩ := p1.ends
        have gg := (gG.trans g).trans g'
        exact ⟨_, _, _, _, gg _ _ r1, gg _ _ r2, r3, ((g.trans g') _ _ hl).trans hl.symm, g.trans g', e', hi, L2, _, rfl, q1, p3⟩
      · rintro _ Hk ⟨g, here, hi, L', o4, rfl, q1, q2⟩
        exact k _ g
    · obtain ⟨y, rfl, rfl, hpt⟩ := inner_of hin h8
      refine ⟨_, _, _, _, hx, hd, rfl, rfl, fun _ => ?_, nofun⟩
      refine ⟨_, _, _, _, hx, hd, rfl, Nat.zero_le _, fun t ht => .inl ⟨[], upd_old hl ht, upd_self, ⟨fun _ => ?_, nofun⟩⟩⟩
      have g1 := Grow.push (o := .list []) ht
      obtain ⟨x', d', kvs, hy, r1, r2, r3, r4⟩ := hpt.ends
      cases hy
      have r1 := g1 _ _ (gG _ _ r1)
      have r2 := g1 _ _ (gG _ _ r2)
      have hx1 := g1 _ _ hx
      have hd1 := g1 _ _ hd
      refine ⟨rfl, _, _, _, _, hx1, hd1, rfl, _, _, _, _, r1, r2, r3, _, _, _, _, hx1, hd1, rfl, _, _, _, _, r1, r2, r4, Nat.le_of_ble_eq_true rfl, fun t1 ht1 => ?_⟩
      have g2 := Grow.push (o := .tup [.int m, .int e]) ht1
      have hx2 := g2 _ _ hx1
      have hd2 := g2 _ _ hd1
      refine ⟨rfl, _, _, _, _, hx2, hd2, rfl, _, _, _, _, hx2, hd2, rfl, Nat.le_of_ble_eq_true rfl, fun t2 ht2 => .inr (.inl ⟨_, _, [(m : Int), (e : Int)], [(m : Int), (e : Int)], upd_old upd_self ht2, upd_self, rfl, rfl, rfl, ⟨fun h => not_no (decide_eq_true rfl) h, fun _ => ?_⟩⟩)⟩
      have g3 := (g1.trans g2).trans (Grow.push (o := .tup [.int m, .int e]) ht2)
      have hx3 := g3 _ _ hx
      have hd3 := g3 _ _ hd
      exact ⟨_, _, _, _, hx3, hd3, rfl, _, _, _, _, hx3, hd3, rfl, _, _, _, _, hx3, hd3, rfl, rfl, sound_ih hpt he (gG.trans g3) (Nat.le_refl _) (Nat.le_refl _) fun H' g' => k H' (g3.trans g')⟩
end
end
end Mine
namespace Mine
noncomputable section

theorem TupsAt.grow {H H' : AHeap} (g : Grow H H') {xs : List AV} {L : List (Nat × Nat)} (h : TupsAt H xs L) : TupsAt H' xs L := h.mono fun _ _ => SpanAt.g1 g.g1
inductive BaInv (G : AHeap) (N e : Nat) (x : Addr) (xs : List AV) (L : List (Nat × Nat)) (H : AHeap) (j : Nat) (ρ : Rho) (Hk : AHeap) : Prop
  | mk (g : Grow H Hk) (here hi : Nat) (L' : List (Nat × Nat)) (f : Addr) (acc : List AV) (Ld : List (Nat × Nat)) (o2 : Option AV) (e1 : ρ = ⟨[some (.ref x), some (.ref f), o2], []⟩) (q1 : hi ≤ e) (q2 : Kids (PartAt G N) here (xs.drop j) hi L')
      (hf : Hk f = some (.list acc)) (ha : TupsAt Hk acc Ld) (hL : L = Ld ++ L')
section
variable {w : World} {K : Frag}
theorem bare_ok (e0 : E0 K) {G : AHeap} {N : Nat} : ∀ {v : AV} {b e : Nat} {L : List (Nat × Nat)} {H : AHeap} {Q : AV → AHeap → Prop}, PartAt G N v b e L → e ≤ 16777000 → Grow G H →
    (∀ H' r xs, Grow H H' → H' r = some (.list xs) → TupsAt H' xs L → Q (.ref r) H') → CallOK w K (2 * N) 631 [v] H Q := by
  induction N with
  | zero => exact fun h => h.elim
  | succ N bare_ih =>
    intro v b e L H Q hpt0 he gG k
    obtain ⟨x, d, m, l, fl, kx, s, inn, xs, rfl, h2, h3, h4, h5, h6, h7, h8⟩ := hpt0
    have hx := gG _ _ h2
    have hd := gG _ _ h3
    have hl := gG _ _ h4
    have hL : L.length ≤ 16777216 := by omega
    refine (e0.code 54 (n := 2 * N) (d := d_law_bare) rfl rfl ?_).call
    by_cases hin : inn = .none
    · obtain ⟨hi, L', q1, q2, q3, q4⟩ := kids_of hin h8 h6
      subst hin
      refine ⟨_, _, _, _, hx, hd, rfl, rfl, nofun, fun _ => ?_⟩
      have loop : ∀ H1 f acc Ld, Grow H H1 → H1 f = some (.list acc) → TupsAt H1 acc Ld → L = Ld ++ L' → vcS w K (2 * N) (tlS (tlS b_law_bare)) ⟨[some (.ref x), some (.ref f), none], []⟩ H1 fun fl _ H' => Q fl.val H' := by
        intro H1 f acc Ld g hf hacc hLd
        refine ⟨_, _, _, _, g _ _ hx, g _ _ hd, rfl, .inl ⟨xs, g _ _ hl, Nat.le_trans q3 hL, BaInv G N e x xs L H1, ⟨.refl, m, hi, L', f, acc, Ld, none, rfl, q1, q2, hf, hacc, hLd⟩, ?_, ?_⟩⟩
        · rintro j _ Hk y hy ⟨g1, here, hi, L', f, acc, Ld, o2, rfl, p1, p2, hf, hacc, hLd⟩ hst
          rw [drop_cons hy] at p2
          obtain ⟨b', e', L1, L2, r1, r2, r3, rfl⟩ := p2
          have p4 := Nat.le_trans (r3.le fun _ _ _ _ h => h.le.1) p1
          refine ⟨rfl, bare_ih r1 (Nat.le_trans p4 he) ((gG.trans g).trans g1) fun H2 r ys g2 hr hys => ?_⟩
          have l1 := hacc.len
          have l2 := hys.len
          have l3 : L.length = Ld.length + (L1.length + L2.length) := by rw [hLd, List.length_append, List.length_append]
          refine ⟨rfl, acc, ys, g2 _ _ hf, hr, (by omega), fun a ha => ?_⟩
          have g3 := Grow.push (o := .list (acc ++ ys)) ha
          have gg := (g1.trans g2).trans g3
          exact ⟨(gg _ _ (g _ _ hl)).trans (g _ _ hl).symm, gg, e', hi, L2, a, acc ++ ys, Ld ++ L1, _, rfl, p1, r3, upd_self, All2.app (hacc.grow (g2.trans g3)) (hys.grow g3), by rw [hLd, List.append_assoc]⟩
        · rintro _ Hk ⟨g1, here, hi, L', f, acc, Ld, o2, rfl, p1, p2, hf, hacc, hLd⟩
          rw [List.drop_length] at p2
          obtain ⟨-, rfl⟩ := p2
          rw [List.append_nil] at hLd
          subst hLd
          exact k Hk f acc (g.trans g1) hf hacc
      refine ⟨rfl, _, _, _, _, hx, hd, rfl, Nat.zero_le _, fun t ht => .inl ⟨xs, upd_old hl ht, upd_self, ?_, ?_⟩⟩
      · intro hne
        have hne : xs ≠ [] := by rintro rfl; cases hne
        rcases q4 with ⟨h, _⟩ | ⟨_, rfl⟩
        · exact absurd h hne
        · exact ⟨Nat.zero_le _, fun f hf => asg_loc (next_of (loop _ f [] [] ((Grow.push ht).trans (Grow.push hf)) upd_self trivial rfl))⟩
      · intro hnil
        rcases q4 with ⟨_, rfl, rfl⟩ | ⟨h, _⟩
        · have g1 := Grow.push (o := .list []) ht
          have hx1 := g1 _ _ hx
          have hd1 := g1 _ _ hd
          refine ⟨rfl, _, _, _, _, hx1, hd1, rfl, _, _, _, _, hx1, hd1, rfl, Nat.le_of_ble_eq_true rfl, fun u hu => ⟨Nat.le_of_ble_eq_true rfl, fun f hf => asg_loc (next_of (loop _ f [.ref u] [(m, e)] ((g1.trans (Grow.push hu)).trans (Grow.push hf)) upd_self ⟨⟨u, rfl, upd_old upd_self hf⟩, trivial⟩ rfl))⟩⟩
        · cases xs with
          | nil => exact absurd rfl h
          | cons => cases hnil
    · obtain ⟨y, rfl, rfl, hpt⟩ := inner_of hin h8
      exact ⟨_, _, _, _, hx, hd, rfl, rfl, fun _ => ⟨_, _, _, _, hx, hd, rfl, rfl, bare_ih hpt he gG k⟩, nofun⟩
end
end
end Mine
namespace Mine
noncomputable section

/-- leaves, one behind the other -/
noncomputable def LeafAt (G : AHeap) (v : AV) (p : Nat × Nat) : Prop := ∃ x d kvs, v = .ref x ∧ G x = some (.inst 555 d) ∧ G d = some (.attrs kvs) ∧ lookA .body kvs = some (.int p.1) ∧ lookA .fin kvs = some (.int p.2)
abbrev LeavesAt (G : AHeap) : List AV → List (Nat × Nat) → Prop := All2 (LeafAt G)
/-- parts that are still to be looked through, and a measure -/
inductive PendC (G : AHeap) (T : List (Nat × Nat) → Nat → Prop) (v : AV) (L : List (Nat × Nat)) (c : Nat) : Prop
  | mk (N b e : Nat) (L1 L2 : List (Nat × Nat)) (c2 : Nat) (h1 : PartAt G N v b e L1) (h2 : T L2 c2) (h3 : L = L1 ++ L2) (h4 : c = N * L1.length + c2)
noncomputable def Pend (G : AHeap) : List AV → List (Nat × Nat) → Nat → Prop
  | [], L, c => L = [] ∧ c = 0
  | v :: r, L, c => PendC G (fun L2 c2 => Pend G r L2 c2) v L c
theorem Pend.len {G : AHeap} : ∀ {os : List AV} {L : List (Nat × Nat)} {c : Nat}, Pend G os L c → os.length ≤ L.length
  | [], _, _, _ => Nat.zero_le _
  | _ :: _, _, _, ⟨_, _, _, _, _, _, h1, h2, h3, _⟩ => by
    rw [h3, List.length_append, List.length_cons, Nat.add_comm]
    exact Nat.add_le_add h1.ne h2.len
theorem Pend.kids {G : AHeap} {N : Nat} {r : List AV} {L2 : List (Nat × Nat)} {c2 : Nat} (h : Pend G r L2 c2) : ∀ {xs : List AV} {lo hi : Nat} {L : List (Nat × Nat)}, Kids (PartAt G N) lo xs hi L → Pend G (xs ++ r) (L ++ L2) (N * L.length + c2)
  | [], _, _, _, ⟨_, h1⟩ => by subst h1; rw [List.length_nil, Nat.mul_zero, Nat.zero_add]; exact h
  | _ :: _, _, _, _, ⟨b, e, L1, L3, h1, _, h3, h4⟩ => ⟨N, b, e, L1, L3 ++ L2, N * L3.length + c2, h1, h.kids h3, by rw [h4, List.append_assoc], by rw [h4, List.length_append, Nat.mul_add, Nat.add_assoc]⟩
theorem Grow.del {H H' : AHeap} (g : Grow H H') {b : Addr} {o : AO} (hb : H' b = none) : Grow H (del (upd H' b o) b) := fun a o' h => by
  have h := g a o' h
  have : a ≠ b := by rintro rfl; rw [hb] at h; cases h
  rw [del_ne this, upd_ne this]; exact h
theorem le_ar1 {l b e : Nat} (h : l + b ≤ e + 1) (he : e ≤ 16777000) : l + 1 < 16777216 := by omega
theorem le_ar2 {d l r n L : Nat} (h1 : d + l = L) (h2 : r + 1 ≤ l) (h3 : L + 1 < 16777216) (h4 : n = d ∨ n = r) : n < 16777215 := by omega
theorem le_ar3 {d a b r x : Nat} (h1 : d + (a + b) + 1 < 16777216) (h2 : r ≤ b) (h3 : x ≤ a) : r + x ≤ 16777216 := by omega
inductive LeInv (G : AHeap) (x f ln : Addr) (L : List (Nat × Nat)) (H : AHeap) (c : Nat) (ρ : Rho) (Hk : AHeap) : Prop
  | mk (g : Grow H Hk) (os acc : List AV) (Ld L' : List (Nat × Nat)) (o3 : Option AV) (e1 : ρ = ⟨[some (.ref x), some (.ref f), some (.ref ln), o3], []⟩) (hl : Hk ln = some (.list os.reverse)) (hP : Pend G os L' c) (hf : Hk f = some (.list acc)) (ha : LeavesAt G acc Ld) (hL : L = Ld ++ L')
section
variable {w : World} {K : Frag} {H : AHeap} {Q : AV → AHeap → Prop}
theorem leaves_ok (e0 : E0 K) {G : AHeap} {N : Nat} {x : Addr} {b e : Nat} {L : List (Nat × Nat)} (hp : PartAt G N (.ref x) b e L) (he : e ≤ 16777000) (gG : Grow G H)
    (k : ∀ H' r xs, Grow H H' → H' r = some (.list xs) → LeavesAt G xs L → Q (.ref r) H') : CallOK w K 2 609 [.ref x] H Q := by
  have hL : L.length + 1 < 16777216 := le_ar1 hp.le.2 he
  refine (e0.code 51 (n := 0) (d := d_leaves) rfl rfl ?_).call
  refine ⟨Nat.zero_le _, fun f hf => ⟨Nat.le_of_ble_eq_true rfl, fun ln hln => ?_⟩⟩
  have hfl : f ≠ ln := by rintro rfl; rw [upd_self] at hln; cases hln
  have hln0 : H ln = none := (Grow.push hf).back hln
  refine ⟨N * L.length, LeInv G x f ln L H,
    ⟨(Grow.push hf).trans (Grow.push hln), [.ref x], [], [], L, none, rfl, upd_self, ⟨N, b, e, L, [], 0, hp, ⟨rfl, rfl⟩, (List.append_nil _).symm, rfl⟩, (upd_ne hfl).trans upd_self, trivial, rfl⟩, ?_⟩
  rintro c _ Hk ⟨g, os, acc, Ld, L', o3, rfl, hl, hP, hfk, hacc, hLd⟩
  refine ⟨Nat.zero_le _, fun t ht => .inl ⟨os.reverse, upd_old hl ht, upd_self, ?_⟩⟩
  have g1 := g.trans (Grow.push (o := .list []) ht)
  have hl1 : upd Hk t (.list []) ln = some (.list os.reverse) := upd_old hl ht
  have hf1 : upd Hk t (.list []) f = some (.list acc) := upd_old hfk ht
  generalize upd Hk t (.list []) = H1 at g1 hl1 hf1 ⊢
  have hlen := hP.len
  have hlL : Ld.length + L'.length = L.length := by rw [hLd, List.length_append]
  cases os with
  | nil =>
    refine ⟨nofun, fun _ => ?_⟩
    obtain ⟨rfl, rfl⟩ := hP
    rw [List.append_nil] at hLd
    subst hLd
    exact k _ f acc g1 hf1 hacc
  | cons v r =>
    obtain ⟨M, b', e', L1, L2, c2, hv, hr, rfl, rfl⟩ := hP
    rw [List.reverse_cons] at hl1 ⊢
    refine ⟨fun _ => ?_, fun h => ?_⟩
    rotate_left
    · rw [show (r.reverse ++ [v]).isEmpty = false from by cases r.reverse <;> rfl] at h; cases h
    have hrl : r.length + 1 ≤ (L1 ++ L2).length := hlen
    have hrr : r.reverse.length < 16777215 := by rw [List.length_reverse]; exact le_ar2 hlL hrl hL (.inr rfl)
    have hrr' : r.reverse.length < 16777216 := Nat.lt_succ_of_lt hrr
    have hal : acc.length < 16777216 := Nat.lt_succ_of_lt (le_ar2 hlL hrl hL (.inl hacc.len.symm))
    refine .inl ⟨"list.pop", _, rfl, hl1, r.reverse, v, hl1, hrr', ?_⟩
    have g2 : Grow H (upd H1 ln (.list r.reverse)) := g1.put hln0
    have hl2 : upd H1 ln (.list r.reverse) ln = some (.list r.reverse) := upd_self
    have hf2 : upd H1 ln (.list r.reverse) f = some (.list acc) := (upd_ne hfl).trans hf1
    generalize upd H1 ln (.list r.reverse) = H2 at g2 hl2 hf2 ⊢
    have hv1 := hv.ne
    obtain ⟨M, rfl⟩ : ∃ M', M = M' + 1 := by
      cases M with
      | zero => exact hv.elim
      | succ M' => exact ⟨M', rfl⟩
    obtain ⟨y, d, m, l, fl, kx, s, inn, xs, rfl, h2, h3, h4, h5, h6, h7, h8⟩ := hv
    have hx := g2 _ _ (gG _ _ h2)
    have hd := g2 _ _ (gG _ _ h3)
    by_cases hin : inn = .none
    · subst hin
      refine ⟨_, _, _, _, hx, hd, rfl, rfl, nofun, fun _ => ?_⟩
      refine ⟨_, _, _, _, hx, hd, rfl, Nat.zero_le _, fun t2 ht2 => .inl ⟨xs, upd_old (g2 _ _ (gG _ _ h4)) ht2, upd_self, ?_⟩⟩
      have gp := Grow.push (o := .list []) ht2
      have g3 := g2.trans gp
      have hx3 := gp _ _ hx
      have hd3 := gp _ _ hd
      have hl3 := gp _ _ hl2
      have hf3 := gp _ _ hf2
      have hk3 := g3 _ _ (gG _ _ h4)
      generalize upd H2 t2 (.list []) = H3 at g3 hx3 hd3 hl3 hf3 hk3 ⊢
      rcases h8 with ⟨_, rfl, rfl⟩ | ⟨_, h, _, _⟩ | ⟨_, hne, hi, q1, q2⟩
      · refine ⟨nofun, fun _ => .inl ⟨"list.append", acc, rfl, hf3, rfl, acc, hf3, hal, rfl, c2, Nat.lt_add_of_pos_left (Nat.mul_pos (Nat.succ_pos _) Nat.one_pos), g3.put hf, r, acc ++ [.ref y], Ld ++ [(m, e')], L2, _, rfl, (upd_ne hfl.symm).trans hl3, hr, upd_self, ?_, ?_⟩⟩
        · exact hacc.snoc ⟨y, d, _, rfl, h2, h3, rfl, rfl⟩
        · rw [hLd, List.append_assoc]
      · cases h
      · have hxl := q2.len fun _ _ _ _ => PartAt.ne
        have hlln : l ≠ ln := by rintro rfl; rw [gG _ _ h4] at hln0; cases hln0
        refine ⟨fun _ => .inl ⟨"list.extend", r.reverse, rfl, hl3, ?_⟩, fun h => ?_⟩
        · refine ⟨_, _, _, _, hx3, hd3, rfl, rfl, xs, hk3, fun w' hw => ?_⟩
          have hwl : ln ≠ w' := by rintro rfl; rw [hw] at hl3; cases hl3
          have hwf : f ≠ w' := by rintro rfl; rw [hw] at hf3; cases hf3
          refine ⟨rfl, l, r.reverse, xs, upd_self, upd_old hk3 hw, upd_old hl3 hw, hlln, (by rw [List.length_reverse]; rw [List.length_append] at hlL; exact le_ar3 (hlL ▸ hL) hr.len hxl), rfl, M * L1.length + c2, ?_, (g3.del hw).put hln0, xs ++ r, acc, Ld, L1 ++ L2, _, rfl, ?_, hr.kids q2, ?_, hacc, hLd⟩
          · exact Nat.add_lt_add_right (Nat.mul_lt_mul_of_pos_right (Nat.lt_succ_self _) hv1) _
          · rw [upd_self, List.reverse_append]
          · rw [upd_ne hfl, del_ne hwf, upd_ne hwf]; exact hf3
        · cases xs with
          | nil => exact absurd rfl hne
          | cons => cases h
    · obtain ⟨z, rfl, rfl, hpt⟩ := inner_of hin h8
      refine ⟨_, _, _, _, hx, hd, rfl, rfl, fun _ => .inl ⟨"list.append", r.reverse, rfl, hl2, _, _, _, _, hx, hd, rfl, rfl, r.reverse, hl2, hrr', rfl, M * L1.length + c2, ?_, g2.put hln0, .ref z :: r, acc, Ld, L1 ++ L2, _, rfl, ?_, ⟨M, m, e', L1, L2, c2, hpt, hr, rfl, rfl⟩, (upd_ne hfl).trans hf2, hacc, hLd⟩, nofun⟩
      · exact Nat.add_lt_add_right (Nat.mul_lt_mul_of_pos_right (Nat.lt_succ_self _) hv1) _
      · rw [upd_self, List.reverse_cons]
end
end
end Mine
namespace Mine
noncomputable section

/-- the tape: its cells, its place -/
structure TapeAt (H : AHeap) (t c : Addr) (cs : List Int) (at_ : Nat) : Prop where
  ht : H t = some (.list [.ref c, .int at_]) ∨ H t = some (.olist [.ref c, .int at_])
  hc : H c = some (.list (cs.map .int))
theorem TapeAt.grow {H H' : AHeap} (g : Grow H H') {t c : Addr} {cs : List Int} {a : Nat} (h : TapeAt H t c cs a) : TapeAt H' t c cs a := ⟨h.ht.imp (g _ _) (g _ _), g _ _ h.hc⟩
theorem mulOk {x y : Int} (h0 : 0 ≤ x) (h1 : x < 2 ^ 64) : IntMulOk x y := IntMulOk.of_left (intBits_le_64 (by omega) h1)
section
variable {w : World} {K : Frag} {H : AHeap} {Q : AV → AHeap → Prop}
theorem draw_ok (e0 : E0 K) {t c : Addr} {cs : List Int} {a : Nat} {lim : Int} (T : TapeAt H t c cs a) (h0 : cs ≠ []) (h40 : cs.length ≤ 40) (ha : a ≤ 1000) (hl0 : 0 < lim) (hl1 : lim < 1000000)
    (k : ∀ r : Nat, (r : Int) < lim → Q (.int r) (upd H t (.olist [.ref c, .int (a + 1 : Nat)]))) : CallOK w K 2 616 [.ref t, .int lim] H Q := by
  have hlen : (cs.map AV.int).length = cs.length := List.length_map _
  have hpos : 0 < (cs.map AV.int).length := hlen ▸ List.length_pos_iff.2 h0
  have h40 : (cs.map AV.int).length ≤ 40 := hlen ▸ h40
  have hct : c ≠ t := by rintro rfl; rcases T.ht with h | h <;> (rw [T.hc] at h; cases cs with | nil => exact h0 rfl | cons => cases h)
  have hv : ∀ i, i < (cs.map AV.int).length → ∃ v, (cs.map AV.int)[i]? = some (AV.int v) := fun i hi => by
    rw [hlen] at hi
    exact ⟨_, by rw [List.getElem?_map, List.getElem?_eq_getElem hi]; rfl⟩
  have hc := T.hc
  generalize cs.map AV.int = xs at hpos h40 hv hc
  have hc2 : upd H t (.olist [.ref c, .int (a + 1 : Nat)]) c = some (.list xs) := (upd_ne hct).trans hc
  have hm0 : 0 ≤ (a : Int).fmod (xs.length : Int) := Int.fmod_nonneg_of_pos _ (Int.natCast_pos.2 hpos)
  have hm1 : (a : Int).fmod (xs.length : Int) < xs.length := Int.fmod_lt_of_pos _ (Int.natCast_pos.2 hpos)
  have hd0 : 0 ≤ (a : Int).fdiv (xs.length : Int) := Int.fdiv_nonneg (Int.natCast_nonneg a) (Int.natCast_nonneg _)
  have hd1 : (a : Int).fdiv (xs.length : Int) < 2 ^ 64 := by
    rw [Int.fdiv_eq_ediv_of_nonneg _ (Int.natCast_nonneg _)]
    exact Int.lt_of_le_of_lt (Int.ediv_le_self _ (Int.natCast_nonneg a)) (by omega)
  have hl16 : xs.length ≤ 16777216 := by omega
  have hlm : (xs.length : Int) < 1000000 := by omega
  obtain ⟨v, hv⟩ := hv ((a : Int).fmod (xs.length : Int)).toNat (by omega)
  refine (e0.code 52 (n := 0) (d := d_law_draw) rfl rfl ?_).call
  refine ⟨Int.le_refl 0, by decide, _, _, T.ht.imp_right .inr, rfl, ?_⟩
  refine ⟨by decide, by decide, _, _, T.ht.imp_right .inr, rfl, ?_⟩
  refine ⟨by decide, _, T.ht, Nat.le_of_ble_eq_true rfl, Nat.le_of_ble_eq_true rfl, ?_⟩
  refine ⟨rfl, _, hc2, hl16, Int.natCast_pos.2 hpos, hlm, hm0, by omega, _, _, .inl hc2, hv, ?_⟩
  refine ⟨rfl, _, hc2, hl16, Int.natCast_pos.2 hpos, hlm, mulOk (by decide) (by decide), mulOk hd0 hd1, hl0, hl1, ?_⟩
  have key := Int.fmod_nonneg_of_pos (v + (a : Int).fdiv (xs.length : Int) * (7 * (a : Int) + 3)) hl0
  have key2 := Int.fmod_lt_of_pos (v + (a : Int).fdiv (xs.length : Int) * (7 * (a : Int) + 3)) hl0
  obtain ⟨r, hr⟩ := Int.eq_ofNat_of_zero_le key
  have := k r (by rw [← hr]; exact key2)
  rw [← hr] at this
  exact this
end
end
end Mine
namespace Mine
noncomputable section

/-! plain: the leaves' bodies rise -/
noncomputable def Rise : Nat → List (Nat × Nat) → Nat → Prop
  | lo, [], hi => lo ≤ hi
  | lo, p :: r, hi => lo ≤ p.1 ∧ p.1 ≤ p.2 ∧ Rise p.2 r hi
theorem Rise.up : ∀ {L : List (Nat × Nat)} {lo hi lo' hi' : Nat}, Rise lo L hi → lo' ≤ lo → hi ≤ hi' → Rise lo' L hi'
  | [], _, _, _, _, h, a, b => Nat.le_trans a (Nat.le_trans h b)
  | _ :: _, _, _, _, _, ⟨h1, h2, h3⟩, a, b => ⟨Nat.le_trans a h1, h2, h3.up (Nat.le_refl _) b⟩
theorem Rise.app : ∀ {L L' : List (Nat × Nat)} {lo m hi : Nat}, Rise lo L m → Rise m L' hi → Rise lo (L ++ L') hi
  | [], _, _, _, _, h, h' => h'.up h (Nat.le_refl _)
  | _ :: _, _, _, _, _, ⟨h1, h2, h3⟩, h' => ⟨h1, h2, h3.app h'⟩
theorem Kids.rise {R : AV → Nat → Nat → List (Nat × Nat) → Prop} (f : ∀ v b e L, R v b e L → Rise b L e) : ∀ {xs : List AV} {lo hi : Nat} {L : List (Nat × Nat)}, Kids R lo xs hi L → Rise lo L hi
  | [], _, _, _, ⟨h1, h2⟩ => by subst h1 h2; exact Nat.le_refl _
  | _ :: _, _, _, _, ⟨_, _, _, _, h1, h2, h3, h4⟩ => by subst h4; exact ((f _ _ _ _ h1).up h2 (Nat.le_refl _)).app (Kids.rise f h3)
theorem PartAt.rise {G : AHeap} {N : Nat} : ∀ {v : AV} {b e : Nat} {L : List (Nat × Nat)}, PartAt G N v b e L → Rise b L e := by
  induction N with
  | zero => exact fun h => h.elim
  | succ N ih =>
    intro v b e L h
    obtain ⟨x, d, m, l, fl, kx, s, inn, xs, h1, h2, h3, h4, h5, h6, h7, h8⟩ := h
    cases h8 with
    | leaf _ _ h => rw [h]; exact ⟨h5, h6, Nat.le_refl _⟩
    | inner y _ _ h => exact (ih h).up h5 (Nat.le_refl _)
    | kids _ _ hi q h => exact (h.rise fun _ _ _ _ => ih).up h5 q
theorem Rise.get : ∀ {L : List (Nat × Nat)} {lo hi : Nat}, Rise lo L hi → ∀ {j : Nat} {p q : Nat × Nat}, L[j]? = some p → L[j + 1]? = some q → p.2 ≤ q.1
  | [], _, _, _, _, _, _, h, _ => by cases h
  | [_], _, _, _, _, _, _, _, h => by cases h
  | _ :: _ :: _, _, _, ⟨_, _, h3⟩, 0, _, _, e1, e2 => by cases e1; cases e2; exact h3.1
  | _ :: _ :: _, _, _, ⟨_, _, h3⟩, j + 1, _, _, e1, e2 => h3.get (j := j) e1 e2
theorem TupsAt.of {H : AHeap} : ∀ {xs : List AV} {L : List (Nat × Nat)}, TupsAt H xs L → TupsOf H xs (L.map fun p => [(p.1 : Int), (p.2 : Int)])
  | [], [], _ => trivial
  | _ :: _, _ :: _, ⟨⟨_, rfl, h⟩, r⟩ => ⟨⟨_, h, rfl⟩, TupsAt.of r⟩
  | [], _ :: _, h => h.elim
  | _ :: _, [], h => h.elim

/-! the text that is drawn -/
theorem flat_snoc (ls : List (Nat × Bool)) (k : Nat) (b : Bool) : flat (ls ++ [(k, b)]) = (flat ls ++ menu k) ++ term b := by
  unfold flat
  rw [List.map_append, List.flatten_append, List.append_assoc]
  simp
theorem menu_len : ∀ k, k < 12 → (menu k).length ≤ 100 := by decide +kernel
theorem term_len (b : Bool) : (term b).length ≤ 2 := by cases b <;> decide
theorem flat_len : ∀ {ls : List (Nat × Bool)}, (∀ x ∈ ls, x.1 < 12) → (flat ls).length ≤ 102 * ls.length
  | [], _ => Nat.le_refl _
  | (k, b) :: ls, h => by
    have h1 := flat_len fun x hx => h x (List.mem_cons_of_mem _ hx)
    have h2 := menu_len k (h _ List.mem_cons_self)
    have h3 := term_len b
    have e : (flat ((k, b) :: ls)).length = ((menu k).length + (term b).length) + (flat ls).length := by
      rw [show flat ((k, b) :: ls) = (menu k ++ term b) ++ flat ls from rfl, List.length_append, List.length_append]
    rw [e, List.length_cons]; omega
theorem lines_item : ∀ k, k < 12 → Con.lines.items[k]? = some (.bytes (menu k)) := by decide +kernel
theorem term_item : ∀ k, k < 3 → ∃ b, ([.bytes [13, 10], .bytes [10], .bytes [13, 10]] : List AV)[k]? = some (.bytes (term b))
  | 0, _ => ⟨true, rfl⟩
  | 1, _ => ⟨false, rfl⟩
  | 2, _ => ⟨true, rfl⟩
theorem flat_LS {ls : List (Nat × Bool)} (h : ∀ x ∈ ls, x.1 < 12) : LS (flat ls) 0 := ⟨Nat.zero_le _, .inl rfl, ls, h, rfl⟩
end
end Mine
namespace Mine
noncomputable section

theorem TapeAt.ne {H : AHeap} {t c : Addr} {cs : List Int} {a : Nat} (T : TapeAt H t c cs a) (h0 : cs ≠ []) : c ≠ t := by
  rintro rfl; rcases T.ht with h | h <;> (rw [T.hc] at h; cases cs with | nil => exact h0 rfl | cons => cases h)
theorem TapeAt.next {H : AHeap} {t c : Addr} {cs : List Int} {a : Nat} (T : TapeAt H t c cs a) (h0 : cs ≠ []) : TapeAt (upd H t (.olist [.ref c, .int (a + 1 : Nat)])) t c cs (a + 1) :=
  ⟨.inr upd_self, (upd_ne (T.ne h0)).trans T.hc⟩
theorem TapeAt.some {H : AHeap} {t c : Addr} {cs : List Int} {a : Nat} (T : TapeAt H t c cs a) : H t ≠ none := by
  rcases T.ht with h | h <;> (rw [h]; exact nofun)

theorem dr1 {r : Nat} (h : (r : Int) < 17) : (-1000 : Int) ≤ r ∧ (r : Int) ≤ 16777216 := by omega
theorem dr2 {r j : Nat} (h : (r : Int) < 17) (hj : j < ((r : Int) - 0).toNat) : j < 17 := by omega
theorem dr3 {j : Nat} (h : j < 17) : 2 * j + 1 ≤ 1000 ∧ 2 * j + 1 + 1 ≤ 1000 := by omega
theorem dr4 {q n : Nat} (h : (q : Int) < n) : q < n := Int.ofNat_lt.1 h
theorem dr5 {j f m t : Nat} (h : j < 17) (h1 : f ≤ 102 * j) (h2 : m ≤ 100) (h3 : t ≤ 2) : f + m ≤ 16777216 ∧ f + m + t ≤ 16777216 := by omega
theorem dr6 {q n : Nat} (h : q < n) (hn : n ≤ 12) : (q : Int) < 1000000000 := Int.ofNat_lt.2 (Nat.lt_of_lt_of_le h (Nat.le_trans hn (by decide)))
theorem dr7 {r : Nat} (h : (r : Int) < 17) : ((r : Int) - 0).toNat ≤ 17 := by omega
inductive DrInv (s t c c0 : Addr) (cs0 : List Int) (H0 : AHeap) (j : Nat) (ρ : Rho) (Hk : AHeap) : Prop
  | mk (g : Grow H0 Hk) (ls : List (Nat × Bool)) (o3 o4 : Option AV) (h1 : ls.length = j) (h2 : ∀ x ∈ ls, x.1 < 12) (e1 : ρ = ⟨[some (.ref s), some (.ref t), some (.bytes (flat ls)), o3, o4, none], [c]⟩) (T : TapeAt Hk t c0 cs0 (2 * j + 1))
section
variable {w : World} {K : Frag} {H : AHeap} {Q : AV → AHeap → Prop}
/-- the lines drawn -/
theorem law_draws (e0 : E0 K) {H0 H1 : AHeap} {s t c c0 : Addr} {cs0 : List Int} {P : Fl → Rho → AHeap → Prop} (g : Grow H0 H1) (T : TapeAt H1 t c0 cs0 0) (h0 : cs0 ≠ []) (h40 : cs0.length ≤ 40) (ht : H0 t = none)
    (k : ∀ H2 ls o3 o4, Grow H0 H2 → (∀ x ∈ ls, x.1 < 12) → ls.length ≤ 17 → vcS w K 142 (tlS (tlS (tlS b_law))) ⟨[some (.ref s), some (.ref t), some (.bytes (flat ls)), o3, o4, none], [c]⟩ H2 P) :
    vcS w K 142 (tlS b_law) ⟨[some (.ref s), some (.ref t), none, none, none, none], [c]⟩ H1 P := by
  refine ⟨rfl, (draw_ok e0 T h0 h40 (by decide) (by decide) (by decide) fun r hr => ?_).le (by decide)⟩
  have T1 := T.next h0
  have g1 := g.put (o := .olist [.ref c0, .int (0 + 1 : Nat)]) ht
  generalize upd H1 t (.olist [.ref c0, .int (0 + 1 : Nat)]) = H2 at T1 g1 ⊢
  have hr17 := dr1 hr
  refine ⟨⟨by decide, by decide⟩, hr17, fun b hb => .inr (.inl ⟨0, r, upd_self, by decide, by decide, hr17.1, hr17.2, ?_⟩)⟩
  have g2 := g1.trans (Grow.push (o := .rng 0 r) hb)
  have T2 := T1.grow (Grow.push (o := .rng 0 r) hb)
  have hb2 : upd H2 b (.rng 0 r) b = some (.rng 0 r) := upd_self
  generalize upd H2 b (.rng 0 r) = H3 at T2 g2 hb2 ⊢
  refine ⟨DrInv s t c c0 cs0 H0,
    ⟨g2, [], none, none, rfl, fun v hv => (List.not_mem_nil hv).elim, rfl, T2⟩, ?_, ?_⟩
  · rintro j _ Hk y hy ⟨g3, ls, o3, o4, h1, h2, rfl, T⟩ hst
    have hst : Hk b = H3 b := hst
    have hj : j < 17 := by
      have := (List.getElem?_eq_some_iff.1 hy).1
      rw [List.length_map, List.length_range] at this
      exact dr2 hr this
    have hd := dr3 hj
    have fl := flat_len h2
    rw [h1] at fl
    refine ⟨rfl, Nat.le_of_ble_eq_true rfl, fun u hu => ?_⟩
    have gu := Grow.push (o := .tup [.bytes [13, 10], .bytes [10], .bytes [13, 10]]) hu
    have T3 := T.grow gu
    have hut : u ≠ t := fun e => T.some (e ▸ hu)
    have hub : u ≠ b := fun e => by rw [e, hst, hb2] at hu; cases hu
    have hbt : b ≠ t := fun e => by
      rw [e] at hst hb2
      rw [hb2] at hst
      rcases T.ht with h | h <;> (rw [hst] at h; cases h)
    refine ⟨rfl, (draw_ok e0 T3 h0 h40 hd.1 (by decide) (by decide) fun q hq => ?_).le (by decide)⟩
    have T4 := T3.next h0
    have g4 := ((g3.trans gu)).put (o := .olist [.ref c0, .int (2 * j + 1 + 1 : Nat)]) ht
    have hu4 : upd (upd Hk u (.tup [.bytes [13, 10], .bytes [10], .bytes [13, 10]])) t (.olist [.ref c0, .int (2 * j + 1 + 1 : Nat)]) u = some (.tup [.bytes [13, 10], .bytes [10], .bytes [13, 10]]) := (upd_ne hut).trans upd_self
    have hb4 : upd (upd Hk u (.tup [.bytes [13, 10], .bytes [10], .bytes [13, 10]])) t (.olist [.ref c0, .int (2 * j + 1 + 1 : Nat)]) b = H3 b := ((upd_ne hbt).trans (upd_ne hub.symm)).trans hst
    generalize upd (upd Hk u (.tup [.bytes [13, 10], .bytes [10], .bytes [13, 10]])) t (.olist [.ref c0, .int (2 * j + 1 + 1 : Nat)]) = H4 at T4 g4 hu4 hb4 ⊢
    have hq3 : q < 3 := dr4 (n := 3) hq
    obtain ⟨tb, htb⟩ := term_item q hq3
    refine ⟨Int.natCast_nonneg q, dr6 hq3 (by decide), _, _, .inr (.inl hu4), htb, ?_⟩
    refine ⟨rfl, (draw_ok e0 T4 h0 h40 hd.2 (by decide) (by decide) fun i hi => ?_).le (by decide)⟩
    have hi12 : i < 12 := dr4 (n := 12) hi
    have T5 := T4.next h0
    have g5 := g4.put (o := .olist [.ref c0, .int (2 * j + 1 + 1 + 1 : Nat)]) ht
    have hb5 : upd H4 t (.olist [.ref c0, .int (2 * j + 1 + 1 + 1 : Nat)]) b = H3 b := (upd_ne hbt).trans hb4
    generalize upd H4 t (.olist [.ref c0, .int (2 * j + 1 + 1 + 1 : Nat)]) = H5 at T5 g5 hb5 ⊢
    have ml := menu_len i hi12
    have tl := term_len tb
    have d5 := dr5 hj fl ml tl
    refine ⟨Int.natCast_nonneg i, dr6 hi12 (by decide), _, lines_item i hi12, rfl, d5.1, rfl, by rw [List.length_append]; exact d5.2, hb5, g5, ls ++ [(i, tb)], some y, some (.bytes (term tb)), by rw [List.length_append, h1]; rfl, fun x hx => ?_, ?_, T5⟩
    · rcases List.mem_append.1 hx with hx | hx
      · exact h2 x hx
      · rw [List.mem_singleton] at hx; subst hx; exact hi12
    · rw [flat_snoc]; rfl
  · rintro _ Hk ⟨g3, ls, o3, o4, h1, h2, rfl, T⟩
    refine k Hk ls o3 o4 g3 h2 ?_
    rw [h1, List.length_map, List.length_range]
    exact dr7 hr
end
end
end Mine
namespace Mine
noncomputable section

theorem NewIn.change {H H' H'' : AHeap} {c : Addr} {o : AO} (g : Grow H' H'') (hc : H c ≠ none) : Grow (NewIn H H') (upd H'' c o) := fun a o' h => by
  obtain ⟨p, q⟩ := NewIn.inv h
  rw [upd_ne]
  · exact g a o' q
  · rintro rfl; exact hc p
theorem take_succ' {α : Type} {l : List α} {j : Nat} {x : α} (h : l[j]? = some x) : l.take (j + 1) = l.take j ++ [x] := by
  rw [List.take_add_one, h]; rfl
theorem rg1 {j n : Nat} (h : j < ((n : Int) - 1).toNat) : j + 1 < n := by omega
theorem rg2 (j : Nat) : ((1 : Int) + (j : Int)).toNat = j + 1 ∧ ((1 : Int) + (j : Int) - 1).toNat = j ∧ (0 : Int) ≤ 1 + j ∧ (0 : Int) ≤ 1 + j - 1 := by omega
theorem rg3 {j n : Nat} (h : j + 1 < n) (hn : n ≤ 16777216) : (1 : Int) + j < 1000000000 ∧ (1 : Int) + j - 1 < 1000000000 := by omega
theorem rg4 {n : Nat} (hn : n ≤ 16777216) : ((n : Int) - 1).toNat ≤ 16777216 := by omega
theorem smallNat {n : Nat} (h : n ≤ 16777216) : (-1000 : Int) ≤ n ∧ (n : Int) ≤ 16777216 := by omega
theorem len16 {l b e : Nat} (h : l + b ≤ e + 1) (he : e ≤ 16777000) : l ≤ 16777216 := by omega
section
variable {w : World} {K : Frag} {H : AHeap} {Q : AV → AHeap → Prop}
/-- the spans read off, compared with one another -/
theorem law_end (e0 : E0 K) {G : AHeap} {N : Nat} {x a c : Addr} {acc : List AV} {b e : Nat} {L : List (Nat × Nat)} {o0 o1 o2 o3 o4 : Option AV} (hp : PartAt G N (.ref x) b e L) (hN : N ≤ 21) (he : e ≤ 16777000) (gG : Grow G H)
    (hc : H c = some (.cell (.ref a))) (ha : H a = some (.list acc)) (hacc : TupsAt H acc L) (k : ∀ H', Grow H H' → Q (.bool true) H') :
    vcS w K 142 (tlS (tlS (tlS (tlS (tlS (tlS b_law)))))) ⟨[o0, o1, o2, o3, o4, some (.ref x)], [c]⟩ H fun fl _ H' => Q fl.val H' := by
  have hne := hp.ne
  have hl1 : L.length = acc.length := hacc.len
  have h16 : acc.length ≤ 16777216 := hl1 ▸ len16 hp.le.2 he
  rw [hl1] at hne
  refine ⟨c, _, rfl, hc, rfl, (bare_ok e0 hp he gG fun H1 r ys g1 hr hys => .inr (.inr ⟨acc, ys, _, g1 _ _ ha, hr, (hacc.grow g1).of, hys.of, ⟨fun _ => ?_, nofun⟩⟩)).le (Nat.le_trans (Nat.mul_le_mul_left 2 hN) (by decide))⟩
  have hc := g1 _ _ hc
  have ha := g1 _ _ ha
  have hacc := hacc.grow g1
  clear hr hys gG
  refine ⟨c, _, rfl, hc, Nat.zero_le _, fun t ht => ⟨acc, upd_old ha ht, upd_self, fun h => ?_, fun _ => ?_⟩⟩
  · cases acc with
    | nil => cases hne
    | cons => cases h
  have g2 := Grow.push (o := .list []) ht
  have hc := g2 _ _ hc
  have ha := g2 _ _ ha
  have hacc := hacc.grow g2
  have g2 := g1.trans g2
  generalize upd H1 t (.list []) = H2 at hc ha hacc g2 ⊢
  have sn := smallNat h16
  refine ⟨rfl, c, _, rfl, hc, rfl, acc, ha, h16, rfl, ⟨by decide, by decide⟩, sn, fun rg hrg => ?_⟩
  have g3 := Grow.push (o := .rng 1 (acc.length : Int)) hrg
  have hc := g3 _ _ hc
  have ha := g3 _ _ ha
  have hacc := hacc.grow g3
  have hrg' : upd H2 rg (.rng 1 (acc.length : Int)) rg = some (.rng 1 (acc.length : Int)) := upd_self
  have g3 := g2.trans g3
  generalize upd H2 rg (.rng 1 (acc.length : Int)) = H3 at hc ha hacc hrg' g3 ⊢
  refine .inr (.inl ⟨1, (acc.length : Int), hrg', by decide, by decide, sn.1, sn.2, ?_⟩)
  refine ⟨by rw [List.length_map, List.length_range]; exact rg4 h16, fun j acc' Hk => Hk = H3 ∧ acc' = [], ⟨rfl, rfl⟩, ?_, ?_⟩
  · rintro j _ _ y hy ⟨rfl, rfl⟩ hst
    have hj := (List.getElem?_eq_some_iff.1 hy).1
    rw [List.length_map, List.length_range] at hj
    rw [List.getElem?_map, List.getElem?_range hj] at hy
    cases hy
    have hj1 := rg1 hj
    have r2 := rg2 j
    have r3 := rg3 hj1 h16
    obtain ⟨q, hq⟩ := get_ex hj1
    obtain ⟨p, hp'⟩ := get_ex (Nat.lt_of_succ_lt hj1)
    obtain ⟨lq, hlq, tq, rfl, hq2⟩ := hacc.get hq
    obtain ⟨lp, hlp, tp, rfl, hp2⟩ := hacc.get hp'
    have hno : decide ((lq.1 : Int) < (lp.2 : Int)) = false := decide_eq_false (Int.not_lt.2 (Int.ofNat_le.2 (hp.rise.get hlp hlq)))
    have hq1 : acc[((1 : Int) + (j : Int)).toNat]? = some (.ref tq) := by rw [r2.1]; exact hq
    have hq3 : acc[((1 : Int) + (j : Int) - 1).toNat]? = some (.ref tp) := by rw [r2.2.1]; exact hp'
    refine ⟨rfl, c, _, rfl, hc, r2.2.2.1, r3.1, acc, _, .inl ha, hq1, by decide, by decide, _, _, .inr (.inl hq2), rfl, ?_⟩
    refine ⟨c, _, rfl, hc, r2.2.2.2, r3.2, acc, _, .inl ha, hq3, by decide, by decide, _, _, .inr (.inl hp2), rfl, ?_⟩
    exact ⟨fun h => bool_no hno h, fun _ => ⟨hst, rfl, rfl⟩⟩
  · rintro acc' _ ⟨rfl, rfl⟩ - r hr
    exact ⟨Nat.zero_le _, fun r2 hr2 => ⟨[], upd_old upd_self hr2, upd_self, k _ ((g3.trans (Grow.push hr)).trans (Grow.push hr2))⟩⟩
end
end
end Mine
namespace Mine
noncomputable section
section
variable {w : World} {K : Frag} {H : AHeap} {Q : AV → AHeap → Prop}
theorem nilS_of {n : Nat} {ρ : Rho} {P : Fl → Rho → AHeap → Prop} (h : P .next ρ H) : vcS w K n .nil ρ H P := h
/-- the spans of the leaves -/
theorem law_leaves (e0 : E0 K) {H2 H3 : AHeap} {N : Nat} {x c : Addr} {b e : Nat} {L : List (Nat × Nat)} {o0 o1 o2 o3 o4 : Option AV} (hp : PartAt (NewIn H2 H3) N (.ref x) b e L) (hN : N ≤ 21) (he : e ≤ 16777000) (g : Grow H3 H)
    (hc2 : H2 c = some .ucell) (hc : H c = some .ucell) {s : Addr} {ob : AO} (hs : H s = some ob) (hob : ob ≠ .ucell) (k : ∀ H', H' s = some ob → Q (.bool true) H') :
    vcS w K 142 (tlS (tlS (tlS (tlS (tlS b_law))))) ⟨[o0, o1, o2, o3, o4, some (.ref x)], [c]⟩ H fun fl _ H' => Q fl.val H' := by
  have gG : Grow (NewIn H2 H3) H := NewIn.sub.trans g
  have hple := hp.le
  refine ⟨rfl, rfl, (leaves_ok e0 hp he gG fun H5 r xs g5 hr hlv => ?_).le (by decide)⟩
  have hl1 : L.length = xs.length := hlv.len
  have hl : xs.length ≤ 16777216 := by omega
  refine .inl ⟨xs, hr, hl, hl, fun j acc Hk => Grow H5 Hk ∧ TupsAt Hk acc (L.take j), ⟨.refl, trivial⟩, ?_, ?_⟩
  · rintro j acc Hk y hy ⟨g6, hacc⟩ hst
    obtain ⟨p, hp', x', d, kvs, rfl, h1, h2, h3, h4⟩ := All2.get hlv hy
    have gg := (gG.trans g5).trans g6
    have h1 := gg _ _ h1
    have h2 := gg _ _ h2
    refine ⟨fun _ => ⟨rfl, _, _, _, _, h1, h2, h3, _, _, _, _, h1, h2, h4, Nat.le_of_ble_eq_true rfl, fun t ht => ?_⟩, nofun⟩
    have g7 := Grow.push (o := .tup [.int p.1, .int p.2]) ht
    refine ⟨(g7 _ _ (g6 _ _ hr)).trans hr.symm, g6.trans g7, ?_⟩
    rw [take_succ' hp']
    exact (hacc.grow g7).snoc ⟨t, rfl, upd_self⟩
  · rintro acc He ⟨g6, hacc⟩ - a ha
    rw [← hl1, List.take_length] at hacc
    have g7 := Grow.push (o := .list acc) ha
    have hc7 := g7 _ _ (g6 _ _ (g5 _ _ hc))
    refine ⟨c, rfl, .inl hc7, ?_⟩
    have gA : Grow (NewIn H2 H3) (upd (upd He a (.list acc)) c (.cell (.ref a))) := NewIn.change (((g.trans g5).trans g6).trans g7) (by rw [hc2]; exact nofun)
    refine next_of (law_end e0 hp hN he gA upd_self (upd_keep upd_self hc7 nofun) ?_ fun H' gz => k H' (gz _ _ (upd_keep (g7 _ _ (g6 _ _ (g5 _ _ hs))) hc7 hob)))
    exact (hacc.grow g7).mono fun v p ⟨t, e, h⟩ => ⟨t, e, upd_keep h hc7 nofun⟩

/-- the message read -/
theorem law_read (e0 : E0 K) (ok : cellsOk K d_read_part = true) {D : List UInt8} {c : Addr} {o0 o1 o3 o4 : Option AV} (hD : D.length ≤ 16777000) (hs : LS D 0) (hc : H c = some .ucell) {s : Addr} {ob : AO} (hso : H s = some ob) (hob : ob ≠ .ucell) (k : ∀ H', H' s = some ob → Q (.bool true) H') :
    vcS w K 142 (tlS (tlS (tlS b_law))) ⟨[o0, o1, some (.bytes D), o3, o4, none], [c]⟩ H fun fl _ H' => Q fl.val H' := by
  have hD' : D.length ≤ 16777216 := Nat.le_trans hD (by decide)
  refine ⟨rfl, read_message_ok e0 ok hD hs fun H3 x L g3 hp => ?_⟩
  obtain ⟨x', d, kvs, hx, h1, h2, h3, h4⟩ := hp.ends
  cases hx
  have h1 := NewIn.sub _ _ h1
  have h2 := NewIn.sub _ _ h2
  refine ⟨rfl, _, _, _, _, h1, h2, h3, _, _, _, _, h1, h2, h4, Nat.le_of_ble_eq_true rfl, fun t1 ht1 => ⟨rfl, rfl, hD', Nat.le_of_ble_eq_true rfl, fun t2 ht2 => ?_⟩⟩
  have g4 := (Grow.push (o := .tup [.int (0 : Nat), .int D.length]) ht1).trans (Grow.push (o := .tup [.int 0, .int D.length]) ht2)
  refine .inr (.inl ⟨_, _, [((0 : Nat) : Int), (D.length : Int)], [0, (D.length : Int)], upd_old upd_self ht2, upd_self, rfl, rfl, rfl, ?_⟩)
  refine ⟨fun _ => ?_, fun h => not_no (decide_eq_true rfl) h⟩
  refine ⟨rfl, rfl, hD', rfl, (sound_ok e0 hp hD (NewIn.sub.trans g4) (Nat.le_refl _) (Nat.le_refl _) fun H5 g5 => ⟨nofun, fun _ => ?_⟩).le (by decide)⟩
  exact nilS_of (next_of (law_leaves e0 hp (by decide) hD (g4.trans g5) hc ((g3.trans (g4.trans g5)) _ _ hc) ((g3.trans (g4.trans g5)) _ _ hso) hob k))

theorem law_ok (e0 : E0 K) (ok : cellsOk K d_read_part = true) (ok2 : cellsOk K d_law = true) {s : Addr} {ob : Obj} {ns : List Int} (hs : H s = some (.fix ob (ns.map .int))) (hl : ns.length ≤ 16777216) (k : ∀ H', H' s = some (.fix ob (ns.map .int)) → Q (.bool true) H') : CodeAt w K 144 636 [.ref s] H Q := by
  refine cells_of e0.KF ok2 (n := 142) (vs := [.ref s]) (ls := [some (.ref s), none, none, none, none, none]) (cl := [none]) rfl ?_ rfl ?_ ?_ fun cs hcl hcn hcf => ?_
  · intro i x v h1 h2
    match i, h1, h2 with
    | 0, h1, h2 => exact ⟨0, h1, Option.some.inj h2 ▸ rfl⟩
    | 1, _, h2 => cases h2
    | 2, _, h2 => cases h2
    | 3, _, h2 => cases h2
    | 4, _, h2 => cases h2
    | 5, _, h2 => cases h2
  · intro i x v h1 h2
    match i, h1, h2 with
    | 0, _, h2 => cases h2
  · intro i x h1 h2
    match i, h1, h2 with
    | 0, h1, _ => cases h1; decide +kernel
  obtain ⟨c, rfl⟩ : ∃ c, cs = [c] := by
    match cs, hcl with
    | [c], _ => exact ⟨c, rfl⟩
  have hf := hcf c List.mem_cons_self
  have hc : layCells H [c] [none] c = some .ucell := upd_self
  have hs0 : layCells H [c] [none] s = some (.fix ob (ns.map .int)) := upd_old hs hf
  generalize layCells H [c] [none] = H0 at hc hs0 ⊢
  have hsl : sl (ns.map AV.int) none (some 40) = (ns.take 40).map AV.int := by
    show ((ns.map AV.int).drop 0).take 40 = _
    rw [List.drop_zero, List.map_take]
  have l40 : (ns.take 40).length ≤ 40 := by rw [List.length_take]; omega
  have l40' : ((ns.take 40).map AV.int).length ≤ 16777216 := by rw [List.length_map]; omega
  have fin : ∀ H1 c0 cs0 t, Grow H0 H1 → cs0 ≠ [] → cs0.length ≤ 40 → H1 c0 = some (.list (cs0.map .int)) → H1 t = none → vcS w K 142 (tlS b_law) ⟨[some (.ref s), some (.ref t), none, none, none, none], [c]⟩ (upd H1 t (.list [.ref c0, .int 0])) fun fl _ H' => Q fl.val H' := by
    intro H1 c0 cs0 t g h0 h40 hc0 ht
    have g1 := Grow.push (o := .list [.ref c0, .int 0]) ht
    refine law_draws e0 (g.trans g1) ⟨.inl upd_self, g1 _ _ hc0⟩ h0 h40 (g.back ht) fun H2 ls o3 o4 g2 h12 h17 => ?_
    have fl := flat_len h12
    exact law_read e0 ok (by omega) (flat_LS h12) (g2 _ _ hc) (g2 _ _ hs0) nofun k
  refine ⟨by decide, _, .inr ⟨ob, hs0⟩, by rw [List.length_map]; exact hl, fun b1 hb1 => ?_⟩
  rw [hsl]
  refine ⟨rfl, _, upd_self, l40', fun b2 hb2 => ⟨_, upd_self, l40', fun h => ?_, fun h => ?_⟩⟩
  · refine ⟨Nat.le_of_ble_eq_true rfl, fun b3 hb3 => ⟨Nat.le_of_ble_eq_true rfl, fun t ht => asg_loc (next_of (fin _ b3 [0] t (((Grow.push hb1).trans (Grow.push hb2)).trans (Grow.push hb3)) nofun (by decide) upd_self ht))⟩⟩
  · have hne : ns.take 40 ≠ [] := by
      intro q
      rw [q] at h; cases h
    exact ⟨Nat.le_of_ble_eq_true rfl, fun t ht => asg_loc (next_of (fin _ b2 (ns.take 40) t ((Grow.push hb1).trans (Grow.push hb2)) hne l40 upd_self ht))⟩
end
end
end Mine
namespace Mine
noncomputable section

noncomputable def rvB (v : AV) : Value → Bool
  | .none => (match v with | .none => true | _ => false)
  | .bool c => (match v with | .bool b => b == c | _ => false)
  | .int j _ => (match v with | .int i => decide (i = j) | _ => false)
  | .str x _ => (match v with | .str l => decide (x.cps.toList = l) | _ => false)
  | .bytes x _ => (match v with | .bytes l => decide (x.toList = l) | _ => false)
  | .ref b => (match v with | .ref a => decide (a = b) | .con c => decide (b = c.addr) | _ => false)
  | _ => false
theorem rvB_ok {v : AV} {u : Value} (h : rvB v u = true) : RV v u := by
  cases u <;> first | cases h | skip
  all_goals (cases v <;> first | cases h | skip)
  · rfl
  · exact congrArg _ (beq_iff_eq.1 h).symm
  · exact ⟨_, by rw [of_decide_eq_true (p := _ = _) h]⟩
  · rename_i x t l
    exact ⟨t, congrArg (Value.str · t) (str_of (of_decide_eq_true h))⟩
  · rename_i x t l
    exact ⟨t, congrArg (Value.bytes · t) (by rw [← of_decide_eq_true (p := _ = _) h])⟩
  · exact congrArg Value.ref (of_decide_eq_true h).symm
  · exact congrArg Value.ref (of_decide_eq_true h)
noncomputable def rvsB : List AV → List Value → Bool
  | [], [] => true
  | a :: as, v :: vs => rvB a v && rvsB as vs
  | _, _ => false
theorem rvsB_ok : ∀ {as : List AV} {vs : List Value}, rvsB as vs = true → RVs as vs
  | [], [], _ => trivial
  | _ :: _, _ :: _, h => let ⟨a, b⟩ := Bool.and_eq_true_iff.1 h; ⟨rvB_ok a, rvsB_ok b⟩
  | [], _ :: _, h => by cases h
  | _ :: _, [], h => by cases h

/-! what the text's own objects must be, by evaluation -/
noncomputable def notList (K : Frag) : Bool := K.all fun p => p.2.cls != .type "list"
noncomputable def globE (es : Array DictEntry) (p : Str × AV) : Bool := match p.2 with
  | .fn _ => (nsFind es p.1).isNone
  | v => (match nsFind es p.1 with
    | some u => rvB v u
    | none => false)
noncomputable def globB (K : Frag) : Bool := match K.lookup mainGlobals with
  | some ⟨_, _, .dict es _, _⟩ => gtab.all (globE es) && nsFind es (Str.ofString "law") == some (.ref 636)
  | _ => false
noncomputable def conE (K : Frag) (c : Con) : Bool := match K.lookup c.addr with
  | some ⟨cl, none, .seq vs _, sl⟩ => cl == .type "tuple" && sl.isEmpty && rvsB c.items vs.toList
  | _ => false
noncomputable def conB (K : Frag) : Bool := [Con.whiteH, .charsets, .never, .whiteP, .openE, .lines].all (conE K)
noncomputable def methTab : List (Addr × Mt × Addr) := [(162, .word, 152), (103, .isDone, 43), (103, .peek, 51), (103, .take, 58), (103, .starts, 65), (103, .skip, 72), (413, .isMulti, 396), (413, .isLetter, 403)]
noncomputable def methE (K : Frag) (x : Addr × Mt × Addr) : Bool := findIn K (.ref x.1) x.2.1.str == some (some (.ref x.2.2)) && isFn K (.ref x.2.2) && keepIn K (.ref x.2.2) && plainGet K x.1 x.2.1.str
noncomputable def keepE (K : Frag) (p : Str × AV) : Bool := match p.2 with
  | .ref a => keepIn K (.ref a)
  | _ => true
noncomputable def clsE (K : Frag) (x : Addr × Addr) : Bool := makesIn K x.1 && findIn K (.ref x.1) "__init__" == some (some (.ref x.2)) && typeIn K (.ref x.2) == some (.type "function")
structure KOk (K : Frag) : Prop where
  cls : [103, 162, 413, 555].all (clsOk K) = true
  keep : gtab.all (keepE K) = true
  meth : methTab.all (methE K) = true
  tab : plainDefs.all (defOk K) = true
  made : [(103, 36), (162, 147), (413, 382), (555, 545)].all (clsE K) = true
  part : cellsOk K d_read_part = true
  law : cellsOk K d_law = true
  glob : globB K = true
  con : conB K = true
  nl : notList K = true

section
variable {K : Frag}
theorem KOk.kf (k : KOk K) : KFacts K where
  cls := fun c h => by
    have hm : c ∈ [103, 162, 413, 555] := by
      unfold isCls at h
      simp only [Bool.or_eq_true, beq_iff_eq] at h
      rcases h with ((rfl | rfl) | rfl) | rfl <;> simp
    exact List.all_eq_true.1 k.cls c hm
  keep := fun a h => by
    unfold calleeOk at h
    obtain ⟨p, hp, e⟩ := List.any_eq_true.1 h
    have := List.all_eq_true.1 k.keep p hp
    unfold keepE at this
    rw [beq_iff_eq.1 e] at this
    exact this
  meth := fun c m f h => by
    have hm : (c, m, f) ∈ methTab := by
      have key : ∀ {C F : Addr}, (if c = C then some F else none) = some f → c = C ∧ f = F := fun {C F} q => by
        by_cases hc : c = C
        · rw [if_pos hc] at q; cases q; exact ⟨hc, rfl⟩
        · rw [if_neg hc] at q; cases q
      cases m <;> first | cases h | (obtain ⟨rfl, rfl⟩ := key h; first | exact List.mem_of_getElem? (i := 0) rfl | exact List.mem_of_getElem? (i := 1) rfl | exact List.mem_of_getElem? (i := 2) rfl | exact List.mem_of_getElem? (i := 3) rfl | exact List.mem_of_getElem? (i := 4) rfl | exact List.mem_of_getElem? (i := 5) rfl | exact List.mem_of_getElem? (i := 6) rfl | exact List.mem_of_getElem? (i := 7) rfl)
    have := List.all_eq_true.1 k.meth _ hm
    unfold methE at this
    simp only [Bool.and_eq_true] at this
    exact ⟨beq_iff_eq.1 this.1.1.1, this.1.1.2, this.1.2, this.2⟩
theorem clsE_inv {x : Addr × Addr} (h : clsE K x = true) : makesIn K x.1 = true ∧ findIn K (.ref x.1) "__init__" = some (some (.ref x.2)) ∧ typeIn K (.ref x.2) = some (.type "function") := by
  unfold clsE at h
  simp only [Bool.and_eq_true] at h
  exact ⟨h.1.1, beq_iff_eq.1 h.1.2, beq_iff_eq.1 h.2⟩
theorem KOk.e0 (k : KOk K) : E0 K where
  KF := k.kf
  tab := k.tab
  cls := fun C fi h => by
    have hm : (C, fi) ∈ [(103, 36), (162, 147), (413, 382), (555, 545)] ∧ isCls C = true := by
      unfold initOf at h
      split at h <;> cases h <;> exact ⟨by simp, rfl⟩
    obtain ⟨a, b, c⟩ := clsE_inv (List.all_eq_true.1 k.made _ hm.1)
    exact ⟨hm.2, a, b, c⟩
  part := clsE_inv (List.all_eq_true.1 k.made (555, 545) (by simp))

theorem gets {h : Heap} {l : Addr} {o : Obj} (hl : h.get? l = some o) {a : Addr} {o' : Obj} (e : h.get? a = some o') (n : o' ≠ o) : (hideAll h [l]).get? a = some o' :=
  hideAll_get _ e fun m => by rw [List.mem_singleton] at m; subst m; rw [hl] at e; cases e; exact n rfl
theorem nsHide {h : Heap} {l : Addr} {o : Obj} {vs : Array Value} {n : Nat} (hl : h.get? l = some o) (hd : o.data = .seq vs n) {a : Addr} {m : Str → Option Value} (x : h.Ns a m) : (hideAll h [l]).Ns a m := by
  obtain ⟨o', es, ep, e, q, r⟩ := x
  exact ⟨o', es, ep, gets hl e (by rintro rfl; rw [hd] at q; cases q), q, r⟩
/-- the ground, the script's list hidden -/
theorem KOk.gr (k : KOk K) {h : Heap} (X : K.In h) {mg mb : Str → Option Value} (nl : h.NoLimit) (hg : h.Ns mainGlobals mg) (hb : h.Ns builtinsNs mb) (hbb : ∀ x : Str, x ≠ "__name__" → mb x = bootBuiltins x) {l : Addr} {o : Obj} {vs : Array Value} {n : Nat}
    (hl : h.get? l = some o) (hc : o.cls = .type "list") (hd : o.data = .seq vs n) : Gr K (hideAll h [l]) where
  inK := fun a o' e => gets hl (X a o' e) (by
    rintro rfl
    have := List.all_eq_true.1 k.nl _ (mem_of_lookup e)
    rw [hc] at this
    cases this)
  nl := let ⟨mc, a, b⟩ := nl; ⟨mc, nsHide hl hd a, b⟩
  glob := ⟨mg, nsHide hl hd hg, fun x v hx => by
    obtain ⟨o', es, ep, e1, e2, _, e3⟩ := hg
    have g := k.glob
    unfold globB at g
    split at g
    · rename_i q1 q2 es' q3 q4 hlk
      have e4 := X _ _ hlk
      rw [e1] at e4; cases e4
      cases e2
      obtain ⟨g1, _⟩ := Bool.and_eq_true_iff.1 g
      have g2 := List.all_eq_true.1 g1 _ (mem_of_lookup hx)
      unfold globE at g2
      rw [← e3 x]
      cases v <;> first
        | exact Option.isNone_iff_eq_none.1 g2
        | (dsimp only at g2 ⊢; split at g2 <;> first | cases g2 | exact ⟨_, by assumption, rvB_ok g2⟩)
    · cases g⟩
  blt := ⟨mb, nsHide hl hd hb, hbb⟩
  con := fun c => by
    have hm : c ∈ [Con.whiteH, .charsets, .never, .whiteP, .openE, .lines] := by cases c <;> simp
    have g := List.all_eq_true.1 k.con c hm
    unfold conE at g
    split at g
    · rename_i cl vs' n' sl' hlk
      simp only [Bool.and_eq_true] at g
      obtain ⟨⟨g1, g2⟩, g3⟩ := g
      have e1 := beq_iff_eq.1 g1
      subst e1
      have e2 : sl' = #[] := Array.isEmpty_iff.1 g2
      subst e2
      refine ⟨vs', n', gets hl (X _ _ hlk) ?_, rvsB_ok g3⟩
      rintro rfl
      exact absurd (Value.type.inj hc) (by decide)
    · cases g
theorem KOk.lawAt (k : KOk K) {h : Heap} (X : K.In h) {mg : Str → Option Value} (hg : h.Ns mainGlobals mg) : mg (Str.ofString "law") = some (.ref 636) := by
  obtain ⟨o', es, ep, e1, e2, _, e3⟩ := hg
  have g := k.glob
  unfold globB at g
  split at g
  · rename_i q1 q2 es' q3 q4 hlk
    have e4 := X _ _ hlk
    rw [e1] at e4; cases e4
    cases e2
    obtain ⟨_, g1⟩ := Bool.and_eq_true_iff.1 g
    rw [← e3]
    exact beq_iff_eq.1 g1
  · cases g
end
theorem ints_RV {vs : List Value} {ns : List Int} (h : PyProof.Rows.IntsAre vs ns) : RVs (ns.map .int) vs := by
  induction h with
  | nil => trivial
  | cons => exact ⟨⟨_, rfl⟩, by assumption⟩
end
end Mine
namespace Mine
noncomputable section
/-- law, called from the top -/
theorem law_top {w : World} {K : Frag} (k : KOk K) {s : Shared} (X : K.In s.heap) {mg mb : Str → Option Value} (nl : s.heap.NoLimit) (hg : s.heap.Ns mainGlobals mg) (hb : s.heap.Ns builtinsNs mb) (hbb : ∀ x : Str, x ≠ "__name__" → mb x = bootBuiltins x)
    {l : Addr} {vs : List Value} {ns : List Int} (hl : s.heap.IsList l vs.toArray) (hi : IntsAre vs ns) (h63 : ns.length ≤ 63) {Q : Value → Shared → Prop} {E : Value → Shared → Prop}
    (q : ∀ s' : Shared, (∀ b o, s.heap.get? b = some o → s'.heap.get? b = some o) → s'.os = s.os → s'.gens = s.gens → Q (.bool true) s') : wpAny (model pw w) callerA (PySem.call (.ref 636) [.ref l]) Q E s := by
  obtain ⟨o, ho, hc, n, hd⟩ := hl
  let H : AHeap := fun a => if a = l then some (.fix o (ns.map .int)) else none
  have hH : H l = some (.fix o (ns.map .int)) := if_pos rfl
  have hHn : ∀ a, H a ≠ none → a = l := fun a h => Decidable.by_contra fun q => h (if_neg q)
  have R : RepH w s.heap H := ⟨fun a o' e => by
    obtain rfl := hHn a (by rw [e]; exact nofun)
    rw [hH] at e; cases e
    exact ⟨o, ho, rfl, hc, vs.toArray, n, hd, ints_RV hi⟩⟩
  have G := k.gr X nl hg hb hbb ho hc hd
  have hsub : ∀ b o', (hideAll s.heap [l]).get? b = some o' → s.heap.get? b = some o' := fun b o' e => of_hideAll _ e
  have key := law_ok (w := w) k.e0 k.part k.law (Q := fun v H' => v = .bool true ∧ H' l = some (.fix o (ns.map .int))) hH (by omega) (fun H' h => ⟨rfl, h⟩)
    callerA (hideAll s.heap [l]) (hideAll s.heap [l]) [] s [.ref l] (below_caller _) G hsub (Nat.le_of_eq (hideAll_size _ _)) (fun a ha => by rw [hHn a ha]; exact hideAll_none _ List.mem_cons_self) rfl
    (by decide +kernel) (by decide +kernel) R ⟨rfl, trivial⟩
  refine wpAny_call (codeAny_mono key fun res s' p => ?_)
  unfold Back at p
  split at p
  · obtain ⟨b, H', h', tk, rfl, S, r, rfl, hq⟩ := p
    obtain rfl : _ = Value.bool true := r
    refine q _ (fun b o' e => ?_) rfl rfl
    by_cases hbl : b = l
    · subst hbl
      obtain ⟨ob, e1, rfl, _⟩ := S.rep.get _ _ hq
      rw [ho] at e; cases e
      exact e1
    · exact S.keep b o' e (if_neg hbl)
  · exact p.elim

theorem walk_any {q : Program} {loose : List Str} {XP : (Str → Option Value) → Heap → Prop} {K : Params → Frag} {as : List Addr} {e : ∀ P, as = (K P).map (·.1)} (kok : ∀ P, KOk (K P)) {d : DefRec} (hn : d.name = Str.ofString "law") :
  WalkO q loose XP (kHook K as e).says Challenge.rw_or0069_01.row.toRowW d [] (fun f vs => PySem.call f vs) := by
  intro w s₀ s₁ mg mb G Y fa o pm cd doc dV kV ho hd hcd hD hmg hg args vals as hpre hlay hrd hwl hlo
  have KX := kIn_of Y
  have T := G.T
  rw [hn, (kok w.params).lawAt KX T.g] at hmg
  cases hmg
  clear ho hd hcd hD G Y
  wrow_args hpre hlay hrd hwl hlo
  rename_i h63 _
  refine law_top (kok w.params) KX T.nolimit T.g T.b T.builtins (by assumption) (by assumption) (by omega) fun s' k o' g => ?_
  refine GoodW.toG ⟨.inl ⟨_, .bool true, [], rfl, fun _ => rfl, .bool true, ?_, fun _ => ⟨List.nodup_nil, nofun⟩⟩, k, o', g.trans hg⟩
  first | wrow_post | kernel_rfl | decide +kernel | (refine (postW_of (by wrow_shape) (by wtm_val) (by str_meet; first | done | w_fin)))
end
end Mine
theorem Mine.head.tw3746228215898030841 : True := trivial
theorem Mine.head.tw11925700103697007601 : True := trivial
theorem Mine.head.tw2326617092838664518 : True := trivial
theorem Mine.head.tw9065935926736091543 : True := trivial
theorem Mine.head.tw8912104118211102971 : True := trivial
theorem Mine.head.tw18433677622606106133 : True := trivial
theorem Mine.head.tw7161073391023584161 : True := trivial
theorem Mine.head.tw2298694737197419510 : True := trivial
theorem Mine.head.tw13508044439285423174 : True := trivial
theorem Mine.head.tw3821945547825155762 : True := trivial
theorem Mine.head.tw4839655697589452165 : True := trivial
theorem Mine.head.tw10988817232074504935 : True := trivial
theorem Mine.head.tw12074249297620881909 : True := trivial
theorem Mine.head.tw11582096051123008839 : True := trivial
theorem Mine.head.tw15436542981012472205 : True := trivial
theorem Mine.head.tw9024298083193336922 : True := trivial
theorem Mine.head.tw6489421142724028100 : True := trivial
theorem Mine.head.tw14882813523228863612 : True := trivial
theorem Mine.head.tw12604462930493870256 : True := trivial
theorem Mine.head.tw5501060405047882677 : True := trivial
theorem Mine.head.tw6211381574409162282 : True := trivial
theorem Mine.head.tw9062998866958442273 : True := trivial
theorem Mine.head.tw16572314662081343053 : True := trivial
theorem Mine.head.tw12611893724949602041 : True := trivial
theorem Mine.head.tw11821203517306503961 : True := trivial
theorem Mine.head.tw13246386896891170512 : True := trivial
theorem Mine.head.tw6085824867444503733 : True := trivial
theorem Mine.head.tw14744981736328886265 : True := trivial
theorem Mine.head.tw17212568112599259466 : True := trivial
theorem Mine.head.tw5019597260055213698 : True := trivial
theorem Mine.head.tw45052839361067614 : True := trivial
theorem Mine.head.tw14720509044617813951 : True := trivial
theorem Mine.head.tw4163069186122357367 : True := trivial
theorem Mine.head.tw2728595385866086531 : True := trivial
theorem Mine.head.tw11290360913936777911 : True := trivial
theorem Mine.head.tw15895551434495452948 : True := trivial
theorem Mine.head.tw4764554697811233 : True := trivial
theorem Mine.head.tw13337238644230332656 : True := trivial
theorem Mine.head.tw6053349399257934933 : True := trivial
theorem Mine.head.tw9388430590476628193 : True := trivial
theorem Mine.head.tw17297054508065495485 : True := trivial
theorem Mine.head.tw10258521583956687137 : True := trivial
theorem Mine.head.tw16800043278716471037 : True := trivial
theorem Mine.head.tw10079960370226730655 : True := trivial
theorem Mine.head.tw2973143901146584636 : True := trivial
theorem Mine.head.tw17015032458148788900 : True := trivial
theorem Mine.head.tw1608297297296620843 : True := trivial
theorem Mine.head.tw12478146576626367362 : True := trivial
theorem Mine.head.tw820421773197932041 : True := trivial
theorem Mine.head.tw2355103038987944067 : True := trivial
theorem Mine.head.tw13585267454733459922 : True := trivial
theorem Mine.head.tw15840312062823119879 : True := trivial
theorem Mine.head.tw3980653432952411973 : True := trivial
theorem Mine.head.tw17173245716831642929 : True := trivial
theorem Mine.head.tw4964814941381164201 : True := trivial
theorem Mine.head.tw10431609616501453582 : True := trivial
theorem Mine.head.tw6099028997845504075 : True := trivial
theorem Mine.head.tw18364922244981856966 : True := trivial
theorem Mine.head.tw8812732774380208333 : True := trivial
theorem Mine.head.tw8535708456716222715 : True := trivial
theorem Mine.head.tw6237802210402583469 : True := trivial
theorem Mine.head.tw4528443807372415038 : True := trivial
theorem Mine.head.tw6053997905714604814 : True := trivial
theorem Mine.head.tw14843749296085226474 : True := trivial
theorem Mine.head.tw6161856959107265637 : True := trivial
theorem Mine.head.tw11923155195566972133 : True := trivial
theorem Mine.head.tw14149427978524627653 : True := trivial
theorem Mine.head.tw17836260108008149386 : True := trivial
theorem Mine.head.tw16576625349610184965 : True := trivial
theorem Mine.head.tw8773635112355824046 : True := trivial
theorem Mine.head.tw8874674299285249911 : True := trivial
theorem Mine.head.tw14857608947800436607 : True := trivial
theorem Mine.head.tw16817119741492734445 : True := trivial
theorem Mine.head.tw11081218982966106116 : True := trivial
theorem Mine.head.tw8758324158161630591 : True := trivial
theorem Mine.head.tw14195316510222423288 : True := trivial
theorem Mine.head.tw438499357184305647 : True := trivial
theorem Mine.head.tw3304075619188804072 : True := trivial
theorem Mine.head.tw69809265629811306 : True := trivial
theorem Mine.head.tw6402496994288996404 : True := trivial
theorem Mine.head.tw5792407227767346561 : True := trivial
theorem Mine.head.tw8101760021730824546 : True := trivial
theorem Mine.head.tw12398312691204496596 : True := trivial
theorem Mine.head.tw6088685845774392931 : True := trivial
theorem Mine.head.tw11105056867450500199 : True := trivial
theorem Mine.head.tw11434997419882176723 : True := trivial
theorem Mine.head.tw4709128311485490483 : True := trivial
theorem Mine.head.tw13743032657059413451 : True := trivial
theorem Mine.head.tw17453365369857097546 : True := trivial
theorem Mine.head.tw1503407388533364548 : True := trivial
theorem Mine.head.tw15894371620910866019 : True := trivial
theorem Mine.head.tw4857777746444614323 : True := trivial
theorem Mine.head.tw9592777112578238593 : True := trivial
theorem Mine.head.tw15798066900824788120 : True := trivial
theorem Mine.head.tw649443455394278489 : True := trivial
theorem Mine.head.tw15539854500240908086 : True := trivial
theorem Mine.head.tw15510365090734361527 : True := trivial
theorem Mine.head.tw15895748673760503845 : True := trivial
theorem Mine.head.tw12310735299239354703 : True := trivial
theorem Mine.head.tw16966009324859112401 : True := trivial
theorem Mine.head.tw2428695696106030784 : True := trivial
theorem Mine.head.tw1992862871153497056 : True := trivial
theorem Mine.head.tw1082313596108445148 : True := trivial
theorem Mine.head.tw8534208459206503383 : True := trivial
theorem Mine.head.tw14112051064653734678 : True := trivial
theorem Mine.head.tw48543519692965452 : True := trivial
theorem Mine.head.tw4554283584077286953 : True := trivial
theorem Mine.head.tw10270352894671993868 : True := trivial
theorem Mine.head.tw5737951250597237232 : True := trivial
theorem Mine.head.tw3501597964444990463 : True := trivial
theorem Mine.head.tw4972248218790579157 : True := trivial
theorem Mine.head.tw10668533816033670360 : True := trivial
theorem Mine.head.tw12362083183470981646 : True := trivial
theorem Mine.head.tw1793058504365772063 : True := trivial
theorem Mine.head.tw16769997242578385675 : True := trivial
theorem Mine.head.tw7148437315225170067 : True := trivial
theorem Mine.head.tw6871339299614917876 : True := trivial
theorem Mine.head.tw1457377512435260902 : True := trivial
theorem Mine.head.tw3690969761935527329 : True := trivial
theorem Mine.head.tw5723944856813171866 : True := trivial
theorem Mine.head.tw12024539317367501503 : True := trivial
theorem Mine.head.tw12207028300977255130 : True := trivial
theorem Mine.head.tw11063524718261073790 : True := trivial
theorem Mine.head.tw3986194592780655508 : True := trivial
theorem Mine.head.tw1315816938146588887 : True := trivial
theorem Mine.head.tw13002585709282622103 : True := trivial
theorem Mine.head.tw9684033903571663316 : True := trivial
theorem Mine.head.tw12892129938458570674 : True := trivial
theorem Mine.head.tw8169693465737517768 : True := trivial
theorem Mine.head.tw8182079617134344778 : True := trivial
theorem Mine.head.tw3160712208675142370 : True := trivial
theorem Mine.head.tw12460202669355646752 : True := trivial
theorem Mine.head.tw16128420640991077102 : True := trivial
theorem Mine.head.tw6327039764776113722 : True := trivial
theorem Mine.head.tw7802898811600756450 : True := trivial
theorem Mine.head.tw5944575059761466720 : True := trivial
theorem Mine.head.tw8451290768687142514 : True := trivial
theorem Mine.head.tw15091486752826498866 : True := trivial
theorem Mine.head.tw5344820902596183494 : True := trivial
theorem Mine.head.tw15735434631967450740 : True := trivial
theorem Mine.head.tw13137911371727378231 : True := trivial
theorem Mine.head.tw9407594320385231609 : True := trivial
theorem Mine.head.tw11485113708198979986 : True := trivial
theorem Mine.head.tw9827913525700040407 : True := trivial
theorem Mine.head.tw5986637957666399235 : True := trivial
theorem Mine.head.tw14628233357713752721 : True := trivial
theorem Mine.head.tw3368474557548986910 : True := trivial
theorem Mine.head.tw9658139154387788515 : True := trivial
theorem Mine.head.tw17197444120159719569 : True := trivial
theorem Mine.head.tw8603420104599213669 : True := trivial
theorem Mine.head.tw5617373736292572815 : True := trivial
theorem Mine.head.tw11308087075614649832 : True := trivial
theorem Mine.head.tw9978949632667528635 : True := trivial
theorem Mine.head.tw9162278640276766204 : True := trivial
theorem Mine.head.tw4473611206160876864 : True := trivial
theorem Mine.head.tw7494366503370351645 : True := trivial
theorem Mine.head.tw6846597200999610202 : True := trivial
theorem Mine.head.tw14139502460874162764 : True := trivial
theorem Mine.head.tw7748693106545578708 : True := trivial
theorem Mine.head.tw6857060684267632606 : True := trivial
theorem Mine.head.tw13276723143375012678 : True := trivial
theorem Mine.head.tw13600378441667735501 : True := trivial
theorem Mine.head.tw11988142204041823098 : True := trivial
theorem Mine.head.tw17674571679781333832 : True := trivial
theorem Mine.head.tw12858780395421280599 : True := trivial
theorem Mine.head.tw12704426703380559182 : True := trivial
theorem Mine.head.tw5599997604879368025 : True := trivial
theorem Mine.head.tw1929634836878124385 : True := trivial
theorem Mine.head.tw8264559056461403633 : True := trivial
theorem Mine.head.tw16065720564569863766 : True := trivial
theorem Mine.head.tw5788964047882338313 : True := trivial
theorem Mine.head.tw7994106446794305319 : True := trivial
theorem Mine.head.tw14877080517539528568 : True := trivial
theorem Mine.head.tw14028522991509751376 : True := trivial
theorem Mine.head.tw1172538174109094731 : True := trivial
theorem Mine.head.tw2506711637615833298 : True := trivial
theorem Mine.head.tw15148963937461231693 : True := trivial
theorem Mine.head.tw14676189674455941282 : True := trivial
theorem Mine.head.tw8035625575855466936 : True := trivial
theorem Mine.head.tw15647610678857825673 : True := trivial
theorem Mine.head.tw2545145822199252752 : True := trivial
theorem Mine.head.tw12359489953124434286 : True := trivial
theorem Mine.head.tw17002534310236347988 : True := trivial
theorem Mine.head.tw12475708393154427166 : True := trivial
theorem Mine.head.tw527386997569798941 : True := trivial
theorem Mine.head.tw6202090305015876224 : True := trivial
theorem Mine.head.tw12410493102040409395 : True := trivial
theorem Mine.head.tw17093656651364094606 : True := trivial
theorem Mine.head.tw13295774097974887486 : True := trivial
theorem Mine.head.tw2418714467272084401 : True := trivial
theorem Mine.head.tw174166394780034911 : True := trivial
theorem Mine.head.tw10467814448475477596 : True := trivial
theorem Mine.head.tw13537664574400122534 : True := trivial
theorem Mine.head.tw13478637309914159250 : True := trivial
theorem Mine.head.tw7680146299302783591 : True := trivial
theorem Mine.head.tw4160124254940468481 : True := trivial
theorem Mine.head.tw4975070653579243887 : True := trivial
theorem Mine.head.tw17113217626458354986 : True := trivial
theorem Mine.head.tw13955048751076855992 : True := trivial
theorem Mine.head.tw17782148633632673465 : True := trivial
theorem Mine.head.tw18384547517478447814 : True := trivial
theorem Mine.head.tw10812213935944405949 : True := trivial
theorem Mine.head.tw14969872817325187116 : True := trivial
theorem Mine.head.tw14364637388885140079 : True := trivial
theorem Mine.head.tw6588589085864783938 : True := trivial
theorem Mine.head.tw1618804561499322139 : True := trivial
theorem Mine.head.tw8997269238129315039 : True := trivial
theorem Mine.head.tw532055438628499158 : True := trivial
theorem Mine.head.tw11005904730967762025 : True := trivial
theorem Mine.head.tw16474958459275807246 : True := trivial
theorem Mine.head.tw8569104457590258164 : True := trivial
theorem Mine.head.tw17275705279478898512 : True := trivial
theorem Mine.head.tw9082462177598256812 : True := trivial
theorem Mine.head.tw3453547403478019728 : True := trivial
theorem Mine.head.tw1211024037004892549 : True := trivial
theorem Mine.head.tw10519217271611395807 : True := trivial
theorem Mine.head.tw940147379719373870 : True := trivial
theorem Mine.head.tw300626226527484142 : True := trivial
theorem Mine.head.tw262713603470380999 : True := trivial
theorem Mine.head.tw6507506987150044280 : True := trivial
theorem Mine.head.tw12903917746401883607 : True := trivial
theorem Mine.head.tw976808484645153763 : True := trivial
theorem Mine.head.tw9820158181544301314 : True := trivial
theorem Mine.head.tw2237326684586592538 : True := trivial
theorem Mine.head.tw12330954535739239725 : True := trivial
theorem Mine.head.tw17411354535832351560 : True := trivial
theorem Mine.head.tw5688692510623914784 : True := trivial
theorem Mine.head.tw10205530081349824492 : True := trivial
theorem Mine.head.tw2041665463815926760 : True := trivial
theorem Mine.head.tw9030979908501067730 : True := trivial
theorem Mine.head.tw1665017035384295647 : True := trivial
theorem Mine.head.tw533756555076263647 : True := trivial
theorem Mine.head.tw17577399041416155939 : True := trivial
theorem Mine.head.tw2907111362388958804 : True := trivial
theorem Mine.head.tw13637325136056909300 : True := trivial
theorem Mine.head.tw7906546307943345882 : True := trivial
theorem Mine.head.tw315434073420411817 : True := trivial
theorem Mine.head.tw1687793838685487538 : True := trivial
theorem Mine.head.tw12987040726578829979 : True := trivial
theorem Mine.head.tw9103479521544129834 : True := trivial
theorem Mine.head.tw14205479233844494046 : True := trivial
theorem Mine.head.tw13896987355042952010 : True := trivial
theorem Mine.head.tw6100774026682323163 : True := trivial
theorem Mine.head.tw851385035628625539 : True := trivial
theorem Mine.head.tw9114333099845857663 : True := trivial
theorem Mine.head.tw1643771367246577777 : True := trivial
theorem Mine.head.tw14527164170590304321 : True := trivial
theorem Mine.head.tw6079359036626576793 : True := trivial
theorem Mine.head.tw742351954350328859 : True := trivial
theorem Mine.head.tw12695399030622205104 : True := trivial
theorem Mine.head.tw10706776884845955466 : True := trivial
theorem Mine.head.tw4273228799998304602 : True := trivial
theorem Mine.head.tw10840385229135970747 : True := trivial
theorem Mine.head.tw10366927770000222440 : True := trivial
theorem Mine.head.tw1748456618969930982 : True := trivial
theorem Mine.head.tw7658410731251134818 : True := trivial
theorem Mine.head.tw5506250874072839755 : True := trivial
theorem Mine.head.tw10730805705081004914 : True := trivial
theorem Mine.head.tw1852205218256702202 : True := trivial
theorem Mine.head.tw18332285231265401824 : True := trivial
theorem Mine.head.tw10533634037010066435 : True := trivial
theorem Mine.head.tw18051680202136193954 : True := trivial
theorem Mine.head.tw930087139818521243 : True := trivial
theorem Mine.head.tw10005452208157733855 : True := trivial
theorem Mine.head.tw2441957057352720082 : True := trivial
theorem Mine.head.tw11484797826999851062 : True := trivial
theorem Mine.head.tw1620002657737552111 : True := trivial
theorem Mine.head.tw4433315090154635215 : True := trivial
theorem Mine.head.tw4965378191221513410 : True := trivial
theorem Mine.head.tw15296082917334920728 : True := trivial
theorem Mine.head.tw6207834228037699737 : True := trivial
theorem Mine.head.tw7805308653706644653 : True := trivial
theorem Mine.head.tw733406405333840765 : True := trivial
theorem Mine.head.tw17332727794074296334 : True := trivial
theorem Mine.head.tw17821319399108415887 : True := trivial
theorem Mine.head.tw1832916270232011604 : True := trivial
theorem Mine.head.tw16847831306532103052 : True := trivial
theorem Mine.head.tw11426403942048686318 : True := trivial
theorem Mine.head.tw11296743742662292762 : True := trivial
theorem Mine.head.tw3631218446707267034 : True := trivial
theorem Mine.head.tw17552560543380974038 : True := trivial
theorem Mine.head.tw11338825007792423415 : True := trivial
theorem Mine.head.tw16984083398119652359 : True := trivial
theorem Mine.head.tw14667470093908496907 : True := trivial
theorem Mine.head.tw3405375401864073989 : True := trivial
theorem Mine.head.tw2154566216772986472 : True := trivial
theorem Mine.head.tw12601080634535202701 : True := trivial
theorem Mine.head.tw14699756766385990792 : True := trivial
theorem Mine.head.tw4543076655600059902 : True := trivial
theorem Mine.head.tw8773370040425892893 : True := trivial
theorem Mine.head.tw3556061257289618393 : True := trivial
theorem Mine.head.tw12870424476946447624 : True := trivial
theorem Mine.head.tw13653928888864918839 : True := trivial
theorem Mine.head.tw4693820183103290663 : True := trivial
theorem Mine.head.tw5906749814970224870 : True := trivial
theorem Mine.head.tw9495540839478616804 : True := trivial
theorem Mine.head.tw3547240966391284428 : True := trivial
theorem Mine.head.tw9142320679590124636 : True := trivial
theorem Mine.head.tw12043669396524033845 : True := trivial
theorem Mine.head.tw9777900189565919194 : True := trivial
theorem Mine.head.tw16908495118613833217 : True := trivial
theorem Mine.head.tw17348764703882912863 : True := trivial
theorem Mine.head.tw44622916816846810 : True := trivial
theorem Mine.head.tw9515422150858430662 : True := trivial
theorem Mine.head.tw2825341998796452840 : True := trivial
theorem Mine.head.tw5346772772824661884 : True := trivial
theorem Mine.head.tw2340069552987342377 : True := trivial
theorem Mine.head.tw8541356943393881859 : True := trivial
theorem Mine.head.tw13198292447841614426 : True := trivial
theorem Mine.head.tw15841401105113185080 : True := trivial
theorem Mine.head.tw16894197260953374720 : True := trivial
theorem Mine.head.tw6110071263904590700 : True := trivial
theorem Mine.head.tw4708111749353345164 : True := trivial
theorem Mine.head.tw9083612298779875492 : True := trivial
theorem Mine.head.tw16458238088162889778 : True := trivial
theorem Mine.head.tw17056219185321658569 : True := trivial
theorem Mine.head.tw3991279037241028524 : True := trivial
theorem Mine.head.tw9702098958229961203 : True := trivial
theorem Mine.head.tw1689142752476645926 : True := trivial
theorem Mine.head.tw8715499118904818895 : True := trivial
theorem Mine.head.tw13294958713779813728 : True := trivial
theorem Mine.head.tw14943480678444902952 : True := trivial
theorem Mine.head.tw12822298378996975857 : True := trivial
theorem Mine.head.tw17486074103640542121 : True := trivial
theorem Mine.head.tw9214367901419015226 : True := trivial
theorem Mine.head.tw2581250870941146908 : True := trivial
theorem Mine.head.tw16714887947964762639 : True := trivial
theorem Mine.head.tw14417885227837004991 : True := trivial
theorem Mine.head.tw11692735721529064706 : True := trivial
theorem Mine.head.tw5038994553942263901 : True := trivial
theorem Mine.head.tw2554682012703037696 : True := trivial
theorem Mine.head.tw7704315382344345624 : True := trivial
theorem Mine.head.tw3500380475922496097 : True := trivial
theorem Mine.head.tw13078646160514809887 : True := trivial
theorem Mine.head.tw9186546921256032858 : True := trivial
theorem Mine.head.tw10021064610941686981 : True := trivial
theorem Mine.head.tw7313386461004707312 : True := trivial
theorem Mine.head.tw5515381820778694223 : True := trivial
theorem Mine.head.tw7277520189549225825 : True := trivial
theorem Mine.head.tw17014734716931888790 : True := trivial
theorem Mine.head.tw10261356005730403935 : True := trivial
theorem Mine.head.tw3088210815446039105 : True := trivial
theorem Mine.head.tw12741294794224977040 : True := trivial
theorem Mine.head.tw17789423225533864492 : True := trivial
theorem Mine.head.tw13906610036690215845 : True := trivial
theorem Mine.head.tw16997897962222511 : True := trivial
theorem Mine.head.tw2350586252961548244 : True := trivial
theorem Mine.head.tw15035418422258542911 : True := trivial
theorem Mine.head.tw1489404036187247834 : True := trivial
theorem Mine.head.tw15735840784391694233 : True := trivial
theorem Mine.head.tw16106133796442146334 : True := trivial
theorem Mine.head.tw6846866878297920324 : True := trivial
theorem Mine.head.tw3696042808614700290 : True := trivial
theorem Mine.head.tw693309671712327132 : True := trivial
theorem Mine.head.tw9353324838224930552 : True := trivial
theorem Mine.head.tw17142359554024780413 : True := trivial
theorem Mine.head.tw5141578139466067413 : True := trivial
theorem Mine.head.tw5764021196749891206 : True := trivial
theorem Mine.head.tw15666658371737129944 : True := trivial
theorem Mine.head.tw1985537357303476512 : True := trivial
theorem Mine.head.tw12740806245664736207 : True := trivial
theorem Mine.head.tw2525317073905713282 : True := trivial
theorem Mine.head.tw13357441389134331599 : True := trivial
theorem Mine.head.tw13605870324054321959 : True := trivial
theorem Mine.head.tw1714602735852981970 : True := trivial
theorem Mine.head.tw17525636777796739105 : True := trivial
theorem Mine.head.tw2876011056497122456 : True := trivial
theorem Mine.head.tw12095829319087573521 : True := trivial
theorem Mine.head.tw9449176361245260279 : True := trivial
theorem Mine.head.tw6684681932595197013 : True := trivial
theorem Mine.head.tw5651425540991249520 : True := trivial
theorem Mine.head.tw10356212845559719233 : True := trivial
theorem Mine.head.tw11770459041652445329 : True := trivial
theorem Mine.head.tw467416434755642258 : True := trivial
theorem Mine.head.tw3581614266968435656 : True := trivial
theorem Mine.head.tw4053978428183960486 : True := trivial
theorem Mine.head.tw12036806697103927126 : True := trivial
theorem Mine.head.tw5331137831679937033 : True := trivial
theorem Mine.head.tw5438144065070405397 : True := trivial
theorem Mine.head.tw4885112425497105109 : True := trivial
theorem Mine.head.tw604627371996746742 : True := trivial
theorem Mine.head.tw3089916443595474862 : True := trivial
theorem Mine.head.tw2096541523181747872 : True := trivial
theorem Mine.head.tw2864405669816312776 : True := trivial
theorem Mine.head.tw13801937863458859944 : True := trivial
theorem Mine.head.tw6298033893332097587 : True := trivial
theorem Mine.head.tw6836605351468522007 : True := trivial
theorem Mine.head.tw14531177953140590962 : True := trivial
theorem Mine.head.tw8402214883040486957 : True := trivial
theorem Mine.head.tw15305915472762889579 : True := trivial
theorem Mine.head.tw17698105195316432488 : True := trivial
theorem Mine.head.tw2994366008111725845 : True := trivial
theorem Mine.head.tw14969385696402013904 : True := trivial
theorem Mine.head.tw7404141018258913797 : True := trivial
theorem Mine.head.tw7599496313472250701 : True := trivial
theorem Mine.head.tw4009957668330374740 : True := trivial
theorem Mine.head.tw5015311536963163689 : True := trivial
theorem Mine.head.tw140066278072042493 : True := trivial
theorem Mine.head.tw5140934472235413692 : True := trivial
theorem Mine.head.tw16111715859725283846 : True := trivial
theorem Mine.head.tw17854896373637125580 : True := trivial
theorem Mine.head.tw5870146547769353613 : True := trivial
theorem Mine.head.tw9746458257258439470 : True := trivial
theorem Mine.head.tw6889739017440866108 : True := trivial
theorem Mine.head.tw4381510469713062047 : True := trivial
theorem Mine.head.tw18176413224385145225 : True := trivial
theorem Mine.head.tw8185714761375850791 : True := trivial
theorem Mine.head.tw8159583801465064534 : True := trivial
theorem Mine.head.tw16903022960794457021 : True := trivial
theorem Mine.head.tw1499353310998574721 : True := trivial
theorem Mine.head.tw2753283235347674219 : True := trivial
theorem Mine.head.tw12205659690895024086 : True := trivial
theorem Mine.head.tw7928285938522686346 : True := trivial
theorem Mine.head.tw4976181008148175253 : True := trivial
theorem Mine.head.tw12865059321931465230 : True := trivial
theorem Mine.head.tw4017301010375394790 : True := trivial
theorem Mine.head.tw10010264046613662565 : True := trivial
theorem Mine.head.tw4834694072379752904 : True := trivial
theorem Mine.head.tw12998212659555988865 : True := trivial
theorem Mine.head.tw15350242876123346281 : True := trivial
theorem Mine.head.tw14061139507663348314 : True := trivial
theorem Mine.head.tw3496171461512900480 : True := trivial
theorem Mine.head.tw2879759524354350568 : True := trivial
theorem Mine.head.tw5096742575497195690 : True := trivial
theorem Mine.head.tw15468718075485040107 : True := trivial
theorem Mine.head.tw4945251732147069371 : True := trivial
theorem Mine.head.tw1224924573807776437 : True := trivial
theorem Mine.head.tw4235852798576303577 : True := trivial
theorem Mine.head.tw1642545813376747948 : True := trivial
theorem Mine.head.tw5629256929840616583 : True := trivial
theorem Mine.head.tw13689084217373910675 : True := trivial
theorem Mine.head.tw15112835437128306455 : True := trivial
theorem Mine.head.tw9325123708862168440 : True := trivial
theorem Mine.head.tw10987702880554017565 : True := trivial
theorem Mine.head.tw6474009502463322548 : True := trivial
theorem Mine.head.tw13295082483830516422 : True := trivial
theorem Mine.head.tw10504981510240967646 : True := trivial
theorem Mine.head.tw7512725033676591148 : True := trivial
theorem Mine.head.tw1062042127530464391 : True := trivial
theorem Mine.head.tw5401097623525119610 : True := trivial
theorem Mine.head.tw3083302935323014018 : True := trivial
theorem Mine.head.tw1858285994304674589 : True := trivial
theorem Mine.head.tw3488962915811487445 : True := trivial
theorem Mine.head.tw6684978435548883818 : True := trivial
theorem Mine.head.tw12201952087667049370 : True := trivial
theorem Mine.head.tw15638870477510070732 : True := trivial
theorem Mine.head.tw17826015225549371706 : True := trivial
theorem Mine.head.tw9280153536138602973 : True := trivial
theorem Mine.head.tw6386553598399442191 : True := trivial
theorem Mine.head.tw2280412012180511131 : True := trivial
theorem Mine.head.tw7789450098604059249 : True := trivial
theorem Mine.head.tw3794523003379204399 : True := trivial
theorem Mine.head.tw8402328212356670530 : True := trivial
theorem Mine.head.tw11628534518673281344 : True := trivial
theorem Mine.head.tw10242447542790323104 : True := trivial
theorem Mine.head.tw12841863872788715202 : True := trivial
theorem Mine.head.tw6521490308693473283 : True := trivial
theorem Mine.head.tw11457916452242354218 : True := trivial
theorem Mine.head.tw6587087628758450585 : True := trivial
theorem Mine.head.tw8796753266530204203 : True := trivial
theorem Mine.head.tw6212921109956642855 : True := trivial
theorem Mine.head.tw8299393411229908732 : True := trivial
theorem Mine.head.tw14597329475937083939 : True := trivial
theorem Mine.head.tw11862927689305589065 : True := trivial
theorem Mine.head.tw12344544660321961925 : True := trivial
theorem Mine.head.tw17017319662998615 : True := trivial
theorem Mine.head.tw17850378814381688901 : True := trivial
theorem Mine.head.tw12472887615940459650 : True := trivial
theorem Mine.head.tw16874305072444578374 : True := trivial
theorem Mine.head.tw5479459121986351116 : True := trivial
theorem Mine.head.tw13954853420313727417 : True := trivial
theorem Mine.head.tw12949380547846470161 : True := trivial
theorem Mine.head.tw780477332936465449 : True := trivial
theorem Mine.head.tw3665506230870052707 : True := trivial
theorem Mine.head.tw16441004959143088680 : True := trivial
theorem Mine.head.tw3512634313551410195 : True := trivial
theorem Mine.head.tw8671685427711848851 : True := trivial
theorem Mine.head.tw13086575352542018947 : True := trivial
theorem Mine.head.tw13335025841360890868 : True := trivial
theorem Mine.head.tw7876399200375917224 : True := trivial
theorem Mine.head.tw9101448428047585222 : True := trivial
theorem Mine.head.tw15037083628117588352 : True := trivial
theorem Mine.head.tw16172356507618199906 : True := trivial
theorem Mine.head.tw1389810093214676884 : True := trivial
theorem Mine.head.tw2529948359932261575 : True := trivial
theorem Mine.head.tw13213268828098156179 : True := trivial
theorem Mine.head.tw4415685298772064003 : True := trivial
theorem Mine.head.tw1276956409769668328 : True := trivial
theorem Mine.head.tw15506723302920939300 : True := trivial
theorem Mine.head.tw8187629637223713605 : True := trivial
theorem Mine.head.tw7090939061502383884 : True := trivial
theorem Mine.head.tw5111174896325423537 : True := trivial
theorem Mine.head.tw1917425121527220963 : True := trivial
theorem Mine.head.tw17265401458761052179 : True := trivial
theorem Mine.head.tw1506576300011279404 : True := trivial
theorem Mine.head.tw9987851973559822609 : True := trivial
theorem Mine.head.tw2797894973233656403 : True := trivial
theorem Mine.head.tw15204471325056678010 : True := trivial
theorem Mine.head.tw17508272824862286709 : True := trivial
theorem Mine.head.tw5996384718915585738 : True := trivial
theorem Mine.head.tw11180365069992382532 : True := trivial
theorem Mine.head.tw6121141971511671821 : True := trivial
theorem Mine.head.tw18180288016796858009 : True := trivial
theorem Mine.head.tw16871623187472473471 : True := trivial
theorem Mine.head.tw12032222614953749359 : True := trivial
theorem Mine.head.tw1463646239528298992 : True := trivial
theorem Mine.head.tw9743709737119245314 : True := trivial
theorem Mine.head.tw16278871845796110771 : True := trivial
theorem Mine.head.tw4607607821588926596 : True := trivial
theorem Mine.head.tw15796087645652482245 : True := trivial
theorem Mine.head.tw8627200689577751383 : True := trivial
theorem Mine.head.tw3547030090768783262 : True := trivial
theorem Mine.head.tw5797013207949663412 : True := trivial
theorem Mine.head.tw11714945338242495837 : True := trivial
theorem Mine.head.tw15253846138512369154 : True := trivial
theorem Mine.head.tw12851702773856589430 : True := trivial
theorem Mine.head.tw9325057278558614444 : True := trivial
theorem Mine.head.tw11820730986300896962 : True := trivial
theorem Mine.head.tw17988201657351507238 : True := trivial
theorem Mine.head.tw1673358830478937286 : True := trivial
theorem Mine.head.tw15410735652082386980 : True := trivial
theorem Mine.head.tw2203363585012173787 : True := trivial
theorem Mine.head.tw14679116673082234219 : True := trivial
theorem Mine.head.tw8382746154173761051 : True := trivial
theorem Mine.head.tw11107352082982046152 : True := trivial
theorem Mine.head.tw14637134836413734856 : True := trivial
theorem Mine.head.tw9196398404247428943 : True := trivial
theorem Mine.head.tw2518057956044344595 : True := trivial
theorem Mine.head.tw14643959010103036307 : True := trivial
theorem Mine.head.tw7688317290187622652 : True := trivial
theorem Mine.head.tw14842460003800876886 : True := trivial
theorem Mine.head.tw9338622355449474732 : True := trivial
theorem Mine.head.tw3062044705579621278 : True := trivial
theorem Mine.head.tw10900948863051656163 : True := trivial
theorem Mine.head.tw7661765248129044261 : True := trivial
theorem Mine.head.tw9716329373054682134 : True := trivial
theorem Mine.head.tw6772502638888315869 : True := trivial
theorem Mine.head.tw13353151263460963528 : True := trivial
theorem Mine.head.tw10748227973586771634 : True := trivial
theorem Mine.head.tw11097941207591946120 : True := trivial
theorem Mine.head.tw13988103294471073821 : True := trivial
theorem Mine.head.tw9145527808636388435 : True := trivial
theorem Mine.head.tw9380374249521086144 : True := trivial
theorem Mine.head.tw8408249889716310983 : True := trivial
theorem Mine.head.tw15782939476341012554 : True := trivial
theorem Mine.head.tw6247268493268985975 : True := trivial
theorem Mine.head.tw7758381527925395934 : True := trivial
theorem Mine.head.tw13510609219080548989 : True := trivial
theorem Mine.head.tw5319049981483164881 : True := trivial
theorem Mine.head.tw13955511503576765797 : True := trivial
theorem Mine.head.tw10875119458065257276 : True := trivial
theorem Mine.head.tw2491421050496283774 : True := trivial
theorem Mine.head.tw14432977821161478157 : True := trivial
theorem Mine.head.tw14385403278947933607 : True := trivial
theorem Mine.head.tw14492117785962260688 : True := trivial
theorem Mine.head.tw1522823579158628613 : True := trivial
theorem Mine.head.tw5363715690607933 : True := trivial
theorem Mine.head.tw3103639331685909893 : True := trivial
theorem Mine.head.tw1519320592345488741 : True := trivial
theorem Mine.head.tw5274623360512300857 : True := trivial
theorem Mine.head.tw8409189969818401543 : True := trivial
theorem Mine.head.tw8988664977312594650 : True := trivial
theorem Mine.head.tw5593727005144783397 : True := trivial
theorem Mine.head.tw8414573866900348196 : True := trivial
theorem Mine.head.tw17608190574486352970 : True := trivial
theorem Mine.head.tw5487235932777146282 : True := trivial
theorem Mine.head.tw3860214379480611651 : True := trivial
theorem Mine.head.tw15656768269340197940 : True := trivial
theorem Mine.head.tw9625377726130185387 : True := trivial
theorem Mine.head.tw4311042196063409733 : True := trivial
theorem Mine.head.tw2400818531096893172 : True := trivial
theorem Mine.head.tw2260579728952749127 : True := trivial
theorem Mine.head.tw17362218986543327160 : True := trivial
theorem Mine.head.tw10786079294511566085 : True := trivial
theorem Mine.head.tw14646466228836335164 : True := trivial
theorem Mine.head.tw9202431907968578930 : True := trivial
theorem Mine.head.tw7498250532897285284 : True := trivial
theorem Mine.head.tw5467695095851852608 : True := trivial
theorem Mine.head.tw5638995163158488052 : True := trivial
theorem Mine.head.tw6594077403890362655 : True := trivial
theorem Mine.head.tw10059252607514160932 : True := trivial
theorem Mine.head.tw4023466491090337370 : True := trivial
theorem Mine.head.tw15326552575505426906 : True := trivial
theorem Mine.head.tw6640010369347007910 : True := trivial
theorem Mine.head.tw5939897463889383058 : True := trivial
theorem Mine.head.tw18416563613846182222 : True := trivial
theorem Mine.head.tw13199516396595161752 : True := trivial
theorem Mine.head.tw3264716943610762504 : True := trivial
theorem Mine.head.tw5104563664521345299 : True := trivial
theorem Mine.head.tw807142644699662319 : True := trivial
theorem Mine.head.tw17243387458012846398 : True := trivial
theorem Mine.head.tw6240353410654795137 : True := trivial
theorem Mine.head.tw1212124681294104184 : True := trivial
theorem Mine.head.tw14643560169476415855 : True := trivial
set_option Elab.async true in
set_option maxHeartbeats 8000000 in
theorem Mine.head : PySem.Challenge.rw_or0069_01.Holds := by
  w_on; o_law; k_head; (case hw => w_witness2)
  exact Mine.walk_any (fun P => ⟨by kernel_rfl, by kernel_rfl, by kernel_rfl, by kernel_rfl, by kernel_rfl, by kernel_rfl, by kernel_rfl, by kernel_rfl, by kernel_rfl, by kernel_rfl⟩) rfl
theorem PySem.Challenge.cw_or0069_01_holds : PySem.Challenge.rw_or0069_01.Holds :=
  Mine.head
