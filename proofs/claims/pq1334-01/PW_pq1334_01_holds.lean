import PyProof.Rows.All
import Wide.All
import OpenK.AllK
import Wide.FinOn
import PySem.Challenge.RW_pq1334_01
set_option Elab.async false
set_option compiler.extract_closed false
set_option linter.unusedVariables false
namespace Mine
section
open PySem PySem.W PyProof.Rows PySem.Calls
noncomputable abbrev pr : Program := PySem.Challenge.pw_pq1334_01
noncomputable def looseL : List Str := (["_wall", "NAN", "INF", "ZERO", "gcd", "make", "from_int", "is_na", "is_finite", "neg", "to_whole", "nearest_whole", "exponent", "MOST_EXPONENT", "whole_text", "special_text", "scaled", "significant", "without_tail", "scientific_text", "fixed_text", "measures", "chosen_form", "formed", "common_texts", "number_text", "digits_value", "digit_run", "exponent_value", "powered", "unsigned_number", "parse_number", "Null", "Vector", "integer", "character", "length", "is_atomic", "share", "get_attr", "label_text", "level_at", "label_texts", "names_of", "dim_of", "dimnames_of", "class_attr", "CoveError", "Refusal", "MOST_INTEGER", "kind_order", "common_kind", "note", "as_logical_text", "double_to_integer", "text_to_double", "to_logical", "to_integer", "to_double", "to_text", "item_as", "is_atomic_kind", "list_item_as", "refuse_type", "as_vector_kind", "with_names", "as_kind", "as_list", "make_unique", "is_lacking", "is_factor", "new_frame", "frame_rows", "column_names", "row_names", "has_plain_rows", "kept_attrs", "dimnames_list", "new_array", "new_matrix", "joined_factor", "joined_column", "matched_columns", "joined_labels", "bind_frames_rows", "padded_numbers", "column_texts", "is_text_column", "frame_matrix", "_law_spool", "_law_item", "_law_column", "_law_attrs", "_law_frame"] : List String).map Str.ofString
noncomputable def qv : Program := view pr [106]
noncomputable def stAt (i : Nat) : Stmt := pr.main.body.getD i (.Pass default)
noncomputable def fdName : Stmt → Str
  | .FunctionDef n _ _ _ _ _ _ _ _ _ => n
  | _ => default
noncomputable def fdParams : Stmt → Arguments
  | .FunctionDef _ p _ _ _ _ _ _ _ _ => p
  | _ => default
noncomputable def fdBody : Stmt → List Stmt
  | .FunctionDef _ _ b _ _ _ _ _ _ _ => b
  | _ => []
noncomputable def fdScope : Stmt → Scope
  | .FunctionDef _ _ _ _ _ _ s _ _ _ => s
  | _ => default
/-- the def that the text's statement i writes stands at a -/
def FnAt (h : Heap) (a : Addr) (i : Nat) : Prop :=
  ∃ o pm cd, h.get? a = some o ∧ o.data = .func (docDef (fdName (stAt i)) (fdParams (stAt i)) (fdBody (stAt i)) (fdScope (stAt i)) pm cd .none) ∧ h.CodeRec cd (fdName (stAt i))
theorem FnAt.keeps {h h' : Heap} {a : Addr} {i : Nat} (x : FnAt h a i) (k : ∀ b o, h.get? b = some o → h'.get? b = some o) : FnAt h' a i :=
  let ⟨o, pm, cd, h1, h2, h3⟩ := x; ⟨o, pm, cd, k _ _ h1, h2, h3.keeps k⟩
/-- name, statement, address -/
noncomputable def tblS : List (String × Nat × Nat) := [("from_int", 7, 45), ("nearest_whole", 12, 80), ("exponent", 13, 87), ("whole_text", 16, 94), ("special_text", 17, 101), ("scaled", 18, 108), ("significant", 19, 115), ("without_tail", 20, 122), ("fixed_text", 22, 136), ("measures", 23, 143), ("chosen_form", 24, 150), ("formed", 25, 157), ("common_texts", 26, 162),
  ("integer", 37, 269), ("character", 38, 276), ("share", 41, 297), ("get_attr", 43, 304), ("label_text", 44, 311), ("label_texts", 46, 323), ("names_of", 47, 328), ("dim_of", 48, 335), ("class_attr", 50, 347), ("kind_order", 56, 386), ("common_kind", 57, 393),
  ("is_lacking", 77, 515), ("is_factor", 79, 522), ("new_frame", 80, 527), ("frame_rows", 81, 534), ("column_names", 82, 539), ("has_plain_rows", 84, 553), ("kept_attrs", 85, 560), ("dimnames_list", 87, 565), ("new_array", 88, 572), ("new_matrix", 89, 579),
  ("joined_column", 92, 591), ("matched_columns", 93, 598), ("joined_labels", 94, 603), ("bind_frames_rows", 95, 608), ("padded_numbers", 96, 613), ("column_texts", 97, 620), ("is_text_column", 98, 627), ("frame_matrix", 99, 632),
  ("_law_spool", 101, 637), ("_law_item", 102, 644), ("_law_column", 103, 649), ("_law_attrs", 104, 654), ("_law_frame", 105, 661), ("law", 106, 666)]
noncomputable def glob : List (Str × Value) := tblS.map (fun p => (Str.ofString p.1, Value.ref p.2.2)) ++ [(Str.ofString "Vector", .ref 258), (Str.ofString "Null", .ref 229)]
noncomputable def bnames : List Str := (["abs", "len", "str", "max", "list", "range", "isinstance"] : List String).map Str.ofString
/-- the entries of a Vector's own names -/
def IsVD (o : Obj) : Prop := ∃ (h1 h2 h3 h4 h5 : Int) (t1 t2 t3 t4 t5 : Tok) (k i a b l : Value) (z : Nat), o.data = .dict #[⟨h1, .str "kind" t1, k⟩, ⟨h2, .str "items" t2, i⟩, ⟨h3, .str "attrs" t3, a⟩, ⟨h4, .str "shared" t4, b⟩, ⟨h5, .str "loose" t5, l⟩] z
/-- marked as shared -/
noncomputable def shareO (o : Obj) : Obj := match o.data with
  | .dict es z => { o with data := .dict (es.toList.modify 3 fun e => ⟨e.hash, e.key, .bool true⟩).toArray z }
  | _ => o
/-- the same object, but that a Vector may have been marked as shared -/
def Sim (o o' : Obj) : Prop := o' = o ∨ (IsVD o ∧ o' = shareO o)
theorem Sim.refl (o : Obj) : Sim o o := .inl rfl
theorem Sim.trans {a b c : Obj} (x : Sim a b) (y : Sim b c) : Sim a c := by
  rcases x with rfl | ⟨x, rfl⟩
  · exact y
  · refine .inr ⟨x, ?_⟩
    rcases y with rfl | ⟨_, rfl⟩
    · rfl
    · obtain ⟨_, _, _, _, _, _, _, _, _, _, _, _, _, _, _, z, e⟩ := x
      obtain ⟨c, d, da, sl⟩ := a
      dsimp only at e
      subst e
      rfl
def Fixed (o : Obj) : Prop := ¬ IsVD o
theorem Sim.eq {o o' : Obj} (x : Sim o o') (f : Fixed o) : o' = o := x.elim id fun y => absurd y.1 f
/-- what a Vector's own names show to a lookup -/
theorem IsVD.five {o : Obj} (x : IsVD o) : ∃ (es : Array DictEntry) (z : Nat), o.data = .dict es z ∧ es.size = 5 ∧ nsFind es "loose" ≠ none := by
  repeat obtain ⟨_, x⟩ := x
  refine ⟨_, _, by assumption, rfl, ?_⟩
  simp [nsFind, findBy]
  exact fun _ _ _ _ => by rfl
theorem fixed_seq {o : Obj} {vs : Array Value} {z : Nat} (e : o.data = .seq vs z) : Fixed o := fun x => let ⟨_, _, q, _⟩ := x.five; Data.noConfusion (e.symm.trans q)
theorem fixed_size {o : Obj} {es : Array DictEntry} {z : Nat} (e : o.data = .dict es z) (n : es.size ≠ 5) : Fixed o := fun x => by obtain ⟨_, _, q, s, _⟩ := x.five; rw [e] at q; cases q; exact n s
/-- one heap within another, to the letter -/
def SubX (a b : Heap) : Prop := ∀ x o, a.get? x = some o → b.get? x = some o
/-- one heap within another, but that Vectors may have been marked as shared -/
def Sub (a b : Heap) : Prop := ∀ x o, a.get? x = some o → ∃ o', b.get? x = some o' ∧ Sim o o'
theorem SubX.trans {a b c : Heap} (x : SubX a b) (y : SubX b c) : SubX a c := fun z o e => y z o (x z o e)
theorem SubX.sub {a b : Heap} (x : SubX a b) : Sub a b := fun z o e => ⟨o, x z o e, .refl _⟩
theorem Sub.refl (a : Heap) : Sub a a := fun _ o e => ⟨o, e, .refl _⟩
theorem Sub.trans {a b c : Heap} (x : Sub a b) (y : Sub b c) : Sub a c := fun z o e => let ⟨_, e1, s1⟩ := x z o e; let ⟨o2, e2, s2⟩ := y z _ e1; ⟨o2, e2, s1.trans s2⟩
theorem Sub.none {a b : Heap} (x : Sub a b) {z : Addr} (e : b.get? z = none) : a.get? z = none := by
  cases q : a.get? z with
  | none => rfl
  | some o => obtain ⟨_, e1, _⟩ := x z o q; rw [e1] at e; cases e
theorem Sub.fix {a b : Heap} (x : Sub a b) {z : Addr} {o : Obj} (e : a.get? z = some o) (f : Fixed o) : b.get? z = some o := let ⟨_, e1, s⟩ := x z o e; by rw [e1, s.eq f]
-- the two classes
noncomputable def clBody : Stmt → List Stmt
  | .ClassDef _ _ _ b _ _ _ _ _ _ _ => b
  | _ => []
noncomputable def mtAt (i j : Nat) : Stmt := (clBody (stAt i)).getD j (.Pass default)
noncomputable def modN : Value := .str "vectorcove.values" 471
noncomputable def KFr (P : Params) : Frag :=
  let ent (n : Str) (t : Tok) (v : Value) : DictEntry := ⟨PyData.keyHash P n, .str n t, v⟩
  [(226, { cls := .type "function", data := .func (fnOf "__init__" "Null.__init__" (fdParams (mtAt 35 0)) (fdBody (mtAt 35 0)) (fdScope (mtAt 35 0)) .none .none .none modN none (.ref 225) .none) }),
   (228, { cls := .type "dict", data := .dict #[ent "__module__" 480 modN, ent "__firstlineno__" 484 (.int 230 483), ent "__init__" 491 (.ref 226), ent "__static_attributes__" 494 (.ref 227), ent "__dict__" 496 (.ref 230), ent "__weakref__" 498 (.ref 231), ent "__doc__" 499 .none] 4 }),
   (229, { cls := .type "type", data := .cls { name := "Null", bases := [.type "object"], mro := [.ref 229, .type "object"], ns := 228, qualname := "Null" }, slots := #[none, none, some (.str "Null" 473), some (.str "Null" 481), some (.builtin "object.__new__"), some (.bool true)] }),
   (241, { cls := .type "tuple", data := .seq #[.none] }),
   (248, { cls := .type "function", data := .func (fnOf "__init__" "Vector.__init__" (fdParams (mtAt 36 0)) (fdBody (mtAt 36 0)) (fdScope (mtAt 36 0)) (.ref 241) .none .none modN none (.ref 247) .none) }),
   (257, { cls := .type "dict", data := .dict #[ent "__module__" 509 modN, ent "__firstlineno__" 513 (.int 235 512), ent "__init__" 523 (.ref 248), ent "copy" 530 (.ref 255), ent "__static_attributes__" 536 (.ref 256), ent "__dict__" 538 (.ref 259), ent "__weakref__" 540 (.ref 260), ent "__doc__" 541 .none] 4 }),
   (258, { cls := .type "type", data := .cls { name := "Vector", bases := [.type "object"], mro := [.ref 258, .type "object"], ns := 257, qualname := "Vector" }, slots := #[none, none, some (.str "Vector" 502), some (.str "Vector" 510), some (.builtin "object.__new__"), some (.bool true)] })]
/-- what the walk knows of the top's heap B -/
structure Gd (w : World) (B : Heap) : Prop where
  T : ∃ mean mg mb, Top qv looseL mean mg mb B ∧ (∀ p ∈ glob, mg p.1 = some p.2) ∧ ∀ x ∈ bnames, mg x = none
  F : ∀ p ∈ tblS, FnAt B p.2.2 p.2.1
  K : (KFr w.params).In B
  C1 : B.CodeRec (.ref 225) "Null.__init__"
  C2 : B.CodeRec (.ref 247) "Vector.__init__"
  Z : B.objs.size = 667
/-- room for d frames more -/
structure Room (A : Around) (d : Nat) : Prop where
  hand : A.handled = none
  depth : A.depth + d < recursionLimit
  units : A.units + 8 * d + 60 < cLine
theorem Room.le {A : Around} {d d' : Nat} (x : Room A d) (h : d' ≤ d) : Room A d' := ⟨x.hand, by have := x.depth; omega, by have := x.units; omega⟩
theorem Room.deeper {A : Around} {d : Nat} {env : Env} (x : Room A (d + 1)) : Room (A.deeper env) d :=
  ⟨x.hand, by have := x.depth; show A.depth + 1 + d < _; omega, by have := x.units; show A.units + 3 + 8 * d + 60 < _; omega⟩
/-- a frame: B the top's heap, hb what stays as it is, L the frame's names -/
structure Fm (B hb : Heap) (L : Addr) (h : Heap) (m : Str → Option Value) : Prop where
  ns : h.Ns L m
  nl : m "loose" = none
  keep : Sub hb h
  noL : hb.get? L = none
  top : B.objs.size ≤ L
  keepB : SubX B h
  sub : Sub B hb
/-- the objects that the frame may change: made here -/
structure Nw (hb : Heap) (L : Addr) (h : Heap) (news : List (Addr × Obj)) : Prop where
  at_ : ∀ p ∈ news, (∃ o', h.get? p.1 = some o' ∧ Sim p.2 o') ∧ p.1 ≠ L ∧ hb.get? p.1 = none
  apart : news.Pairwise fun p q => p.1 ≠ q.1
variable {B hb h h' : Heap} {L : Addr} {m m' : Str → Option Value} {news : List (Addr × Obj)}
theorem fixed_ns {o : Obj} {es : Array DictEntry} {z : Nat} (e : o.data = .dict es z) (hm : ∀ name, nsFind es name = m name) (hl : m "loose" = none) : Fixed o := fun x => by
  obtain ⟨_, _, q, _, n⟩ := x.five
  rw [e] at q
  cases q
  exact n ((hm "loose").trans hl)
theorem ns_sub (x : h.Ns L m) (hl : m "loose" = none) (k : Sub h h') : h'.Ns L m :=
  let ⟨o, es, ep, ho, hd, r⟩ := x; ⟨o, es, ep, k.fix ho (fixed_ns hd r.2 hl), hd, r⟩
theorem Fm.grow (F : Fm B hb L h m) (k : Sub h h') (kB : SubX B h') : Fm B hb L h' m := ⟨ns_sub F.ns F.nl k, F.nl, F.keep.trans k, F.noL, F.top, kB, F.sub⟩
theorem Fm.growX (F : Fm B hb L h m) (k : SubX h h') : Fm B hb L h' m := F.grow k.sub (F.keepB.trans k)
theorem Nw.grow (N : Nw hb L h news) (k : Sub h h') : Nw hb L h' news := ⟨fun p hp => ⟨let ⟨⟨_, e, s⟩, _⟩ := N.at_ p hp; let ⟨o2, e2, s2⟩ := k _ _ e; ⟨o2, e2, s.trans s2⟩, (N.at_ p hp).2⟩, N.apart⟩
theorem Fm.fresh (F : Fm B hb L h m) {a : Addr} (ha : h.objs.size ≤ a) : hb.get? a = none := by
  cases q : hb.get? a with
  | none => rfl
  | some o => obtain ⟨_, e, _⟩ := F.keep _ _ q; exact absurd (Heap.lt_size e) (Nat.not_lt.mpr ha)
theorem Fm.notB (F : Fm B hb L h m) : B.get? L = none := F.sub.none F.noL
theorem Fm.set (F : Fm B hb L h m) (hn : h'.Ns L m') (nl : m' "loose" = none) (hs : Heap.SameBut L h h') : Fm B hb L h' m' :=
  ⟨hn, nl, fun b o e => by
    obtain ⟨o', e', s⟩ := F.keep b o e
    exact ⟨o', (hs.2 b fun q => by rw [q, F.noL] at e; cases e).trans e', s⟩, F.noL, F.top, fun b o e => (hs.2 b fun q => by rw [q, F.notB] at e; cases e).trans (F.keepB b o e), F.sub⟩
theorem Nw.set (N : Nw hb L h news) (hs : Heap.SameBut L h h') : Nw hb L h' news := ⟨fun p hp => ⟨let ⟨⟨o', e, s⟩, _⟩ := N.at_ p hp; ⟨o', (hs.2 _ (N.at_ p hp).2.1).trans e, s⟩, (N.at_ p hp).2⟩, N.apart⟩
theorem Nw.nil : Nw hb L h [] := ⟨fun _ hp => (nomatch hp), .nil⟩
theorem Nw.get (N : Nw hb L h news) {p : Addr × Obj} (hp : p ∈ news) (f : Fixed p.2) : h.get? p.1 = some p.2 := by
  obtain ⟨⟨o', e, s⟩, _⟩ := N.at_ p hp
  rw [e, s.eq f]
theorem Nw.ne (N : Nw hb L h news) {p : Addr × Obj} (hp : p ∈ news) : p.1 ≠ L := (N.at_ p hp).2.1
theorem Nw.no (N : Nw hb L h news) {p : Addr × Obj} (hp : p ∈ news) : hb.get? p.1 = none := (N.at_ p hp).2.2
/-- an own object is changed -/
theorem Fm.upd (F : Fm B hb L h m) (N : Nw hb L h news) {p : Addr × Obj} (hp : p ∈ news) (hs : Heap.SameBut p.1 h h') : Fm B hb L h' m :=
  ⟨F.ns.sameBut hs (Ne.symm (N.ne hp)), F.nl, fun b o e => by
    obtain ⟨o', e', s⟩ := F.keep b o e
    exact ⟨o', (hs.2 b fun q => by rw [q, N.no hp] at e; cases e).trans e', s⟩, F.noL, F.top, fun b o e => (hs.2 b fun q => by rw [q, F.sub.none (N.no hp)] at e; cases e).trans (F.keepB b o e), F.sub⟩
theorem pw_set {α : Type} {R : α → α → Prop} {l : List α} {i : Nat} {a b : α} (hl : l.Pairwise R) (ha : l[i]? = some a) (h1 : ∀ c, R c a → R c b) (h2 : ∀ c, R a c → R b c) : (l.set i b).Pairwise R := by
  induction l generalizing i with
  | nil => exact .nil
  | cons x r ih =>
    cases hl with
    | cons hx hr =>
      cases i with
      | zero => cases ha; exact .cons (fun c hc => h2 c (hx c hc)) hr
      | succ j =>
        refine .cons (fun c hc => ?_) (ih hr ha)
        rcases List.mem_or_eq_of_mem_set hc with q | q
        · exact hx c q
        · subst q; exact h1 x (hx a (List.mem_of_getElem? ha))
theorem Nw.upd (N : Nw hb L h news) {i : Nat} {d : Addr} {o o' : Obj} (hi : news[i]? = some (d, o)) (hs : Heap.SameBut d h h') (ho : h'.get? d = some o') : Nw hb L h' (news.set i (d, o')) := by
  have hm := List.mem_of_getElem? hi
  refine ⟨fun p hp => ?_, pw_set N.apart hi (fun c hc => hc) fun c hc => hc⟩
  by_cases e : p.1 = d
  · have : p = (d, o') := by
      obtain ⟨j, hj⟩ := List.getElem?_of_mem hp
      by_cases ji : j = i
      · subst ji; rw [List.getElem?_set_self (by exact (List.getElem?_eq_some_iff.mp hi).1)] at hj; exact (Option.some.inj hj).symm
      · rw [List.getElem?_set_ne (Ne.symm ji)] at hj
        exfalso
        have pa := List.pairwise_iff_getElem.mp N.apart
        obtain ⟨lj, ej⟩ := List.getElem?_eq_some_iff.mp hj
        obtain ⟨li, ei⟩ := List.getElem?_eq_some_iff.mp hi
        rcases Nat.lt_or_gt_of_ne ji with q | q
        · exact pa j i lj li q (by rw [ej, ei]; exact e)
        · exact pa i j li lj q (by rw [ej, ei]; exact e.symm)
    subst this
    exact ⟨⟨_, ho, .refl _⟩, (N.at_ _ hm).2⟩
  · rcases List.mem_or_eq_of_mem_set hp with q | q
    · exact ⟨let ⟨⟨x, a, b⟩, _⟩ := N.at_ p q; ⟨x, (hs.2 _ e).trans a, b⟩, (N.at_ p q).2⟩
    · subst q; exact absurd rfl e
/-- an object is made -/
theorem Fm.push (F : Fm B hb L h m) (o : Obj) : Fm B hb L (h.push o) m := F.growX fun _ _ e => Heap.get?_push_of_some _ e
theorem Nw.push (F : Fm B hb L h m) (N : Nw hb L h news) (o : Obj) (hf : o.isFreed = false) : Nw hb L (h.push o) ((h.objs.size, o) :: news) := by
  refine ⟨fun p hp => ?_, .cons (fun q hq e => ?_) N.apart⟩
  · rcases List.mem_cons.mp hp with rfl | hp
    · exact ⟨⟨_, Heap.get?_push_size _ hf, .refl _⟩, Nat.ne_of_gt F.ns.lt, F.fresh (Nat.le_refl _)⟩
    · exact ⟨let ⟨⟨x, a, b⟩, _⟩ := N.at_ p hp; ⟨x, Heap.get?_push_of_some _ a, b⟩, (N.at_ p hp).2⟩
  · obtain ⟨⟨x, a, _⟩, _⟩ := N.at_ q hq
    have := Heap.lt_size a; dsimp only at e; rw [← e] at this; exact absurd this (Nat.lt_irrefl _)
/-- an object that is there and not in hb is taken among the own -/
theorem Nw.adopt (N : Nw hb L h news) {d : Addr} {o : Obj} (hd : h.get? d = some o) (hL : d ≠ L) (hn : hb.get? d = none) (ha : ∀ p ∈ news, d ≠ p.1) : Nw hb L h ((d, o) :: news) :=
  ⟨fun p hp => by exact (List.mem_cons.mp hp).elim (fun e => by subst e; exact ⟨⟨_, hd, .refl _⟩, hL, hn⟩) (fun hp => N.at_ p hp), .cons ha N.apart⟩
/-- the first of the own is no longer changed -/
theorem Nw.drop {p : Addr × Obj} (N : Nw hb L h (p :: news)) : Nw hb L h news := ⟨fun q hq => N.at_ q (.tail _ hq), (List.pairwise_cons.mp N.apart).2⟩
/-- what stays is widened to all that is there but the frame's names and the own -/
noncomputable abbrev wide (h : Heap) (L : Addr) (news : List (Addr × Obj)) : Heap := hideAll h (L :: news.map (·.1))
theorem wide_get {a : Addr} {o : Obj} (e : h.get? a = some o) (hL : a ≠ L) (hn : ∀ p ∈ news, a ≠ p.1) : (wide h L news).get? a = some o :=
  hideAll_get _ e fun q => by
    rcases List.mem_cons.mp q with q | q
    · exact hL q
    · obtain ⟨p, hp, e⟩ := List.mem_map.mp q; exact hn p hp e.symm
theorem wide_sub : SubX (wide h L news) h := fun _ _ e => of_hideAll _ e
theorem wide_of (F : Fm B hb L h m) (N : Nw hb L h news) : Sub hb (wide h L news) := fun a o e => by
  obtain ⟨o', e', s⟩ := F.keep _ _ e
  exact ⟨o', wide_get e' (fun q => by rw [q, F.noL] at e; cases e) (fun p hp q => by rw [q, N.no hp] at e; cases e), s⟩
theorem Fm.wide (F : Fm B hb L h m) (N : Nw hb L h news) : Fm B (wide h L news) L h m :=
  ⟨F.ns, F.nl, wide_sub.sub, hideAll_none _ (.head _), F.top, F.keepB, F.sub.trans (wide_of F N)⟩
theorem Nw.wide (N : Nw hb L h news) : Nw (wide h L news) L h news :=
  ⟨fun p hp => ⟨(N.at_ p hp).1, (N.at_ p hp).2.1, hideAll_none _ (.tail _ (List.mem_map_of_mem hp))⟩, N.apart⟩
/-- for the kit's rules: the frame over the top's heap, all other objects listed -/
theorem Fm.fr (F : Fm B hb L h m) : Fr B L h m := ⟨F.ns, F.keepB, F.top⟩
/-- .. over nothing -/
theorem Fm.fr0 (F : Fm B hb L h m) : Fr {} L h m := ⟨F.ns, fun _ _ e => by simp [Heap.get?] at e, Nat.zero_le _⟩
noncomputable def allN (B : Heap) (L : Addr) (h : Heap) : List (Addr × Obj) := (List.range h.objs.size).filterMap fun a => if a = L ∨ (B.get? a).isSome = true then none else (h.get? a).map fun o => (a, o)
theorem mem_allN {a : Addr} {o : Obj} : (a, o) ∈ allN B L h ↔ h.get? a = some o ∧ a ≠ L ∧ B.get? a = none := by
  unfold allN
  simp only [List.mem_filterMap, List.mem_range]
  constructor
  · rintro ⟨b, _, e⟩
    split at e
    · cases e
    · rename_i hb
      obtain ⟨o', ho, e⟩ := Option.map_eq_some_iff.mp e
      cases e
      refine ⟨ho, fun q => hb (.inl q), ?_⟩
      cases q : B.get? a with
      | none => rfl
      | some _ => exact absurd (.inr (by rw [q]; rfl)) hb
  · rintro ⟨e, n, hB⟩
    refine ⟨a, Heap.lt_size e, ?_⟩
    rw [if_neg (by rw [hB]; exact fun q => q.elim n (fun q => by cases q)), e]; rfl
theorem allN_apart : (allN B L h).Pairwise fun p q => p.1 ≠ q.1 := by
  unfold allN
  refine List.Pairwise.filterMap _ (fun a b hab p hp q hq e => ?_) (List.nodup_range (n := h.objs.size))
  split at hp
  · cases hp
  split at hq
  · cases hq
  obtain ⟨_, _, e1⟩ := Option.map_eq_some_iff.mp hp
  obtain ⟨_, _, e2⟩ := Option.map_eq_some_iff.mp hq
  subst e1 e2
  exact hab e
theorem allN_news : News B L h (allN B L h) := fun p hp => by obtain ⟨a, o⟩ := p; exact mem_allN.mp hp
theorem of_allN (F : Fr B L h m) (F' : Fr B L h' m') (N' : News B L h' (allN B L h)) {a : Addr} {o : Obj} (e : h.get? a = some o) (n : a ≠ L) : h'.get? a = some o := by
  cases q : B.get? a with
  | none => exact (N' (a, o) (mem_allN.mpr ⟨e, n, q⟩)).1
  | some o' =>
    have := F.keep a o' q
    rw [e] at this
    cases this
    exact F'.keep a o q
theorem upd_apart {d : Addr} {o o' : Obj} : ∀ {l : List (Addr × Obj)}, l.Pairwise (fun p q => p.1 ≠ q.1) → (d, o) ∈ l → Upd d o o' l (l.map fun p => if p.1 = d then (d, o') else p)
  | p :: r, .cons h hr, hm => by
    by_cases e : p.1 = d
    · have hp : p = (d, o) := by
        rcases List.mem_cons.mp hm with q | q
        · exact q.symm
        · exact absurd e (h _ q)
      subst hp
      have hn : ∀ p ∈ r, p.1 ≠ d := fun p hp => Ne.symm (h p hp)
      have : r.map (fun p => if p.1 = d then (d, o') else p) = r := by
        conv => rhs; rw [← List.map_id r]
        exact List.map_congr_left fun p hp => if_neg (hn p hp)
      rw [List.map_cons, this, if_pos rfl]
      exact .head hn
    · rw [List.map_cons, if_neg e]
      refine .tail e (upd_apart hr ?_)
      rcases List.mem_cons.mp hm with q | q
      · exact absurd (by rw [← q]) e
      · exact q
theorem of_updN {d : Addr} {o o' : Obj} (F : Fr B L h m) (F' : Fr B L h' m') (N' : News B L h' ((allN B L h).map fun p => if p.1 = d then (d, o') else p)) (hd : (d, o) ∈ allN B L h) :
    h'.get? d = some o' ∧ ∀ a o, a ≠ L → a ≠ d → h.get? a = some o → h'.get? a = some o := by
  refine ⟨(N' (d, o') (List.mem_map.mpr ⟨_, hd, if_pos rfl⟩)).1, fun a x hL ha e => ?_⟩
  cases q : B.get? a with
  | none => exact (N' (a, x) (List.mem_map.mpr ⟨_, mem_allN.mpr ⟨e, hL, q⟩, if_neg ha⟩)).1
  | some o' =>
    have := F.keep a o' q
    rw [e] at this
    cases this
    exact F'.keep a x q
theorem Fm.kit {h₀ : Heap} (F : Fm B hb L h m) (F₀ : Fr h₀ L h m) (F' : Fr h₀ L h' m') (N' : News h₀ L h' (allN h₀ L h)) (nl : m' "loose" = none) : Fm B hb L h' m' :=
  ⟨F'.ns, nl, fun a o e => by
    obtain ⟨o', e', s⟩ := F.keep a o e
    exact ⟨o', of_allN F₀ F' N' e' (fun q => by rw [q, F.noL] at e; cases e), s⟩, F.noL, F.top, fun a o e => of_allN F₀ F' N' (F.keepB a o e) (fun q => by rw [q, F.notB] at e; cases e), F.sub⟩
theorem Nw.kit {h₀ : Heap} (N : Nw hb L h news) (F₀ : Fr h₀ L h m) (F' : Fr h₀ L h' m') (N' : News h₀ L h' (allN h₀ L h)) : Nw hb L h' news :=
  ⟨fun p hp => ⟨let ⟨⟨x, a, b⟩, _⟩ := N.at_ p hp; ⟨x, of_allN F₀ F' N' a (N.ne hp), b⟩, (N.at_ p hp).2⟩, N.apart⟩
theorem mem_all0 {a : Addr} {o : Obj} (e : h.get? a = some o) (n : a ≠ L) : (a, o) ∈ allN {} L h := mem_allN.mpr ⟨e, n, rfl⟩
theorem Fm.kitU {h₀ : Heap} {i : Nat} {d : Addr} {o o₁ o' : Obj} (F : Fm B hb L h m) (N : Nw hb L h news) (hi : news[i]? = some (d, o)) (F₀ : Fr h₀ L h m) (hd : (d, o₁) ∈ allN h₀ L h) (F' : Fr h₀ L h' m) (N' : News h₀ L h' ((allN h₀ L h).map fun p => if p.1 = d then (d, o') else p)) :
    Fm B hb L h' m ∧ Nw hb L h' (news.set i (d, o')) := by
  obtain ⟨a, b⟩ := of_updN F₀ F' N' hd
  have hm := List.mem_of_getElem? hi
  have nn := N.no hm
  have nL := N.ne hm
  dsimp only at nn nL
  refine ⟨⟨F'.ns, F.nl, fun x o e => ?_, F.noL, F.top, fun x o e => ?_, F.sub⟩, ⟨fun p hp => ?_, pw_set N.apart hi (fun c hc => hc) fun c hc => hc⟩⟩
  · obtain ⟨o', e', s⟩ := F.keep x o e
    exact ⟨o', b x _ (fun q => by rw [q, F.noL] at e; cases e) (fun q => by rw [q, nn] at e; cases e) e', s⟩
  · exact b x _ (fun q => by rw [q, F.notB] at e; cases e) (fun q => by rw [q, F.sub.none nn] at e; cases e) (F.keepB x o e)
  · by_cases e : p.1 = d
    · rcases List.mem_iff_getElem?.mp hp with ⟨j, hj⟩
      by_cases ji : j = i
      · subst ji
        rw [List.getElem?_set_self (List.getElem?_eq_some_iff.mp hi).1] at hj
        cases hj
        exact ⟨⟨_, a, .refl _⟩, nL, nn⟩
      · rw [List.getElem?_set_ne (Ne.symm ji)] at hj
        exfalso
        have pa := List.pairwise_iff_getElem.mp N.apart
        obtain ⟨lj, ej⟩ := List.getElem?_eq_some_iff.mp hj
        obtain ⟨li, ei⟩ := List.getElem?_eq_some_iff.mp hi
        rcases Nat.lt_or_gt_of_ne ji with q | q
        · exact pa j i lj li q (by rw [ej, ei]; exact e)
        · exact pa i j li lj q (by rw [ej, ei]; exact e.symm)
    · rcases List.mem_or_eq_of_mem_set hp with q | q
      · obtain ⟨⟨x, ex, s⟩, r⟩ := N.at_ p q
        exact ⟨⟨x, b _ _ r.1 e ex, s⟩, r⟩
      · subst q; exact absurd rfl e
/-- g holds what a call made between h and h' -/
def Off (h h' g : Heap) : Prop := ∀ a o, h.get? a = none → h'.get? a = some o → ∃ o', g.get? a = some o' ∧ Sim o o'
theorem Off.refl {h h' : Heap} : Off h h' h' := fun _ o _ e => ⟨o, e, .refl _⟩
theorem Off.of {h₀ h₁ h₂ h₃ g : Heap} (x : Off h₀ h₃ g) (a : Sub h₀ h₁) (b : Sub h₂ h₃) : Off h₁ h₂ g := fun z o e e' =>
  let ⟨_, e1, s1⟩ := b z o e'; let ⟨o2, e2, s2⟩ := x z _ (a.none e) e1; ⟨o2, e2, s1.trans s2⟩
/-- a contract: from a state as Pre says the call comes back; all is kept, but that Vectors may be marked as shared; Post holds in any heap that holds what was made -/
def Spec (w : World) (B : Heap) (d : Nat) (f : Value) (args : List Value) (Pre : Heap → Prop) (Post : Heap → Value → Prop) : Prop :=
  ∀ (A : Around) (s : Shared) (Q E : Value → Shared → Prop), Room A d → Gd w B → SubX B s.heap → Pre s.heap →
    (∀ v h' tk', Sub s.heap h' → SubX B h' → (∀ g, Off s.heap h' g → Post g v) → Q v { s with heap := h', toks := tk' }) →
    wpAny (model pr w) A (call f args) Q E s
theorem fm_enter {s : Shared} {L : Addr} {h₁ : Heap} {m : Str → Option Value} {w : World} (G : Gd w B) (hB : SubX B s.heap) (F : Fr s.heap L h₁ m) (nl : m (Str.ofString "loose") = none) (hL : s.heap.get? L = none) (hz : s.heap.objs.size ≤ L) : Fm B s.heap L h₁ m ∧ Nw s.heap L h₁ [] := by
  have hz667 : B.objs.size ≤ s.heap.objs.size := by
    have hF := G.F ("law", 106, 666) (by simp only [tblS]; repeat (first | exact List.Mem.head _ | refine List.Mem.tail _ ?_))
    obtain ⟨o, pm, cd, ho, _⟩ := hF
    exact Nat.le_trans (Nat.le_of_eq G.Z) (Heap.lt_size (hB _ _ ho))
  exact ⟨⟨F.ns, nl, fun a o e => ⟨o, F.keep _ _ e, .refl _⟩, hL, Nat.le_trans hz667 hz, fun a o e => F.keep _ _ (hB a o e), hB.sub⟩, .nil⟩
theorem noSize (h : Heap) : h.get? h.objs.size = none := by
  cases q : h.get? h.objs.size with
  | none => rfl
  | some o => exact absurd (Heap.lt_size q) (Nat.lt_irrefl _)
theorem enter0 {w : World} {A : Around} {d : Nat} {s : Shared} {Q E : Value → Shared → Prop} {f : Addr} {args : List Value} (i : Nat) {binds : List (Str × Value)} (R : Room A (d + 1)) (G : Gd w B) (hB : SubX B s.heap) (hf : ∃ n, (n, i, f) ∈ tblS)
    (hbind : ∀ pm cd, bindArgs (docDef (fdName (stAt i)) (fdParams (stAt i)) (fdBody (stAt i)) (fdScope (stAt i)) pm cd .none) ⟨args, []⟩ = pure binds)
    (hloc : (binds.all fun x => decide ((fdScope (stAt i)).names.lookup x.1 = some .local)) = true) (hnl : binds.reverse.lookup (Str.ofString "loose") = none)
    (hsc : ((fdScope (stAt i)).isCoroutine, (fdScope (stAt i)).isGenerator, (fdScope (stAt i)).kind, (fdScope (stAt i)).names.all fun x => decide (x.2 ≠ .cell)) = (false, false, .function, true))
    (h : ∀ cd L h₁, Fm B s.heap L h₁ (fun x => binds.reverse.lookup x) → Nw s.heap L h₁ [] → Room (A.deeper (envOf (fdName (stAt i)) (fdScope (stAt i)) L f cd)) d →
      wpAny (model pr w) (A.deeper (envOf (fdName (stAt i)) (fdScope (stAt i)) L f cd)) (execs (fdBody (stAt i)) (envOf (fdName (stAt i)) (fdScope (stAt i)) L f cd))
        (fun fl s' => Q (match fl with | .ret v => v | _ => .none) s') (fun _ _ => False) { s with heap := h₁, toks := s.toks + binds.length }) :
    wpAny (model pr w) A (call (.ref f) args) Q E s := by
  obtain ⟨n, hf⟩ := hf
  obtain ⟨o, pm, cd, ho, hd, hc⟩ := G.F _ hf
  obtain ⟨_, _, _, T, _⟩ := G.T
  simp only [Prod.mk.injEq] at hsc
  refine wpAny_call (call_plain_ret (R := fun r s' => match r with | .ok (.ret v) => Q v s' | .ok _ => False | .error e => E e s') (by have := R.depth; omega) (hB _ _ ho) hd (T.nolimit.keeps hB) (hc.keeps hB) (hbind pm cd) (locs hloc) (fun h₁ F => ?_) hsc.1 hsc.2.1 hsc.2.2.1 (fun x hx => of_decide_eq_true (List.all_eq_true.mp hsc.2.2.2 x hx)))
  obtain ⟨F', N'⟩ := fm_enter G hB F hnl (noSize _) (Nat.le_refl _)
  exact h cd _ h₁ F' N' R.deeper
theorem endSub {a : Heap} (F : Fm B hb L h m) (k : Sub a hb) : Sub a h := k.trans F.keep
theorem news_off {a : Heap} {g : Heap} {z : Addr} {o : Obj} (hg : Off a h g) (N : Nw hb L h news) (k : Sub a hb) (hm : (z, o) ∈ news) (f : Fixed o) : g.get? z = some o := by
  obtain ⟨o', e, s⟩ := hg _ _ (k.none (N.no hm)) (N.get hm f)
  rw [e, s.eq f]
theorem news_offS {a : Heap} {g : Heap} {z : Addr} {o : Obj} (hg : Off a h g) (N : Nw hb L h news) (k : Sub a hb) (hm : (z, o) ∈ news) : ∃ o', g.get? z = some o' ∧ Sim o o' := by
  obtain ⟨⟨o1, e1, s1⟩, _⟩ := N.at_ _ hm
  obtain ⟨o', e, s⟩ := hg _ _ (k.none (N.no hm)) e1
  exact ⟨o', e, s1.trans s⟩
end -- A0
section
open PySem PySem.W PyProof.Rows PySem.Calls
set_option maxRecDepth 100000
set_option maxHeartbeats 0
theorem said : PySem.Challenge.rw_pq1334_01.wellSaid = true := by
  rw [PySem.W.Fast.te9446332074065402090]
  delta PySem.W.Fast.tw9446332074065402090
  repeat' (with_reducible refine look_both ?_ ?_)
  · delta PySem.W.Fast.tw17960256430627541270 PySem.W.Fast.tw2436336058641802641 PySem.W.Fast.tw12908688711261696721
    repeat' (with_reducible refine look_both ?_ ?_)
    all_goals decide +kernel
  all_goals decide +kernel
end -- H0
section
open PySem PySem.W PyProof.Rows PySem.Calls
-- the head: the top's run on the tree heap, looked at once
-- the library's quick twins of the step
theorem stepQ : PySem.W.Fast.tw10156331382660048174 (PySem.W.Fast.tw11892475500146522536 PySem.W.Fast.tw14364793385576792824) = stepT (denote treeTable) := by
  rw [← PySem.W.Fast.te10156331382660048174, ← PySem.W.Fast.te11892475500146522536, ← PySem.W.Fast.te14364793385576792824]
/-- the check on a step, most steps at a glance -/
noncomputable def okQ (n₀ : Nat) (ann : Option Value) : Thread → Bool
  | ⟨.load .., _, _, _⟩ => true
  | ⟨.alloc .., _, _, _⟩ => true
  | ⟨.loadIfAlive .., _, _, _⟩ => true
  | ⟨.call .., _, _, _⟩ => true
  | ⟨.rule .., _, _, _⟩ => true
  | ⟨.at .., _, _, _⟩ => true
  | ⟨.point .., _, _, _⟩ => true
  | ⟨.fresh .., _, _, _⟩ => true
  | ⟨.pure (.done _), _, _, []⟩ => false
  | ⟨.pure (.done _), _, _, _ :: _⟩ => true
  | t => PySem.W.Fast.tw6613529449190102663 n₀ ann t
theorem okQ_spec {n₀ : Nat} {ann : Option Value} {t : Thread} : okQ n₀ ann t = true → stepOk n₀ ann t = true := by
  obtain ⟨cur, code, pos, stack⟩ := t
  cases cur with
  | pure f => cases f with
    | done f => cases stack with
      | nil => intro h; cases h
      | cons => exact fun _ => rfl
    | again => rw [PySem.W.Fast.te6613529449190102663]; exact id
  | load | alloc | loadIfAlive | call | rule | «at» | point | fresh => exact fun _ => rfl
  | _ => rw [PySem.W.Fast.te6613529449190102663]; exact id
noncomputable def topRunT (p : Program) (w : World) (n₀ : Nat) (ann : Option Value) : Nat → SharedT → Thread → Option SharedT
  | 0, _, _ => none
  | n + 1, s, t => match okQ n₀ ann t with
    | true => match PySem.W.Fast.tw10156331382660048174 (PySem.W.Fast.tw11892475500146522536 PySem.W.Fast.tw14364793385576792824) p w s t with
        | some (s', t') => topRunT p w n₀ ann n s' t'
        | none => none
    | false => match through t with
      | true => some s
      | false => none
theorem step_through {den : Code → Sem Fin} {p : Program} {w : World} {s : Shared} {t : Thread} (h : through t = true) : ∀ s' t', step den p w s t ≠ .go s' t' := by
  obtain ⟨cur, code, pos, stack⟩ := t
  cases stack with
  | cons => exact Bool.noConfusion (h : false = true)
  | nil => cases cur with
    | pure f => cases f with
      | done f =>
        intro s' t' x
        simp only [step, finish] at x
        split at x <;> cases x
      | again => exact Bool.noConfusion (h : false = true)
    | _ => exact Bool.noConfusion (h : false = true)
theorem topRun_of {p : Program} {w : World} {n₀ : Nat} {ann : Option Value} : ∀ {n : Nat} {s s' : SharedT} {t : Thread}, topRunT p w n₀ ann n s t = some s' → topRun treeTable p w n₀ ann n s.abs t = some s'.abs
  | 0, _, _, _, h => by cases h
  | n + 1, s, s', t, h => by
    unfold topRunT at h
    rw [stepQ] at h
    unfold topRun
    cases hk : okQ n₀ ann t with
    | false =>
      rw [hk] at h
      cases ht : through t with
      | true => rw [ht] at h; cases h; rfl
      | false => rw [ht] at h; cases h
    | true =>
      rw [hk] at h
      cases hs : stepT (denote treeTable) p w s t with
      | none => rw [hs] at h; cases h
      | some r =>
        obtain ⟨s₂, t₂⟩ := r
        rw [hs] at h
        have hq := stepT_spec hs
        cases ht : through t with
        | true => exact absurd hq (step_through ht _ _)
        | false =>
          rw [okQ_spec hk, hq]
          exact topRun_of h
noncomputable def mkT : List Obj → Nat → BT → BT
  | [], _, t => t
  | o :: r, i, t => mkT r (i + 1) (t.ins i o)
noncomputable def bootT (P : Params) : BT := mkT (boot_heap P).objs.toList 0 .nil
noncomputable abbrev S0T (w : World) (os : OsState) : SharedT := ⟨bootT w.params, 11, (boot_heap w.params).life, #[], boot_drawn, boot_toks, os⟩
noncomputable def fNorm (o : Obj) : Option FuncData := match o.data with
  | .func f => some { f with pyModule := .none, code := .none }
  | _ => none
noncomputable def fCode (o : Obj) : Value := match o.data with
  | .func f => f.code
  | _ => .none
noncomputable def codeOk (h : Heap) (cd : Value) (q : Str) : Bool := match cd with
  | .ref c => match h.get? c with
    | some o => match o.data with
      | .fields vs => match (vs[1]? : Option Value) with
        | some (.str q' _) => decide (q' = q)
        | _ => false
      | _ => false
    | none => false
  | _ => false
theorem codeOk_spec {h : Heap} {cd : Value} {q : Str} (x : codeOk h cd q = true) : h.CodeRec cd q := by
  unfold codeOk at x
  split at x
  next c =>
    split at x
    next o ho =>
      split at x
      next vs hv =>
        split at x
        next q' t ht =>
          obtain rfl := of_decide_eq_true x
          exact ⟨c, o, vs, t, rfl, ho, hv, ht⟩
        all_goals cases x
      all_goals cases x
    all_goals cases x
  all_goals cases x
noncomputable def exF (h : Heap) : List (Option FuncData × Bool) := tblS.map fun p => match h.get? p.2.2 with
  | some o => (fNorm o, codeOk h (fCode o) (fdName (stAt p.2.1)))
  | none => (none, false)
noncomputable def exFg : List (Option FuncData × Bool) := tblS.map fun p => (some (docDef (fdName (stAt p.2.1)) (fdParams (stAt p.2.1)) (fdBody (stAt p.2.1)) (fdScope (stAt p.2.1)) .none .none .none), true)
noncomputable def kAddrs : List Addr := [226, 228, 229, 241, 248, 257, 258]
/-- what the walk wants to know of the top's end -/
noncomputable def exS (s : Shared) := (exF s.heap, kAddrs.map s.heap.get?, glob.map (fun p => s.heap.nsMap mainGlobals p.1), bnames.map (fun x => s.heap.nsMap mainGlobals x), codeOk s.heap (.ref 225) "Null.__init__" && codeOk s.heap (.ref 247) "Vector.__init__", s.heap.objs.size)
noncomputable def exG (w : World) := (exFg, (KFr w.params).map (fun p => some p.2), glob.map (fun p => some p.2), bnames.map (fun _ => (none : Option Value)), true, 667)
noncomputable def mods : List Str := importedModules pr.main.body
noncomputable def okS (w : World) (s : Shared) : Bool := staticsOk mods (boot_heap w.params) s.heap && namesBound pr s.heap && gensDone s && laidKept (boot_heap w.params) s.heap
noncomputable def seenS (s : Shared) := openSeen qv looseL mods (fun _ => true) true s
noncomputable def goodS := openGood qv looseL
set_option maxRecDepth 100000
set_option maxHeartbeats 0
theorem boot_abs (P : Params) : absHeap (bootT P) 11 (boot_heap P).life = boot_heap P := by kernel_rfl!
/-- a lookup in the tree itself -/
noncomputable def getT (s : SharedT) (a : Nat) : Option Obj := match Nat.blt a s.n with
  | true => match s.tree.get a with
    | some o => alive o
    | none => none
  | false => none
theorem getT_some {s : SharedT} {a : Nat} {o : Obj} (h : getT s a = some o) : s.abs.heap.get? a = some o := by
  unfold getT at h
  split at h
  next e =>
    split at h
    next o' g => exact (abs_get (Nat.le_of_ble_eq_true e) g).trans h
    next => cases h
  next => cases h
noncomputable def codeT (s : SharedT) (cd : Value) (q : Str) : Bool := match cd with
  | .ref c => match getT s c with
    | some o => match o.data with
      | .fields vs => match (vs[1]? : Option Value) with
        | some (.str q' _) => PySem.W.Fast.sEq q' q
        | _ => false
      | _ => false
    | none => false
  | _ => false
theorem codeT_spec {s : SharedT} {cd : Value} {q : Str} (x : codeT s cd q = true) : codeOk s.abs.heap cd q = true := by
  unfold codeT at x
  split at x
  next c =>
    split at x
    next o ho =>
      split at x
      next vs hv =>
        split at x
        next q' t ht =>
          unfold codeOk
          simp only [getT_some ho, hv, ht, PySem.W.Fast.sEq_iff.mp x, decide_true]
        all_goals cases x
      all_goals cases x
    all_goals cases x
  all_goals cases x
noncomputable def exFT (s : SharedT) : List (Option FuncData × Bool) := tblS.map fun p => match getT s p.2.2 with
  | some o => (fNorm o, codeT s (fCode o) (fdName (stAt p.2.1)))
  | none => (none, false)
theorem exFT_spec {s : SharedT} (x : exFT s = exFg) : exF s.abs.heap = exFg := by
  refine List.map_inj_left.mpr fun p hp => ?_
  have e := List.map_inj_left.mp x p hp
  split at e
  next o ho =>
    obtain ⟨e1, e2⟩ := Prod.mk.inj e
    simp only [getT_some ho, e1, codeT_spec e2]
  next => cases (Prod.mk.inj e).1
theorem gets_spec {s : SharedT} {β : Type} {g : β → Obj} : ∀ {as : List Addr} {l : List β}, as.map (getT s) = l.map (fun p => some (g p)) → as.map s.abs.heap.get? = l.map (fun p => some (g p))
  | [], [], _ => rfl
  | a :: as, p :: l, h => by
    obtain ⟨h1, h2⟩ := List.cons.inj h
    exact List.cons_eq_cons.mpr ⟨getT_some h1, gets_spec h2⟩
  | [], _ :: _, h => by cases h
  | _ :: _, [], h => by cases h
noncomputable def exT (s : SharedT) := (exFT s, kAddrs.map (getT s), glob.map (fun p => PySem.W.Fast.tw8920871248978507458 s.abs.heap mainGlobals p.1), bnames.map (fun x => PySem.W.Fast.tw8920871248978507458 s.abs.heap mainGlobals x), codeT s (.ref 225) "Null.__init__" && codeT s (.ref 247) "Vector.__init__", s.n)
theorem exT_spec {w : World} {s : SharedT} (x : exT s = exG w) : exS s.abs = exG w := by
  obtain ⟨x1, x2, x3, x4, x5, x6⟩ : _ ∧ _ ∧ _ ∧ _ ∧ _ ∧ _ := by simpa only [exT, exG, Prod.mk.injEq] using x
  rw [← PySem.W.Fast.te8920871248978507458] at x3 x4
  obtain ⟨c1, c2⟩ := Bool.and_eq_true_iff.mp x5
  simp only [exS, exG, Prod.mk.injEq]
  exact ⟨exFT_spec x1, gets_spec x2, x3, x4, Bool.and_eq_true_iff.mpr ⟨codeT_spec c1, codeT_spec c2⟩, (absHeap_size ..).trans x6⟩
noncomputable def elemS (k : Str) (l : List Str) : Bool := l.any (PySem.W.Fast.sEq k)
theorem elemS_eq (k : Str) (l : List Str) : elemS k l = l.contains k := by
  rw [List.contains_eq_any_beq]
  unfold elemS
  congr 1
  funext y
  rw [Bool.eq_iff_iff, beq_iff_eq, PySem.W.Fast.sEq_iff]
noncomputable def okT (w : World) (s : Shared) : Bool := staticsOk mods (boot_heap w.params) s.heap && (s.heap.isNs mainGlobals && (s.heap.nsKeys mainGlobals).all fun k => elemS k startupNames || elemS k (PySem.W.Fast.tw18344453789297297638 pr)) && gensDone s && laidKept (boot_heap w.params) s.heap
theorem okT_eq (w : World) (s : Shared) : okT w s = okS w s := by
  unfold okT okS namesBound
  simp only [elemS_eq]
  rw [← PySem.W.Fast.te18344453789297297638]
noncomputable def seenQ (s : Shared) := PySem.W.Fast.tw4187177175401517315 qv looseL mods (fun _ => true) true s
theorem seenQ_eq (s : Shared) : seenQ s = seenS s := by
  unfold seenQ seenS
  rw [← PySem.W.Fast.te4187177175401517315]
theorem run_quick : ∀ (w : World) (os : OsState), (topRunT pr w 11 (some (.ref 6)) 7000 (S0T w os) (topStub pr)).map (fun s => (okT w s.abs, seenQ s.abs, exT s)) = some (true, goodS, exG w) := by
  intro w os
  kernel_rfl!
theorem run_one (w : World) (os : OsState) : (topRunT pr w 11 (some (.ref 6)) 7000 (S0T w os) (topStub pr)).map (fun s => (okS w s.abs, seenS s.abs, exS s.abs)) = some (true, goodS, exG w) := by
  obtain ⟨s, e, x⟩ := Option.map_eq_some_iff.mp (run_quick w os)
  obtain ⟨x1, x2, x3⟩ : _ ∧ _ ∧ _ := by simpa only [Prod.mk.injEq] using x
  rw [e]
  show some (okS w s.abs, seenS s.abs, exS s.abs) = _
  rw [← okT_eq, x1, ← seenQ_eq, x2, exT_spec x3]
end -- H1
section
open PySem PySem.W PyProof.Rows
set_option maxRecDepth 100000
-- tests
theorem ite_T {P Q : Prop} (h : P) : if true = true then P else Q := h
theorem ite_F {P Q : Prop} (h : Q) : if false = true then P else Q := h
theorem ite_yes {c : Prop} [Decidable c] {P Q : Prop} (hc : c) (h : P) : if decide c = true then P else Q := by rw [if_pos (decide_eq_true hc)]; exact h
theorem ite_nay {c : Prop} [Decidable c] {P Q : Prop} (hc : ¬ c) (h : Q) : if decide c = true then P else Q := by rw [if_neg (by rw [decide_eq_false hc]; exact Bool.false_ne_true)]; exact h
theorem ite_beqY {a b : Int} {P Q : Prop} (hc : a = b) (h : P) : if (a == b) = true then P else Q := by subst hc; simpa using h
theorem ite_beqN {a b : Int} {P Q : Prop} (hc : a ≠ b) (h : Q) : if (a == b) = true then P else Q := by rw [if_neg (by simpa using hc)]; exact h
theorem ite_bneY {a b : Int} {P Q : Prop} (hc : a ≠ b) (h : P) : if (a != b) = true then P else Q := by rw [if_pos (by simpa using hc)]; exact h
theorem ite_bneN {a b : Int} {P Q : Prop} (hc : a = b) (h : Q) : if (a != b) = true then P else Q := by rw [if_neg (by simp [hc])]; exact h
theorem ite_isT {b : Bool} {P Q : Prop} (hc : b = true) (h : P) : if b = true then P else Q := by rw [if_pos hc]; exact h
theorem ite_isF {b : Bool} {P Q : Prop} (hc : b = false) (h : Q) : if b = true then P else Q := by rw [if_neg (by rw [hc]; exact Bool.false_ne_true)]; exact h
section
variable {w : World} {A : Around} {E : Value → Shared → Prop} {env : Env} {L : Addr} {B hb : Heap} {m : Str → Option Value} {news : List (Addr × Obj)}
variable {hp : Heap} {gs : Array GenState} {dr : Drawn} {tk : Nat} {os : OsState}
-- names
theorem r_local {x : Str} {pos : Pos} {v : Value} {Q : Value → Shared → Prop} (F : Fm B hb L hp m) (hv : m x = some v) (hL : env.locals = L) (hk : env.scope.kind = .function) (hl : env.kindOf x = some .local)
    (hd : (x == ("__debug__" : Str)) = false) (h : Q v ⟨hp, gs, dr, tk, os⟩) : wpAny (model pr w) A (eval (.Name x pos) env) Q E ⟨hp, gs, dr, tk, os⟩ := by
  subst hL
  exact wpAny_Name (wpAny_loadName_local hk hl F.ns hv h) hd
theorem r_loadl {x : Str} {v : Value} {Q : Value → Shared → Prop} (F : Fm B hb L hp m) (hv : m x = some v) (hL : env.locals = L) (hk : env.scope.kind = .function) (hl : env.kindOf x = some .local)
    (h : Q v ⟨hp, gs, dr, tk, os⟩) : wpAny (model pr w) A (loadName env x) Q E ⟨hp, gs, dr, tk, os⟩ := by
  subst hL
  exact wpAny_loadName_local hk hl F.ns hv h
theorem r_store {x : Str} {v : Value} {Q : Unit → Shared → Prop} (F : Fm B hb L hp m) (N : Nw hb L hp news) (hL : env.locals = L) (hk : env.scope.kind = .function) (hl : env.kindOf x = some .local) (hx : ("loose" : Str) ≠ x)
    (h : ∀ h', Fm B hb L h' (fun y => if y = x then some v else m y) → Nw hb L h' news → Q () ⟨h', gs, dr, tk + 1, os⟩) :
    wpAny (model pr w) A (storeName env x v) Q E ⟨hp, gs, dr, tk, os⟩ := by
  subst hL
  exact wpAny_storeName_local hl F.ns (fun h' hn hs => h h' (F.set hn (by rw [if_neg hx]; exact F.nl) hs) (N.set hs)) (by rw [hk]; rfl)
theorem r_glob {x : Str} {pos : Pos} {v : Value} {Q : Value → Shared → Prop} (F : Fm B hb L hp m) (G : Gd w B) (hx : glob.lookup x = some v) (hg : env.globals = mainGlobals) (hk : env.scope.kind = .function)
    (hl : env.kindOf x = some .globalImplicit) (hd : (x == ("__debug__" : Str)) = false) (h : Q v ⟨hp, gs, dr, tk, os⟩) : wpAny (model pr w) A (eval (.Name x pos) env) Q E ⟨hp, gs, dr, tk, os⟩ := by
  obtain ⟨_, mg, _, T, hm, _⟩ := G.T
  exact Calls.Name_function_global hk hl (Calls.loadGlobal_global (by rw [hg]; exact T.g.keeps F.keepB) (hm _ (mem_lookup hx)) h) hd
theorem r_built {x : Str} {pos : Pos} {v : Value} {Q : Value → Shared → Prop} (F : Fm B hb L hp m) (G : Gd w B) (hx : x ∈ bnames) (hv : bootBuiltins x = some v) (hn : x ≠ "__name__") (hg : env.globals = mainGlobals) (hb : env.builtins = builtinsNs)
    (hk : env.scope.kind = .function) (hl : env.kindOf x = some .globalImplicit) (hd : (x == ("__debug__" : Str)) = false) (h : Q v ⟨hp, gs, dr, tk, os⟩) : wpAny (model pr w) A (eval (.Name x pos) env) Q E ⟨hp, gs, dr, tk, os⟩ := by
  obtain ⟨_, mg, _, T, _, hm⟩ := G.T
  exact Calls.Name_function_global hk hl (Calls.loadGlobal_builtin (by rw [hg]; exact T.g.keeps F.keepB) (hm _ hx) (by rw [hb]; exact T.b.keeps F.keepB) ((T.builtins x hn).trans hv) h) hd
-- statements
theorem r_cons {st : Stmt} {rest : List Stmt} {s : Shared} {Q : Flow → Shared → Prop} (h : wpAny (model pr w) A (exec st env) (fun f s' => match f with | .next => wpAny (model pr w) A (execs rest env) Q E s' | f => Q f s') E s) :
    wpAny (model pr w) A (execs (st :: rest) env) Q E s := wpAny_execs_cons h
theorem r_nil {s : Shared} {Q : Flow → Shared → Prop} (h : Q .next s) : wpAny (model pr w) A (execs [] env) Q E s := wpAny_execs_nil h
theorem r_assign {s : Shared} {x : Str} {px : Pos} {value : Expr} {pos : Pos} {Q : Flow → Shared → Prop} (hs : swapsWith value (some (.Name x px)) pos.line env = pure false)
    (h : wpAny (model pr w) A (eval value env) (fun v s₁ => wpAny (model pr w) A (storeName env x v) (fun _ => Q .next) E s₁) E s) : wpAny (model pr w) A (exec (.Assign [.Name x px] value pos) env) Q E s := wpAny_Assign_Name h hs
theorem r_aug {s : Shared} {x : Str} {px : Pos} {op : Operator} {value : Expr} {pos : Pos} {Q : Flow → Shared → Prop}
    (h : wpAny (model pr w) A (loadName env x) (fun old s₁ => wpAny (model pr w) A (eval value env) (fun v s₂ => wpAny (model pr w) A (inplaceOp op old v)
      (fun r s₃ => wpAny (model pr w) A (storeName env x r) (fun _ => Q .next) E s₃) E s₂) E s₁) E s) : wpAny (model pr w) A (exec (.AugAssign (.Name x px) op value pos) env) Q E s := wpAny_AugAssign_Name h
theorem r_if {s : Shared} {test : Expr} {body orelse : List Stmt} {pos : Pos} {Q : Flow → Shared → Prop}
    (h : wpAny (model pr w) A (isTrue test env (eval test env)) (fun b s₂ => if b = true then wpAny (model pr w) A (execs body env) Q E s₂ else wpAny (model pr w) A (execs orelse env) Q E s₂) E s) :
    wpAny (model pr w) A (exec (.If test body orelse pos) env) Q E s := wpAny_If h
theorem r_ret {s : Shared} {e : Expr} {pos : Pos} {Q : Flow → Shared → Prop} (h : wpAny (model pr w) A (eval e env) (fun v => Q (.ret v)) E s) : wpAny (model pr w) A (exec (.Return (some e) pos) env) Q E s := wpAny_Return_some h
theorem r_exprN {s : Shared} {e : Expr} {pos : Pos} {Q : Flow → Shared → Prop} (hi : interactive env = false) (hs : swapsWith e none pos.line env = pure false)
    (h : wpAny (model pr w) A (eval e env) (fun v s' => v = .none ∧ Q .next s') E s) : wpAny (model pr w) A (exec (.Expr e pos) env) Q E s :=
  wpAny_Expr (wpAny_mono h (fun v s' q => by obtain ⟨rfl, q⟩ := q; exact q) fun _ _ x => x) hi hs
-- expressions
theorem r_int {i : Int} {k : Nat} {pos : Pos} {Q : Value → Shared → Prop} (h : Q (.int i tk) ⟨hp, gs, dr, tk + 1, os⟩) : wpAny (model pr w) A (eval (.Constant (.int i) k pos) env) Q E ⟨hp, gs, dr, tk, os⟩ := wpAny_Constant_int h
theorem r_str {x : Str} {k : Nat} {pos : Pos} {Q : Value → Shared → Prop} (h : Q (.str x tk) ⟨hp, gs, dr, tk + 1, os⟩) : wpAny (model pr w) A (eval (.Constant (.str x) k pos) env) Q E ⟨hp, gs, dr, tk, os⟩ := Calls.Constant_str h
theorem r_none {s : Shared} {k : Nat} {pos : Pos} {Q : Value → Shared → Prop} (h : Q .none s) : wpAny (model pr w) A (eval (.Constant .none k pos) env) Q E s := wpAny_Constant_none h
theorem r_bool {s : Shared} {b : Bool} {k : Nat} {pos : Pos} {Q : Value → Shared → Prop} (h : Q (.bool b) s) : wpAny (model pr w) A (eval (.Constant (.bool b) k pos) env) Q E s := fun _ _ _ => h
theorem r_bin {s : Shared} {l r : Expr} {op : Operator} {pos : Pos} {Q : Value → Shared → Prop}
    (h : wpAny (model pr w) A (eval l env) (fun a s₁ => wpAny (model pr w) A (eval r env) (fun b s₂ => wpAny (model pr w) A (binaryOp op a b) Q E s₂) E s₁) E s) : wpAny (model pr w) A (eval (.BinOp l op r pos) env) Q E s := wpAny_BinOp h
theorem r_cmp {s : Shared} {l r : Expr} {op : CmpOp} {pos : Pos} {Q : Value → Shared → Prop} (hm : behindInMarks op r = false)
    (h : wpAny (model pr w) A (eval l env) (fun a s₁ => wpAny (model pr w) A (eval r env) (fun b s₂ => wpAny (model pr w) A (compareOp op a b) Q E s₂) E s₁) E s) : wpAny (model pr w) A (eval (.Compare l [op] [r] pos) env) Q E s := wpAny_Compare1 h hm
theorem r_cmpT {s : Shared} {l r : Expr} {op : CmpOp} {pos : Pos} {whole : Sem Value} {Q : Bool → Shared → Prop} (hm : behindInMarks op r = false)
    (h : wpAny (model pr w) A (eval l env) (fun a s₁ => wpAny (model pr w) A (eval r env) (fun b s₂ => wpAny (model pr w) A (compareOp op a b) (fun c s₃ => wpAny (model pr w) A (truthy c) Q E s₃) E s₂) E s₁) E s) :
    wpAny (model pr w) A (isTrue (.Compare l [op] [r] pos) env whole) Q E s := wpAny_isTrue_Compare1 h hm
theorem r_un {s : Shared} {op : UnaryOp} {x : Expr} {pos : Pos} {Q : Value → Shared → Prop} (h : wpAny (model pr w) A (eval x env) (fun v s₁ => wpAny (model pr w) A (unaryOp op v) Q E s₁) E s) :
    wpAny (model pr w) A (eval (.UnaryOp op x pos) env) Q E s := UnaryOp_ h
theorem r_sub {s : Shared} {value slice : Expr} {pos : Pos} {Q : Value → Shared → Prop}
    (h : wpAny (model pr w) A (eval value env) (fun o s₁ => wpAny (model pr w) A (eval slice env) (fun i s₂ => wpAny (model pr w) A (subscriptTail value slice o i) Q E s₂) E s₁) E s) :
    wpAny (model pr w) A (eval (.Subscript value slice pos) env) Q E s := Subscript_ h
theorem r_tuple {s : Shared} {elts : List Expr} {k : Nat} {pos : Pos} {Q : Value → Shared → Prop} (h : wpAny (model pr w) A (spliced (backTo pos (starEach elts env))) (fun vs s₁ => wpAny (model pr w) A (newTuple vs) Q E s₁) E s) :
    wpAny (model pr w) A (eval (.Tuple elts k pos) env) Q E s := Tuple_ h
theorem r_list {s : Shared} {elts : List Expr} {pos : Pos} {Q : Value → Shared → Prop} (h : wpAny (model pr w) A (spliced (backTo pos (starEach elts env))) (fun vs s₁ => wpAny (model pr w) A (newList vs) Q E s₁) E s) :
    wpAny (model pr w) A (eval (.List elts pos) env) Q E s := List_ h
theorem r_call {s : Shared} {func : Expr} {args : List Expr} {pos : Pos} {Q : Value → Shared → Prop}
    (he : eval (.Call func args [] pos) env = (do callWith pos (← eval func env) [] (backTo pos (starEach args env)) (backToKw pos (keywordEach [] env))))
    (h : wpAny (model pr w) A (eval func env) (fun f s₁ => wpAny (model pr w) A (callWith pos f [] (backTo pos (starEach args env)) []) Q E s₁) E s) : wpAny (model pr w) A (eval (.Call func args [] pos) env) Q E s := Call_ h he
theorem r_spl {s : Shared} {e : Expr} {rest : List Expr} {pos : Pos} {Q : List Value → Shared → Prop} (he : starEach (e :: rest) env = (false, eval e env) :: starEach rest env)
    (h : wpAny (model pr w) A (eval e env) (fun v s₁ => wpAny (model pr w) A (spliced (backTo pos (starEach rest env))) (fun vs s₂ => Q (v :: vs) s₂) E s₁) E s) : wpAny (model pr w) A (spliced (backTo pos (starEach (e :: rest) env))) Q E s := spliced_more h he
theorem r_spn {s : Shared} {pos : Pos} {Q : List Value → Shared → Prop} (h : Q [] s) : wpAny (model pr w) A (spliced (backTo pos (starEach [] env))) Q E s := spliced_none h
-- calls
/-- a call of one of the text's defs -/
theorem r_cwDef {s : Shared} {pos : Pos} {f : Addr} {e : Expr} {rest : List Expr} {Q : Value → Shared → Prop} (G : Gd w B) (hf : (tblS.any fun p => p.2.2 == f) = true)
    (he : starEach (e :: rest) env = (false, eval e env) :: starEach rest env)
    (h : wpAny (model pr w) A (spliced (backTo pos (starEach (e :: rest) env))) (fun vs s₁ => SubX B s₁.heap ∧ wpAny (model pr w) A (call (.ref f) vs) Q E s₁) E s) :
    wpAny (model pr w) A (callWith pos (.ref f) [] (backTo pos (starEach (e :: rest) env)) []) Q E s := by
  obtain ⟨p, hp, e'⟩ := List.any_eq_true.mp hf
  obtain rfl : p.2.2 = f := by simpa using e'
  obtain ⟨o, pm, cd, ho, hd, _⟩ := G.F p hp
  exact PyProof.Rows.callWith_def hd (wpAny_mono h (fun vs s₁ q => ⟨q.1 _ _ ho, q.2⟩) fun _ _ x => x) he
theorem r_keep {P : Prop} (F : Fm B hb L hp m) (k : P) : SubX B hp ∧ P := ⟨F.keepB, k⟩
theorem r_cwB {s : Shared} {pos : Pos} {id : String} {e : Expr} {rest : List Expr} {Q : Value → Shared → Prop} (he : starEach (e :: rest) env = (false, eval e env) :: starEach rest env) (hn : (backTo pos (starEach rest env)).any (·.1) = false)
    (h : wpAny (model pr w) A (spliced (backTo pos (starEach (e :: rest) env))) (fun vs s₁ => wpAny (model pr w) A (call (.builtin id) vs) Q E s₁) E s) :
    wpAny (model pr w) A (callWith pos (.builtin id) [] (backTo pos (starEach (e :: rest) env)) []) Q E s := PyProof.Rows.callWith_builtin1 h he hn
theorem r_cwT {s : Shared} {pos : Pos} {id : String} {e : Expr} {rest : List Expr} {Q : Value → Shared → Prop} (he : starEach (e :: rest) env = (false, eval e env) :: starEach rest env) (hn : (backTo pos (starEach rest env)).any (·.1) = false)
    (h : wpAny (model pr w) A (spliced (backTo pos (starEach (e :: rest) env))) (fun vs s₁ => wpAny (model pr w) A (call (.type id) vs) Q E s₁) E s) :
    wpAny (model pr w) A (callWith pos (.type id) [] (backTo pos (starEach (e :: rest) env)) []) Q E s := PyProof.Rows.callWith_type1 h he hn
theorem off_wide {h' : Heap} (N : Nw hb L hp news) (F : Fm B hb L hp m) : Off hp h' (wide h' L news) := fun a o e e' =>
  ⟨o, wide_get e' (fun q => by obtain ⟨oL, _, _, h, _⟩ := F.ns; rw [q, h] at e; cases e) (fun p hp q => by obtain ⟨⟨_, x, _⟩, _⟩ := N.at_ p hp; rw [q, x] at e; cases e), .refl _⟩
theorem r_spec {d : Nat} {f : Value} {args : List Value} {Pre : Heap → Prop} {Post : Heap → Value → Prop} {Q : Value → Shared → Prop} (S : Spec w B d f args Pre Post) (R : Room A d) (G : Gd w B) (F : Fm B hb L hp m) (N : Nw hb L hp news) (hpre : Pre hp)
    (h : ∀ v h' hb' tk', Fm B hb' L h' m → Nw hb' L h' news → Sub hb hb' → (∀ g, Off hp hb' g → Post g v) → Q v ⟨h', gs, dr, tk', os⟩) : wpAny (model pr w) A (call f args) Q E ⟨hp, gs, dr, tk, os⟩ :=
  S A ⟨hp, gs, dr, tk, os⟩ Q E R G F.keepB hpre fun v h' tk' k kB q => by
    have F' := F.grow k kB
    have N' := N.grow k
    refine h v h' (wide h' L news) tk' (F'.wide N') N'.wide (wide_of F' N') fun g hg => q g fun a o e e' => ?_
    obtain ⟨o1, e1, s1⟩ := off_wide N F a o e e'
    obtain ⟨o2, e2, s2⟩ := hg a _ e e1
    exact ⟨o2, e2, s1.trans s2⟩
-- ints
theorem r_add {a b : Int} {t u : Tok} {Q : Value → Shared → Prop} (h : Q (.int (a + b) tk) ⟨hp, gs, dr, tk + 1, os⟩) : wpAny (model pr w) A (binaryOp .Add (.int a t) (.int b u)) Q E ⟨hp, gs, dr, tk, os⟩ := PyProof.Rows.add_int h
theorem r_subi {a b : Int} {t u : Tok} {Q : Value → Shared → Prop} (h : Q (.int (a - b) tk) ⟨hp, gs, dr, tk + 1, os⟩) : wpAny (model pr w) A (binaryOp .Sub (.int a t) (.int b u)) Q E ⟨hp, gs, dr, tk, os⟩ := PyProof.Rows.sub_int h
theorem r_mul {a b : Int} {t u : Tok} {Q : Value → Shared → Prop} (hm : IntMulOk a b) (h : Q (.int (a * b) tk) ⟨hp, gs, dr, tk + 1, os⟩) : wpAny (model pr w) A (binaryOp .Mult (.int a t) (.int b u)) Q E ⟨hp, gs, dr, tk, os⟩ := PyProof.Rows.mul_int h hm
theorem r_iadd {a b : Int} {t u : Tok} {Q : Value → Shared → Prop} (h : Q (.int (a + b) tk) ⟨hp, gs, dr, tk + 1, os⟩) : wpAny (model pr w) A (inplaceOp .Add (.int a t) (.int b u)) Q E ⟨hp, gs, dr, tk, os⟩ := PyProof.Rows.iadd_int h
theorem r_isub {a b : Int} {t u : Tok} {Q : Value → Shared → Prop} (h : Q (.int (a - b) tk) ⟨hp, gs, dr, tk + 1, os⟩) : wpAny (model pr w) A (inplaceOp .Sub (.int a t) (.int b u)) Q E ⟨hp, gs, dr, tk, os⟩ := PyProof.Rows.isub_int h
theorem r_fdiv1 {a : Int} {t u : Tok} {Q : Value → Shared → Prop} (h : Q (.int a tk) ⟨hp, gs, dr, tk + 1, os⟩) : wpAny (model pr w) A (binaryOp .FloorDiv (.int a t) (.int 1 u)) Q E ⟨hp, gs, dr, tk, os⟩ :=
  floordiv_int (by decide) (by rw [Int.fdiv_one]; exact h) (Or.inl (PyProof.noPylong_small (by decide)))
theorem r_fdiv {a b : Int} {t u : Tok} {Q : Value → Shared → Prop} (hb : 0 < b) (hb2 : b < 1000000000) (h : Q (.int (a / b) tk) ⟨hp, gs, dr, tk + 1, os⟩) : wpAny (model pr w) A (binaryOp .FloorDiv (.int a t) (.int b u)) Q E ⟨hp, gs, dr, tk, os⟩ :=
  floordiv_int (by omega) (by rw [Int.fdiv_eq_ediv_of_nonneg _ (by omega)]; exact h) (Or.inl (PyProof.noPylong_small (by omega)))
theorem r_mod {a b : Int} {t u : Tok} {Q : Value → Shared → Prop} (hb : 0 < b) (h : Q (.int (a % b) tk) ⟨hp, gs, dr, tk + 1, os⟩) : wpAny (model pr w) A (binaryOp .Mod (.int a t) (.int b u)) Q E ⟨hp, gs, dr, tk, os⟩ :=
  PyProof.Rows.mod_int (by omega) (by rw [Int.fmod_eq_emod_of_nonneg _ (by omega)]; exact h)
theorem r_lt {s : Shared} {a b : Int} {t u : Tok} {Q : Value → Shared → Prop} (h : Q (.bool (decide (a < b))) s) : wpAny (model pr w) A (compareOp .Lt (.int a t) (.int b u)) Q E s := PyProof.Rows.lt_int h
theorem r_gt {s : Shared} {a b : Int} {t u : Tok} {Q : Value → Shared → Prop} (h : Q (.bool (decide (b < a))) s) : wpAny (model pr w) A (compareOp .Gt (.int a t) (.int b u)) Q E s := PyProof.Rows.gt_int h
theorem r_le {s : Shared} {a b : Int} {t u : Tok} {Q : Value → Shared → Prop} (h : Q (.bool (decide (a ≤ b))) s) : wpAny (model pr w) A (compareOp .LtE (.int a t) (.int b u)) Q E s := PyProof.Rows.le_int h
theorem r_ge {s : Shared} {a b : Int} {t u : Tok} {Q : Value → Shared → Prop} (h : Q (.bool (decide (b ≤ a))) s) : wpAny (model pr w) A (compareOp .GtE (.int a t) (.int b u)) Q E s := PyProof.Rows.ge_int h
theorem r_eq {s : Shared} {a b : Int} {t u : Tok} {Q : Value → Shared → Prop} (h : Q (.bool (a == b)) s) : wpAny (model pr w) A (compareOp .Eq (.int a t) (.int b u)) Q E s := PyProof.Rows.eq_int h
theorem r_ne {s : Shared} {a b : Int} {t u : Tok} {Q : Value → Shared → Prop} (h : Q (.bool (a != b)) s) : wpAny (model pr w) A (compareOp .NotEq (.int a t) (.int b u)) Q E s := PyProof.Rows.ne_int h
theorem r_isnone {s : Shared} {v : Value} {Q : Value → Shared → Prop} (h : Q (.bool (v == .none)) s) : wpAny (model pr w) A (compareOp .Is v .none) Q E s := is_none_gen h
theorem r_notnone {s : Shared} {v : Value} {Q : Value → Shared → Prop} (h : Q (.bool (!(v == .none))) s) : wpAny (model pr w) A (compareOp .IsNot v .none) Q E s := isnot_none_gen h
theorem r_trB {s : Shared} {b : Bool} {Q : Bool → Shared → Prop} (h : Q b s) : wpAny (model pr w) A (truthy (.bool b)) Q E s := wpAny_truthy_bool h
theorem r_abs {a : Int} {t : Tok} {Q : Value → Shared → Prop} (h : ∀ u tk', Q (.int a.natAbs u) ⟨hp, gs, dr, tk', os⟩) : wpAny (model pr w) A (call (.builtin "abs") [.int a t]) Q E ⟨hp, gs, dr, tk, os⟩ :=
  PyProof.Rows.call_abs_int fun u tk' => by
    have e : (if a < 0 then -a else a) = (a.natAbs : Int) := by split <;> omega
    rw [e]; exact h u tk'
theorem tup_up {h h' : Heap} {a : Addr} {vs : Array Value} (x : IsTup h a vs) (k : Sub h h') : IsTup h' a vs := by
  obtain ⟨o, e, c, es, d⟩ := x
  exact ⟨o, k.fix e (fixed_seq d), c, es, d⟩
theorem seqIx {k : Int} {n : Nat} (h0 : 0 ≤ k) (h1 : k.toNat < n) : seqIndex? k n = some k.toNat := by
  have e : (if k < 0 then k + (n : Int) else k) = k := if_neg (by omega)
  unfold seqIndex?
  rw [e]
  exact if_pos (by simp; omega)
theorem r_tupI {value slice : Expr} {t : Addr} {l : List Value} {k : Int} {u : Tok} {x : Value} {Q : Value → Shared → Prop} (F : Fm B hb L hp m) (ht : IsTup hb t l.toArray)
    (hj : 0 ≤ k ∧ k < 1000) (hx : l[k.toNat]? = some x) (hs : subscripted slice false (.ref t) (.int k u) = operate [.ref t, .int k u] (getItem (.ref t) (.int k u)))
    (h : Q x ⟨hp, gs, dr, tk, os⟩) : wpAny (model pr w) A (subscriptTail value slice (.ref t) (.int k u)) Q E ⟨hp, gs, dr, tk, os⟩ := by
  have hlt : k.toNat < l.length := (List.getElem?_eq_some_iff.mp hx).1
  exact item_tupleT (j := k.toNat) (tup_up ht F.keep) (by omega) (by omega) (seqIx hj.1 hlt) hx h hs
theorem r_newT {vs : List Value} {Q : Value → Shared → Prop} (F : Fm B hb L hp m) (N : Nw hb L hp news) (hz : vs.length ≤ sizeLine)
    (h : ∀ a h', Fm B hb L h' m → Nw hb L h' ((a, { cls := .type "tuple", data := .seq vs.toArray }) :: news) → Q (.ref a) ⟨h', gs, dr, tk, os⟩) :
    wpAny (model pr w) A (newTuple vs) Q E ⟨hp, gs, dr, tk, os⟩ := wpAny_newObj_type (h _ _ (F.push _) (N.push F _ rfl)) (by show vs.toArray.size ≤ sizeLine; rw [List.size_toArray]; exact hz)
theorem r_newL {vs : List Value} {Q : Value → Shared → Prop} (F : Fm B hb L hp m) (N : Nw hb L hp news) (hz : vs.length ≤ sizeLine)
    (h : ∀ a h', Fm B hb L h' m → Nw hb L h' ((a, { cls := .type "list", data := .seq vs.toArray }) :: news) → Q (.ref a) ⟨h', gs, dr, tk, os⟩) :
    wpAny (model pr w) A (newList vs) Q E ⟨hp, gs, dr, tk, os⟩ := wpAny_newObj_type (h _ _ (F.push _) (N.push F _ rfl)) (by show vs.toArray.size ≤ sizeLine; rw [List.size_toArray]; exact hz)
/-- a while, by an invariant with a measure -/
theorem r_while {test : Expr} {body : List Stmt} {pos : Pos} {s : Shared} {Q : Flow → Shared → Prop} (I : Nat → Shared → Prop) (n : Nat) (h : I n s)
    (turn : ∀ k s' E', I k s' → wpAny (model pr w) A (isTrue test env (eval test env)) (fun b s₂ => if b = true then wpAny (model pr w) A (execs body env) (fun f s₃ => f = .next ∧ ∃ j, j < k ∧ I j s₃) E' s₂ else Q .next s₂) E' s') :
    wpAny (model pr w) A (exec (.While test body [] pos) env) Q E s := by
  refine wpAny_While (codeAny_whileLoop I (fun k s' hI => ?_) n h)
  refine wpAny_mono (turn k s' _ hI) (fun b s₂ q => ?_) fun _ _ x => x
  cases b with
  | true =>
    simp only [if_true] at q ⊢
    refine wpAny_mono q (fun f s₃ z => ?_) fun _ _ x => x
    obtain ⟨rfl, z⟩ := z
    exact z
  | false =>
    simp only [Bool.false_eq_true, if_false] at q ⊢
    exact wpAny_execs_nil q
/-- a while that is left at once -/
theorem r_while0 {test : Expr} {body : List Stmt} {pos : Pos} {s : Shared} {Q : Flow → Shared → Prop}
    (h : ∀ E', wpAny (model pr w) A (isTrue test env (eval test env)) (fun b s₂ => if b = true then False else Q .next s₂) E' s) : wpAny (model pr w) A (exec (.While test body [] pos) env) Q E s :=
  r_while (fun _ s' => s' = s) 0 rfl fun k s' E' e => by
    subst e
    refine wpAny_mono (h E') (fun b s₂ q => ?_) fun _ _ x => x
    cases b with
    | true => exact False.elim q
    | false => exact q
end
section
variable {M : Model} {A : Around} {E : Value → Shared → Prop} {s : Shared} {env : Env}
theorem g_execs {l : List Stmt} {Q : Flow → Shared → Prop} (h : wpAny M A (execs l env) Q E s) : wpAny M A (execs l env) Q E s := h
theorem g_exec {l : Stmt} {Q : Flow → Shared → Prop} (h : wpAny M A (exec l env) Q E s) : wpAny M A (exec l env) Q E s := h
theorem g_eval {l : Expr} {Q : Value → Shared → Prop} (h : wpAny M A (eval l env) Q E s) : wpAny M A (eval l env) Q E s := h
theorem g_true {l : Expr} {t : Sem Value} {Q : Bool → Shared → Prop} (h : wpAny M A (isTrue l env t) Q E s) : wpAny M A (isTrue l env t) Q E s := h
theorem g_splice {l : List (Bool × Sem Value)} {Q : List Value → Shared → Prop} (h : wpAny M A (spliced l) Q E s) : wpAny M A (spliced l) Q E s := h
theorem g_bin {a b : Value} {op : Operator} {Q : Value → Shared → Prop} (h : wpAny M A (binaryOp op a b) Q E s) : wpAny M A (binaryOp op a b) Q E s := h
theorem g_inp {a b : Value} {op : Operator} {Q : Value → Shared → Prop} (h : wpAny M A (inplaceOp op a b) Q E s) : wpAny M A (inplaceOp op a b) Q E s := h
theorem g_un {a : Value} {op : UnaryOp} {Q : Value → Shared → Prop} (h : wpAny M A (unaryOp op a) Q E s) : wpAny M A (unaryOp op a) Q E s := h
theorem g_cmp {a b : Value} {op : CmpOp} {Q : Value → Shared → Prop} (h : wpAny M A (compareOp op a b) Q E s) : wpAny M A (compareOp op a b) Q E s := h
theorem g_tru {a : Value} {Q : Bool → Shared → Prop} (h : wpAny M A (truthy a) Q E s) : wpAny M A (truthy a) Q E s := h
theorem g_call {f : Value} {as : List Value} {Q : Value → Shared → Prop} (h : wpAny M A (call f as) Q E s) : wpAny M A (call f as) Q E s := h
theorem g_cw {pos : Pos} {f : Value} {fi : List Value} {as : List (Bool × Sem Value)} {Q : Value → Shared → Prop} (h : wpAny M A (callWith pos f fi as []) Q E s) : wpAny M A (callWith pos f fi as []) Q E s := h
theorem g_tail {v sl : Expr} {o i : Value} {Q : Value → Shared → Prop} (h : wpAny M A (subscriptTail v sl o i) Q E s) : wpAny M A (subscriptTail v sl o i) Q E s := h
theorem g_newT {vs : List Value} {Q : Value → Shared → Prop} (h : wpAny M A (newTuple vs) Q E s) : wpAny M A (newTuple vs) Q E s := h
theorem g_newL {vs : List Value} {Q : Value → Shared → Prop} (h : wpAny M A (newList vs) Q E s) : wpAny M A (newList vs) Q E s := h
theorem g_sto {x : Str} {v : Value} {Q : Unit → Shared → Prop} (h : wpAny M A (storeName env x v) Q E s) : wpAny M A (storeName env x v) Q E s := h
theorem g_loa {x : Str} {Q : Value → Shared → Prop} (h : wpAny M A (loadName env x) Q E s) : wpAny M A (loadName env x) Q E s := h
theorem g_ite {b : Bool} {P Q : Prop} (h : if b = true then P else Q) : if b = true then P else Q := h
theorem g_kp {h₀ h : Heap} {P : Prop} (k : SubX h₀ h ∧ P) : SubX h₀ h ∧ P := k
end
end -- A1
section
open PySem PySem.W PyProof.Rows PySem.Builtin PySem.Builtin.Str
set_option maxRecDepth 100000
set_option linter.unusedVariables false
section
variable {w : World} {A : Around} {E : Value → Shared → Prop} {env : Env} {L : Addr} {B hb : Heap} {m : Str → Option Value} {news : List (Addr × Obj)}
variable {hp : Heap} {gs : Array GenState} {dr : Drawn} {tk : Nat} {os : OsState}
theorem r_pow {a n : Int} {t u : Tok} {Q : Value → Shared → Prop} (hn : 0 ≤ n) (hn2 : n ≤ 1000000) (ha : a.natAbs < 2 ^ 64) (h : Q (.int (a ^ n.toNat) tk) ⟨hp, gs, dr, tk + 1, os⟩) :
    wpAny (model pr w) A (binaryOp .Pow (.int a t) (.int n u)) Q E ⟨hp, gs, dr, tk, os⟩ := pow_int_small hn hn2 ha h
theorem r_strI {a : Int} {t : Tok} {Q : Value → Shared → Prop} (ha : a.natAbs < 4611686018427387904) (h : Q (.str (toString a) tk) ⟨hp, gs, dr, tk + 1, os⟩) : wpAny (model pr w) A (call (.type "str") [.int a t]) Q E ⟨hp, gs, dr, tk, os⟩ :=
  str_of_int_fit (N := 4611686018427387904) (by split <;> omega) (by decide) fun _ => h
theorem r_lenS {x : Str} {t : Tok} {Q : Value → Shared → Prop} (hx : x.length ≤ 1000000) (h : Q (.int x.length (tk + 1)) ⟨hp, gs, dr, tk + 2, os⟩) : wpAny (model pr w) A (call (.builtin "len") [.str x t]) Q E ⟨hp, gs, dr, tk, os⟩ :=
  PyProof.Rows.len_str (by omega) h
theorem r_eqS {s : Shared} {x y : Str} {t u : Tok} {Q : Value → Shared → Prop} (h : Q (.bool (x == y)) s) : wpAny (model pr w) A (compareOp .Eq (.str x t) (.str y u)) Q E s := PyProof.Rows.eq_str h
theorem r_neS {s : Shared} {x y : Str} {t u : Tok} {Q : Value → Shared → Prop} (h : Q (.bool (x != y)) s) : wpAny (model pr w) A (compareOp .NotEq (.str x t) (.str y u)) Q E s := PyProof.Rows.ne_str h
theorem r_addS {x y : Str} {t u : Tok} {Q : Value → Shared → Prop} (hz : x.length + y.length ≤ 1000000) (h : ∀ t' tk', Q (.str (x ++ y) t') ⟨hp, gs, dr, tk', os⟩) : wpAny (model pr w) A (binaryOp .Add (.str x t) (.str y u)) Q E ⟨hp, gs, dr, tk, os⟩ :=
  PyProof.Rows.add_str (s := ⟨hp, gs, dr, tk, os⟩) h (Nat.le_trans hz (by decide))
theorem r_itemS {value slice : Expr} {x : Str} {i : Int} {t u : Tok} {Q : Value → Shared → Prop} (h1 : 0 ≤ i) (h2 : i < x.length) (hz : x.length ≤ 1000000)
    (hs : subscripted slice false (.str x t) (.int i u) = operate [.str x t, .int i u] (getItem (.str x t) (.int i u))) (ht : ∀ r, letTemporaryGo value (.str x t) r = pure ())
    (h : Q (.str (Txt.item x i) tk) ⟨hp, gs, dr, tk + 1, os⟩) : wpAny (model pr w) A (subscriptTail value slice (.str x t) (.int i u)) Q E ⟨hp, gs, dr, tk, os⟩ :=
  PyProof.Rows.item_str (by unfold fitsSsize; simp; omega) (by omega) h2 (fun _ => h) hs ht
theorem r_slice {lower upper : Option Expr} {p : Pos} {s : Shared} {Q : Value → Shared → Prop}
    (h : wpAny (model pr w) A (evalPart lower env) (fun l s₁ => wpAny (model pr w) A (evalPart upper env) (fun u s₂ => Q (.ref s₂.heap.objs.size) { s₂ with heap := s₂.heap.push { cls := .type "slice", data := .fields #[l, u, .none] } }) E s₁) E s) :
    wpAny (model pr w) A (eval (.Slice lower upper none p) env) Q E s := wpAny_Slice (wpAny_mono h (fun l s₁ h₁ => wpAny_mono h₁ (fun u s₂ h₂ => wpAny_pure h₂) fun _ _ x => x) fun _ _ x => x)
theorem r_part0 {s : Shared} {Q : Value → Shared → Prop} (h : Q .none s) : wpAny (model pr w) A (evalPart none env) Q E s := wpAny_pure h
theorem r_part1 {e : Expr} {s : Shared} {Q : Value → Shared → Prop} (h : wpAny (model pr w) A (eval e env) Q E s) : wpAny (model pr w) A (evalPart (some e) env) Q E s := h
/-- text[:j] -/
theorem r_cutS {value slice : Expr} {x : Str} {j : Int} {t uj : Tok} {Q : Value → Shared → Prop} (F : Fm B hb L hp m) (N : Nw hb L hp news) (hz : x.length ≤ 1000000)
    (hs : subscripted slice false (.str x t) (.ref hp.objs.size) = operate [.ref hp.objs.size, .str x t] (getItem (.str x t) (.ref hp.objs.size))) (ht : ∀ r, letTemporaryGo value (.str x t) r = pure ())
    (h : ∀ h' t' tk', Fm B hb L h' m → Nw hb L h' news → Q (.str (Txt.slice x none (some j)) t') ⟨h', gs, dr, tk', os⟩) :
    wpAny (model pr w) A (subscriptTail value slice (.str x t) (.ref hp.objs.size)) Q E ⟨hp.push { cls := .type "slice", data := .fields #[.none, .int j uj, .none] }, gs, dr, tk, os⟩ :=
  PyProof.Rows.slice_strN_ns (s := ⟨hp, gs, dr, tk, os⟩) F.fr0 allN_news (fun h' t' k F' N' => h h' t' k (F.kit F.fr0 F' N' F.nl) (N.kit F.fr0 F' N')) hs ht (Nat.le_trans hz (by decide))
theorem r_max {a b : Int} {t u : Tok} {Q : Value → Shared → Prop} (R : Room A 0) (F : Fm B hb L hp m) (N : Nw hb L hp news)
    (h : ∀ h' tk' t', Fm B hb L h' m → Nw hb L h' news → Q (.int (max a b) t') ⟨h', gs, dr, tk', os⟩) : wpAny (model pr w) A (call (.builtin "max") [.int a t, .int b u]) Q E ⟨hp, gs, dr, tk, os⟩ :=
  max_two_N R.hand F.fr0 allN_news fun h' tk' F' N' => by
    have := h h' tk' (if b > a then u else t) (F.kit F.fr0 F' N' F.nl) (N.kit F.fr0 F' N')
    have e : (if b > a then b else a) = max a b := by rw [Int.max_def]; split <;> split <;> omega
    rw [e]; exact this
/-- a, b, c = t -/
theorem r_unpack {t : Addr} {l : List Value} {n : Nat} {Q : List Value → Shared → Prop} (R : Room A 0) (F : Fm B hb L hp m) (N : Nw hb L hp news) (ht : IsTup hb t l.toArray) (hn : n = l.length)
    (h : ∀ h', Fm B hb L h' m → Nw hb L h' news → Q l ⟨h', gs, dr, tk, os⟩) : wpAny (model pr w) A (unpackItems (.ref t) n none) Q E ⟨hp, gs, dr, tk, os⟩ := by
  subst hn
  have := unpackItems_tuple (prog := pr) (w := w) (E := E) (s := ⟨hp, gs, dr, tk, os⟩) (Q := Q) R.hand (tup_up ht F.keep) (fun h' he => by
    have k : SubX hp h' := fun b o e => he b o (Nat.ne_of_lt (Heap.lt_size e)) e
    exact h h' (F.growX k) (N.grow k.sub))
  simpa using this
theorem r_meth {o : Expr} {name : Str} {apos pos : Pos} {args : List Expr} {pl : Sem Bool} {s : Shared} {Q : Value → Shared → Prop}
    (he : eval (.Call (.Attribute o name apos) args [] pos) env = (do
      let ov ← eval o env
      standAt apos.atName
      let (f, first) ← holding [ov] (getMethod ov name pl)
      callWith pos f first (backTo pos (starEach args env)) []))
    (h : wpAny (model pr w) A (eval o env) (fun ov s₁ => wpAny (model pr w) A (getMethod ov name pl) (fun fx s₂ => wpAny (model pr w) A (callWith pos fx.1 fx.2 (backTo pos (starEach args env)) []) Q E s₂) E s₁) E s) :
    wpAny (model pr w) A (eval (.Call (.Attribute o name apos) args [] pos) env) Q E s := MethodCall_ h he
theorem r_cm0 {pos : Pos} {id : String} {first : List Value} {s : Shared} {Q : Value → Shared → Prop} (h : wpAny (model pr w) A (call (.builtin id) first) Q E s) :
    wpAny (model pr w) A (callWith pos (.builtin id) first (backTo pos (starEach [] env)) []) Q E s := callWith_method0 h
theorem r_cm1 {pos : Pos} {id : String} {first : List Value} {e : Expr} {rest : List Expr} {s : Shared} {Q : Value → Shared → Prop} (he : starEach (e :: rest) env = (false, eval e env) :: starEach rest env) (hn : (backTo pos (starEach rest env)).any (·.1) = false)
    (h : wpAny (model pr w) A (spliced (backTo pos (starEach (e :: rest) env))) (fun vs s₁ => wpAny (model pr w) A (call (.builtin id) (first ++ vs)) Q E s₁) E s) :
    wpAny (model pr w) A (callWith pos (.builtin id) first (backTo pos (starEach (e :: rest) env)) []) Q E s := callWith_method1 h he hn
/-- a list that is there -/
def Ls (h : Heap) (a : Addr) (vs : List Value) : Prop := ∃ n, h.get? a = some (listOf vs.toArray n)
theorem Ls.isList {h : Heap} {a : Addr} {vs : List Value} (x : Ls h a vs) : h.IsList a vs.toArray := let ⟨_, e⟩ := x; ⟨_, e, rfl, _, rfl⟩
theorem Ls.up {h h' : Heap} {a : Addr} {vs : List Value} (x : Ls h a vs) (k : Sub h h') : Ls h' a vs := let ⟨n, e⟩ := x; ⟨n, k.fix e (fixed_seq rfl)⟩
theorem Ls.of_news (N : Nw hb L hp news) {a : Addr} {vs : List Value} {n : Nat} (hm : (a, listOf vs.toArray n) ∈ news) : Ls hp a vs := ⟨n, N.get hm (fixed_seq rfl)⟩
theorem Ls.neL (F : Fm B hb L hp m) {a : Addr} {vs : List Value} (x : Ls hp a vs) : a ≠ L := fun e => by
  subst e
  obtain ⟨_, h1⟩ := x
  obtain ⟨o, es, ep, h2, h3, _⟩ := F.ns
  rw [h1] at h2
  cases h2
  cases h3
theorem r_mL {d : Addr} {vs : List Value} {name : Str} {id : String} {pl : Sem Bool} {Q : Value × List Value → Shared → Prop} (S : Slot "list" name id) (hT : typeOf (.builtin id) = pure (.type "method_descriptor")) (hx : Ls hp d vs)
    (h : Q (.builtin id, [.ref d]) ⟨hp, gs, dr, tk, os⟩) : wpAny (model pr w) A (getMethod (.ref d) name pl) Q E ⟨hp, gs, dr, tk, os⟩ := by
  obtain ⟨n, hx⟩ := hx
  exact getMethod_builtin ⟨_, hx, rfl⟩ PySem.F.plainAttrs_list S hT (fun a e => by cases e; exact ⟨_, hx, rfl⟩) h
theorem r_append {d : Addr} {vs : List Value} {n i : Nat} {x : Value} {Q : Value → Shared → Prop} (F : Fm B hb L hp m) (N : Nw hb L hp news) (hi : news[i]? = some (d, listOf vs.toArray n)) (hz : vs.length ≤ 1000000)
    (h : ∀ h' n', Fm B hb L h' m → Nw hb L h' (news.set i (d, listOf (vs ++ [x]).toArray n')) → Q .none ⟨h', gs, dr, tk, os⟩) : wpAny (model pr w) A (call (.builtin "list.append") [.ref d, x]) Q E ⟨hp, gs, dr, tk, os⟩ := by
  refine wpAny_list_append_plain (hsz := by rw [List.size_toArray]; exact Nat.le_trans hz (by decide)) ⟨n, N.get (List.mem_of_getElem? hi) (fixed_seq rfl)⟩ fun h' hl hs => ?_
  obtain ⟨n', e⟩ := hl
  refine h h' n' (F.upd N (List.mem_of_getElem? hi) hs) (N.upd hi hs ?_)
  rw [e]; simp
theorem own0 (N : Nw hb L hp news) {i : Nat} {p : Addr × Obj} (hi : news[i]? = some p) (f : Fixed p.2) : p ∈ allN {} L hp := mem_all0 (N.get (List.mem_of_getElem? hi) f) (N.ne (List.mem_of_getElem? hi))
theorem r_extend {d b : Addr} {vs xs : List Value} {n i : Nat} {Q : Value → Shared → Prop} (F : Fm B hb L hp m) (N : Nw hb L hp news) (hi : news[i]? = some (d, listOf vs.toArray n)) (hx : Ls hp b xs) (h0 : xs ≠ []) (hz : vs.length + xs.length ≤ 1000000)
    (h : ∀ h' n', Fm B hb L h' m → Nw hb L h' (news.set i (d, listOf (vs ++ xs).toArray n')) → Q .none ⟨h', gs, dr, tk, os⟩) : wpAny (model pr w) A (call (.builtin "list.extend") [.ref d, .ref b]) Q E ⟨hp, gs, dr, tk, os⟩ := by
  have bL := Ls.neL F hx
  obtain ⟨n2, hx⟩ := hx
  have own := own0 N hi (fixed_seq rfl)
  refine kl_extend (s := ⟨hp, gs, dr, tk, os⟩) F.fr0 allN_news (mem_all0 hx bL) (l := vs ++ xs) (by simp) (by simpa using h0) (upd_apart allN_apart own) ?_ ?_ ?_ fun h' F' N' => ?_
  · rw [List.size_toArray, List.size_toArray]
    unfold Builtin.List.listTooLong
    simp
    intro _
    exact Nat.le_trans hz (by decide)
  · simp; exact Nat.le_trans (Nat.le_trans (Nat.le_add_right _ _) hz) (by decide)
  · rw [List.size_toArray, List.size_toArray]; exact Nat.le_trans hz (by decide)
  · obtain ⟨a, b⟩ := F.kitU N hi F.fr0 own F' N'
    exact h h' _ a b
theorem r_reverse {d : Addr} {vs : List Value} {n i : Nat} {Q : Value → Shared → Prop} (F : Fm B hb L hp m) (N : Nw hb L hp news) (hi : news[i]? = some (d, listOf vs.toArray n)) (hz : vs.length ≤ 1000000)
    (h : ∀ h', Fm B hb L h' m → Nw hb L h' (news.set i (d, listOf vs.reverse.toArray n)) → Q .none ⟨h', gs, dr, tk, os⟩) : wpAny (model pr w) A (call (.builtin "list.reverse") [.ref d]) Q E ⟨hp, gs, dr, tk, os⟩ := by
  have own := own0 N hi (fixed_seq rfl)
  refine kl_reverse (s := ⟨hp, gs, dr, tk, os⟩) F.fr0 allN_news (l := vs.reverse) (by simp) (upd_apart allN_apart own) (by simp; exact Nat.le_trans hz (by decide)) fun h' F' N' => ?_
  obtain ⟨a, b⟩ := F.kitU N hi F.fr0 own F' N'
  exact h h' a b
theorem r_join1 {d : Addr} {x y : Str} {t u : Tok} {Q : Value → Shared → Prop} (hx : Ls hp d [.str y u]) (hy : y.length ≤ 1000000) (hz : x.length ≤ 100)
    (h : ∀ t' tk', Q (.str y t') ⟨hp, gs, dr, tk', os⟩) : wpAny (model pr w) A (call (.builtin "str.join") [.str x t, .ref d]) Q E ⟨hp, gs, dr, tk, os⟩ := by
  refine SC.join (l := [(y, u)]) (texts := [y]) (s := ⟨hp, gs, dr, tk, os⟩) hx.isList rfl ?_ h
  unfold JoinOk
  simp only [Bool.not_eq_true', tooLong]
  simp
  exact Nat.le_trans (Nat.add_le_add hy hz) (by decide)
theorem padOk {i : Int} (h0 : 0 ≤ i) (h1 : i ≤ 1000000) : PadOk i = true := by
  have z : sizeLine = 16777216 := by decide
  unfold PadOk fitsSsize
  simp [tooLong, z]
  omega
theorem r_rjust {x : Str} {i : Int} {t u : Tok} {Q : Value → Shared → Prop} (h0 : 0 ≤ i) (h1 : i ≤ 1000000) (h : ∀ t' tk', Q (.str (Txt.rjust x i) t') ⟨hp, gs, dr, tk', os⟩) : wpAny (model pr w) A (call (.builtin "str.rjust") [.str x t, .int i u]) Q E ⟨hp, gs, dr, tk, os⟩ :=
  SC.rjust (s := ⟨hp, gs, dr, tk, os⟩) (padOk h0 h1) h
/-- nothing to fill -/
theorem r_rjust1 {x f : Str} {i : Int} {t u v : Tok} {Q : Value → Shared → Prop} (h0 : 0 ≤ i) (h1 : i ≤ 1000000) (hf : f.length = 1) (hi : i ≤ x.length) (h : ∀ t' tk', Q (.str x t') ⟨hp, gs, dr, tk', os⟩) : wpAny (model pr w) A (call (.builtin "str.rjust") [.str x t, .int i u, .str f v]) Q E ⟨hp, gs, dr, tk, os⟩ :=
  rjust_fill (s := ⟨hp, gs, dr, tk, os⟩) (padOk h0 h1) hf fun t' k => by
    have : Txt.rjustF x i (f.cps.getD 0 0) = x := if_pos hi
    rw [this]; exact h t' k
theorem r_asg3 {x y z : Str} {px py pz tpos : Pos} {k : Nat} {v : Value} {s : Shared} {Q : Unit → Shared → Prop}
    (h : wpAny (model pr w) A (unpackItems v 3 none) (fun vs s₁ => ∃ a b c, vs = [a, b, c] ∧ wpAny (model pr w) A (storeName env x a) (fun _ s₂ => wpAny (model pr w) A (storeName env y b) (fun _ s₃ => wpAny (model pr w) A (storeName env z c) Q E s₃) E s₂) E s₁) E s) :
    wpAny (model pr w) A (assign (.Tuple [.Name x px, .Name y py, .Name z pz] k tpos) env v) Q E s := by
  rw [PyProof.Rows.assign_Tuple]
  refine wpAny_bind (wpAny_standAt ?_)
  show wpAny _ _ (do assignInOrder [assign (.Name x px) env, assign (.Name y py) env, assign (.Name z pz) env] (← holding [v] (unpackItems v 3 none))) _ _ _
  refine wpAny_bind (wpAny_holding (wpAny_mono h (fun vs s₁ q => ?_) fun _ _ e => e))
  obtain ⟨a, b, c, rfl, q⟩ := q
  exact assignInOrder_cons (assign_Name (wpAny_mono q (fun _ s₂ q => assignInOrder_cons (assign_Name (wpAny_mono q (fun _ s₃ q => assignInOrder_cons (assign_Name (wpAny_mono q (fun _ s₄ q => assignInOrder_nil q) fun _ _ e => e))) fun _ _ e => e))) fun _ _ e => e))
theorem r_neg {a : Int} {t : Tok} {Q : Value → Shared → Prop} (h : Q (.int (-a) tk) ⟨hp, gs, dr, tk + 1, os⟩) : wpAny (model pr w) A (unaryOp .USub (.int a t)) Q E ⟨hp, gs, dr, tk, os⟩ := PyProof.Rows.neg_int h
theorem r_not {v : Value} {s : Shared} {Q : Value → Shared → Prop} (h : wpAny (model pr w) A (truthy v) (fun c s' => Q (.bool (!c)) s') E s) : wpAny (model pr w) A (unaryOp .Not v) Q E s := not_of h
theorem g_gm {v : Value} {n : Str} {pl : Sem Bool} {s : Shared} {Q : Value × List Value → Shared → Prop} (h : wpAny (model pr w) A (getMethod v n pl) Q E s) : wpAny (model pr w) A (getMethod v n pl) Q E s := h
theorem g_asg {x : Expr} {v : Value} {s : Shared} {Q : Unit → Shared → Prop} (h : wpAny (model pr w) A (assign x env v) Q E s) : wpAny (model pr w) A (assign x env v) Q E s := h
theorem g_upk {v : Value} {n : Nat} {st : Option Nat} {s : Shared} {Q : List Value → Shared → Prop} (h : wpAny (model pr w) A (unpackItems v n st) Q E s) : wpAny (model pr w) A (unpackItems v n st) Q E s := h
theorem g_prt {e : Option Expr} {s : Shared} {Q : Value → Shared → Prop} (h : wpAny (model pr w) A (evalPart e env) Q E s) : wpAny (model pr w) A (evalPart e env) Q E s := h
theorem g_nn {P : Prop} (h : P) : Value.none = Value.none ∧ P := ⟨rfl, h⟩
theorem g_3 {a b c : Value} {P : Value → Value → Value → Prop} (h : P a b c) : ∃ a' b' c', [a, b, c] = [a', b', c'] ∧ P a' b' c' := ⟨a, b, c, rfl, h⟩
end
end -- A2
section
open PySem PySem.W PyProof.Rows PySem.Builtin PySem.Builtin.Str
theorem slice_to_len (x : Str) (j : Nat) (hj : j ≤ x.length) : (Txt.slice x none (some (j : Int))).length = j := by
  have e : strSliceIndices none (some (j : Int)) 1 x.length = (List.range j).map fun k => k := by
    have h1 : ((j : Int) < 0) = False := by simp
    have h2 : max (0 : Int) (min (j : Int) (x.length : Int)) = j := by omega
    unfold strSliceIndices sliceRange
    simp only [show (1 : Int) > 0 by decide, if_true, h1, if_false, h2]
    rw [show (if (0 : Int) < j then ((j : Int) - 0 + 1 - 1) / 1 else 0) = j by split <;> omega]
    simp
  rw [Txt.slice, e]
  split
  · rename_i q; simp at q; omega
  · show (List.filterMap _ _).toArray.size = j
    rw [List.size_toArray, List.map_id']
    have : ∀ n, n ≤ x.length → (List.filterMap (fun k => x.cps[k]?) (List.range n)).length = n := by
      intro n
      induction n with
      | zero => intro _; rfl
      | succ n ih =>
        intro hn
        rw [List.range_succ, List.filterMap_append, List.length_append, ih (by omega)]
        have : x.cps[n]? = some x.cps[n] := Array.getElem?_eq_getElem hn
        simp [this]
    exact this j hj
theorem item_of {x : Str} {j c : Nat} (h : x.cps[j]? = some c) : Txt.item x (j : Int) = ⟨#[c]⟩ := by
  have hj : j < x.cps.size := (Array.getElem?_eq_some_iff.mp h).1
  have : seqIndex? (j : Int) x.length = some j := by
    exact seqIx (k := (j : Int)) (by omega) hj
  unfold Txt.item Txt.charAt
  rw [this]
  show (⟨#[(x.cps[j]?).getD 0]⟩ : Str) = _
  rw [h]; rfl
theorem digits_shift (N : Nat) (hN : 0 < N) : ∀ p, Nat.toDigits 10 (N * 10 ^ p) = Nat.toDigits 10 N ++ List.replicate p '0'
  | 0 => by simp
  | p + 1 => by
    have e : N * 10 ^ (p + 1) = 10 * (N * 10 ^ p) := by rw [Nat.pow_succ]; ac_rfl
    have h0 : 0 < N * 10 ^ p := Nat.mul_pos hN (Nat.pow_pos (by decide))
    rw [e, Nat.toDigits_of_base_le (by decide) (by omega), Nat.mul_div_cancel_left _ (by decide), Nat.mul_mod_right, digits_shift N hN p, List.replicate_succ']
    simp [Nat.digitChar]
theorem digits_len {N e : Nat} (h1 : 10 ^ e ≤ N) (h2 : N < 10 ^ (e + 1)) : (Nat.toDigits 10 N).length = e + 1 :=
  Nat.le_antisymm (digits10_le (by omega) h2) (digits10_ge h1)
theorem digit_ne0 : ∀ d, d < 10 → d ≠ 0 → (Nat.digitChar d).toNat ≠ 48 := by decide
theorem digits_last (N : Nat) (h : N % 10 ≠ 0) : ∃ l c, Nat.toDigits 10 N = l ++ [c] ∧ c.toNat ≠ 48 := by
  rcases Nat.lt_or_ge N 10 with q | q
  · refine ⟨[], Nat.digitChar N, ?_, digit_ne0 N q (by omega)⟩
    rw [Nat.toDigits_of_lt_base q]; rfl
  · exact ⟨_, _, Nat.toDigits_of_base_le (by decide) q, digit_ne0 _ (Nat.mod_lt _ (by decide)) h⟩
/-- the text of a number's 15 figures -/
structure Fig (x : Str) (e : Nat) : Prop where
  len : x.length = 15
  zero : ∀ j, e + 1 ≤ j → j < 15 → Txt.item x (j : Int) = "0"
  last : Txt.item x (e : Int) ≠ "0"
theorem fig_of {N e : Nat} (he : e ≤ 5) (h1 : 10 ^ e ≤ N) (h2 : N < 10 ^ (e + 1)) (h3 : N % 10 ≠ 0) : Fig (Str.ofString (toString ((N * 10 ^ (14 - e) : Nat) : Int))) e := by
  have hN : 0 < N := by omega
  have et : Str.ofString (toString ((N * 10 ^ (14 - e) : Nat) : Int)) = ⟨((Nat.toDigits 10 (N * 10 ^ (14 - e))).map Char.toNat).toArray⟩ := text_ofNat _
  rw [et, digits_shift N hN]
  have hl := digits_len h1 h2
  refine ⟨?_, fun j h4 h5 => ?_, ?_⟩
  · show ((Nat.toDigits 10 N ++ List.replicate (14 - e) '0').map Char.toNat).toArray.size = 15
    simp [hl]; omega
  · refine item_of (c := 48) ?_
    show (((Nat.toDigits 10 N ++ List.replicate (14 - e) '0').map Char.toNat).toArray)[j]? = some 48
    rw [List.getElem?_toArray, List.getElem?_map, List.getElem?_append_right (by omega), List.getElem?_replicate, if_pos (by omega)]
    rfl
  · obtain ⟨l, c, hc, h0⟩ := digits_last N h3
    have hll : l.length = e := by rw [hc] at hl; simpa using hl
    have : Txt.item (⟨((Nat.toDigits 10 N ++ List.replicate (14 - e) '0').map Char.toNat).toArray⟩ : Str) (e : Int) = ⟨#[c.toNat]⟩ := by
      refine item_of ?_
      show (((Nat.toDigits 10 N ++ List.replicate (14 - e) '0').map Char.toNat).toArray)[e]? = some _
      rw [List.getElem?_toArray, List.getElem?_map, List.getElem?_append_left (by omega), hc, List.getElem?_append_right (by omega), hll]
      simp
    rw [this]
    intro q
    have q2 : (⟨#[c.toNat]⟩ : Str) = ⟨#[48]⟩ := q
    have q3 := congrArg Str.cps q2
    simp at q3
    exact h0 q3
end -- T1
section
open PySem PySem.W PyProof.Rows PySem.Builtin
set_option maxRecDepth 100000
set_option linter.unusedVariables false
section
variable {w : World} {A : Around} {E : Value → Shared → Prop} {env : Env} {L I : Addr} {B hb hp h' : Heap} {m : Str → Option Value} {news : List (Addr × Obj)} {n i : Nat} {P : Nat → Value → Prop} {o : Obj}
variable {gs : Array GenState} {dr : Drawn} {tk : Nat} {os : OsState}
-- iterators
structure It (w : World) (base : Heap) (I : Addr) (n : Nat) (P : Nat → Value → Prop) (fp : List Addr) (St : Nat → Heap → Prop) : Prop where
  W : ∀ A : Around, A.handled = none → Walks pr w A I fp [I] n P St
  old : ∀ b ∈ fp, b ≠ I → ∃ o, base.get? b = some o ∧ Fixed o
  live : ∀ i h, St i h → ∃ o, h.get? I = some o ∧ Fixed o
/-- the object o at I is an iterator that has given i of n things; the j-th is as P j says -/
def Iter (w : World) (hb : Heap) (I : Addr) (n : Nat) (P : Nat → Value → Prop) (i : Nat) (o : Obj) : Prop :=
  ∃ fp St, It w hb I n P fp St ∧ Fixed o ∧ ∀ h, Sub hb h → h.get? I = some o → St i h
theorem It.iter {fp : List Addr} {St : Nat → Heap → Prop} (X : It w hb I n P fp St) (k : Sub hb hp) (st : St i hp) : ∃ o, hp.get? I = some o ∧ Iter w hb I n P i o := by
  obtain ⟨o, e, f⟩ := X.live i hp st
  refine ⟨o, e, fp, St, X, f, fun h k' e' => (X.W { handled := none } rfl).frame i hp h st fun b hb' ob eb => ?_⟩
  by_cases q : b = I
  · subst q; rw [e] at eb; cases eb; exact e'
  · obtain ⟨x, ex, fx⟩ := X.old b hb' q
    rw [k.fix ex fx] at eb; cases eb
    exact k'.fix ex fx
theorem Iter.up {hb' : Heap} (X : Iter w hb I n P i o) (k : Sub hb hb') : Iter w hb' I n P i o := by
  obtain ⟨fp, St, X, f, st⟩ := X
  exact ⟨fp, St, ⟨X.W, fun b h1 h2 => let ⟨o, e, f⟩ := X.old b h1 h2; ⟨o, k.fix e f, f⟩, X.live⟩, f, fun h k' => st h (k.trans k')⟩
/-- all but the object I is kept -/
def ButS (I : Addr) (h h' : Heap) : Prop := ∀ b x, b ≠ I → h.get? b = some x → ∃ x', h'.get? b = some x' ∧ Sim x x'
theorem Fm.but (F : Fm B hb L hp m) (hI : hb.get? I = none) (hL : I ≠ L) (k : ButS I hp h') (kB : SubX B h') : Fm B hb L h' m := by
  refine ⟨?_, F.nl, fun b x e => ?_, F.noL, F.top, kB, F.sub⟩
  · obtain ⟨o, es, ep, ho, hd, r⟩ := F.ns
    obtain ⟨o', ho', s⟩ := k _ _ (Ne.symm hL) ho
    rw [s.eq (fixed_ns hd r.2 F.nl)] at ho'
    exact ⟨o, es, ep, ho', hd, r⟩
  · obtain ⟨x', e', s⟩ := F.keep b x e
    obtain ⟨x2, e2, s2⟩ := k b x' (fun q => by rw [q, hI] at e; cases e) e'
    exact ⟨x2, e2, s.trans s2⟩
theorem Nw.but {o o' : Obj} {k : Nat} (N : Nw hb L hp news) (hi : news[k]? = some (I, o)) (s : ButS I hp h') (ho : h'.get? I = some o') : Nw hb L h' (news.set k (I, o')) := by
  have hm := List.mem_of_getElem? hi
  refine ⟨fun p hp' => ?_, pw_set N.apart hi (fun c hc => hc) fun c hc => hc⟩
  by_cases e : p.1 = I
  · obtain ⟨j, hj⟩ := List.getElem?_of_mem hp'
    by_cases ji : j = k
    · subst ji; rw [List.getElem?_set_self (List.getElem?_eq_some_iff.mp hi).1] at hj
      cases hj
      exact ⟨⟨_, ho, .refl _⟩, (N.at_ _ hm).2⟩
    · rw [List.getElem?_set_ne (Ne.symm ji)] at hj
      exfalso
      have pa := List.pairwise_iff_getElem.mp N.apart
      obtain ⟨lj, ej⟩ := List.getElem?_eq_some_iff.mp hj
      obtain ⟨li, ei⟩ := List.getElem?_eq_some_iff.mp hi
      rcases Nat.lt_or_gt_of_ne ji with q | q
      · exact pa j k lj li q (by rw [ej, ei]; exact e)
      · exact pa k j li lj q (by rw [ej, ei]; exact e.symm)
  · rcases List.mem_or_eq_of_mem_set hp' with q | q
    · obtain ⟨⟨x, ex, s1⟩, r⟩ := N.at_ p q
      obtain ⟨x2, e2, s2⟩ := s _ _ e ex
      exact ⟨⟨x2, e2, s1.trans s2⟩, r⟩
    · subst q; exact absurd rfl e
theorem Nw.gone {o : Obj} {k : Nat} (N : Nw hb L hp news) (hi : news[k]? = some (I, o)) (s : ButS I hp h') : Nw hb L h' (news.eraseIdx k) := by
  refine ⟨fun p hp' => ?_, N.apart.sublist (List.eraseIdx_sublist ..)⟩
  obtain ⟨⟨x, ex, s1⟩, r⟩ := N.at_ p (List.mem_of_mem_eraseIdx hp')
  obtain ⟨j, jk, hj⟩ := List.mem_eraseIdx_iff_getElem?.mp hp'
  have e : p.1 ≠ I := fun e => by
    have pa := List.pairwise_iff_getElem.mp N.apart
    obtain ⟨lj, ej⟩ := List.getElem?_eq_some_iff.mp hj
    obtain ⟨li, ei⟩ := List.getElem?_eq_some_iff.mp hi
    rcases Nat.lt_or_gt_of_ne jk with q | q
    · exact pa j k lj li q (by rw [ej, ei]; exact e)
    · exact pa k j li lj q (by rw [ej, ei]; exact e.symm)
  obtain ⟨x2, e2, s2⟩ := s _ _ e ex
  exact ⟨⟨x2, e2, s1.trans s2⟩, r⟩
theorem butX {wr : Heap} (k : ∀ b o, b ∉ [I] → hp.get? b = some o → wr.get? b = some o) : ButS I hp wr := fun b x n e => ⟨x, k b x (by simpa using n) e, .refl _⟩
theorem r_next {k : Nat} {Q : Option Value → Shared → Prop} (hh : A.handled = none) (F : Fm B hb L hp m) (N : Nw hb L hp news) (hk : news[k]? = some (I, o)) (X : Iter w hb I n P i o) (hi : i < n)
    (h : ∀ v h' tk' o', P i v → Iter w hb I n P (i + 1) o' → Fm B hb L h' m → Nw hb L h' (news.set k (I, o')) → Q (some v) ⟨h', gs, dr, tk', os⟩) : wpAny (model pr w) A (pyNext (.ref I)) Q E ⟨hp, gs, dr, tk, os⟩ := by
  obtain ⟨fp, St, X, f, st⟩ := X
  have hm := List.mem_of_getElem? hk
  have hI := N.no hm
  have hL := N.ne hm
  refine (X.W A hh).item i ⟨hp, gs, dr, tk, os⟩ Q E hi (st hp F.keep (N.get hm f)) fun v h' tk' hP hst hk' => ?_
  have bs := butX hk'
  have kB : SubX B h' := fun a o e => hk' a o (fun q => by rw [List.mem_singleton.mp q, F.sub.none hI] at e; cases e) (F.keepB a o e)
  have F' := F.but hI hL bs kB
  obtain ⟨o', eo, X'⟩ := X.iter F'.keep hst
  exact h v h' tk' o' hP X' F' (N.but hk bs eo)
theorem r_nextEnd {k : Nat} {Q : Option Value → Shared → Prop} (hh : A.handled = none) (F : Fm B hb L hp m) (N : Nw hb L hp news) (hk : news[k]? = some (I, o)) (X : Iter w hb I n P n o)
    (h : ∀ h' tk', Fm B hb L h' m → Nw hb L h' (news.eraseIdx k) → Q none ⟨h', gs, dr, tk', os⟩) : wpAny (model pr w) A (pyNext (.ref I)) Q E ⟨hp, gs, dr, tk, os⟩ := by
  obtain ⟨fp, St, X, f, st⟩ := X
  have hm := List.mem_of_getElem? hk
  have hI := N.no hm
  have hL := N.ne hm
  refine (X.W A hh).done ⟨hp, gs, dr, tk, os⟩ Q E (st hp F.keep (N.get hm f)) fun h' tk' hk' => ?_
  have bs := butX hk'
  have kB : SubX B h' := fun a o e => hk' a o (fun q => by rw [List.mem_singleton.mp q, F.sub.none hI] at e; cases e) (F.keepB a o e)
  exact h h' tk' (F.but hI hL bs kB) (N.gone hk bs)
-- what iterators are made of
theorem fixed_fields {o : Obj} {vs : Array Value} (e : o.data = .fields vs) : Fixed o := fun x => let ⟨_, _, q, _⟩ := x.five; Data.noConfusion (e.symm.trans q)
theorem r_iterL {l : Addr} {vs : List Value} {Q : Value → Shared → Prop} (F : Fm B hb L hp m) (N : Nw hb L hp news) (hl : Ls hb l vs)
    (h : ∀ I o h', Iter w hb I vs.length (fun i v => vs[i]? = some v) 0 o → Fm B hb L h' m → Nw hb L h' ((I, o) :: news) → Q (.ref I) ⟨h', gs, dr, tk, os⟩) : wpAny (model pr w) A (pyIter (.ref l)) Q E ⟨hp, gs, dr, tk, os⟩ := by
  have hl' := hl.up F.keep
  refine wpAny_pyIter_list hl'.isList ?_
  obtain ⟨nl, el⟩ := hl
  have hne : l ≠ hp.objs.size := Nat.ne_of_lt (Heap.lt_size (F.keep.fix el (fixed_seq rfl)))
  have X : It w hb hp.objs.size vs.length (fun i v => vs[i]? = some v) [hp.objs.size, l] (fun i h => h.IsListIter hp.objs.size l i ∧ h.IsList l vs.toArray) :=
    ⟨fun A hh => by have := Walks.list (prog := pr) (w := w) hh hp.objs.size l hne vs.toArray; simpa using this,
     fun b hb' hn => by
      rcases List.mem_cons.mp hb' with q | q
      · exact absurd q hn
      · rw [List.mem_singleton.mp q]; exact ⟨_, el, fixed_seq rfl⟩,
     fun i h st => by obtain ⟨⟨o, e, _, d⟩, _⟩ := st; exact ⟨o, e, fixed_fields d⟩⟩
  have F' := F.push { cls := .type "list_iterator", data := .fields #[.ref l, .int 0 0] }
  obtain ⟨o, e, X'⟩ := X.iter (i := 0) F'.keep ⟨⟨_, Heap.get?_push_size _ rfl, rfl, rfl⟩, (Ls.up (⟨nl, el⟩ : Ls hb l vs) F'.keep).isList⟩
  rw [Heap.get?_push_size _ rfl] at e
  cases e
  exact h _ _ _ X' F' (N.push F _ rfl)
/-- a range from nought -/
def Rg (h : Heap) (r : Addr) (n : Nat) : Prop := ∃ t u v, IsRange h r 0 n 1 t u v
theorem rs_nat (n : Nat) : Builtin.Range.rangeSize 0 n 1 = n := by unfold Builtin.Range.rangeSize; simp; omega
theorem rg_small {n : Nat} (h : n ≤ 1000000) : Builtin.Range.small 0 n 1 = true := by
  unfold Builtin.Range.small
  rw [rs_nat]
  unfold Builtin.Range.rangeFitsLong
  simp
  omega
theorem r_iterR {r : Addr} {Q : Value → Shared → Prop} (F : Fm B hb L hp m) (N : Nw hb L hp news) (hr : Rg hp r n) (hn : n ≤ 1000000)
    (h : ∀ I o h', Iter w hb I n (fun i v => ∃ t, v = .int i t) 0 o → Fm B hb L h' m → Nw hb L h' ((I, o) :: news) → Q (.ref I) ⟨h', gs, dr, tk, os⟩) : wpAny (model pr w) A (pyIter (.ref r)) Q E ⟨hp, gs, dr, tk, os⟩ := by
  obtain ⟨t, u, v, hr⟩ := hr
  refine wpAny_pyIter_range hr (rg_small hn) ?_
  rw [rs_nat]
  have X : It w hb hp.objs.size n (fun i v => ∃ t, v = .int i t) [hp.objs.size] (fun i h => IsRangeIter h hp.objs.size (0 + (i : Nat) * 1) ((n : Int) - (i : Nat)) 1) :=
    ⟨fun A hh => by have := Walks.range (prog := pr) (w := w) hh hp.objs.size 0 1 n; simpa using this,
     fun b hb' hn => by rw [List.mem_singleton.mp hb'] at hn; exact absurd rfl hn,
     fun i h st => ⟨_, st, fixed_fields rfl⟩⟩
  have F' := F.push { cls := .type "range_iterator", data := .fields #[rawInt 0, rawInt n, rawInt 1] }
  obtain ⟨o, e, X'⟩ := X.iter (i := 0) F'.keep (by show IsRangeIter _ _ _ _ _; simpa using Heap.get?_push_size _ rfl)
  rw [Heap.get?_push_size _ rfl] at e
  cases e
  exact h _ _ _ X' F' (N.push F _ rfl)
-- for
def ForAt (w : World) (A : Around) (env : Env) (target : Expr) (body : List Stmt) (Q : Flow → Shared → Prop) (it : Value) (s : Shared) : Prop :=
  ∀ R : Result → Shared → Prop, (∀ f s', Q f s' → R (.ok f) s') → codeAny (model pr w) A (.forLoop target it body [] env) R s
theorem for_step {target : Expr} {it : Value} {body : List Stmt} {s : Shared} {Q : Flow → Shared → Prop} (ht : ∀ v, letOwnedTupleGo target it v = pure ())
    (h : wpAny (model pr w) A (pyNext it) (fun r s₁ => match r with
      | none => Q .next s₁
      | some v => wpAny (model pr w) A (assign target env v) (fun _ s₂ => wpAny (model pr w) A (execs body env) (fun f s₃ => match f with
        | .next | .cont => ForAt w A env target body Q it s₃
        | .brk => Q .next s₃
        | .ret v => Q (.ret v) s₃) (fun _ _ => False) s₂) (fun _ _ => False) s₁) (fun _ _ => False) s) : ForAt w A env target body Q it s := by
  intro R hR
  refine codeAny_of_tree ?_
  show wpAny _ A ((forTurn target it body [] env).onRaise (fun x => do noteFrame x env; theTreesLotGoes x)) _ _ s
  refine wpAny_noted ?_
  simp only [forTurn]
  refine wpAny_bind (wpAny_standAt (wpAny_bind (wpAny_onRaise (wpAny_mono h (fun r s₁ h₁ => ?_) fun _ _ f => f.elim))))
  cases r with
  | none => exact wpAny_pure ⟨rfl, codeAny_block (wpAny_execs_nil (hR _ _ h₁))⟩
  | some v =>
    refine wpAny_bind (wpAny_of_eq (ht v) ?_)
    refine wpAny_bind (wpAny_mono h₁ (fun _ s₂ h₂ => wpAny_bind (wpAny_mono h₂ (fun f s₃ h₃ => ?_) fun _ _ f => f.elim)) fun _ _ f => f.elim)
    cases f with
    | next => exact wpAny_pure ⟨rfl, h₃ R hR⟩
    | cont => exact wpAny_pure ⟨rfl, h₃ R hR⟩
    | brk => exact wpAny_pure (hR _ _ h₃)
    | ret v => exact wpAny_pure (hR _ _ h₃)
theorem r_for {target iter : Expr} {body : List Stmt} {pos : Pos} {s : Shared} {Q : Flow → Shared → Prop} (hs : ∀ x, foldedSetIterable iter env x = pure x)
    (h : wpAny (model pr w) A (eval iter env) (fun x s₁ => wpAny (model pr w) A (pyIter x) (fun it s₂ => ForAt w A env target body Q it s₂) E s₁) E s) : wpAny (model pr w) A (exec (.For target iter body [] pos) env) Q E s :=
  wpAny_For (wpAny_mono h (fun x s₁ h₁ => wpAny_mono h₁ (fun it s₂ h₂ => h₂ _ fun f s' q => q) fun _ _ e => e) fun _ _ e => e) hs
theorem for_item {x : Str} {px : Pos} {body : List Stmt} {k : Nat} {Q : Flow → Shared → Prop} (hh : A.handled = none) (F : Fm B hb L hp m) (N : Nw hb L hp news) (hk : news[k]? = some (I, o)) (X : Iter w hb I n P i o) (hi : i < n)
    (h : ∀ v h' tk' o', P i v → Iter w hb I n P (i + 1) o' → Fm B hb L h' m → Nw hb L h' (news.set k (I, o')) → wpAny (model pr w) A (storeName env x v) (fun _ s₂ => wpAny (model pr w) A (execs body env) (fun f s₃ => match f with
        | .next | .cont => ForAt w A env (.Name x px) body Q (.ref I) s₃
        | .brk => Q .next s₃
        | .ret v => Q (.ret v) s₃) (fun _ _ => False) s₂) (fun _ _ => False) ⟨h', gs, dr, tk', os⟩) : ForAt w A env (.Name x px) body Q (.ref I) ⟨hp, gs, dr, tk, os⟩ :=
  for_step (fun _ => rfl) (r_next hh F N hk X hi fun v h' tk' o' hP X' F' N' => assign_Name (h v h' tk' o' hP X' F' N'))
theorem for_end {x : Str} {px : Pos} {body : List Stmt} {k : Nat} {Q : Flow → Shared → Prop} (hh : A.handled = none) (F : Fm B hb L hp m) (N : Nw hb L hp news) (hk : news[k]? = some (I, o)) (X : Iter w hb I n P n o)
    (h : ∀ h' tk', Fm B hb L h' m → Nw hb L h' (news.eraseIdx k) → Q .next ⟨h', gs, dr, tk', os⟩) : ForAt w A env (.Name x px) body Q (.ref I) ⟨hp, gs, dr, tk, os⟩ :=
  for_step (fun _ => rfl) (r_nextEnd hh F N hk X fun h' tk' F' N' => h h' tk' F' N')
end
end -- A3
section
open PySem PySem.W PyProof.Rows PySem.Builtin
set_option maxRecDepth 100000
set_option linter.unusedVariables false
section
variable {w : World} {A : Around} {E : Value → Shared → Prop} {env : Env} {L I C : Addr} {B hb hp h' : Heap} {m : Str → Option Value} {news : List (Addr × Obj)} {n i : Nat} {P : Nat → Value → Prop} {o : Obj}
variable {gs : Array GenState} {dr : Drawn} {tk : Nat} {os : OsState}
theorem Fm.base {hb' : Heap} (F : Fm B hb' L hp m) (k : Sub hb hb') (kB : Sub B hb) : Fm B hb L hp m := ⟨F.ns, F.nl, k.trans F.keep, k.none F.noL, F.top, F.keepB, kB⟩
theorem nw_move {hp₂ : Heap} (N : Nw hb L hp news) (k : Sub (wide hp L []) hp₂) : Nw hb L hp₂ news :=
  ⟨fun p hp' => by
    obtain ⟨⟨x, e, s⟩, r⟩ := N.at_ p hp'
    obtain ⟨x2, e2, s2⟩ := k _ _ (wide_get e r.1 (fun _ q => nomatch q))
    exact ⟨⟨x2, e2, s.trans s2⟩, r⟩, N.apart⟩
theorem wide_le {l l' : List (Addr × Obj)} (k : ∀ p ∈ l', p.1 ∈ l.map (·.1)) : SubX (wide hp L l) (wide hp L l') := fun a o e => by
  refine wide_get (wide_sub _ _ e) (fun q => ?_) fun p hp' q => ?_
  · rw [q, hideAll_none _ (.head _)] at e; cases e
  · rw [q, hideAll_none _ (.tail _ (k p hp'))] at e; cases e
/-- what one turn of a comprehension leaves: all is kept; what it made is as G says -/
def ElDone (B : Heap) (gs : Array GenState) (dr : Drawn) (os : OsState) (C : Addr) (h : Heap) (m : Str → Option Value) (G : Heap → Prop) (s : Shared) : Prop :=
  ∃ h' tk' hb', s = ⟨h', gs, dr, tk', os⟩ ∧ Fm B hb' C h' m ∧ Sub (wide h C []) hb' ∧ ∀ g, Off h h' g → G g
noncomputable abbrev testsM (ifs : List Expr) (env : Env) : Sem Bool := forIn ifs true fun c r => if r = true then do let ok ← isTrue c env (eval c env); pure (ForInStep.yield ok) else pure (ForInStep.yield r)
/-- a comprehension whose iterator is there -/
def CompAt (w : World) (A : Around) (env : Env) (scope : Scope) (cl : List (Str × Addr)) (pos : Pos) (elt iter : Expr) (x : Str) (px : Pos) (ifs : List Expr) (use : Option (Value → Sem Unit)) (Q E : Value → Shared → Prop) (it : Value) (s : Shared) : Prop :=
  wpAny (model pr w) A (newList []) (fun acc s₃ => wpAny (model pr w) A (newFunctionEnv scope env.globals cl [] env.qual none .none (some env)) (fun cenv s₄ =>
    codeAny (model pr w) A (.compStart (.ListComp elt [⟨.Name x px, iter, ifs, 0⟩] scope pos) 0 it acc { cenv with scope := relabel scope env }) (compPost (model pr w) A E use Q acc cenv.locals) s₄) E s₃) E s
theorem r_listcomp {elt iter : Expr} {x : Str} {px : Pos} {ifs : List Expr} {scope : Scope} {cl : List (Str × Addr)} {pos : Pos} {s : Shared} {Q : Value → Shared → Prop} (hclos : closureFor scope env = pure cl) (hkind : scope.kind = .function)
    (hnames : (scope.names.all fun y => !(y.2 == .local) || decide (scope.names.lookup y.1 = some .local)) = true) (hs : ∀ x, foldedSetIterable iter env x = pure x)
    (h : wpAny (model pr w) A (eval iter env) (fun xv s₁ => wpAny (model pr w) A (pyIter xv) (fun it s₂ => CompAt w A env scope cl pos elt iter x px ifs none Q E it s₂) E s₁) E s) :
    wpAny (model pr w) A (eval (.ListComp elt [⟨.Name x px, iter, ifs, 0⟩] scope pos) env) Q E s := by
  rw [eval_ListComp]
  refine wpAny_comprehension_free (use := none) rfl hs hclos hkind (fun y hy hl => ?_) h
  have := List.all_eq_true.mp hnames y hy
  rw [hl] at this
  simpa using this
/-- y = [..]: the list is stored before the comprehension's names are let go -/
theorem r_asgcomp {elt iter : Expr} {x y : Str} {px py : Pos} {ifs : List Expr} {scope : Scope} {cl : List (Str × Addr)} {pos spos : Pos} {s : Shared} {Q : Flow → Shared → Prop} (hsw : swapsWith (.ListComp elt [⟨.Name x px, iter, ifs, 0⟩] scope pos) (some (.Name y py)) spos.line env = pure true)
    (hclos : closureFor scope env = pure cl) (hkind : scope.kind = .function)
    (hnames : (scope.names.all fun y => !(y.2 == .local) || decide (scope.names.lookup y.1 = some .local)) = true) (hs : ∀ x, foldedSetIterable iter env x = pure x)
    (h : wpAny (model pr w) A (eval iter env) (fun xv s₁ => wpAny (model pr w) A (pyIter xv) (fun it s₂ => CompAt w A env scope cl pos elt iter x px ifs (some (assign (.Name y py) env)) (fun _ => Q .next) E it s₂) E s₁) E s) :
    wpAny (model pr w) A (exec (.Assign [.Name y py] (.ListComp elt [⟨.Name x px, iter, ifs, 0⟩] scope pos) spos) env) Q E s := by
  rw [exec_Assign_Name_used _ _ _ _ hsw]
  refine wpAny_bind (wpAny_standAt (wpAny_bind ?_))
  show wpAny _ A (do let _ ← comprehension (.ListComp elt [⟨.Name x px, iter, ifs, 0⟩] scope pos) scope env _ (newList []) false (eval iter env) (some (assign (.Name y py) env))) _ _ s
  refine wpAny_bind (wpAny_mono (wpAny_comprehension_free (use := some (assign (.Name y py) env)) (Q := fun _ s' => Q .next s') rfl hs hclos hkind (fun y hy hl => ?_) h) (fun _ s' hq => wpAny_pure (wpAny_pure hq)) fun _ _ e => e)
  have := List.all_eq_true.mp hnames y hy
  rw [hl] at this
  simpa using this
theorem Nw.other {p : Addr × Obj} (N : Nw hb L hp (p :: news)) (s : Heap.SameBut p.1 hp h') : Nw hb L h' news :=
  ⟨fun q hq => by
    obtain ⟨⟨x, e, si⟩, r⟩ := N.at_ q (.tail _ hq)
    exact ⟨⟨x, (s.2 _ (fun e => (List.pairwise_cons.mp N.apart).1 q hq e.symm)).trans e, si⟩, r⟩, (List.pairwise_cons.mp N.apart).2⟩
theorem comp_core {elt iter : Expr} {x : Str} {px : Pos} {ifs : List Expr} {scope : Scope} {cl : List (Str × Addr)} {pos : Pos} {use : Option (Value → Sem Unit)} {Q : Value → Shared → Prop}
    (hcell : (scope.names.all fun y => decide (y.2 ≠ .cell)) = true) (hkind : scope.kind = .function) (hx : scope.names.lookup x = some .local) (hxl : ("loose" : Str) ≠ x)
    (p : Nat → Bool) (G : Heap → Nat → Value → Prop) (hh : A.handled = none) (F : Fm B hb L hp m) (N : Nw hb L hp ((I, o) :: news)) (X : Iter w hb I n P 0 o) (hn : n ≤ 1000000)
    (turn : ∀ i v C h tk m', i < n → P i v → Fm B (wide h C []) C h m' → Nw (wide h C []) C h [] → Sub (wide hp I []) (wide h C []) → m' x = some v →
      wpAny (model pr w) A (testsM ifs (compEnvC scope cl C env)) (fun ok s₃ => ok = p i ∧ if ok = true then wpAny (model pr w) A (eval elt (compEnvC scope cl C env)) (fun y => ElDone B gs dr os C h m' fun g => G g i y) (fun _ _ => False) s₃
        else ElDone B gs dr os C h m' (fun _ => True) s₃) (fun _ _ => False) ⟨h, gs, dr, tk, os⟩)
    (fin : ∀ C oC D h' tk' hb' ys z, Fm B hb' L h' m → Nw hb' L h' ((C, oC) :: (D, listOf ys.toArray z) :: news) → (∃ mC, h'.Ns C mC) → Fixed oC → Sub hb hb' → (∀ g, Off hp hb' g → Paired (G g) ((List.range n).filter p) ys) → compPost (model pr w) A E use Q (.ref D) C (.ok .next) ⟨h', gs, dr, tk', os⟩) :
    CompAt w A env scope cl pos elt iter x px ifs use Q E (.ref I) ⟨hp, gs, dr, tk, os⟩ := by
  have hm := N.at_ _ (.head _)
  have hI := hm.2.2
  have hL := hm.2.1
  dsimp only at hI hL
  obtain ⟨oI, eI, _⟩ := hm.1
  dsimp only at eI
  refine wpAny_newObj_type (wpAny_newFunctionEnv (fun y hy => of_decide_eq_true (List.all_eq_true.mp hcell y hy)) (fun y hy => nomatch hy) (fun h₁ hns₁ hsb₁ => ?_) hkind)
  dsimp only at hns₁ hsb₁ ⊢
  generalize hD : hp.objs.size = D at hns₁ hsb₁ ⊢
  generalize hH : hp.push { cls := .type "list", dict := none, data := .seq ([] : List Value).toArray } = H2 at hns₁ hsb₁ ⊢
  generalize hC : H2.objs.size = C at hns₁ hsb₁ ⊢
  have lt : D < C := by rw [← hC, ← hH, Heap.size_push, hD]; exact Nat.lt_succ_self _
  have keep : SubX hp h₁ := fun a o e => by
    have la : a < D := by rw [← hD]; exact Heap.lt_size e
    exact hsb₁.extBut a o (Nat.ne_of_lt (Nat.lt_trans la lt)) (Heap.get?_push_of_some _ (hH ▸ Heap.get?_push_of_some _ e))
  have atD : h₁.get? D = some (listOf ([] : List Value).toArray 0) := hsb₁.extBut D _ (Nat.ne_of_lt lt) (Heap.get?_push_of_some _ (by rw [← hH, ← hD]; exact Heap.get?_push_size _ rfl))
  have noD : hp.get? D = none := by rw [← hD]; exact noSize hp
  have noC : hp.get? C = none := by
    cases q : hp.get? C with
    | none => rfl
    | some o => exact absurd (Heap.lt_size q) (by rw [hD]; exact Nat.not_lt.mpr (Nat.le_of_lt lt))
  have CI : I ≠ C := fun q => by rw [q, noC] at eI; cases eI
  have DI : D ≠ I := fun q => by rw [← q, noD] at eI; cases eI
  have CD : D ≠ C := Nat.ne_of_lt lt
  obtain ⟨oL, _, _, eL, _⟩ := F.ns
  have CL : L ≠ C := fun q => by rw [q, noC] at eL; cases eL
  have DL : D ≠ L := fun q => by rw [← q, noD] at eL; cases eL
  have hbC : hb.get? C = none := by
    cases q : hb.get? C with
    | none => rfl
    | some o => obtain ⟨_, e, _⟩ := F.keep _ _ q; rw [noC] at e; cases e
  have hbD : hb.get? D = none := by
    cases q : hb.get? D with
    | none => rfl
    | some o => obtain ⟨_, e, _⟩ := F.keep _ _ q; rw [noD] at e; cases e
  have hBC : B.objs.size ≤ C := Nat.le_of_lt (Nat.lt_of_le_of_lt (Nat.le_trans F.top (Nat.le_of_lt (by rw [← hD]; exact Heap.lt_size eL))) lt)
  have F₀ : Fm B hb C h₁ (fun x => ([] : List (Str × Value)).reverse.lookup x) := ⟨hns₁, rfl, F.keep.trans keep.sub, hbC, hBC, F.keepB.trans keep, F.sub⟩
  have N₀ : Nw hb C h₁ [(D, listOf ([] : List Value).toArray 0), (I, oI)] := by
    refine ⟨fun q hq => ?_, .cons (fun q hq => ?_) (.cons (fun _ hq => nomatch hq) .nil)⟩
    · rcases List.mem_cons.mp hq with rfl | hq
      · exact ⟨⟨_, atD, .refl _⟩, CD, hbD⟩
      · rw [List.mem_singleton.mp hq]; exact ⟨⟨_, keep _ _ eI, .refl _⟩, CI, hI⟩
    · rw [List.mem_singleton.mp hq]; exact DI
  have X₀ : Iter w hb I n P 0 oI := by
    have X' := X
    obtain ⟨_, _, _, fo, _⟩ := X'
    have := N.get (.head _) fo
    dsimp only at this
    rw [eI] at this; cases this; exact X
  have loop : codeAny (model pr w) A (.compLoop (.ListComp elt [⟨.Name x px, iter, ifs, 0⟩] scope pos) 0 (.ref I) (.ref D) (compEnvC scope cl C env)) (compPost (model pr w) A E use Q (.ref D) C) ⟨h₁, gs, dr, tk + 0, os⟩ := by
    refine codeAny_mono (R := fun r s' => r = .ok .next ∧ compPost (model pr w) A E use Q (.ref D) C (.ok .next) s') ?_ fun r s' q => by obtain ⟨rfl, q⟩ := q; exact q
    refine codeAny_compLoop_tests (fun k s' => ∃ i h tk' m' o' ys z hc, s' = ⟨h, gs, dr, tk', os⟩ ∧ Fm B hc C h m' ∧ Nw hc C h [(D, listOf ys.toArray z), (I, o')] ∧ Iter w hc I n P i o' ∧ Sub (wide hp I []) hc ∧ Sub hb hc ∧ i ≤ n ∧ ys.length ≤ i ∧ k = n + 1 - i ∧
        ∀ g, Off hp hc g → Paired (G g) ((List.range i).filter p) ys) ?_ (n + 1)
      ⟨0, h₁, _, _, oI, [], 0, wide h₁ C [(D, listOf ([] : List Value).toArray 0), (I, oI)], rfl, F₀.wide N₀, N₀.wide, X₀.up (wide_of F₀ N₀), fun a ob e => ?_, wide_of F₀ N₀, Nat.zero_le _, Nat.le_refl _, rfl, fun g _ => .nil⟩
    · rintro k s' ⟨i, h, tk', m', o', ys, z, hc, rfl, Fc, Nc, Xc, kW, kb, hi, hys, rfl, hP⟩
      rcases Nat.lt_or_ge i n with hin | hin
      · refine r_next (k := 1) hh Fc Nc rfl Xc hin fun v h2 tk2 o2 hv X2 F2 N2 => ?_
        dsimp only [List.set] at N2
        refine assign_Name (r_store F2 N2 rfl (by simp [compEnvC, relabel, hkind]) (lookup_relabel_local hx) hxl fun h3 F3 N3 => ?_)
        have w3 : Sub (wide h3 C [(D, listOf ys.toArray z), (I, o2)]) (wide h3 C []) := (wide_le (l' := []) fun _ q => nomatch q).sub
        have b3 : Sub hc (wide h3 C []) := (wide_of F3 N3).trans w3
        have t := turn i v C h3 (tk2 + 1) _ hin hv (F3.wide .nil) .nil (kW.trans b3) (if_pos rfl)
        refine wpAny_mono t (fun ok s4 q => ?_) fun _ _ f => f.elim
        obtain ⟨rfl, q⟩ := q
        by_cases hp' : p i = true
        · rw [if_pos hp'] at q ⊢
          refine wpAny_mono q (fun y s5 d => ?_) fun _ _ f => f.elim
          obtain ⟨h5, tk5, hb5, rfl, F5, k5, g5⟩ := d
          have F5' : Fm B hc C h5 _ := F5.base (b3.trans k5) Fc.sub
          have N5 : Nw hc C h5 _ := nw_move N3 (k5.trans F5.keep)
          have kk := wide_of F5' N5
          refine r_append (i := 0) (F5'.wide N5) N5.wide rfl (by omega) fun h6 z' F6 N6 => ?_
          dsimp only [List.set] at N6
          have kk2 := kk.trans (wide_of F6 N6)
          refine ⟨n + 1 - (i + 1), by omega, i + 1, h6, _, _, o2, ys ++ [y], z', wide h6 C [(D, listOf (ys ++ [y]).toArray z'), (I, o2)], rfl, F6.wide N6, N6.wide, X2.up kk2, kW.trans kk2, kb.trans kk2, by omega, by simp; omega, rfl, fun g hg => ?_⟩
          rw [List.range_succ, List.filter_append, List.filter_cons_of_pos hp', List.filter_nil]
          refine Paired.snoc (hP g (hg.of (Sub.refl _) kk2)) (g5 g fun a oa e e' => ?_)
          have cC : a ≠ C := fun q => by obtain ⟨_, _, _, eC, _⟩ := F3.ns; rw [q, eC] at e; cases e
          have cD : a ≠ D := fun q => by obtain ⟨⟨_, eC, _⟩, _⟩ := N3.at_ _ (.head _); dsimp only at eC; rw [q, eC] at e; cases e
          have cI : a ≠ I := fun q => by obtain ⟨⟨_, eC, _⟩, _⟩ := N3.at_ _ (.tail _ (.head _)); dsimp only at eC; rw [q, eC] at e; cases e
          have e6 : ∃ o6, h6.get? a = some o6 ∧ Sim oa o6 := by
            refine F6.keep a oa (wide_get e' cC fun p hp' q => ?_)
            rcases List.mem_cons.mp hp' with rfl | hp'
            · exact cD q
            · rw [List.mem_singleton.mp hp'] at q; exact cI q
          obtain ⟨o6, e6, s6⟩ := e6
          have no : hp.get? a = none := by
            cases q : hp.get? a with
            | none => rfl
            | some ob =>
              obtain ⟨_, e1, _⟩ := kW a _ (wide_get q cI fun _ q => nomatch q)
              obtain ⟨_, e2, _⟩ := F3.keep _ _ e1
              rw [e] at e2; cases e2
          obtain ⟨og, eg, sg⟩ := hg a o6 no (wide_get e6 cC fun p hp' q => by
                rcases List.mem_cons.mp hp' with rfl | hp'
                · exact cD q
                · rw [List.mem_singleton.mp hp'] at q; exact cI q)
          exact ⟨og, eg, s6.trans sg⟩
        · have hp0 : p i = false := by simpa using hp'
          rw [if_neg hp'] at q ⊢
          obtain ⟨h5, tk5, hb5, rfl, F5, k5, _⟩ := q
          have F5' : Fm B hc C h5 _ := F5.base (b3.trans k5) Fc.sub
          have N5 : Nw hc C h5 _ := nw_move N3 (k5.trans F5.keep)
          refine ⟨n + 1 - (i + 1), by omega, i + 1, h5, _, _, o2, ys, z, hc, rfl, F5', N5, X2, kW, kb, by omega, by omega, rfl, fun g hg => ?_⟩
          rw [List.range_succ, List.filter_append, List.filter_cons_of_neg hp', List.filter_nil, List.append_nil]
          exact hP g hg
      · obtain rfl : i = n := by omega
        refine r_nextEnd (k := 1) hh Fc Nc rfl Xc fun h2 tk2 F2 N2 => ⟨rfl, ?_⟩
        dsimp only [List.eraseIdx] at N2
        have bs : ButS I hp h2 := fun a o n e => by
          obtain ⟨o1, e1, s1⟩ := kW a o (wide_get e n fun _ q => nomatch q)
          obtain ⟨o2, e2, s2⟩ := F2.keep _ _ e1
          exact ⟨o2, e2, s1.trans s2⟩
        have F3 := F.but hI hL bs F2.keepB
        have N3' : Nw hb L h2 news := by
          have := N.gone (k := 0) rfl bs
          exact this
        have eD : h2.get? D = some (listOf ys.toArray z) := N2.get (.head _) (fixed_seq rfl)
        obtain ⟨oC, esC, epC, eC, dC, rC⟩ := F2.ns
        have N3 : Nw hb L h2 ((D, listOf ys.toArray z) :: news) := N3'.adopt eD DL hbD fun q hq e => by
          obtain ⟨⟨_, eq, _⟩, _⟩ := N.at_ q (.tail _ hq); rw [← e, noD] at eq; cases eq
        have N4 : Nw hb L h2 ((C, oC) :: (D, listOf ys.toArray z) :: news) := N3.adopt eC (Ne.symm CL) hbC fun q hq e => by
          rcases List.mem_cons.mp hq with rfl | hq
          · exact CD e.symm
          · obtain ⟨⟨_, eq, _⟩, _⟩ := N.at_ q (.tail _ hq); rw [← e, noC] at eq; cases eq
        refine fin C oC D h2 tk2 _ ys z (F3.wide N4) N4.wide ⟨_, F2.ns⟩ (fixed_ns dC rC.2 F2.nl) (wide_of F3 N4) fun g hg => hP g fun a oa e e' => ?_
        have aL : a ≠ L := fun q => by rw [q, eL] at e; cases e
        have aC : a ≠ C := fun q => by rw [q, F2.noL] at e'; cases e'
        have aD : a ≠ D := fun q => by rw [q, N2.no (.head _)] at e'; cases e'
        obtain ⟨o2', e2, s2⟩ := F2.keep _ _ e'
        obtain ⟨og, eg, sg⟩ := hg a o2' e (wide_get e2 aL fun p hp' q => by
          rcases List.mem_cons.mp hp' with rfl | hp'
          · exact aC q
          · rcases List.mem_cons.mp hp' with rfl | hp'
            · exact aD q
            · obtain ⟨⟨_, eq, _⟩, _⟩ := N.at_ p (.tail _ hp'); rw [← q, e] at eq; cases eq)
        exact ⟨og, eg, s2.trans sg⟩
    · refine ⟨ob, wide_get (keep _ _ (wide_sub _ _ e)) (fun q => ?_) (fun p hp' q => ?_), .refl _⟩
      · have := wide_sub _ _ e; rw [q, noC] at this; cases this
      · rcases List.mem_cons.mp hp' with rfl | hp'
        · have := wide_sub _ _ e; rw [q, noD] at this; cases this
        · rw [List.mem_singleton.mp hp'] at q; rw [q, hideAll_none _ (.head _)] at e; cases e
  refine codeAny_compStart_list loop ?_
  obtain ⟨fp, St, XX, fo, st⟩ := X₀
  exact (XX.W A hh).self 0 _ _ _ (st h₁ F₀.keep (keep _ _ eI)) loop
theorem post_none {oC : Obj} {D : Addr} {d : Obj} {Q : Value → Shared → Prop} (F : Fm B hb L hp m) (N : Nw hb L hp ((C, oC) :: (D, d) :: news)) (hn : ∃ mC, hp.Ns C mC)
    (h : ∀ h', Fm B hb L h' m → Nw hb L h' ((D, d) :: news) → Q (.ref D) ⟨h', gs, dr, tk, os⟩) : compPost (model pr w) A E none Q (.ref D) C (.ok .next) ⟨hp, gs, dr, tk, os⟩ := by
  obtain ⟨mC, hn⟩ := hn
  exact ⟨mC, hn, fun h' s => h h' (F.upd N (.head _) s) (N.other s)⟩
theorem post_some {oC : Obj} {D : Addr} {d : Obj} {y : Str} {py : Pos} {Q : Shared → Prop} (F : Fm B hb L hp m) (N : Nw hb L hp ((C, oC) :: (D, d) :: news)) (hn : ∃ mC, hp.Ns C mC) (fC : Fixed oC)
    (hL : env.locals = L) (hk : env.scope.kind = .function) (hl : env.kindOf y = some .local) (hx : ("loose" : Str) ≠ y)
    (h : ∀ h', Fm B hb L h' (fun z => if z = y then some (.ref D) else m z) → Nw hb L h' ((D, d) :: news) → Q ⟨h', gs, dr, tk + 1, os⟩) :
    compPost (model pr w) A E (some (assign (.Name y py) env)) (fun _ => Q) (.ref D) C (.ok .next) ⟨hp, gs, dr, tk, os⟩ := by
  show wpAny _ A (assign (.Name y py) env (.ref D)) _ _ _
  refine assign_Name (r_store F N hL hk hl hx fun h2 F2 N2 => ?_)
  obtain ⟨mC, o, es, ep, e, dd, r⟩ := hn
  have eq : oC = o := by have := N.get (.head _) fC; rw [e] at this; exact (Option.some.inj this).symm
  refine ⟨mC, ⟨o, es, ep, ?_, dd, r⟩, fun h' s => h h' (F2.upd N2 (.head _) s) (N2.other s)⟩
  have := N2.get (.head _) fC
  rw [eq] at this; exact this
end
end -- A4
section
open PySem PySem.W PyProof.Rows PySem.Builtin
set_option maxRecDepth 100000
set_option linter.unusedVariables false
section
variable {w : World} {A : Around} {E : Value → Shared → Prop} {env : Env} {L I C : Addr} {B hb hp h' : Heap} {m : Str → Option Value} {news : List (Addr × Obj)} {n i : Nat} {P : Nat → Value → Prop} {o : Obj}
variable {gs : Array GenState} {dr : Drawn} {tk : Nat} {os : OsState}
theorem paired_get {α β : Type} {F : α → β → Prop} : ∀ {a : List α} {b : List β}, Paired F a b → ∀ (i : Nat) (y : β), b[i]? = some y → ∃ x, a[i]? = some x ∧ F x y
  | _, _, .nil, _, _, e => by simp at e
  | _, _, .cons h t, 0, _, e => by cases e; exact ⟨_, rfl, h⟩
  | _, _, .cons h t, i + 1, _, e => paired_get t i _ e
theorem paired_len {α β : Type} {F : α → β → Prop} : ∀ {a : List α} {b : List β}, Paired F a b → a.length = b.length
  | _, _, .nil => rfl
  | _, _, .cons _ t => congrArg (· + 1) (paired_len t)
theorem base_turn {k : List (Addr × Obj)} (F : Fm B hb L hp m) (N : Nw hb L hp ((I, o) :: k)) : Sub hb (wide hp I []) := fun a x e => by
  obtain ⟨x', e', s⟩ := F.keep a x e
  exact ⟨x', wide_get e' (fun q => by have := N.no (.head _); dsimp only at this; rw [q, this] at e; cases e) (fun _ q => nomatch q), s⟩
theorem news_turn {k : List (Addr × Obj)} (N : Nw hb L hp ((I, o) :: k)) {q : Addr × Obj} (hq : q ∈ k) (f : Fixed q.2) : (wide hp I []).get? q.1 = some q.2 :=
  wide_get (N.get (.tail _ hq) f) (fun e => (List.pairwise_cons.mp N.apart).1 q hq e.symm) (fun _ q => nomatch q)
/-- no tests -/
theorem comp_run0 {elt iter : Expr} {x : Str} {px : Pos} {scope : Scope} {cl : List (Str × Addr)} {pos : Pos} {use : Option (Value → Sem Unit)} {Q : Value → Shared → Prop}
    (G : Heap → Nat → Value → Prop) (hh : A.handled = none) (F : Fm B hb L hp m) (N : Nw hb L hp ((I, o) :: news)) (X : Iter w hb I n P 0 o) (hn : n ≤ 1000000)
    (hcell : (scope.names.all fun y => decide (y.2 ≠ .cell)) = true) (hkind : scope.kind = .function) (hx : scope.names.lookup x = some .local) (hxl : ("loose" : Str) ≠ x)
    (turn : ∀ i v C h tk m', i < n → P i v → Fm B (wide h C []) C h m' → Nw (wide h C []) C h [] → Sub (wide hp I []) (wide h C []) → m' x = some v →
      wpAny (model pr w) A (eval elt (compEnvC scope cl C env)) (fun y => ElDone B gs dr os C h m' fun g => G g i y) (fun _ _ => False) ⟨h, gs, dr, tk, os⟩)
    (fin : ∀ (C : Addr) (oC : Obj) (D : Addr) (h' : Heap) (tk' : Nat) (hb' : Heap) (ys : List Value) (z : Nat), Fm B hb' L h' m → Nw hb' L h' ((C, oC) :: (D, listOf ys.toArray z) :: news) → (∃ mC, h'.Ns C mC) → Fixed oC → Sub hb hb' → ys.length = n → (∀ g, Off hp hb' g → ∀ (i : Nat) (y : Value), ys[i]? = some y → G g i y) → compPost (model pr w) A E use Q (.ref D) C (.ok .next) ⟨h', gs, dr, tk', os⟩) :
    CompAt w A env scope cl pos elt iter x px [] use Q E (.ref I) ⟨hp, gs, dr, tk, os⟩ :=
  comp_core hcell hkind hx hxl (fun _ => true) G hh F N X hn (fun i v C h tk m' h1 h2 h3 h4 h5 h6 => wpAny_tests_nil ⟨rfl, by rw [if_pos rfl]; exact turn i v C h tk m' h1 h2 h3 h4 h5 h6⟩)
    fun C oC D h' tk' hb' ys z F' N' hC fC k hP => by
      have fl : (List.range n).filter (fun _ => true) = List.range n := List.filter_eq_self.mpr fun _ _ => rfl
      rw [fl] at hP
      refine fin C oC D h' tk' hb' ys z F' N' hC fC k ?_ fun g hg i y e => ?_
      · have := paired_len (hP hb' (fun a x _ e => ⟨x, e, .refl _⟩)); simpa using this.symm
      · obtain ⟨j, ej, gj⟩ := paired_get (hP g hg) i y e
        have : j = i := by
          have := (List.getElem?_eq_some_iff.mp ej).2
          simpa using this.symm
        subst this; exact gj
/-- one test -/
theorem comp_run1 {elt iter c : Expr} {x : Str} {px : Pos} {scope : Scope} {cl : List (Str × Addr)} {pos : Pos} {use : Option (Value → Sem Unit)} {Q : Value → Shared → Prop}
    (p : Nat → Bool) (G : Heap → Nat → Value → Prop) (hh : A.handled = none) (F : Fm B hb L hp m) (N : Nw hb L hp ((I, o) :: news)) (X : Iter w hb I n P 0 o) (hn : n ≤ 1000000)
    (hcell : (scope.names.all fun y => decide (y.2 ≠ .cell)) = true) (hkind : scope.kind = .function) (hx : scope.names.lookup x = some .local) (hxl : ("loose" : Str) ≠ x)
    (turn : ∀ i v C h tk m', i < n → P i v → Fm B (wide h C []) C h m' → Nw (wide h C []) C h [] → Sub (wide hp I []) (wide h C []) → m' x = some v →
      wpAny (model pr w) A (PySem.isTrue c (compEnvC scope cl C env) (eval c (compEnvC scope cl C env))) (fun ok s₃ => ok = p i ∧ if ok = true then wpAny (model pr w) A (eval elt (compEnvC scope cl C env)) (fun y => ElDone B gs dr os C h m' fun g => G g i y) (fun _ _ => False) s₃
        else ElDone B gs dr os C h m' (fun _ => True) s₃) (fun _ _ => False) ⟨h, gs, dr, tk, os⟩)
    (fin : ∀ (C : Addr) (oC : Obj) (D : Addr) (h' : Heap) (tk' : Nat) (hb' : Heap) (ys : List Value) (z : Nat), Fm B hb' L h' m → Nw hb' L h' ((C, oC) :: (D, listOf ys.toArray z) :: news) → (∃ mC, h'.Ns C mC) → Fixed oC → Sub hb hb' → (∀ g, Off hp hb' g → Paired (G g) ((List.range n).filter p) ys) → compPost (model pr w) A E use Q (.ref D) C (.ok .next) ⟨h', gs, dr, tk', os⟩) :
    CompAt w A env scope cl pos elt iter x px [c] use Q E (.ref I) ⟨hp, gs, dr, tk, os⟩ :=
  comp_core hcell hkind hx hxl p G hh F N X hn (fun i v C h tk m' h1 h2 h3 h4 h5 h6 => wpAny_tests_one (turn i v C h tk m' h1 h2 h3 h4 h5 h6)) fin
theorem g_post {use : Option (Value → Sem Unit)} {Q : Value → Shared → Prop} {D : Addr} {s : Shared} (h : compPost (model pr w) A E use Q (.ref D) C (.ok .next) s) : compPost (model pr w) A E use Q (.ref D) C (.ok .next) s := h
-- cells
theorem fixed_cell {o : Obj} {v : Option Value} (e : o.data = .cell v) : Fixed o := fun x => let ⟨_, _, q, _⟩ := x.five; Data.noConfusion (e.symm.trans q)
theorem r_cell {x : Str} {pos : Pos} {c : Addr} {v : Value} {Q : Value → Shared → Prop} (N : Nw hb L hp news) (hk : env.scope.kind = .function) (hl : env.kindOf x = some .cell) (hd : (x == ("__debug__" : Str)) = false)
    (hc : env.cells.lookup x = some c) (hm : (c, o) ∈ news) (he : o.data = .cell (some v)) (h : Q v ⟨hp, gs, dr, tk, os⟩) : wpAny (model pr w) A (eval (.Name x pos) env) Q E ⟨hp, gs, dr, tk, os⟩ :=
  wpAny_Name (wpAny_loadName_cell hk hl hc ⟨o, N.get hm (fixed_cell he), he⟩ h) hd
theorem r_cellL {x : Str} {c : Addr} {v : Value} {Q : Value → Shared → Prop} (N : Nw hb L hp news) (hk : env.scope.kind = .function) (hl : env.kindOf x = some .cell)
    (hc : env.cells.lookup x = some c) (hm : (c, o) ∈ news) (he : o.data = .cell (some v)) (h : Q v ⟨hp, gs, dr, tk, os⟩) : wpAny (model pr w) A (loadName env x) Q E ⟨hp, gs, dr, tk, os⟩ :=
  wpAny_loadName_cell hk hl hc ⟨o, N.get hm (fixed_cell he), he⟩ h
/-- a cell in what stays (a comprehension reads it) -/
def CellAt (h : Heap) (c : Addr) (v : Value) : Prop := ∃ o, h.get? c = some o ∧ o.data = .cell (some v)
theorem CellAt.up {h h' : Heap} {c : Addr} {v : Value} (x : CellAt h c v) (k : Sub h h') : CellAt h' c v := let ⟨o, e, d⟩ := x; ⟨o, k.fix e (fixed_cell d), d⟩
theorem CellAt.turn {k : List (Addr × Obj)} {c : Addr} {oc : Obj} {v : Value} (N : Nw hb L hp ((I, o) :: k)) (hm : (c, oc) ∈ k) (he : oc.data = .cell (some v)) : CellAt (wide hp I []) c v := ⟨oc, news_turn N hm (fixed_cell he), he⟩
theorem r_cellB {x : Str} {pos : Pos} {c : Addr} {v : Value} {Q : Value → Shared → Prop} (F : Fm B hb L hp m) (hk : env.scope.kind = .function) (hl : env.kindOf x = some .cell) (hd : (x == ("__debug__" : Str)) = false)
    (hc : env.cells.lookup x = some c) (he : CellAt hb c v) (h : Q v ⟨hp, gs, dr, tk, os⟩) : wpAny (model pr w) A (eval (.Name x pos) env) Q E ⟨hp, gs, dr, tk, os⟩ :=
  wpAny_Name (wpAny_loadName_cell hk hl hc (he.up F.keep) h) hd
theorem r_cellst {x : Str} {c : Addr} {k : Nat} {v₀ : Option Value} {v : Value} {Q : Unit → Shared → Prop} (F : Fm B hb L hp m) (N : Nw hb L hp news) (hk : env.scope.kind = .function) (hl : env.kindOf x = some .cell)
    (hc : env.cells.lookup x = some c) (hm : news[k]? = some (c, o)) (he : o.data = .cell v₀) (h : ∀ h' o', o'.data = .cell (some v) → Fm B hb L h' m → Nw hb L h' (news.set k (c, o')) → Q () ⟨h', gs, dr, tk, os⟩) :
    wpAny (model pr w) A (storeName env x v) Q E ⟨hp, gs, dr, tk, os⟩ := by
  refine wpAny_storeName_cell hk hl hc ⟨o, N.get (List.mem_of_getElem? hm) (fixed_cell he), he⟩ fun h' hv hs => ?_
  obtain ⟨o', ho', hd'⟩ := hv
  exact h h' o' hd' (F.upd N (List.mem_of_getElem? hm) hs) (N.upd hm hs ho')
theorem enterC {w : World} {A : Around} {d : Nat} {s : Shared} {Q E : Value → Shared → Prop} {f : Addr} {args : List Value} (i : Nat) {binds : List (Str × Value)} {m : Str → Option Value} (cs : List (Str × Nat)) (cv : List (Option Value))
    (R : Room A (d + 1)) (G : Gd w B) (hB : SubX B s.heap) (hf : ∃ n, (n, i, f) ∈ tblS)
    (hbind : ∀ pm cd, bindArgs (Calls.docDef (fdName (stAt i)) (fdParams (stAt i)) (fdBody (stAt i)) (fdScope (stAt i)) pm cd .none) ⟨args, []⟩ = pure binds)
    (hm : ∀ L cd, bindL (envOfC (fdName (stAt i)) (fdScope (stAt i)) L f cd).kindOf binds (fun _ => none) = m) (hnl : m "loose" = none)
    (hcs : ∀ L, cellsFrom (L + 1) (fdScope (stAt i)).names [] = cs.map fun p => (p.1, L + p.2)) (hcd : (cs.map (·.2)).Nodup)
    (hcv : ∀ L cd, cs.map (fun p => bindC (envOfC (fdName (stAt i)) (fdScope (stAt i)) L f cd).kindOf binds (fun _ => none) p.1) = cv)
    (hkind : ∀ n, (binds.all fun x => decide ((fdScope (stAt i)).names.lookup x.1 = some .local) || (decide ((fdScope (stAt i)).names.lookup x.1 = some .cell) && ((cellsFrom n (fdScope (stAt i)).names []).lookup x.1).isSome)) = true)
    (hnd : ((cellsFrom 0 (fdScope (stAt i)).names []).map (·.1)).Nodup)
    (hsc : ((fdScope (stAt i)).isCoroutine, (fdScope (stAt i)).isGenerator, (fdScope (stAt i)).kind) = (false, false, .function))
    (h : ∀ cd L h₁ tk cells, Fm B s.heap L h₁ m → Nw s.heap L h₁ cells → cells.map (·.1) = cs.map (fun p => L + p.2) → cells.map (fun p => p.2.data) = cv.map (fun v => .cell v) → Room (A.deeper (envOfC (fdName (stAt i)) (fdScope (stAt i)) L f cd)) d →
      wpAny (model pr w) (A.deeper (envOfC (fdName (stAt i)) (fdScope (stAt i)) L f cd)) (execs (fdBody (stAt i)) (envOfC (fdName (stAt i)) (fdScope (stAt i)) L f cd))
        (fun fl s' => Q (match fl with | .ret v => v | _ => .none) s') (fun _ _ => False) { s with heap := h₁, toks := tk }) :
    wpAny (model pr w) A (call (.ref f) args) Q E s := by
  obtain ⟨n, hf⟩ := hf
  obtain ⟨o, pm, cd, ho, hd, hc⟩ := G.F _ hf
  obtain ⟨_, _, _, T, _⟩ := G.T
  simp only [Prod.mk.injEq] at hsc
  refine wpAny_call (call_cellsN_ret (R := fun r s' => match r with | .ok (.ret v) => Q v s' | .ok _ => False | .error e => E e s') (by have := R.depth; omega) (hB _ _ ho) hd (T.nolimit.keeps hB) (hc.keeps hB) (hbind pm cd)
    (fun x hx => ?_) hnd (fun h₁ tk cells F N X => ?_) hsc.1 hsc.2.1 hsc.2.2)
  · have := List.all_eq_true.mp (hkind (s.heap.objs.size + 1)) x hx
    simpa using this
  · rw [hm] at F
    rw [hcs] at X
    have hcv' := hcv s.heap.objs.size cd
    generalize bindC (envOfC (fdName (stAt i)) (fdScope (stAt i)) s.heap.objs.size f cd).kindOf binds (fun _ => none) = cm at X hcv'
    have key : ∀ {cs : List (Str × Nat)} {cells : List (Addr × Obj)}, CellsAre cm (cs.map fun p => (p.1, s.heap.objs.size + p.2)) cells → cells.map (·.1) = cs.map (fun p => s.heap.objs.size + p.2) ∧ cells.map (fun p => p.2.data) = (cs.map fun p => cm p.1).map (fun v => .cell v) := by
      intro cs
      induction cs with
      | nil => intro cells X; cases X; exact ⟨rfl, rfl⟩
      | cons p r ih => intro cells X; cases X with | cons h X => obtain ⟨a, b⟩ := ih X; exact ⟨by simp [a], by simp [b, h]⟩
    obtain ⟨k1, k2⟩ := key X
    rw [hcv'] at k2
    obtain ⟨F', _⟩ := fm_enter G hB F hnl (noSize _) (Nat.le_refl _)
    refine h cd _ h₁ tk cells F' ⟨fun p hp => ?_, ?_⟩ k1 k2 R.deeper
    · obtain ⟨a, b, c⟩ := N p hp
      exact ⟨⟨_, a, .refl _⟩, b, c⟩
    · have : (cells.map (·.1)).Pairwise (· ≠ ·) := by
        rw [k1, List.pairwise_map]
        rw [List.Nodup, List.pairwise_map] at hcd
        exact hcd.imp fun h e => h (Nat.add_left_cancel e)
      exact List.pairwise_map.mp this
-- lists
theorem kit1 {a : Addr} {ob : Obj} {m' : Str → Option Value} (F : Fm B hb L hp m) (N : Nw hb L hp news) (ha : hp.get? a = none) (F' : Fr {} L h' m) (N' : News {} L h' ((a, ob) :: allN {} L hp)) : Fm B hb L h' m ∧ Nw hb L h' ((a, ob) :: news) := by
  have Nt : News {} L h' (allN {} L hp) := fun p hp => N' p (.tail _ hp)
  have F2 := F.kit F.fr0 F' Nt F.nl
  obtain ⟨e, n, _⟩ := N' _ (.head _)
  refine ⟨F2, (N.kit F.fr0 F' Nt).adopt e n ?_ fun q hq e => ?_⟩
  · cases q : hb.get? a with
    | none => rfl
    | some o => obtain ⟨_, e1, _⟩ := F.keep _ _ q; rw [ha] at e1; cases e1
  · obtain ⟨⟨_, e1, _⟩, _⟩ := N.at_ q hq
    skip
    rw [← e, ha] at e1; cases e1
theorem r_lenL {a : Addr} {vs : List Value} {Q : Value → Shared → Prop} (x : Ls hp a vs) (hz : vs.length ≤ 1000000) (h : Q (.int vs.length (tk + 1)) ⟨hp, gs, dr, tk + 2, os⟩) : wpAny (model pr w) A (call (.builtin "len") [.ref a]) Q E ⟨hp, gs, dr, tk, os⟩ :=
  len_list x.isList (by rw [List.size_toArray]; omega) (by rw [List.size_toArray]; exact h)
theorem r_itemL {value slice : Expr} {a : Addr} {vs : List Value} {k : Int} {u : Tok} {v : Value} {Q : Value → Shared → Prop} (x : Ls hp a vs) (h0 : 0 ≤ k) (h1 : k ≤ 1000000) (hv : vs[k.toNat]? = some v)
    (hs : subscripted slice false (.ref a) (.int k u) = operate [.ref a, .int k u] (getItem (.ref a) (.int k u))) (h : Q v ⟨hp, gs, dr, tk, os⟩) :
    wpAny (model pr w) A (subscriptTail value slice (.ref a) (.int k u)) Q E ⟨hp, gs, dr, tk, os⟩ := subscriptTail_builtinR (x := v) (s := ⟨hp, gs, dr, tk, os⟩) (Heap.IsList.typeIs (s := ⟨hp, gs, dr, tk, os⟩) x.isList) slot_list_getitem.lookup (wpAny_getItem_list (s := ⟨hp, gs, dr, tk, os⟩) x.isList h0 (by omega) (by simpa using hv) ⟨rfl, h⟩) hs
theorem r_addL {a b : Addr} {vs ws : List Value} {Q : Value → Shared → Prop} (F : Fm B hb L hp m) (N : Nw hb L hp news) (x : Ls hp a vs) (y : Ls hp b ws) (hz : vs.length + ws.length ≤ 1000000)
    (h : ∀ D h', Fm B hb L h' m → Nw hb L h' ((D, listOf (vs ++ ws).toArray 0) :: news) → Q (.ref D) ⟨h', gs, dr, tk, os⟩) : wpAny (model pr w) A (binaryOp .Add (.ref a) (.ref b)) Q E ⟨hp, gs, dr, tk, os⟩ :=
  add_lists (s := ⟨hp, gs, dr, tk, os⟩) F.fr0 allN_news x.isList y.isList (fun h' F' N' => by obtain ⟨a, b⟩ := kit1 (m' := m) F N (noSize _) F' N'; exact h _ h' a b) (Nat.le_trans hz (by decide))
theorem r_copyL {a : Addr} {vs : List Value} {Q : Value → Shared → Prop} (F : Fm B hb L hp m) (N : Nw hb L hp news) (x : Ls hp a vs) (hz : vs.length ≤ 1000000)
    (h : ∀ D h' z, Fm B hb L h' m → Nw hb L h' ((D, listOf vs.toArray z) :: news) → Q (.ref D) ⟨h', gs, dr, tk, os⟩) : wpAny (model pr w) A (call (.type "list") [.ref a]) Q E ⟨hp, gs, dr, tk, os⟩ := by
  obtain ⟨z, e⟩ := x
  refine call_list_seq (hsz := by rw [List.size_toArray]; exact Nat.le_trans hz (by decide)) a (.inl rfl) e rfl rfl fun h' c' hk hD => ?_
  have F' := F.growX hk
  exact h _ h' c' F' ((N.grow (SubX.sub hk)).adopt hD (fun q => by obtain ⟨_, _, _, eL, _⟩ := F.ns; rw [← q, noSize] at eL; cases eL) (by
    cases q : hb.get? hp.objs.size with
    | none => rfl
    | some o => obtain ⟨_, e1, _⟩ := F.keep _ _ q; rw [noSize] at e1; cases e1) fun q hq e => by
      obtain ⟨⟨_, e1, _⟩, _⟩ := N.at_ q hq
      dsimp only at e
      rw [← e, noSize] at e1; cases e1)
theorem r_range1 {n : Nat} {t : Tok} {Q : Value → Shared → Prop} (F : Fm B hb L hp m) (N : Nw hb L hp news)
    (h : ∀ r h' tk', Rg h' r n → Fm B hb L h' m → Nw hb L h' news → Q (.ref r) ⟨h', gs, dr, tk', os⟩) : wpAny (model pr w) A (call (.type "range") [.int n t]) Q E ⟨hp, gs, dr, tk, os⟩ :=
  range1_rows (s := ⟨hp, gs, dr, tk, os⟩) F.fr0 allN_news fun h' tk' t₁ u₁ v₁ hr F' N' k => h _ h' tk' ⟨_, _, _, hr⟩ (F.growX k) (N.grow (SubX.sub k))
/-- list(range(1, n + 1)) -/
theorem r_range2 {a b : Int} {t u : Tok} {Q : Value → Shared → Prop} (F : Fm B hb L hp m) (N : Nw hb L hp news)
    (h : ∀ r h' tk' t₁ u₁ v₁, IsRange h' r a b 1 t₁ u₁ v₁ → Fm B hb L h' m → Nw hb L h' news → Q (.ref r) ⟨h', gs, dr, tk', os⟩) : wpAny (model pr w) A (call (.type "range") [.int a t, .int b u]) Q E ⟨hp, gs, dr, tk, os⟩ :=
  range2_rows (s := ⟨hp, gs, dr, tk, os⟩) F.fr0 allN_news fun h' tk' t₁ u₁ v₁ hr F' N' k => h _ h' tk' _ _ _ hr (F.growX k) (N.grow (SubX.sub k))
theorem for_inv {target : Expr} {body : List Stmt} {it : Value} {Q : Flow → Shared → Prop} (J : Nat → Shared → Prop) (n : Nat) {s : Shared}
    (step : ∀ i s, i < n → J i s → (∀ s', J (i + 1) s' → ForAt w A env target body Q it s') → ForAt w A env target body Q it s) (last : ∀ s, J n s → ForAt w A env target body Q it s) (h0 : J 0 s) : ForAt w A env target body Q it s := by
  have key : ∀ k i s, i + k = n → J i s → ForAt w A env target body Q it s := by
    intro k
    induction k with
    | zero => intro i s e hj; obtain rfl : i = n := by omega
              exact last s hj
    | succ k ih => intro i s e hj; exact step i s (by omega) hj fun s' hj' => ih (i + 1) s' (by omega) hj'
  exact key n 0 s (by omega) h0
/-- only these stay to be changed -/
theorem only {news' : List (Addr × Obj)} (F : Fm B hb L hp m) (N : Nw hb L hp news) (hs : news'.Sublist news) : Fm B (wide hp L news') L hp m ∧ Nw (wide hp L news') L hp news' ∧ Sub hb (wide hp L news') := by
  have N' : Nw hb L hp news' := ⟨fun p hp => N.at_ p (hs.subset hp), N.apart.sublist hs⟩
  exact ⟨F.wide N', N'.wide, wide_of F N'⟩
theorem g_iter {v : Value} {s : Shared} {Q : Value → Shared → Prop} (h : wpAny (model pr w) A (pyIter v) Q E s) : wpAny (model pr w) A (pyIter v) Q E s := h
theorem cells1 {cells : List (Addr × Obj)} {a : Addr} {d : Data} (x : cells.map (·.1) = [a]) (y : cells.map (fun p => p.2.data) = [d]) : ∃ o, cells = [(a, o)] ∧ o.data = d := by
  cases cells with
  | nil => cases x
  | cons p r => cases r with
    | nil => obtain ⟨b, o⟩ := p; rw [List.map_cons, List.map_nil] at x y; cases x; cases y; exact ⟨o, rfl, rfl⟩
    | cons q r => cases x
theorem cells2 {cells : List (Addr × Obj)} {a b : Addr} {d e : Data} (x : cells.map (·.1) = [a, b]) (y : cells.map (fun p => p.2.data) = [d, e]) : ∃ o o', cells = [(a, o), (b, o')] ∧ o.data = d ∧ o'.data = e := by
  cases cells with
  | nil => cases x
  | cons p r => cases r with
    | nil => cases x
    | cons q r => cases r with
      | nil => obtain ⟨a', o⟩ := p; obtain ⟨b', o'⟩ := q; rw [List.map_cons, List.map_cons, List.map_nil] at x y; cases x; cases y; exact ⟨o, o', rfl, rfl, rfl⟩
      | cons _ _ => cases x
theorem getAt0 {x0 : Addr × Obj} {l : List (Addr × Obj)} : (x0 :: l)[0]? = some x0 := rfl
theorem getAt1 {x0 : Addr × Obj} {x1 : Addr × Obj} {l : List (Addr × Obj)} : (x0 :: x1 :: l)[1]? = some x1 := rfl
theorem getAt2 {x0 : Addr × Obj} {x1 : Addr × Obj} {x2 : Addr × Obj} {l : List (Addr × Obj)} : (x0 :: x1 :: x2 :: l)[2]? = some x2 := rfl
theorem getAt3 {x0 : Addr × Obj} {x1 : Addr × Obj} {x2 : Addr × Obj} {x3 : Addr × Obj} {l : List (Addr × Obj)} : (x0 :: x1 :: x2 :: x3 :: l)[3]? = some x3 := rfl
theorem getAt4 {x0 : Addr × Obj} {x1 : Addr × Obj} {x2 : Addr × Obj} {x3 : Addr × Obj} {x4 : Addr × Obj} {l : List (Addr × Obj)} : (x0 :: x1 :: x2 :: x3 :: x4 :: l)[4]? = some x4 := rfl
theorem getAt5 {x0 : Addr × Obj} {x1 : Addr × Obj} {x2 : Addr × Obj} {x3 : Addr × Obj} {x4 : Addr × Obj} {x5 : Addr × Obj} {l : List (Addr × Obj)} : (x0 :: x1 :: x2 :: x3 :: x4 :: x5 :: l)[5]? = some x5 := rfl
theorem getAt6 {x0 : Addr × Obj} {x1 : Addr × Obj} {x2 : Addr × Obj} {x3 : Addr × Obj} {x4 : Addr × Obj} {x5 : Addr × Obj} {x6 : Addr × Obj} {l : List (Addr × Obj)} : (x0 :: x1 :: x2 :: x3 :: x4 :: x5 :: x6 :: l)[6]? = some x6 := rfl
theorem getAt7 {x0 : Addr × Obj} {x1 : Addr × Obj} {x2 : Addr × Obj} {x3 : Addr × Obj} {x4 : Addr × Obj} {x5 : Addr × Obj} {x6 : Addr × Obj} {x7 : Addr × Obj} {l : List (Addr × Obj)} : (x0 :: x1 :: x2 :: x3 :: x4 :: x5 :: x6 :: x7 :: l)[7]? = some x7 := rfl
theorem getAt8 {x0 : Addr × Obj} {x1 : Addr × Obj} {x2 : Addr × Obj} {x3 : Addr × Obj} {x4 : Addr × Obj} {x5 : Addr × Obj} {x6 : Addr × Obj} {x7 : Addr × Obj} {x8 : Addr × Obj} {l : List (Addr × Obj)} : (x0 :: x1 :: x2 :: x3 :: x4 :: x5 :: x6 :: x7 :: x8 :: l)[8]? = some x8 := rfl
end
end -- A5
section
open PySem PySem.W PyProof.Rows PySem.Builtin
set_option maxRecDepth 100000
set_option linter.unusedVariables false
/-- a Vector's own names -/
def VecD (o : Obj) (k : Str) (i a : Value) : Prop := ∃ (h1 h2 h3 h4 h5 : Int) (t1 t2 t3 t4 t5 tk : Tok) (b l : Value) (z : Nat), o = dictOf [⟨h1, .str "kind" t1, .str k tk⟩, ⟨h2, .str "items" t2, i⟩, ⟨h3, .str "attrs" t3, a⟩, ⟨h4, .str "shared" t4, b⟩, ⟨h5, .str "loose" t5, l⟩] z
theorem VecD.isVD {o : Obj} {k : Str} {i a : Value} (x : VecD o k i a) : IsVD o := by
  obtain ⟨h1, h2, h3, h4, h5, t1, t2, t3, t4, t5, tk, b, l, z, rfl⟩ := x
  exact ⟨h1, h2, h3, h4, h5, t1, t2, t3, t4, t5, _, _, _, b, l, z, rfl⟩
theorem VecD.sim {o o' : Obj} {k : Str} {i a : Value} (x : VecD o k i a) (s : Sim o o') : VecD o' k i a := by
  rcases s with rfl | ⟨_, rfl⟩
  · exact x
  · obtain ⟨h1, h2, h3, h4, h5, t1, t2, t3, t4, t5, tk, b, l, z, rfl⟩ := x
    exact ⟨h1, h2, h3, h4, h5, t1, t2, t3, t4, t5, tk, .bool true, l, z, rfl⟩
theorem fixed_inst {C dx : Addr} : Fixed (instObj C dx) := fun x => let ⟨_, _, q, _⟩ := x.five; Data.noConfusion q
/-- a Vector stands at x -/
def Vec (h : Heap) (x : Addr) (k : Str) (i : Addr) (a : Value) : Prop := ∃ dx o, h.get? x = some (instObj 258 dx) ∧ h.get? dx = some o ∧ VecD o k (.ref i) a ∧ 667 ≤ dx ∧ handedIn a = true
theorem Vec.up {h h' : Heap} {x : Addr} {k : Str} {i : Addr} {a : Value} (v : Vec h x k i a) (s : Sub h h') : Vec h' x k i a := by
  obtain ⟨dx, o, e1, e2, d, z, ha⟩ := v
  obtain ⟨o', e3, s3⟩ := s _ _ e2
  exact ⟨dx, o', s.fix e1 fixed_inst, e3, d.sim s3, z, ha⟩
section
variable {w : World} {A : Around} {E : Value → Shared → Prop} {env : Env} {L I C x dx d : Addr} {B hb hp h' : Heap} {m : Str → Option Value} {news : List (Addr × Obj)} {n i : Nat} {P : Nat → Value → Prop} {o od : Obj} {k : Str} {a : Value} {kvs : List (Str × Value)}
variable {gs : Array GenState} {dr : Drawn} {tk : Nat} {os : OsState}
theorem Vec.of (N : Nw hb L hp news) (h1 : (x, instObj 258 dx) ∈ news) (h2 : (dx, od) ∈ news) (hd : VecD od k (.ref i) a) (z : 667 ≤ dx) (ha : handedIn a = true) : Vec hp x k i a := by
  obtain ⟨⟨o', e, s⟩, _⟩ := N.at_ _ h2
  exact ⟨dx, o', N.get h1 fixed_inst, e, hd.sim s, z, ha⟩
theorem Vec.off {g a₀ : Heap} (hg : Off a₀ hp g) (N : Nw hb L hp news) (kk : Sub a₀ hb) (h1 : (x, instObj 258 dx) ∈ news) (h2 : (dx, od) ∈ news) (hd : VecD od k (.ref i) a) (z : 667 ≤ dx) (ha : handedIn a = true) : Vec g x k i a := by
  obtain ⟨o', e, s⟩ := news_offS hg N kk h2
  exact ⟨dx, o', news_off hg N kk h1 fixed_inst, e, hd.sim s, z, ha⟩
theorem Vec.inst (v : Vec hp x k i a) : ∃ dx es z, InstAt hp x (instObj 258 dx) 258 (some (dictOf es z)) ∧ (∃ t, getL "kind" es = some (some (.str k t))) ∧ getL "items" es = some (some (.ref i)) ∧ getL "attrs" es = some (some a) := by
  obtain ⟨dx, o, e1, e2, ⟨h1, h2, h3, h4, h5, t1, t2, t3, t4, t5, tk, b, l, z, rfl⟩, _, _⟩ := v
  exact ⟨dx, _, z, ⟨e1, rfl, rfl, e2⟩, ⟨tk, rfl⟩, rfl, rfl⟩
theorem r_attr {value : Expr} {attr : Str} {pos : Pos} {s : Shared} {Q : Value → Shared → Prop} (he : eval (.Attribute value attr pos) env = (do
      let o ← eval value env
      standAt pos.atName
      let r ← holding [o] (getAttr o attr true)
      letTemporaryGo value o r
      pure r))
    (h : wpAny (model pr w) A (eval value env) (fun o s₁ => wpAny (model pr w) A (getAttr o attr true) Q E s₁) E s) : wpAny (model pr w) A (eval (.Attribute value attr pos) env) Q E s := Attribute_any_ h he
theorem Gd.X (G : Gd w B) (k : SubX B hp) : (KFr w.params).In hp := Frag.In.keeps G.K k
theorem r_kind {Q : Value → Shared → Prop} (G : Gd w B) (F : Fm B hb L hp m) (v : Vec hp x k i a) (h : ∀ t, Q (.str k t) ⟨hp, gs, dr, tk + 1, os⟩) : wpAny (model pr w) A (getAttr (.ref x) "kind" true) Q E ⟨hp, gs, dr, tk, os⟩ := by
  obtain ⟨dx, es, z, I, ⟨t, e⟩, _, _⟩ := v.inst
  exact get_own (s := ⟨hp, gs, dr, tk, os⟩) F.fr G.K I rfl rfl rfl rfl e rfl (h t)
theorem r_items {Q : Value → Shared → Prop} (G : Gd w B) (F : Fm B hb L hp m) (v : Vec hp x k i a) (h : Q (.ref i) ⟨hp, gs, dr, tk + 1, os⟩) : wpAny (model pr w) A (getAttr (.ref x) "items" true) Q E ⟨hp, gs, dr, tk, os⟩ := by
  obtain ⟨dx, es, z, I, _, e, _⟩ := v.inst
  exact get_own (s := ⟨hp, gs, dr, tk, os⟩) F.fr G.K I rfl rfl rfl rfl e rfl h
theorem r_attrs {Q : Value → Shared → Prop} (G : Gd w B) (F : Fm B hb L hp m) (v : Vec hp x k i a) (h : Q a ⟨hp, gs, dr, tk + 1, os⟩) : wpAny (model pr w) A (getAttr (.ref x) "attrs" true) Q E ⟨hp, gs, dr, tk, os⟩ := by
  have ha : handedIn a = true := by obtain ⟨_, _, _, _, _, _, ha⟩ := v; exact ha
  obtain ⟨dx, es, z, I, _, _, e⟩ := v.inst
  exact get_own (s := ⟨hp, gs, dr, tk, os⟩) F.fr G.K I rfl rfl rfl rfl e ha h
theorem r_isvec {Q : Value → Shared → Prop} (G : Gd w B) (F : Fm B hb L hp m) (v : Vec hp x k i a) (h : Q (.bool true) ⟨hp, gs, dr, tk, os⟩) : wpAny (model pr w) A (call (.builtin "isinstance") [.ref x, .ref 258]) Q E ⟨hp, gs, dr, tk, os⟩ := by
  obtain ⟨dx, es, z, I, _⟩ := v.inst
  exact isi_call (s := ⟨hp, gs, dr, tk, os⟩) (G.X F.keepB) (fun M => I.type) rfl (fun e => by cases e) h
theorem size667 (F : Fm B hb L hp m) (G : Gd w B) : 667 ≤ hp.objs.size := by
  obtain ⟨_, _, _, e, _⟩ := F.ns
  exact Nat.le_trans (Nat.le_of_eq G.Z.symm) (Nat.le_trans F.top (Nat.le_of_lt (Heap.lt_size e)))
theorem noB (G : Gd w B) {a : Addr} (z : 667 ≤ a) : B.get? a = none := by
  cases q : B.get? a with
  | none => rfl
  | some o => exact absurd (Heap.lt_size q) (Nat.not_lt.mpr (Nat.le_trans (Nat.le_of_eq G.Z) z))
/-- x.attrs = v of an own Vector -/
theorem r_setA {j : Nat} {v : Value} {i a : Value} {Q : Unit → Shared → Prop} (G : Gd w B) (F : Fm B hb L hp m) (N : Nw hb L hp news) (h1 : (x, instObj 258 dx) ∈ news) (h2 : news[j]? = some (dx, od)) (hd : VecD od k i a)
    (h : ∀ h' od' tk', VecD od' k i v → Fm B hb L h' m → Nw hb L h' (news.set j (dx, od')) → Q () ⟨h', gs, dr, tk', os⟩) : wpAny (model pr w) A (setAttr (.ref x) "attrs" v) Q E ⟨hp, gs, dr, tk, os⟩ := by
  obtain ⟨⟨o1, e1, s1⟩, nL, nb⟩ := N.at_ _ (List.mem_of_getElem? h2)
  dsimp only at e1 nL nb
  obtain ⟨g1, g2, g3, g4, g5, t1, t2, t3, t4, t5, tk1, b, l, z, rfl⟩ := hd.sim s1
  have own : (dx, _) ∈ allN B L hp := mem_allN.mpr ⟨e1, nL, F.sub.none nb⟩
  refine set_dict (s := ⟨hp, gs, dr, tk, os⟩) F.fr G.K allN_news ⟨N.get h1 fixed_inst, rfl, rfl, e1⟩ rfl rfl rfl rfl rfl rfl rfl (upd_apart allN_apart own) (Nat.le_of_ble_eq_true rfl) fun h' F' N' => ?_
  obtain ⟨F2, N2⟩ := F.kitU N h2 F.fr own F' N'
  exact h h' _ _ ⟨g1, g2, g3, g4, g5, t1, t2, t3, t4, t5, tk1, b, l, z, rfl⟩ F2 N2
/-- v.shared = True -/
theorem r_share {Q : Unit → Shared → Prop} {i : Addr} (G : Gd w B) (F : Fm B hb L hp m) (N : Nw hb L hp news) (v : Vec hp x k i a)
    (h : ∀ h' tk', Fm B hb L h' m → Nw hb L h' news → Q () ⟨h', gs, dr, tk', os⟩) : wpAny (model pr w) A (setAttr (.ref x) "shared" (.bool true)) Q E ⟨hp, gs, dr, tk, os⟩ := by
  obtain ⟨dx, o, e1, e2, hd, z, _⟩ := v
  have nL : dx ≠ L := fun q => by
    obtain ⟨o', es, ep, ho, hdd, r⟩ := F.ns
    rw [q, ho] at e2; cases e2
    exact fixed_ns hdd r.2 F.nl hd.isVD
  obtain ⟨g1, g2, g3, g4, g5, t1, t2, t3, t4, t5, tk1, b, l, zz, rfl⟩ := hd
  have own : (dx, _) ∈ allN B L hp := mem_allN.mpr ⟨e2, nL, noB G z⟩
  refine set_dict (s := ⟨hp, gs, dr, tk, os⟩) F.fr G.K allN_news ⟨e1, rfl, rfl, e2⟩ rfl rfl rfl rfl rfl rfl rfl (upd_apart allN_apart own) (Nat.le_of_ble_eq_true rfl) fun h' F' N' => ?_
  obtain ⟨a1, a2⟩ := of_updN F.fr F' N' own
  have sm : ∀ b ob, b ≠ L → hp.get? b = some ob → ∃ ob', h'.get? b = some ob' ∧ Sim ob ob' := fun b ob nb eb => by
    by_cases q : b = dx
    · subst q
      rw [e2] at eb; cases eb
      exact ⟨_, a1, .inr ⟨⟨g1, g2, g3, g4, g5, t1, t2, t3, t4, t5, _, _, _, _, _, _, rfl⟩, rfl⟩⟩
    · exact ⟨ob, a2 b ob nb q eb, .refl _⟩
  refine h h' _ ⟨F'.ns, F.nl, fun b ob eb => ?_, F.noL, F.top, F'.keep, F.sub⟩ ⟨fun p hp' => ?_, N.apart⟩
  · obtain ⟨o2, eo, so⟩ := F.keep b ob eb
    obtain ⟨o3, eo3, so3⟩ := sm b o2 (fun q => by rw [q, F.noL] at eb; cases eb) eo
    exact ⟨o3, eo3, so.trans so3⟩
  · obtain ⟨⟨o2, eo, so⟩, r⟩ := N.at_ p hp'
    obtain ⟨o3, eo3, so3⟩ := sm _ o2 r.1 eo
    exact ⟨⟨o3, eo3, so.trans so3⟩, r⟩
/-- a call of the class Vector -/
theorem set_own {j : Nat} {es es' : List DictEntry} {z z' : Nat} {name : Str} {v : Value} {Q : Unit → Shared → Prop} (G : Gd w B) (F : Fm B hb L hp m) (N : Nw hb L hp news) (h1 : hp.get? x = some (instObj C dx)) (h2 : news[j]? = some (dx, dictOf es z)) (fx : Fixed (dictOf es z))
    (hs : findIn (KFr w.params) (.ref C) "__setattr__" = some (some (.builtin "object.__setattr__"))) (hp' : plainOver (KFr w.params) C = true) (ht : takerIn (KFr w.params) C name = some none) (hh : hasDictIn (KFr w.params) C = true) (hl : (getL name es).isSome = true)
    (e : (putL name (PyData.keyHash w.params name) (.str name (tk + 1)) v es, putN name es z) = (es', z')) (hz : es'.length ≤ 1000)
    (h : ∀ h', Fm B hb L h' m → Nw hb L h' (news.set j (dx, dictOf es' z')) → Q () ⟨h', gs, dr, tk + 2, os⟩) : wpAny (model pr w) A (setAttr (.ref x) name v) Q E ⟨hp, gs, dr, tk, os⟩ := by
  have hm := List.mem_of_getElem? h2
  have e2 := N.get hm fx
  have own : (dx, dictOf es z) ∈ allN B L hp := mem_allN.mpr ⟨e2, N.ne hm, F.sub.none (N.no hm)⟩
  refine set_dict (s := ⟨hp, gs, dr, tk, os⟩) F.fr G.K allN_news ⟨h1, rfl, rfl, e2⟩ rfl hs hp' ht hh hl e (upd_apart allN_apart own) hz fun h' F' N' => ?_
  obtain ⟨F2, N2⟩ := F.kitU N h2 F.fr own F' N'
  exact h h' F2 N2
theorem init_walk {fI : Addr} {fd : FuncData} {oI : Obj} {body : List Stmt} {binds : List (Str × Value)} {args : Args} {R' : Result → Shared → Prop} (G : Gd w B) (hd : A.depth < recursionLimit) (F : Fm B hb L hp m) (N : Nw hb L hp ((x, instObj C dx) :: (dx, emptyDict) :: news))
    (ho : (KFr w.params).lookup fI = some oI) (hdata : oI.data = .func fd) (hc : B.CodeRec fd.code fd.qualname) (hbody : fd.body = .stmts body) (hbind : BindsTo ⟨hp, gs, dr, tk, os⟩ fd args binds)
    (hcell : (fd.scope.names.all fun y => decide (y.2 ≠ .cell)) = true) (hloc : (binds.all fun y => decide (fd.scope.names.lookup y.1 = some .local)) = true) (hnl : binds.reverse.lookup ("loose" : Str) = none)
    (hsc : (fd.scope.isCoroutine, fd.scope.isGenerator, fd.scope.kind) = (false, false, .function))
    (h : ∀ L₁ h₁, Fm B (hideAll hp [dx]) L₁ h₁ (fun y => binds.reverse.lookup y) → Nw (hideAll hp [dx]) L₁ h₁ [(dx, emptyDict)] → (hideAll hp [dx]).get? x = some (instObj C dx) →
      wpAny (model pr w) (A.deeper (callEnv fd L₁ fI)) (execs body (callEnv fd L₁ fI)) (fun fl s' => ∃ h₂ tk₂ m₂ od, s' = ⟨h₂, gs, dr, tk₂, os⟩ ∧ fl = .next ∧ Fm B (hideAll hp [dx]) L₁ h₂ m₂ ∧ Nw (hideAll hp [dx]) L₁ h₂ [(dx, od)] ∧
        (∀ h' , Fm B hb L h' m → Nw hb L h' ((x, instObj C dx) :: (dx, od) :: news) → R' (.ok (.ret (.ref x))) ⟨h', gs, dr, tk₂, os⟩)) (fun _ _ => False) ⟨h₁, gs, dr, tk + binds.length, os⟩) :
    codeAny (model pr w) A (.call (.ref fI) args) (InitBack x R') ⟨hp, gs, dr, tk, os⟩ := by
  obtain ⟨_, _, _, T, _⟩ := G.T
  simp only [Prod.mk.injEq] at hsc
  refine codeAny_call_def hd (G.X F.keepB _ _ ho) hdata (T.nolimit.keeps F.keepB) (hc.keeps F.keepB) hbody hbind (fun y hy => of_decide_eq_true (List.all_eq_true.mp hcell y hy)) (fun y hy => of_decide_eq_true (List.all_eq_true.mp hloc y hy)) (fun h₁ hns hk => ?_) hsc.1 hsc.2.1 hsc.2.2
  have a1 := N.at_ _ (.tail _ (.head _))
  dsimp only at a1
  obtain ⟨⟨od0, e0, s0⟩, nL, nb⟩ := a1
  have fe : Fixed emptyDict := fixed_size rfl (by decide)
  have e0 : hp.get? dx = some emptyDict := N.get (.tail _ (.head _)) fe
  have ex : hp.get? x = some (instObj C dx) := N.get (.head _) fixed_inst
  have xd : x ≠ dx := (List.pairwise_cons.mp N.apart).1 _ (.head _)
  have nD : hp.objs.size ≠ dx := fun q => by rw [← q, noSize] at e0; cases e0
  have noS : (hideAll hp [dx]).get? hp.objs.size = none := by
    cases q : (hideAll hp [dx]).get? hp.objs.size with
    | none => rfl
    | some o => have := of_hideAll _ q; rw [noSize] at this; cases this
  have top1 : B.objs.size ≤ hp.objs.size := Nat.le_trans F.top (by obtain ⟨_, _, _, eL, _⟩ := F.ns; exact Nat.le_of_lt (Heap.lt_size eL))
  have F₁ : Fm B (hideAll hp [dx]) hp.objs.size h₁ (fun y => binds.reverse.lookup y) :=
    ⟨hns, hnl, (fun b o e => ⟨o, hk b o (of_hideAll _ e), .refl _⟩), noS, top1, (fun b o e => hk b o (F.keepB b o e)), (fun b o e => ⟨o, hideAll_get _ (F.keepB b o e) (fun q => by rw [List.mem_singleton.mp q, F.sub.none nb] at e; cases e), .refl _⟩)⟩
  have N₁ : Nw (hideAll hp [dx]) hp.objs.size h₁ [(dx, emptyDict)] :=
    ⟨fun p hp' => by rw [List.mem_singleton.mp hp']; exact ⟨⟨_, hk _ _ e0, .refl _⟩, Ne.symm nD, hideAll_none _ (.head _)⟩, .cons (fun _ q => nomatch q) .nil⟩
  refine wpAny_mono (h _ h₁ F₁ N₁ (hideAll_get _ ex fun q => xd (List.mem_singleton.mp q))) (fun fl s' q => ?_) fun _ _ f => f.elim
  obtain ⟨h₂, tk₂, m₂, od, rfl, rfl, F₂, N₂, fin⟩ := q
  refine ⟨rfl, ?_⟩
  have bs : ButS dx hp h₂ := fun b y n e => F₂.keep b y (hideAll_get _ e fun q => n (List.mem_singleton.mp q))
  have := N₂.at_ _ (.head _)
  dsimp only at this
  obtain ⟨⟨o2, e2, s2⟩, _⟩ := this
  have Fo := F.but nb nL bs F₂.keepB
  have No := N.but (k := 1) rfl bs e2
  dsimp only [List.set] at No
  refine fin h₂ Fo ⟨fun p hp' => ?_, ?_⟩
  · rcases List.mem_cons.mp hp' with rfl | hp'
    · exact No.at_ _ (.head _)
    · rcases List.mem_cons.mp hp' with rfl | hp'
      · exact ⟨⟨o2, e2, s2⟩, nL, nb⟩
      · exact No.at_ p (.tail _ (.tail _ hp'))
  · have ap := No.apart
    refine .cons (fun q hq => ?_) (.cons (fun q hq => ?_) ?_)
    · rcases List.mem_cons.mp hq with rfl | hq
      · exact xd
      · exact (List.pairwise_cons.mp ap).1 q (.tail _ hq)
    · exact (List.pairwise_cons.mp (List.pairwise_cons.mp ap).2).1 q hq
    · exact (List.pairwise_cons.mp (List.pairwise_cons.mp ap).2).2
theorem r_asgattr {o : Expr} {attr : Str} {pos' pos : Pos} {value : Expr} {s : Shared} {Q : Flow → Shared → Prop} (hs : swapsWith value (some (.Attribute o attr pos')) pos.line env = pure false)
    (h : wpAny (model pr w) A (eval value env) (fun v s₁ => wpAny (model pr w) A (eval o env) (fun ov s₂ => wpAny (model pr w) A (setAttr ov attr v) (fun _ => Q .next) E s₂) E s₁) E s) :
    wpAny (model pr w) A (exec (.Assign [.Attribute o attr pos'] value pos) env) Q E s := plainObj_wpAny_Assign_Attribute h hs
theorem g_seta {o v : Value} {n : Str} {s : Shared} {Q : Unit → Shared → Prop} (h : wpAny (model pr w) A (setAttr o n v) Q E s) : wpAny (model pr w) A (setAttr o n v) Q E s := h
theorem g_geta {o : Value} {n : Str} {s : Shared} {Q : Value → Shared → Prop} (h : wpAny (model pr w) A (getAttr o n true) Q E s) : wpAny (model pr w) A (getAttr o n true) Q E s := h
theorem make2 {cs : Addr} {x dx : Addr} {h' : Heap} (G : Gd w B) (F : Fm B hb L hp m) (N : Nw hb L hp news) (F' : Fr {} L h' m) (N' : News {} L h' ((x, instObj cs dx) :: (dx, emptyDict) :: allN {} L hp)) (ap : ∀ p ∈ allN {} L hp, p.1 < dx) (lt : dx < x) :
    Fm B hb L h' m ∧ Nw hb L h' ((x, instObj cs dx) :: (dx, emptyDict) :: news) ∧ 667 ≤ dx := by
  have nodx : hp.get? dx = none := by
    cases q : hp.get? dx with
    | none => rfl
    | some o => exact absurd (ap _ (mem_all0 q (N' _ (.tail _ (.head _))).2.1)) (Nat.lt_irrefl _)
  have nox : hp.get? x = none := by
    cases q : hp.get? x with
    | none => rfl
    | some o => exact absurd (Nat.lt_trans (ap _ (mem_all0 q (N' _ (.head _)).2.1)) lt) (Nat.lt_irrefl _)
  obtain ⟨F1, N1⟩ := kit1 (m' := m) F N nodx F' fun p hp => N' p (.tail _ hp)
  obtain ⟨ex, nx, _⟩ := N' _ (.head _)
  refine ⟨F1, N1.adopt ex nx ?_ fun q hq e => ?_, ?_⟩
  · cases q : hb.get? x with
    | none => rfl
    | some o => obtain ⟨_, e1, _⟩ := F.keep _ _ q; rw [nox] at e1; cases e1
  · rcases List.mem_cons.mp hq with rfl | hq
    · exact absurd e (Nat.ne_of_gt lt)
    · obtain ⟨⟨_, e1, _⟩, _⟩ := N.at_ q hq
      rw [← e, nox] at e1; cases e1
  · obtain ⟨o, _, _, eo, _⟩ := G.F ("law", 106, 666) (by simp only [tblS]; repeat (first | exact List.Mem.head _ | refine List.Mem.tail _ ?_))
    have : (666 : Nat) ≠ L := fun q => by have := F.top; rw [← q, G.Z] at this; exact absurd this (by decide)
    exact ap _ (mem_all0 (F.keepB _ _ eo) this)
end
end -- A6
section
open PySem PySem.W PyProof.Rows PySem.Calls
set_option maxRecDepth 100000
set_option maxHeartbeats 1000000
local macro_rules | `(tactic| walk_at "kv") => `(tactic| first | rfl | assumption | (simp only [if_true, if_false, reduceIte, *]; done))
local macro_rules | `(tactic| walk_at "sub") => `(tactic| first | assumption | exact Sub.refl _ | ((refine Sub.trans (by assumption) ?_); walk_at "sub"))
local macro_rules | `(tactic| walk_at "tup") => `(tactic| first | assumption | exact tup_up (by assumption) (by walk_at "sub") | exact tup_up (by assumption) (endSub (by assumption) (by walk_at "sub")))
local macro_rules | `(tactic| walk_at "nm") => `(tactic| first
  | ((with_reducible refine' r_local ?kF ?kv ?kL ?kk ?kl ?kd ?_); (case kF => assumption); (case kL => rfl); (case kk => rfl); (case kl => rfl); (case kd => decide); (case kv => walk_at "kv"))
  | ((with_reducible refine' r_glob ?kF ?kG ?kx ?kg ?kk ?kl ?kd ?_); (case kF => assumption); (case kG => assumption); (case kg => rfl); (case kk => rfl); (case kl => rfl); (case kd => decide); (case kx => rfl))
  | ((with_reducible refine' r_built ?kF ?kG ?kx ?kv ?kn ?kg ?kb ?kk ?kl ?kd ?_); (case kF => assumption); (case kG => assumption); (case kv => boot_by_name); (case kx => decide); (case kn => decide); (case kg => rfl); (case kb => rfl); (case kk => rfl); (case kl => rfl); (case kd => decide)))
local macro_rules | `(tactic| walk_at "nm") => `(tactic| first
  | ((with_reducible refine' r_cell ?kN ?kk ?kl ?kd ?kc ?km ?ke ?_); (case kN => assumption); (case kk => rfl); (case kl => rfl); (case kd => decide); (case kc => rfl); (case km => walk_at "mem"); (case ke => assumption))
  | ((with_reducible refine' r_cellB ?kF ?kk ?kl ?kd ?kc ?ke ?_); (case kF => assumption); (case kk => rfl); (case kl => rfl); (case kd => decide); (case kc => rfl); (case ke => first | assumption | exact CellAt.up (by assumption) (by walk_at "sub"))))
local macro_rules | `(tactic| walk_at "ex") => `(tactic| first
  | ((with_reducible refine' r_asgcomp ?hw ?hc ?hk ?hn ?hs ?_); (case hw => with_unfolding_all rfl); (case hc => rfl); (case hk => rfl); (case hn => rfl); (case hs => intro _; rfl))
  | ((with_reducible refine' r_assign ?hs ?_); (case hs => with_unfolding_all rfl))
  | ((with_reducible refine' r_asgattr ?hs ?_); (case hs => with_unfolding_all rfl))
  | with_reducible refine r_if ?_
  | with_reducible refine r_ret ?_
  | ((with_reducible refine' r_for ?hs ?_); (case hs => intro _; rfl))
  | with_reducible refine r_aug ?_
  | ((with_reducible refine' r_exprN ?hi ?hs ?_); (case hi => rfl); (case hs => with_unfolding_all rfl))
  | ((with_reducible refine' Assign_Tuple ?_ ?hs ?hw); (case hs => with_unfolding_all rfl); (case hw => with_unfolding_all rfl)))
local macro_rules | `(tactic| walk_at "ev") => `(tactic| first
  | walk_at "nm"
  | with_reducible refine r_int ?_
  | with_reducible refine r_str ?_
  | with_reducible refine r_bin ?_
  | ((with_reducible refine' r_cmp ?hs ?_); (case hs => with_unfolding_all rfl))
  | with_reducible refine r_sub ?_
  | ((with_reducible refine' r_meth ?he ?_); (case he => rfl))
  | ((with_reducible refine' r_call ?hs ?_); (case hs => rfl))
  | with_reducible refine r_slice ?_
  | with_reducible refine r_tuple ?_
  | with_reducible refine r_list ?_
  | ((with_reducible refine' r_listcomp ?hc ?hk ?hn ?hs ?_); (case hc => rfl); (case hk => rfl); (case hn => rfl); (case hs => intro _; rfl))
  | with_reducible refine IfExp_ ?_
  | with_reducible refine r_none ?_
  | with_reducible refine r_bool ?_
  | with_reducible refine r_un ?_
  | with_reducible refine BoolOp_and ?_
  | with_reducible refine BoolOp_or ?_
  | with_reducible refine BoolOp_one ?_)
local macro_rules | `(tactic| walk_at "tr") => `(tactic| first
  | ((with_reducible refine' r_cmpT ?hs ?_); (case hs => with_unfolding_all rfl))
  | with_reducible refine isTrue_and_nil ?_
  | with_reducible refine isTrue_or_nil ?_
  | with_reducible refine isTrue_and ?_
  | with_reducible refine isTrue_or ?_
  | with_reducible refine isTrue_not ?_
  | ((with_reducible refine' isTrue_plain ?_ ?hs); (case hs => rfl)))
local macro_rules | `(tactic| walk_at "it") => `(tactic| first
  | with_reducible refine ite_T ?_
  | with_reducible refine ite_F ?_
  | ((with_reducible refine' ite_yes ?hc ?_); (case hc => first | omega | decide))
  | ((with_reducible refine' ite_nay ?hc ?_); (case hc => first | omega | decide))
  | ((with_reducible refine' ite_beqY ?hc ?_); (case hc => omega))
  | ((with_reducible refine' ite_beqN ?hc ?_); (case hc => omega))
  | ((with_reducible refine' ite_bneY ?hc ?_); (case hc => omega))
  | ((with_reducible refine' ite_bneN ?hc ?_); (case hc => omega))
  | ((with_reducible refine' ite_isT ?hc ?_); (case hc => first | rfl | decide | assumption))
  | ((with_reducible refine' ite_isF ?hc ?_); (case hc => first | rfl | decide | assumption)))
local macro_rules | `(tactic| walk_at "mulok") => `(tactic| first | exact .of_right (by first | decide | omega) | exact .of_left (by first | decide | omega))
local macro_rules | `(tactic| walk_at "bin") => `(tactic| first
  | with_reducible refine r_add ?_
  | with_reducible refine r_subi ?_
  | with_reducible refine r_fdiv1 ?_
  | ((with_reducible refine' r_mul ?hs ?_); (case hs => walk_at "mulok"))
  | ((with_reducible refine' r_fdiv ?h1 ?h2 ?_); (case h1 => decide); (case h2 => decide))
  | ((with_reducible refine' r_mod ?h1 ?_); (case h1 => decide)))
local macro_rules | `(tactic| walk_at "cmp") => `(tactic| first
  | with_reducible refine r_lt ?_
  | with_reducible refine r_gt ?_
  | with_reducible refine r_le ?_
  | with_reducible refine r_ge ?_
  | with_reducible refine r_eq ?_
  | with_reducible refine r_ne ?_
  | with_reducible refine r_isnone ?_
  | with_reducible refine r_notnone ?_)
local macro_rules | `(tactic| walk_at "mem") => `(tactic| (repeat (first | exact List.Mem.head _ | refine List.Mem.tail _ ?_)))
local macro_rules | `(tactic| walk_at "ls") => `(tactic| first | assumption | exact Ls.of_news (by assumption) (by walk_at "mem") | exact Ls.up (by assumption) (endSub (by assumption) (by walk_at "sub")))
local macro_rules | `(tactic| walk_at "idx") => `(tactic| first | exact getAt0 | exact getAt1 | exact getAt2 | exact getAt3 | exact getAt4 | exact getAt5 | exact getAt6 | exact getAt7 | exact getAt8)
local macro_rules | `(tactic| walk_at "lsb") => `(tactic| first | assumption | exact Ls.up (by assumption) (by walk_at "sub"))
local macro_rules | `(tactic| walk_at "iter") => `(tactic| first
  | ((with_reducible refine' r_iterL ?kF ?kN ?kl ?_); (case kF => assumption); (case kN => assumption); (case kl => walk_at "lsb"); intro I oI h' X' F' N')
  | ((with_reducible refine' r_iterR ?kF ?kN ?kl ?kn ?_); (case kF => assumption); (case kN => assumption); (case kl => assumption); (case kn => walk_at "sz"); intro I oI h' X' F' N'))
local macro_rules | `(tactic| walk_at "cmp") => `(tactic| first
  | with_reducible refine r_eqS ?_
  | with_reducible refine r_neS ?_)
local macro_rules | `(tactic| walk_at "bin") => `(tactic| first
  | ((with_reducible refine' r_pow ?h1 ?h2 ?h3 ?_); (case h1 => first | decide | omega); (case h2 => first | decide | omega); (case h3 => decide))
  | ((with_reducible refine' r_addS ?hz ?_); (case hz => walk_at "sz"); intro t' tk'))
local macro_rules | `(tactic| walk_at "sz") => `(tactic| first | decide | assumption | omega | exact Nat.le_of_ble_eq_true rfl | (simp; done) | (simp; omega))
local macro_rules | `(tactic| walk_at "gm") => `(tactic| first
  | with_reducible refine GM.rjust ?_
  | with_reducible refine GM.join ?_
  | ((with_reducible refine' r_mL PySem.F.slot_list_append PySem.F.type_list_append ?x ?_); (case x => walk_at "ls"))
  | ((with_reducible refine' r_mL PySem.F.slot_list_extend PySem.F.type_list_extend ?x ?_); (case x => walk_at "ls"))
  | ((with_reducible refine' r_mL PySem.F.slot_list_reverse PySem.F.type_list_reverse ?x ?_); (case x => walk_at "ls")))
local macro_rules | `(tactic| walk_at "tail") => `(tactic| first
  | ((with_reducible refine' r_itemS ?h1 ?h2 ?hz ?hs ?ht ?_); (case h1 => first | decide | omega); (case h2 => first | decide | omega); (case hz => walk_at "sz"); (case hs => with_unfolding_all rfl); (case ht => intro _; with_unfolding_all rfl))
  | ((with_reducible refine' r_cutS ?F ?N ?hz ?hs ?ht ?_); (case F => assumption); (case N => assumption); (case hz => walk_at "sz"); (case hs => with_unfolding_all rfl); (case ht => intro _; with_unfolding_all rfl); intro h' t' tk' F' N')
  | ((with_reducible refine' r_tupI ?F ?t ?hj ?hx ?hs ?_); (case F => assumption); (case t => walk_at "tup"); (case hj => decide); (case hx => rfl); (case hs => with_unfolding_all rfl)))
local macro_rules | `(tactic| walk_at "call") => `(tactic| first
  | ((with_reducible refine' r_strI ?ha ?_); (case ha => omega))
  | ((with_reducible refine' r_lenS ?ha ?_); (case ha => walk_at "sz"))
  | ((with_reducible refine' r_max ?R ?F ?N ?_); (case R => exact Room.le (by assumption) (Nat.zero_le _)); (case F => assumption); (case N => assumption); intro h' tk' t' F' N')
  | ((refine' r_rjust ?h1 ?h2 ?_); (case h1 => first | decide | omega); (case h2 => first | decide | omega); intro t' tk')
  | ((refine' r_rjust1 ?h1 ?h2 ?h3 ?h4 ?_); (case h1 => first | decide | omega); (case h2 => first | decide | omega); (case h3 => decide); (case h4 => omega); intro t' tk')
  | ((refine' r_append (i := 0) ?F ?N ?i ?z ?_); (case F => assumption); (case N => assumption); (case i => rfl); (case z => walk_at "sz"); intro h' n' F' N'; (try dsimp only [List.set, List.nil_append, List.cons_append] at N'))
  | ((refine' r_append (i := 1) ?F ?N ?i ?z ?_); (case F => assumption); (case N => assumption); (case i => rfl); (case z => walk_at "sz"); intro h' n' F' N'; (try dsimp only [List.set, List.nil_append, List.cons_append] at N'))
  | ((refine' r_append (i := 2) ?F ?N ?i ?z ?_); (case F => assumption); (case N => assumption); (case i => rfl); (case z => walk_at "sz"); intro h' n' F' N'; (try dsimp only [List.set, List.nil_append, List.cons_append] at N'))
  | ((refine' r_append (i := 3) ?F ?N ?i ?z ?_); (case F => assumption); (case N => assumption); (case i => rfl); (case z => walk_at "sz"); intro h' n' F' N'; (try dsimp only [List.set, List.nil_append, List.cons_append] at N'))
  | ((refine' r_reverse (i := 0) ?F ?N ?i ?z ?_); (case F => assumption); (case N => assumption); (case i => rfl); (case z => walk_at "sz"); intro h' F' N'; (try dsimp only [List.set, List.reverse_cons, List.reverse_nil, List.nil_append, List.cons_append] at N'))
  | ((refine' r_join1 ?x ?y ?z ?_); (case x => walk_at "ls"); (case y => walk_at "sz"); (case z => decide); intro t' tk')
  | ((with_reducible refine r_abs ?_); intro u tk))
local macro_rules | `(tactic| walk_at "seta") => `(tactic| first
  | ((with_reducible refine' set_own ?G ?F ?N ?h1 ?h2 ?fx ?hs ?hp ?ht ?hh ?hl ?e ?hz ?_); (case G => assumption); (case F => assumption); (case N => assumption); (case h1 => exact Sub.fix (Fm.keep (by assumption)) (by assumption) fixed_inst); (case h2 => walk_at "idx"); (case fx => exact fixed_size rfl (Nat.ne_of_beq_eq_false rfl)); (case hs => rfl); (case hp => rfl); (case ht => rfl); (case hh => rfl); (case hl => rfl); (case e => exact rfl); (case hz => exact Nat.le_of_ble_eq_true rfl); intro h' F' N'; (try dsimp only [List.set] at N')))
local macro_rules | `(tactic| walk_at "go1") => `(tactic| first
  | ((with_reducible refine g_eval ?_); walk_at "ev")
  | ((with_reducible refine g_execs ?_); first | with_reducible refine r_cons ?_ | with_reducible refine r_nil ?_)
  | ((with_reducible refine g_exec ?_); walk_at "ex")
  | ((with_reducible refine g_true ?_); walk_at "tr")
  | ((with_reducible refine g_splice ?_); first | ((with_reducible refine' r_spl ?he ?_); (case he => rfl)) | with_reducible refine r_spn ?_)
  | ((with_reducible refine g_sto ?_); (with_reducible refine' r_store ?kF ?kN ?kL ?kk ?kl ?kx ?_); (case kF => assumption); (case kN => assumption); (case kL => rfl); (case kk => rfl); (case kl => rfl); (case kx => decide); intro h' F' N'; (try dsimp only))
  | ((with_reducible refine g_sto ?_); (with_reducible refine' r_cellst ?kF ?kN ?kk ?kl ?kc ?km ?ke ?_); (case kF => assumption); (case kN => assumption); (case kk => rfl); (case kl => rfl); (case kc => rfl); (case km => walk_at "idx"); (case ke => assumption); intro h' oc' hc' F' N'; (try dsimp only [List.set] at N'))
  | ((with_reducible refine g_post ?_); first
    | ((with_reducible refine' post_none ?kF ?kN ?kn ?_); (case kF => assumption); (case kN => assumption); (case kn => assumption); intro h' F' N')
    | ((with_reducible refine' post_some ?kF ?kN ?kn ?kf ?kL ?kk ?kl ?kx ?_); (case kF => assumption); (case kN => assumption); (case kn => assumption); (case kf => assumption); (case kL => rfl); (case kk => rfl); (case kl => rfl); (case kx => decide); intro h' F' N'))
  | ((with_reducible refine g_seta ?_); walk_at "seta")
  | ((with_reducible refine g_iter ?_); walk_at "iter")
  | ((with_reducible refine g_loa ?_); (with_reducible refine' r_loadl ?kF ?kv ?kL ?kk ?kl ?_); (case kF => assumption); (case kL => rfl); (case kk => rfl); (case kl => rfl); (case kv => walk_at "kv"))
  | ((with_reducible refine g_bin ?_); walk_at "bin")
  | ((with_reducible refine g_cmp ?_); walk_at "cmp")
  | ((with_reducible refine g_ite ?_); walk_at "it")
  | ((with_reducible refine g_tru ?_); with_reducible refine r_trB ?_)
  | ((with_reducible refine g_tail ?_); walk_at "tail")
  | ((with_reducible refine g_kp ?_); (with_reducible refine' r_keep ?kF ?_); (case kF => assumption))
  | ((with_reducible refine g_cw ?_); first
    | ((with_reducible refine' r_cwDef ?kG ?kf ?ke ?_); (case kG => assumption); (case kf => rfl); (case ke => rfl))
    | ((with_reducible refine' r_cwB ?h1 ?h2 ?_); (case h1 => rfl); (case h2 => rfl))
    | ((with_reducible refine' r_cwT ?h1 ?h2 ?_); (case h1 => rfl); (case h2 => rfl))
    | with_reducible refine r_cm0 ?_
    | ((with_reducible refine' r_cm1 ?h1 ?h2 ?_); (case h1 => rfl); (case h2 => rfl)))
  | ((with_reducible refine g_call ?_); walk_at "call")
  | ((with_reducible refine g_gm ?_); walk_at "gm")
  | ((with_reducible refine g_asg ?_); first | with_reducible refine r_asg3 ?_)
  | ((with_reducible refine g_upk ?_); (with_reducible refine' r_unpack ?R ?F ?N ?t ?n ?_); (case R => exact Room.le (by assumption) (Nat.zero_le _)); (case F => assumption); (case N => assumption); (case t => walk_at "tup"); (case n => rfl); intro h' F' N')
  | ((with_reducible refine g_prt ?_); first | with_reducible refine r_part0 ?_ | with_reducible refine r_part1 ?_)
  | with_reducible refine g_nn ?_
  | with_reducible refine g_3 ?_
  | ((with_reducible refine g_newT ?_); (with_reducible refine' r_newT ?kF ?kN ?kz ?_); (case kF => assumption); (case kN => assumption); (case kz => size_fits); intro a h' F' N')
  | ((with_reducible refine g_newL ?_); (with_reducible refine' r_newL ?kF ?kN ?kz ?_); (case kF => assumption); (case kN => assumption); (case kz => size_fits); intro a h' F' N')
  | ((with_reducible refine g_un ?_); first | with_reducible refine r_neg ?_ | with_reducible refine r_not ?_)
  | ((with_reducible refine g_inp ?_); first | with_reducible refine r_iadd ?_ | with_reducible refine r_isub ?_)
  | dsimp only)
section
open PySem PySem.W PyProof.Rows PySem.Calls
set_option maxRecDepth 100000
set_option maxHeartbeats 1000000
/-- a tuple of a whole number and 1 -/
def Num (h : Heap) (v : Value) (n : Int) : Prop := ∃ a t u, v = .ref a ∧ IsTup h a [.int n t, .int 1 u].toArray
theorem Num.up {h h' : Heap} {v : Value} {n : Int} (x : Num h v n) (k : Sub h h') : Num h' v n :=
  let ⟨a, t, u, e, y⟩ := x; ⟨a, t, u, e, tup_up y k⟩
theorem tup_of {g : Heap} {a : Addr} {vs : Array Value} (e : g.get? a = some { cls := .type "tuple", data := .seq vs }) : IsTup g a vs := ⟨_, e, rfl, _, rfl⟩
/-- what an item is: not nought, six figures at most, the last of them not nought -/
def Itm (n : Int) : Prop := -1000000 < n ∧ n < 1000000 ∧ n % 10 ≠ 0
theorem s_nearest (w : World) (B : Heap) (t1 t2 : Tok) (n : Int) : Spec w B 1 (.ref 80) [.int n t1, .int 1 t2] (fun _ => True) (fun _ v => ∃ t, v = .int n t) := by
  intro A s Q E R G hB _ ret
  refine enter0 12 (binds := [("n", .int n t1), ("d", .int 1 t2)]) R G hB ⟨_, by simp only [tblS]; repeat (first | exact List.Mem.head _ | refine List.Mem.tail _ ?_)⟩ (fun _ _ => rfl) rfl rfl rfl fun cd L h₁ F N R' => ?_
  generalize hb : fdBody (stAt 12) = bd
  conv at hb => lhs; whnf
  subst hb
  generalize hsc : fdScope (stAt 12) = sc at F R' N ⊢
  conv at hsc => lhs; whnf
  subst hsc
  generalize hnm : fdName (stAt 12) = nm at F R' N ⊢
  repeat (walk_at "go1")
  (refine ret _ _ _ (endSub (by assumption) (by walk_at "sub")) (Fm.keepB (by assumption)) (fun g hg => ?_); exact ⟨_, rfl⟩)
theorem s_from_int (w : World) (B : Heap) (n : Int) (t : Tok) : Spec w B 1 (.ref 45) [.int n t] (fun _ => True) (fun h v => Num h v n) := by
  intro A s Q E R G hB _ ret
  refine enter0 7 (binds := [("n", .int n t)]) R G hB ⟨_, by simp only [tblS]; repeat (first | exact List.Mem.head _ | refine List.Mem.tail _ ?_)⟩ (fun _ _ => rfl) rfl rfl rfl fun cd L h₁ F N R' => ?_
  generalize hb : fdBody (stAt 7) = bd
  conv at hb => lhs; whnf
  subst hb
  generalize hsc : fdScope (stAt 7) = sc at F R' N ⊢
  conv at hsc => lhs; whnf
  subst hsc
  generalize hnm : fdName (stAt 7) = nm at F R' N ⊢
  repeat (walk_at "go1")
  (refine ret _ _ _ (endSub (by assumption) (by walk_at "sub")) (Fm.keepB (by assumption)) (fun g hg => ?_); exact ⟨_, _, _, rfl, tup_of (news_off hg (by assumption) (by walk_at "sub") (.head _) (fixed_seq rfl))⟩)
theorem s_from_none (w : World) (B : Heap) : Spec w B 1 (.ref 45) [.none] (fun _ => True) (fun _ v => v = .none) := by
  intro A s Q E R G hB _ ret
  refine enter0 7 (binds := [("n", .none)]) R G hB ⟨_, by simp only [tblS]; repeat (first | exact List.Mem.head _ | refine List.Mem.tail _ ?_)⟩ (fun _ _ => rfl) rfl rfl rfl fun cd L h₁ F N R' => ?_
  generalize hb : fdBody (stAt 7) = bd
  conv at hb => lhs; whnf
  subst hb
  generalize hsc : fdScope (stAt 7) = sc at F R' N ⊢
  conv at hsc => lhs; whnf
  subst hsc
  generalize hnm : fdName (stAt 7) = nm at F R' N ⊢
  repeat (walk_at "go1")
  (refine ret _ _ _ (endSub (by assumption) (by walk_at "sub")) (Fm.keepB (by assumption)) (fun g hg => ?_); exact rfl)
theorem pow_le_small {e : Nat} {n : Nat} (h : 10 ^ e ≤ n) (hn : n < 1000000) : e ≤ 5 := by
  rcases Nat.lt_or_ge 5 e with q | q
  · have : 10 ^ 6 ≤ 10 ^ e := Nat.pow_le_pow_right (by decide) q
    omega
  · exact q
theorem s_exponent (w : World) (B : Heap) (v : Value) (n : Int) (hn : Itm n) : Spec w B 1 (.ref 87) [v] (fun h => Num h v n) (fun _ r => ∃ (e : Nat) (t : Tok), r = .int e t ∧ e ≤ 5 ∧ 10 ^ e ≤ n.natAbs ∧ n.natAbs < 10 ^ (e + 1)) := by
  obtain ⟨hn1, hn2, hn3⟩ := hn
  have hN : n.natAbs < 1000000 := by omega
  have hN0 : 1 ≤ n.natAbs := by omega
  rintro A s Q E R G hB ⟨a, t, u, rfl, hx⟩ ret
  refine enter0 13 (binds := [("x", .ref a)]) R G hB ⟨_, by simp only [tblS]; repeat (first | exact List.Mem.head _ | refine List.Mem.tail _ ?_)⟩ (fun _ _ => rfl) rfl rfl rfl fun cd L h₁ F N R' => ?_
  generalize hb : fdBody (stAt 13) = bd
  conv at hb => lhs; whnf
  subst hb
  generalize hsc : fdScope (stAt 13) = sc at F R' N ⊢
  conv at hsc => lhs; whnf
  subst hsc
  generalize hnm : fdName (stAt 13) = nm at F R' N ⊢
  repeat (walk_at "go1")
  rename_i un _ _ _ _ _ _ _ _ _ _
  refine r_while (fun k s' => ∃ h' tk' m', ∃ e : Nat, s' = ⟨h', s.gens, s.drawn, tk', s.os⟩ ∧ Fm B s.heap L h' m' ∧ Nw s.heap L h' [] ∧ m' "n" = some (.int n.natAbs un) ∧ (∃ t1, m' "d" = some (.int ((10 ^ e : Nat) : Int) t1)) ∧ (∃ t2, m' "e" = some (.int e t2)) ∧ 10 ^ e ≤ n.natAbs ∧ k + e = 5) 5
    ⟨_, _, _, 0, rfl, by assumption, by assumption, rfl, ⟨_, rfl⟩, ⟨_, rfl⟩, by simpa using hN0, rfl⟩ ?_
  rintro k s' E' ⟨h', tk', m', e, rfl, F2, N2, m1, ⟨t1, m2⟩, ⟨t2, m3⟩, he, hk⟩
  have hp : (10 : Nat) ^ (e + 1) = 10 ^ e * 10 := Nat.pow_succ ..
  repeat (walk_at "go1")
  refine split_dec ?_ ?_ <;> intro hc
  · have h5 := pow_le_small (e := e + 1) (n := n.natAbs) (by omega) hN
    repeat (walk_at "go1")
    rename_i hL FL NL
    exact ⟨rfl, k - 1, by omega, _, _, _, e + 1, rfl, FL, NL, m1, ⟨_, by rw [hp]; rfl⟩, ⟨_, rfl⟩, by omega, by omega⟩
  · repeat (walk_at "go1")
    refine r_while0 fun E'' => ?_
    repeat (walk_at "go1")
    (refine ret _ _ _ (endSub (by assumption) (by walk_at "sub")) (Fm.keepB (by assumption)) (fun g hg => ?_); exact ⟨e, _, rfl, by omega, he, by omega⟩)
end -- B1
section
open PySem PySem.W PyProof.Rows PySem.Calls
set_option maxRecDepth 100000
set_option maxHeartbeats 1000000
theorem Itm.bits {n : Int} (h : Itm n) : PySem.Builtin.Int.intBits (n.natAbs : Int) ≤ 64 := by
  obtain ⟨a, b, c⟩ := h
  unfold PySem.Builtin.Int.intBits
  split
  · decide
  · have : (n.natAbs : Int).natAbs.log2 < 63 := (Nat.log2_lt (by omega)).mpr (by omega)
    omega
local macro_rules | `(tactic| walk_at "mulok") => `(tactic| exact .of_left (by assumption))
theorem pow_cast (n e : Nat) (he : e ≤ 5) : (n : Int) * 10 ^ ((15 : Int) - 1 - e).toNat = ((n * 10 ^ (14 - e) : Nat) : Int) := by
  rw [show ((15 : Int) - 1 - e).toNat = 14 - e by omega, Int.natCast_mul, Int.natCast_pow]; rfl
theorem s_scaled (w : World) (B : Heap) (v : Value) (n : Int) (e : Nat) (t1 t2 : Tok) (hn : Itm n) (he : e ≤ 5) : Spec w B 2 (.ref 108) [v, .int e t1, .int 15 t2] (fun h => Num h v n) (fun _ r => ∃ t, r = .int ((n.natAbs * 10 ^ (14 - e) : Nat) : Int) t) := by
  have hb := Itm.bits hn
  rintro A s Q E R G hB ⟨a, t, u, rfl, hx⟩ ret
  refine enter0 18 (binds := [("x", .ref a), ("e", .int e t1), ("digits", .int 15 t2)]) R G hB ⟨_, by simp only [tblS]; repeat (first | exact List.Mem.head _ | refine List.Mem.tail _ ?_)⟩ (fun _ _ => rfl) rfl rfl rfl fun cd L h₁ F N R' => ?_
  generalize hb : fdBody (stAt 18) = bd
  conv at hb => lhs; whnf
  subst hb
  generalize hsc : fdScope (stAt 18) = sc at F R' N ⊢
  conv at hsc => lhs; whnf
  subst hsc
  generalize hnm : fdName (stAt 18) = nm at F R' N ⊢
  repeat (first | ((with_reducible refine g_call ?_); first | ((refine r_spec (s_nearest _ _ _ _ _) (Room.le (by assumption) (by decide)) (by assumption) (by assumption) (by assumption) (by trivial) ?_); intro v h' hb' tk' F' N' K' P'; obtain ⟨t, rfl⟩ := P' _ Off.refl)) | (walk_at "go1"))
  (refine ret _ _ _ (endSub (by assumption) (by walk_at "sub")) (Fm.keepB (by assumption)) (fun g hg => ?_); exact ⟨_, by rw [← pow_cast _ _ he]⟩)
/-- the figures: 15 of them, the last after place e noughts, that at e not -/
theorem small15 {N e : Nat} (h : N < 10 ^ (e + 1)) (he : e ≤ 5) : N * 10 ^ (14 - e) < 10 ^ 15 := by
  have : 10 ^ (e + 1) * 10 ^ (14 - e) = 10 ^ 15 := by rw [← Nat.pow_add]; congr 1; omega
  rw [← this]
  exact Nat.mul_lt_mul_of_pos_right h (Nat.pow_pos (by decide))
theorem small15I {N e : Nat} (h : N < 10 ^ (e + 1)) (he : e ≤ 5) : ((N * 10 ^ (14 - e) : Nat) : Int) < 10 ^ Int.toNat 15 ∧ ((N * 10 ^ (14 - e) : Nat) : Int).natAbs < 4611686018427387904 := by
  have := small15 h he
  have q : (10 : Int) ^ Int.toNat 15 = 1000000000000000 := by decide
  rw [q, Int.natAbs_natCast]
  have q2 : 10 ^ 15 = 1000000000000000 := by decide
  rw [q2] at this
  exact ⟨by omega, by omega⟩
/-- what significant gives -/
def Sig (h : Heap) (v : Value) (n : Int) (e : Nat) : Prop := ∃ a t1 t2 t3, v = .ref a ∧ IsTup h a [.int (if n > 0 then 1 else -1) t1, .str (toString ((n.natAbs * 10 ^ (14 - e) : Nat) : Int)) t2, .int e t3].toArray
theorem s_significant (w : World) (B : Heap) (v : Value) (n : Int) (td : Tok) (hn : Itm n) : Spec w B 3 (.ref 115) [v, .int 15 td] (fun h => Num h v n) (fun h r => ∃ e, Sig h r n e ∧ e ≤ 5 ∧ 10 ^ e ≤ n.natAbs ∧ n.natAbs < 10 ^ (e + 1)) := by
  have hn' := hn
  obtain ⟨hn1, hn2, hn3⟩ := hn
  rintro A s Q E R G hB ⟨a, t, u, rfl, hx⟩ ret
  refine enter0 19 (binds := [("x", .ref a), ("digits", .int 15 td)]) R G hB ⟨_, by simp only [tblS]; repeat (first | exact List.Mem.head _ | refine List.Mem.tail _ ?_)⟩ (fun _ _ => rfl) rfl rfl rfl fun cd L h₁ F N R' => ?_
  generalize hb : fdBody (stAt 19) = bd
  conv at hb => lhs; whnf
  subst hb
  generalize hsc : fdScope (stAt 19) = sc at F R' N ⊢
  conv at hsc => lhs; whnf
  subst hsc
  generalize hnm : fdName (stAt 19) = nm at F R' N ⊢
  repeat (first | ((with_reducible refine g_call ?_); first | ((refine r_spec (s_scaled _ _ _ _ _ _ _ (by assumption) (by assumption)) (Room.le (by assumption) (by decide)) (by assumption) (by assumption) (by assumption) (by exact ⟨_, _, _, rfl, by walk_at "tup"⟩) ?_); intro v h' hb' tk' F' N' K' P'; obtain ⟨tn, rfl⟩ := P' _ Off.refl) | ((refine r_spec (s_exponent _ _ _ _ (by assumption)) (Room.le (by assumption) (by decide)) (by assumption) (by assumption) (by assumption) (by exact ⟨_, _, _, rfl, by walk_at "tup"⟩) ?_); intro v h' hb' tk' F' N' K' P'; (obtain ⟨e, te, rfl, e2, e3, e4⟩ := P' _ Off.refl); (obtain ⟨e5, e6⟩ := small15I e4 e2)) | ((refine r_spec (s_nearest _ _ _ _ _) (Room.le (by assumption) (by decide)) (by assumption) (by assumption) (by assumption) (by trivial) ?_); intro v h' hb' tk' F' N' K' P'; obtain ⟨t, rfl⟩ := P' _ Off.refl)) | (walk_at "go1"))
  refine split_dec ?_ ?_ <;> intro hc <;> repeat (first | ((with_reducible refine g_call ?_); first | ((refine r_spec (s_scaled _ _ _ _ _ _ _ (by assumption) (by assumption)) (Room.le (by assumption) (by decide)) (by assumption) (by assumption) (by assumption) (by exact ⟨_, _, _, rfl, by walk_at "tup"⟩) ?_); intro v h' hb' tk' F' N' K' P'; obtain ⟨tn, rfl⟩ := P' _ Off.refl) | ((refine r_spec (s_exponent _ _ _ _ (by assumption)) (Room.le (by assumption) (by decide)) (by assumption) (by assumption) (by assumption) (by exact ⟨_, _, _, rfl, by walk_at "tup"⟩) ?_); intro v h' hb' tk' F' N' K' P'; (obtain ⟨e, te, rfl, e2, e3, e4⟩ := P' _ Off.refl); (obtain ⟨e5, e6⟩ := small15I e4 e2)) | ((refine r_spec (s_nearest _ _ _ _ _) (Room.le (by assumption) (by decide)) (by assumption) (by assumption) (by assumption) (by trivial) ?_); intro v h' hb' tk' F' N' K' P'; obtain ⟨t, rfl⟩ := P' _ Off.refl)) | (walk_at "go1"))
  · (refine ret _ _ _ (endSub (by assumption) (by walk_at "sub")) (Fm.keepB (by assumption)) (fun g hg => ?_); exact ⟨e, ⟨_, _, _, _, rfl, by rw [if_pos hc]; exact tup_of (news_off hg (by assumption) (by walk_at "sub") (.head _) (fixed_seq rfl))⟩, e2, e3, e4⟩)
  · (refine ret _ _ _ (endSub (by assumption) (by walk_at "sub")) (Fm.keepB (by assumption)) (fun g hg => ?_); exact ⟨e, ⟨_, _, _, _, rfl, by rw [if_neg hc]; exact tup_of (news_off hg (by assumption) (by walk_at "sub") (.head _) (fixed_seq rfl))⟩, e2, e3, e4⟩)
end -- B2
section
open PySem PySem.W PyProof.Rows PySem.Calls
set_option maxRecDepth 100000
set_option maxHeartbeats 1000000
theorem s_without_tail (w : World) (B : Heap) (x : Str) (t : Tok) (e : Nat) (he : e ≤ 5) (hf : Fig x e) : Spec w B 1 (.ref 122) [.str x t] (fun _ => True) (fun _ r => ∃ y u, r = .str y u ∧ y.length = e + 1) := by
  obtain ⟨hl, hz, hn⟩ := hf
  have hl2 : x.length ≤ 1000000 := by omega
  intro A s Q E R G hB _ ret
  refine enter0 20 (binds := [("text", .str x t)]) R G hB ⟨_, by simp only [tblS]; repeat (first | exact List.Mem.head _ | refine List.Mem.tail _ ?_)⟩ (fun _ _ => rfl) rfl rfl rfl fun cd L h₁ F N R' => ?_
  generalize hb : fdBody (stAt 20) = bd
  conv at hb => lhs; whnf
  subst hb
  generalize hsc : fdScope (stAt 20) = sc at F R' N ⊢
  conv at hsc => lhs; whnf
  subst hsc
  generalize hnm : fdName (stAt 20) = nm at F R' N ⊢
  repeat (walk_at "go1")
  refine r_while (fun k s' => ∃ h' tk' m', s' = ⟨h', s.gens, s.drawn, tk', s.os⟩ ∧ Fm B s.heap L h' m' ∧ Nw s.heap L h' [] ∧ m' "text" = some (.str x t) ∧ (∃ t1, m' "end" = some (.int ((k + e + 1 : Nat) : Int) t1)) ∧ k + e < 15) (14 - e)
    ⟨_, _, _, rfl, by assumption, by assumption, rfl, ⟨_, by rw [if_pos rfl, hl, show 14 - e + e + 1 = 15 by omega]⟩, by omega⟩ ?_
  rintro k s' E' ⟨h', tk', m', rfl, F2, N2, m1, ⟨t1, m2⟩, hk⟩
  repeat (walk_at "go1")
  rcases Nat.eq_zero_or_pos k with rfl | hk0
  · have fin : ∀ (Q' : Flow → Shared → Prop), Q' .next = Q' .next := fun _ => rfl
    rcases Nat.eq_zero_or_pos e with rfl | he0
    · repeat (walk_at "go1")
      (refine ret _ _ _ (endSub (by assumption) (by walk_at "sub")) (Fm.keepB (by assumption)) (fun g hg => ?_); exact ⟨_, _, rfl, slice_to_len x 1 (by omega)⟩)
    · refine ite_yes (by omega) ?_
      repeat (walk_at "go1")
      have q : (Txt.item x (((0 + e + 1 : Nat) : Int) - 1) == "0") = false := by
        rw [show ((0 + e + 1 : Nat) : Int) - 1 = (e : Int) by omega]; simpa using hn
      refine ite_isF q ?_
      repeat (walk_at "go1")
      (refine ret _ _ _ (endSub (by assumption) (by walk_at "sub")) (Fm.keepB (by assumption)) (fun g hg => ?_); exact ⟨_, _, rfl, by rw [slice_to_len x _ (by omega)]; omega⟩)
  · refine ite_yes (by omega) ?_
    repeat (walk_at "go1")
    have q : (Txt.item x (((k + e + 1 : Nat) : Int) - 1) == "0") = true := by
      rw [show ((k + e + 1 : Nat) : Int) - 1 = ((k + e : Nat) : Int) by omega]; simpa using hz (k + e) (by omega) (by omega)
    refine ite_isT q ?_
    repeat (walk_at "go1")
    rename_i hL FL NL
    exact ⟨rfl, k - 1, by omega, _, _, _, rfl, FL, NL, m1, ⟨_, by rw [if_pos rfl, show (((k - 1 + e + 1 : Nat) : Int)) = ((k + e + 1 : Nat) : Int) - 1 by omega]⟩, by omega⟩
/-- what measures gives -/
def Meas (h : Heap) (v : Value) (n : Int) (e : Nat) : Prop := ∃ a t1 t2 t3 t4, v = .ref a ∧ IsTup h a [.int ((e + 1 : Nat) : Int) t1, .int (if n < 0 then e + 2 else e + 1) t2, .int 0 t3, .int e t4].toArray
theorem meas_of {g : Heap} {a : Addr} {n p1 p2 p3 : Int} {e : Nat} {t1 t2 t3 t4 : Tok} (x : IsTup g a [.int p1 t1, .int p2 t2, .int p3 t3, .int e t4].toArray) (h1 : p1 = ((e + 1 : Nat) : Int)) (h2 : p2 = if n < 0 then (e : Int) + 2 else e + 1) (h3 : p3 = 0) : Meas g (.ref a) n e := by
  subst h1 h2 h3; exact ⟨_, _, _, _, _, rfl, x⟩
theorem s_measures (w : World) (B : Heap) (v : Value) (n : Int) (td : Tok) (hn : Itm n) : Spec w B 4 (.ref 143) [v, .int 15 td] (fun h => Num h v n) (fun h r => ∃ e, Meas h r n e ∧ e ≤ 5) := by
  have hn' := hn
  obtain ⟨hn1, hn2, hn3⟩ := hn
  have hn3 : n.natAbs % 10 ≠ 0 := by omega
  rintro A s Q E R G hB ⟨a, t, u, rfl, hx⟩ ret
  refine enter0 23 (binds := [("x", .ref a), ("digits", .int 15 td)]) R G hB ⟨_, by simp only [tblS]; repeat (first | exact List.Mem.head _ | refine List.Mem.tail _ ?_)⟩ (fun _ _ => rfl) rfl rfl rfl fun cd L h₁ F N R' => ?_
  generalize hb : fdBody (stAt 23) = bd
  conv at hb => lhs; whnf
  subst hb
  generalize hsc : fdScope (stAt 23) = sc at F R' N ⊢
  conv at hsc => lhs; whnf
  subst hsc
  generalize hnm : fdName (stAt 23) = nm at F R' N ⊢
  repeat (first | ((with_reducible refine g_call ?_); first | ((refine r_spec (s_significant _ _ _ _ _ (by assumption)) (Room.le (by assumption) (by decide)) (by assumption) (by assumption) (by assumption) (by exact ⟨_, _, _, rfl, by walk_at "tup"⟩) ?_); intro v h' hb' tk' F' N' K' P'; obtain ⟨e, ⟨ae, t1, t2, t3, rfl, ht⟩, e2, e3, e4⟩ := P' _ Off.refl; (have hf := fig_of e2 e3 e4 hn3)) | ((refine r_spec (s_without_tail _ _ _ _ _ (by assumption) (by assumption)) (Room.le (by assumption) (by decide)) (by assumption) (by assumption) (by assumption) (by trivial) ?_); intro v h' hb' tk' F' N' K' P'; obtain ⟨y, u, rfl, hy⟩ := P' _ Off.refl)) | (walk_at "go1"))
  refine split_dec ?_ ?_ <;> intro hc <;> repeat (first | ((with_reducible refine g_call ?_); first | ((refine r_spec (s_significant _ _ _ _ _ (by assumption)) (Room.le (by assumption) (by decide)) (by assumption) (by assumption) (by assumption) (by exact ⟨_, _, _, rfl, by walk_at "tup"⟩) ?_); intro v h' hb' tk' F' N' K' P'; obtain ⟨e, ⟨ae, t1, t2, t3, rfl, ht⟩, e2, e3, e4⟩ := P' _ Off.refl; (have hf := fig_of e2 e3 e4 hn3)) | ((refine r_spec (s_without_tail _ _ _ _ _ (by assumption) (by assumption)) (Room.le (by assumption) (by decide)) (by assumption) (by assumption) (by assumption) (by trivial) ?_); intro v h' hb' tk' F' N' K' P'; obtain ⟨y, u, rfl, hy⟩ := P' _ Off.refl)) | (walk_at "go1"))
  · (refine ret _ _ _ (endSub (by assumption) (by walk_at "sub")) (Fm.keepB (by assumption)) (fun g hg => ?_); exact ⟨e, meas_of (tup_of (news_off hg (by assumption) (by walk_at "sub") (.head _) (fixed_seq rfl))) (by omega) (by rw [if_pos hc]; omega) (by omega), e2⟩)
  · (refine ret _ _ _ (endSub (by assumption) (by walk_at "sub")) (Fm.keepB (by assumption)) (fun g hg => ?_); exact ⟨e, meas_of (tup_of (news_off hg (by assumption) (by walk_at "sub") (.head _) (fixed_seq rfl))) (by omega) (by rw [if_neg hc]; omega) (by omega), e2⟩)
theorem s_special (w : World) (B : Heap) (v : Value) (n : Int) : Spec w B 1 (.ref 101) [v] (fun h => Num h v n) (fun _ r => r = .none) := by
  rintro A s Q E R G hB ⟨a, t, u, rfl, hx⟩ ret
  refine enter0 17 (binds := [("x", .ref a)]) R G hB ⟨_, by simp only [tblS]; repeat (first | exact List.Mem.head _ | refine List.Mem.tail _ ?_)⟩ (fun _ _ => rfl) rfl rfl rfl fun cd L h₁ F N R' => ?_
  generalize hb : fdBody (stAt 17) = bd
  conv at hb => lhs; whnf
  subst hb
  generalize hsc : fdScope (stAt 17) = sc at F R' N ⊢
  conv at hsc => lhs; whnf
  subst hsc
  generalize hnm : fdName (stAt 17) = nm at F R' N ⊢
  repeat (first | ((with_reducible refine g_call ?_); first | ((refine r_spec (s_significant _ _ _ _ _ (by assumption)) (Room.le (by assumption) (by decide)) (by assumption) (by assumption) (by assumption) (by exact ⟨_, _, _, rfl, by walk_at "tup"⟩) ?_); intro v h' hb' tk' F' N' K' P'; obtain ⟨e, ⟨ae, t1, t2, t3, rfl, ht⟩, e2, e3, e4⟩ := P' _ Off.refl; (have hf := fig_of e2 e3 e4 hn3)) | ((refine r_spec (s_without_tail _ _ _ _ _ (by assumption) (by assumption)) (Room.le (by assumption) (by decide)) (by assumption) (by assumption) (by assumption) (by trivial) ?_); intro v h' hb' tk' F' N' K' P'; obtain ⟨y, u, rfl, hy⟩ := P' _ Off.refl)) | (walk_at "go1"))
  (refine ret _ _ _ (endSub (by assumption) (by walk_at "sub")) (Fm.keepB (by assumption)) (fun g hg => ?_); exact rfl)
theorem s_special_na (w : World) (B : Heap) : Spec w B 1 (.ref 101) [.none] (fun _ => True) (fun _ r => ∃ t, r = .str "NA" t) := by
  rintro A s Q E R G hB _ ret
  refine enter0 17 (binds := [("x", .none)]) R G hB ⟨_, by simp only [tblS]; repeat (first | exact List.Mem.head _ | refine List.Mem.tail _ ?_)⟩ (fun _ _ => rfl) rfl rfl rfl fun cd L h₁ F N R' => ?_
  generalize hb : fdBody (stAt 17) = bd
  conv at hb => lhs; whnf
  subst hb
  generalize hsc : fdScope (stAt 17) = sc at F R' N ⊢
  conv at hsc => lhs; whnf
  subst hsc
  generalize hnm : fdName (stAt 17) = nm at F R' N ⊢
  repeat (first | ((with_reducible refine g_call ?_); first | ((refine r_spec (s_significant _ _ _ _ _ (by assumption)) (Room.le (by assumption) (by decide)) (by assumption) (by assumption) (by assumption) (by exact ⟨_, _, _, rfl, by walk_at "tup"⟩) ?_); intro v h' hb' tk' F' N' K' P'; obtain ⟨e, ⟨ae, t1, t2, t3, rfl, ht⟩, e2, e3, e4⟩ := P' _ Off.refl; (have hf := fig_of e2 e3 e4 hn3)) | ((refine r_spec (s_without_tail _ _ _ _ _ (by assumption) (by assumption)) (Room.le (by assumption) (by decide)) (by assumption) (by assumption) (by assumption) (by trivial) ?_); intro v h' hb' tk' F' N' K' P'; obtain ⟨y, u, rfl, hy⟩ := P' _ Off.refl)) | (walk_at "go1"))
  (refine ret _ _ _ (endSub (by assumption) (by walk_at "sub")) (Fm.keepB (by assumption)) (fun g hg => ?_); exact ⟨_, rfl⟩)
/-- the text of a whole number -/
noncomputable abbrev txt (n : Int) : Str := Str.ofString (toString n)
theorem txt_len {N : Nat} (h : N < 1000000) : (txt (N : Int)).length ≤ 6 := by
  have e : txt (N : Int) = ⟨((Nat.toDigits 10 N).map Char.toNat).toArray⟩ := text_ofNat N
  rw [e]
  show ((Nat.toDigits 10 N).map Char.toNat).toArray.size ≤ 6
  simp only [List.size_toArray, List.length_map]
  exact digits10_le (by decide) (by omega)
theorem txt_pos {N : Nat} (h : 0 < N) : 1 ≤ (txt (N : Int)).length := by
  have e : txt (N : Int) = ⟨((Nat.toDigits 10 N).map Char.toNat).toArray⟩ := text_ofNat N
  rw [e]
  show 1 ≤ ((Nat.toDigits 10 N).map Char.toNat).toArray.size
  simp only [List.size_toArray, List.length_map]
  exact digits10_ge (k := 0) (by omega)
theorem s_whole_text (w : World) (B : Heap) (N : Nat) (t : Tok) (h0 : 0 < N) (h1 : N < 1000000) : Spec w B 1 (.ref 94) [.int N t] (fun _ => True) (fun _ r => ∃ t, r = .str (txt N) t) := by
  have hl := txt_len h1
  have hl2 : (txt (N : Int)).length ≤ 1000000 := by omega
  have q18 : (10 : Int) ^ Int.toNat 18 = 1000000000000000000 := by decide
  rintro A s Q E R G hB _ ret
  refine enter0 16 (binds := [("n", .int N t)]) R G hB ⟨_, by simp only [tblS]; repeat (first | exact List.Mem.head _ | refine List.Mem.tail _ ?_)⟩ (fun _ _ => rfl) rfl rfl rfl fun cd L h₁ F N R' => ?_
  generalize hb : fdBody (stAt 16) = bd
  conv at hb => lhs; whnf
  subst hb
  generalize hsc : fdScope (stAt 16) = sc at F R' N ⊢
  conv at hsc => lhs; whnf
  subst hsc
  generalize hnm : fdName (stAt 16) = nm at F R' N ⊢
  repeat (first | ((with_reducible refine g_call ?_); first | ((refine r_spec (s_significant _ _ _ _ _ (by assumption)) (Room.le (by assumption) (by decide)) (by assumption) (by assumption) (by assumption) (by exact ⟨_, _, _, rfl, by walk_at "tup"⟩) ?_); intro v h' hb' tk' F' N' K' P'; obtain ⟨e, ⟨ae, t1, t2, t3, rfl, ht⟩, e2, e3, e4⟩ := P' _ Off.refl; (have hf := fig_of e2 e3 e4 hn3)) | ((refine r_spec (s_without_tail _ _ _ _ _ (by assumption) (by assumption)) (Room.le (by assumption) (by decide)) (by assumption) (by assumption) (by assumption) (by trivial) ?_); intro v h' hb' tk' F' N' K' P'; obtain ⟨y, u, rfl, hy⟩ := P' _ Off.refl)) | (walk_at "go1"))
  refine r_while0 fun E' => ?_
  repeat (first | ((with_reducible refine g_call ?_); first | ((refine r_spec (s_significant _ _ _ _ _ (by assumption)) (Room.le (by assumption) (by decide)) (by assumption) (by assumption) (by assumption) (by exact ⟨_, _, _, rfl, by walk_at "tup"⟩) ?_); intro v h' hb' tk' F' N' K' P'; obtain ⟨e, ⟨ae, t1, t2, t3, rfl, ht⟩, e2, e3, e4⟩ := P' _ Off.refl; (have hf := fig_of e2 e3 e4 hn3)) | ((refine r_spec (s_without_tail _ _ _ _ _ (by assumption) (by assumption)) (Room.le (by assumption) (by decide)) (by assumption) (by assumption) (by assumption) (by trivial) ?_); intro v h' hb' tk' F' N' K' P'; obtain ⟨y, u, rfl, hy⟩ := P' _ Off.refl)) | (walk_at "go1"))
  (refine ret _ _ _ (endSub (by assumption) (by walk_at "sub")) (Fm.keepB (by assumption)) (fun g hg => ?_); exact ⟨_, rfl⟩)
theorem txt_neg {n : Int} (h : n < 0) : ("-" : Str) ++ txt (n.natAbs : Int) = txt n := by
  obtain ⟨N, rfl⟩ : ∃ N : Nat, n = Int.negSucc N := ⟨n.natAbs - 1, by omega⟩
  have e1 : txt ((Int.negSucc N).natAbs : Int) = Str.ofString (Nat.repr (N + 1)) := rfl
  have e2 : txt (Int.negSucc N) = Str.ofString ("-" ++ Nat.repr (N + 1)) := rfl
  rw [e1, e2]
  simp [Str.ofString_eq_toList]
  exact Str.ext' (by rw [Str.cps_append]; simp)
theorem mul_pow0 (a : Int) : a * 10 ^ Int.toNat 0 = a := by simp
local macro_rules | `(tactic| walk_at "mulok") => `(tactic| exact .of_left (by assumption))
local macro_rules | `(tactic| walk_at "sz") => `(tactic| ((have : ("-" : Str).length = 1 := rfl); omega))
theorem s_fixed (w : World) (B : Heap) (v : Value) (n : Int) (t0 : Tok) (hn : Itm n) : Spec w B 2 (.ref 136) [v, .int 0 t0] (fun h => Num h v n) (fun _ r => ∃ t, r = .str (txt n) t) := by
  have hb := Itm.bits hn
  obtain ⟨hn1, hn2, hn3⟩ := hn
  have hN : n.natAbs < 1000000 := by omega
  have hN0 : 0 < n.natAbs := by omega
  have hl := txt_len hN
  have hl0 := txt_pos hN0
  rintro A s Q E R G hB ⟨a, t, u, rfl, hx⟩ ret
  refine enter0 22 (binds := [("x", .ref a), ("places", .int 0 t0)]) R G hB ⟨_, by simp only [tblS]; repeat (first | exact List.Mem.head _ | refine List.Mem.tail _ ?_)⟩ (fun _ _ => rfl) rfl rfl rfl fun cd L h₁ F N R' => ?_
  generalize hb : fdBody (stAt 22) = bd
  conv at hb => lhs; whnf
  subst hb
  generalize hsc : fdScope (stAt 22) = sc at F R' N ⊢
  conv at hsc => lhs; whnf
  subst hsc
  generalize hnm : fdName (stAt 22) = nm at F R' N ⊢
  repeat (first | ((with_reducible refine g_call ?_); first | ((refine r_spec (s_whole_text _ _ _ _ (by assumption) (by assumption)) (Room.le (by assumption) (by decide)) (by assumption) (by assumption) (by assumption) (by trivial) ?_); intro v h' hb' tk' F' N' K' P'; obtain ⟨t, rfl⟩ := P' _ Off.refl) | ((refine r_spec (s_nearest _ _ _ _ _) (Room.le (by assumption) (by decide)) (by assumption) (by assumption) (by assumption) (by trivial) ?_); intro v h' hb' tk' F' N' K' P'; (obtain ⟨t, rfl⟩ := P' _ Off.refl); (try simp only [mul_pow0])) | ((refine r_spec (s_significant _ _ _ _ _ (by assumption)) (Room.le (by assumption) (by decide)) (by assumption) (by assumption) (by assumption) (by exact ⟨_, _, _, rfl, by walk_at "tup"⟩) ?_); intro v h' hb' tk' F' N' K' P'; obtain ⟨e, ⟨ae, t1, t2, t3, rfl, ht⟩, e2, e3, e4⟩ := P' _ Off.refl; (have hf := fig_of e2 e3 e4 hn3)) | ((refine r_spec (s_without_tail _ _ _ _ _ (by assumption) (by assumption)) (Room.le (by assumption) (by decide)) (by assumption) (by assumption) (by assumption) (by trivial) ?_); intro v h' hb' tk' F' N' K' P'; obtain ⟨y, u, rfl, hy⟩ := P' _ Off.refl)) | (walk_at "go1"))
  refine split_dec ?_ ?_ <;> intro hc <;> repeat (first | ((with_reducible refine g_call ?_); first | ((refine r_spec (s_whole_text _ _ _ _ (by assumption) (by assumption)) (Room.le (by assumption) (by decide)) (by assumption) (by assumption) (by assumption) (by trivial) ?_); intro v h' hb' tk' F' N' K' P'; obtain ⟨t, rfl⟩ := P' _ Off.refl) | ((refine r_spec (s_nearest _ _ _ _ _) (Room.le (by assumption) (by decide)) (by assumption) (by assumption) (by assumption) (by trivial) ?_); intro v h' hb' tk' F' N' K' P'; (obtain ⟨t, rfl⟩ := P' _ Off.refl); (try simp only [mul_pow0])) | ((refine r_spec (s_significant _ _ _ _ _ (by assumption)) (Room.le (by assumption) (by decide)) (by assumption) (by assumption) (by assumption) (by exact ⟨_, _, _, rfl, by walk_at "tup"⟩) ?_); intro v h' hb' tk' F' N' K' P'; obtain ⟨e, ⟨ae, t1, t2, t3, rfl, ht⟩, e2, e3, e4⟩ := P' _ Off.refl; (have hf := fig_of e2 e3 e4 hn3)) | ((refine r_spec (s_without_tail _ _ _ _ _ (by assumption) (by assumption)) (Room.le (by assumption) (by decide)) (by assumption) (by assumption) (by assumption) (by trivial) ?_); intro v h' hb' tk' F' N' K' P'; obtain ⟨y, u, rfl, hy⟩ := P' _ Off.refl)) | (walk_at "go1"))
  · (refine ret _ _ _ (endSub (by assumption) (by walk_at "sub")) (Fm.keepB (by assumption)) (fun g hg => ?_); exact ⟨_, by rw [txt_neg hc]⟩)
  · (refine ret _ _ _ (endSub (by assumption) (by walk_at "sub")) (Fm.keepB (by assumption)) (fun g hg => ?_); exact ⟨_, by rw [show (n.natAbs : Int) = n by omega]⟩)
/-- an item of a column as a number -/
def Frac (h : Heap) (v : Value) : Option Int → Prop
  | none => v = .none
  | some n => Num h v n
def ItO : Option Int → Prop
  | none => True
  | some n => Itm n
noncomputable def shown : Option Int → Str
  | none => "NA"
  | some n => txt n
theorem Frac.up {h h' : Heap} {v : Value} : ∀ {o : Option Int}, Frac h v o → Sub h h' → Frac h' v o
  | none, x, _ => x
  | some _, x, k => Num.up x k
end -- B3
section
open PySem PySem.W PyProof.Rows PySem.Calls
set_option maxRecDepth 100000
set_option maxHeartbeats 1000000
theorem FracNum {h : Heap} {v : Value} {n : Int} (x : Num h v n) : Frac h v (some n) := x
/-- the form -/
def Form (h : Heap) (v : Value) : Prop := ∃ a t u, v = .ref a ∧ IsTup h a [.str "fixed" t, .int 0 u].toArray
theorem s_formed (w : World) (B : Heap) (v f : Value) (o : Option Int) (ho : ItO o) : Spec w B 3 (.ref 157) [v, f] (fun h => Frac h v o ∧ Form h f) (fun _ r => ∃ t, r = .str (shown o) t) := by
  rintro A s Q E R G hB ⟨hv, a, t1, t2, rfl, hx⟩ ret
  cases o with
  | none =>
    obtain rfl : v = .none := hv
    refine enter0 25 (binds := [("x", .none), ("form", .ref a)]) R G hB ⟨_, by simp only [tblS]; repeat (first | exact List.Mem.head _ | refine List.Mem.tail _ ?_)⟩ (fun _ _ => rfl) rfl rfl rfl fun cd L h₁ F N R' => ?_
    generalize hb : fdBody (stAt 25) = bd
    conv at hb => lhs; whnf
    subst hb
    generalize hsc : fdScope (stAt 25) = sc at F R' N ⊢
    conv at hsc => lhs; whnf
    subst hsc
    generalize hnm : fdName (stAt 25) = nm at F R' N ⊢
    repeat (first | ((with_reducible refine g_call ?_); first | ((refine r_spec (s_fixed _ _ _ _ _ (by assumption)) (Room.le (by assumption) (by decide)) (by assumption) (by assumption) (by assumption) (by exact ⟨_, _, _, rfl, by walk_at "tup"⟩) ?_); intro v h' hb' tk' F' N' K' P'; obtain ⟨t, rfl⟩ := P' _ Off.refl) | ((refine r_spec (s_special_na _ _) (Room.le (by assumption) (by decide)) (by assumption) (by assumption) (by assumption) (by trivial) ?_); intro v h' hb' tk' F' N' K' P'; obtain ⟨t, rfl⟩ := P' _ Off.refl) | ((refine r_spec (s_special _ _ _ _) (Room.le (by assumption) (by decide)) (by assumption) (by assumption) (by assumption) (by exact ⟨_, _, _, rfl, by walk_at "tup"⟩) ?_); intro v h' hb' tk' F' N' K' P'; obtain rfl := P' _ Off.refl)) | (walk_at "go1"))
    (refine ret _ _ _ (endSub (by assumption) (by walk_at "sub")) (Fm.keepB (by assumption)) (fun g hg => ?_); exact ⟨_, rfl⟩)
  | some n =>
    have hn : Itm n := ho
    obtain ⟨b, t3, t4, rfl, hy⟩ : Num s.heap v n := hv
    refine enter0 25 (binds := [("x", .ref b), ("form", .ref a)]) R G hB ⟨_, by simp only [tblS]; repeat (first | exact List.Mem.head _ | refine List.Mem.tail _ ?_)⟩ (fun _ _ => rfl) rfl rfl rfl fun cd L h₁ F N R' => ?_
    generalize hb : fdBody (stAt 25) = bd
    conv at hb => lhs; whnf
    subst hb
    generalize hsc : fdScope (stAt 25) = sc at F R' N ⊢
    conv at hsc => lhs; whnf
    subst hsc
    generalize hnm : fdName (stAt 25) = nm at F R' N ⊢
    repeat (first | ((with_reducible refine g_call ?_); first | ((refine r_spec (s_fixed _ _ _ _ _ (by assumption)) (Room.le (by assumption) (by decide)) (by assumption) (by assumption) (by assumption) (by exact ⟨_, _, _, rfl, by walk_at "tup"⟩) ?_); intro v h' hb' tk' F' N' K' P'; obtain ⟨t, rfl⟩ := P' _ Off.refl) | ((refine r_spec (s_special_na _ _) (Room.le (by assumption) (by decide)) (by assumption) (by assumption) (by assumption) (by trivial) ?_); intro v h' hb' tk' F' N' K' P'; obtain ⟨t, rfl⟩ := P' _ Off.refl) | ((refine r_spec (s_special _ _ _ _) (Room.le (by assumption) (by decide)) (by assumption) (by assumption) (by assumption) (by exact ⟨_, _, _, rfl, by walk_at "tup"⟩) ?_); intro v h' hb' tk' F' N' K' P'; obtain rfl := P' _ Off.refl)) | (walk_at "go1"))
    (refine ret _ _ _ (endSub (by assumption) (by walk_at "sub")) (Fm.keepB (by assumption)) (fun g hg => ?_); exact ⟨_, rfl⟩)
/-- a list of numbers that are there -/
def Nums (h : Heap) (vs : List Value) : Prop := ∀ x ∈ vs, ∃ n, Itm n ∧ Num h x n
theorem s_chosen_form (w : World) (B : Heap) (l : Addr) (vs : List Value) (td : Tok) (hz : vs.length ≤ 1000) : Spec w B 5 (.ref 150) [.ref l, .int 15 td] (fun h => Ls h l vs ∧ Nums h vs) (fun h r => Form h r) := by
  rintro A s Q E R G hB ⟨hl, hv⟩ ret
  refine enter0 24 (binds := [("xs", .ref l), ("digits", .int 15 td)]) R G hB ⟨_, by simp only [tblS]; repeat (first | exact List.Mem.head _ | refine List.Mem.tail _ ?_)⟩ (fun _ _ => rfl) rfl rfl rfl fun cd L h₁ F N R' => ?_
  generalize hb : fdBody (stAt 24) = bd
  conv at hb => lhs; whnf
  subst hb
  generalize hsc : fdScope (stAt 24) = sc at F R' N ⊢
  conv at hsc => lhs; whnf
  subst hsc
  generalize hnm : fdName (stAt 24) = nm at F R' N ⊢
  repeat (first | ((with_reducible refine g_call ?_); first | ((refine r_spec (s_measures _ _ _ _ _ (by assumption)) (Room.le (by assumption) (by decide)) (by assumption) (by assumption) (by assumption) (by exact ⟨_, _, _, rfl, by walk_at "tup"⟩) ?_); intro v h' hb' tk' F' N' K' P'; obtain ⟨e, ⟨ae, u1, u2, u3, u4, rfl, hm⟩, he5⟩ := P' _ Off.refl) | ((refine r_spec (s_fixed _ _ _ _ _ (by assumption)) (Room.le (by assumption) (by decide)) (by assumption) (by assumption) (by assumption) (by exact ⟨_, _, _, rfl, by walk_at "tup"⟩) ?_); intro v h' hb' tk' F' N' K' P'; obtain ⟨t, rfl⟩ := P' _ Off.refl) | ((refine r_spec (s_special_na _ _) (Room.le (by assumption) (by decide)) (by assumption) (by assumption) (by assumption) (by trivial) ?_); intro v h' hb' tk' F' N' K' P'; obtain ⟨t, rfl⟩ := P' _ Off.refl) | ((refine r_spec (s_special _ _ _ _) (Room.le (by assumption) (by decide)) (by assumption) (by assumption) (by assumption) (by exact ⟨_, _, _, rfl, by walk_at "tup"⟩) ?_); intro v h' hb' tk' F' N' K' P'; obtain rfl := P' _ Off.refl)) | (walk_at "go1"))
  rename_i I oI hI X FI NI
  refine for_inv (fun i s' => ∃ h' tk' m' o' hb' c lf mi, s' = ⟨h', s.gens, s.drawn, tk', s.os⟩ ∧ Fm B hb' L h' m' ∧ Nw hb' L h' [(I, o')] ∧ Iter w hb' I vs.length (fun i v => vs[i]? = some v) i o' ∧ Sub s.heap hb' ∧
      m' "digits" = some (.int 15 td) ∧ (∃ t, m' "count" = some (.int c t)) ∧ (∃ t, m' "left" = some (.int lf t)) ∧ (∃ t, m' "places" = some (.int 0 t)) ∧ (∃ t, m' "wide" = some (.int 0 t)) ∧ (∃ t, m' "minus" = some (.int mi t)) ∧ 1 ≤ c ∧ lf ≤ c + mi ∧ (mi = 0 ∨ mi = 1)) vs.length ?_ ?_
    ⟨_, _, _, _, _, 1, 1, 0, rfl, FI, NI, X, by walk_at "sub", rfl, ⟨_, rfl⟩, ⟨_, rfl⟩, ⟨_, rfl⟩, ⟨_, rfl⟩, ⟨_, rfl⟩, by omega, by omega, by omega⟩
  · rintro i s' hi ⟨h', tk', m', o', hb', c, lf, mi, rfl, F2, N2, X2, K2, m0, ⟨t1, m1⟩, ⟨t2, m2⟩, ⟨t3, m3⟩, ⟨t4, m4⟩, ⟨t5, m5⟩, hc, hlf, hmi⟩ next
    refine for_item (k := 0) R'.hand F2 N2 rfl X2 hi fun v h2 tk2 o2 hv2 X3 F3 N3 => ?_
    obtain ⟨n, hn, b, tb1, tb2, rfl, hy⟩ := hv v (List.mem_of_getElem? hv2)
    have hy' := tup_up hy K2
    dsimp only [List.set] at N3
    repeat (first | ((with_reducible refine g_call ?_); first | ((refine r_spec (s_measures _ _ _ _ _ (by assumption)) (Room.le (by assumption) (by decide)) (by assumption) (by assumption) (by assumption) (by exact ⟨_, _, _, rfl, by walk_at "tup"⟩) ?_); intro v h' hb' tk' F' N' K' P'; obtain ⟨e, ⟨ae, u1, u2, u3, u4, rfl, hm⟩, he5⟩ := P' _ Off.refl) | ((refine r_spec (s_fixed _ _ _ _ _ (by assumption)) (Room.le (by assumption) (by decide)) (by assumption) (by assumption) (by assumption) (by exact ⟨_, _, _, rfl, by walk_at "tup"⟩) ?_); intro v h' hb' tk' F' N' K' P'; obtain ⟨t, rfl⟩ := P' _ Off.refl) | ((refine r_spec (s_special_na _ _) (Room.le (by assumption) (by decide)) (by assumption) (by assumption) (by assumption) (by trivial) ?_); intro v h' hb' tk' F' N' K' P'; obtain ⟨t, rfl⟩ := P' _ Off.refl) | ((refine r_spec (s_special _ _ _ _) (Room.le (by assumption) (by decide)) (by assumption) (by assumption) (by assumption) (by exact ⟨_, _, _, rfl, by walk_at "tup"⟩) ?_); intro v h' hb' tk' F' N' K' P'; obtain rfl := P' _ Off.refl)) | (walk_at "go1"))
    refine split_dec ?_ ?_ <;> intro hc' <;> repeat (first | ((with_reducible refine g_call ?_); first | ((refine r_spec (s_measures _ _ _ _ _ (by assumption)) (Room.le (by assumption) (by decide)) (by assumption) (by assumption) (by assumption) (by exact ⟨_, _, _, rfl, by walk_at "tup"⟩) ?_); intro v h' hb' tk' F' N' K' P'; obtain ⟨e, ⟨ae, u1, u2, u3, u4, rfl, hm⟩, he5⟩ := P' _ Off.refl) | ((refine r_spec (s_fixed _ _ _ _ _ (by assumption)) (Room.le (by assumption) (by decide)) (by assumption) (by assumption) (by assumption) (by exact ⟨_, _, _, rfl, by walk_at "tup"⟩) ?_); intro v h' hb' tk' F' N' K' P'; obtain ⟨t, rfl⟩ := P' _ Off.refl) | ((refine r_spec (s_special_na _ _) (Room.le (by assumption) (by decide)) (by assumption) (by assumption) (by assumption) (by trivial) ?_); intro v h' hb' tk' F' N' K' P'; obtain ⟨t, rfl⟩ := P' _ Off.refl) | ((refine r_spec (s_special _ _ _ _) (Room.le (by assumption) (by decide)) (by assumption) (by assumption) (by assumption) (by exact ⟨_, _, _, rfl, by walk_at "tup"⟩) ?_); intro v h' hb' tk' F' N' K' P'; obtain rfl := P' _ Off.refl)) | (walk_at "go1"))
    · refine next _ ⟨_, _, _, o2, _, max c ((e + 1 : Nat) : Int), max lf (if n < 0 then e + 2 else e + 1), 1, rfl, by assumption, by assumption, X3.up (by walk_at "sub"), by walk_at "sub", by exact m0, ⟨_, by rfl⟩, ⟨_, by rfl⟩, ⟨_, by rfl⟩, ⟨_, by exact m4⟩, ⟨_, by rfl⟩, by omega, ?_, by omega⟩
      rw [if_pos hc']; omega
    · refine next _ ⟨_, _, _, o2, _, max c ((e + 1 : Nat) : Int), max lf (if n < 0 then e + 2 else e + 1), mi, rfl, by assumption, by assumption, X3.up (by walk_at "sub"), by walk_at "sub", by exact m0, ⟨_, by rfl⟩, ⟨_, by rfl⟩, ⟨_, by rfl⟩, ⟨_, by exact m4⟩, ⟨_, by exact m5⟩, by omega, ?_, by omega⟩
      rw [if_neg hc']; omega
  · rintro s' ⟨h', tk', m', o', hb', c, lf, mi, rfl, F2, N2, X2, K2, m0, ⟨t1, m1⟩, ⟨t2, m2⟩, ⟨t3, m3⟩, ⟨t4, m4⟩, ⟨t5, m5⟩, hc, hlf, hmi⟩
    refine for_end (k := 0) R'.hand F2 N2 rfl X2 fun h2 tk2 F3 N3 => ?_
    dsimp only [List.eraseIdx] at N3
    repeat (first | ((with_reducible refine g_call ?_); first | ((refine r_spec (s_measures _ _ _ _ _ (by assumption)) (Room.le (by assumption) (by decide)) (by assumption) (by assumption) (by assumption) (by exact ⟨_, _, _, rfl, by walk_at "tup"⟩) ?_); intro v h' hb' tk' F' N' K' P'; obtain ⟨e, ⟨ae, u1, u2, u3, u4, rfl, hm⟩, he5⟩ := P' _ Off.refl) | ((refine r_spec (s_fixed _ _ _ _ _ (by assumption)) (Room.le (by assumption) (by decide)) (by assumption) (by assumption) (by assumption) (by exact ⟨_, _, _, rfl, by walk_at "tup"⟩) ?_); intro v h' hb' tk' F' N' K' P'; obtain ⟨t, rfl⟩ := P' _ Off.refl) | ((refine r_spec (s_special_na _ _) (Room.le (by assumption) (by decide)) (by assumption) (by assumption) (by assumption) (by trivial) ?_); intro v h' hb' tk' F' N' K' P'; obtain ⟨t, rfl⟩ := P' _ Off.refl) | ((refine r_spec (s_special _ _ _ _) (Room.le (by assumption) (by decide)) (by assumption) (by assumption) (by assumption) (by exact ⟨_, _, _, rfl, by walk_at "tup"⟩) ?_); intro v h' hb' tk' F' N' K' P'; obtain rfl := P' _ Off.refl)) | (walk_at "go1"))
    refine split_dec ?_ ?_ <;> intro hc' <;> repeat (first | ((with_reducible refine g_call ?_); first | ((refine r_spec (s_measures _ _ _ _ _ (by assumption)) (Room.le (by assumption) (by decide)) (by assumption) (by assumption) (by assumption) (by exact ⟨_, _, _, rfl, by walk_at "tup"⟩) ?_); intro v h' hb' tk' F' N' K' P'; obtain ⟨e, ⟨ae, u1, u2, u3, u4, rfl, hm⟩, he5⟩ := P' _ Off.refl) | ((refine r_spec (s_fixed _ _ _ _ _ (by assumption)) (Room.le (by assumption) (by decide)) (by assumption) (by assumption) (by assumption) (by exact ⟨_, _, _, rfl, by walk_at "tup"⟩) ?_); intro v h' hb' tk' F' N' K' P'; obtain ⟨t, rfl⟩ := P' _ Off.refl) | ((refine r_spec (s_special_na _ _) (Room.le (by assumption) (by decide)) (by assumption) (by assumption) (by assumption) (by trivial) ?_); intro v h' hb' tk' F' N' K' P'; obtain ⟨t, rfl⟩ := P' _ Off.refl) | ((refine r_spec (s_special _ _ _ _) (Room.le (by assumption) (by decide)) (by assumption) (by assumption) (by assumption) (by exact ⟨_, _, _, rfl, by walk_at "tup"⟩) ?_); intro v h' hb' tk' F' N' K' P'; obtain rfl := P' _ Off.refl)) | (walk_at "go1"))
    · (refine ret _ _ _ (endSub (by assumption) (by walk_at "sub")) (Fm.keepB (by assumption)) (fun g hg => ?_); exact ⟨_, _, _, rfl, tup_of (news_off hg (by assumption) (by walk_at "sub") (.head _) (fixed_seq rfl))⟩)
    · (refine ret _ _ _ (endSub (by assumption) (by walk_at "sub")) (Fm.keepB (by assumption)) (fun g hg => ?_); exact ⟨_, _, _, rfl, tup_of (news_off hg (by assumption) (by walk_at "sub") (.head _) (fixed_seq rfl))⟩)
end -- B4
section
open PySem PySem.W PyProof.Rows PySem.Calls
set_option maxRecDepth 100000
set_option maxHeartbeats 1000000
def FracL (h : Heap) (vs : List Value) (os : List (Option Int)) : Prop := vs.length = os.length ∧ ∀ (i : Nat) (v : Value) (o : Option Int), vs[i]? = some v → os[i]? = some o → Frac h v o ∧ ItO o
def StrL (ys : List Value) (ss : List Str) : Prop := ys.length = ss.length ∧ ∀ (i : Nat) (y : Value) (s : Str), ys[i]? = some y → ss[i]? = some s → ∃ t, y = .str s t
theorem s_common_texts (w : World) (B : Heap) (l : Addr) (vs : List Value) (os : List (Option Int)) (td : Tok) (hz : vs.length ≤ 1000) : Spec w B 6 (.ref 162) [.ref l, .int 15 td] (fun h => Ls h l vs ∧ FracL h vs os)
    (fun h r => ∃ D ys, r = .ref D ∧ Ls h D ys ∧ StrL ys (os.map shown)) := by
  rintro A s Q E R G hB ⟨hl, hv⟩ ret
  refine enterC 26 (binds := [("xs", .ref l), ("digits", .int 15 td)]) (m := fun y => if y = "digits" then some (.int 15 td) else (if y = "xs" then some (.ref l) else (none))) [("form", 1)] [none] R G hB ⟨_, by simp only [tblS]; repeat (first | exact List.Mem.head _ | refine List.Mem.tail _ ?_)⟩ (fun _ _ => rfl) (fun _ _ => rfl) rfl (fun _ => rfl) (by decide) (fun _ _ => rfl) (fun _ => rfl) (by decide) rfl fun cd L h₁ tk₁ cells F N hca hcd R' => ?_
  generalize hb : fdBody (stAt 26) = bd
  conv at hb => lhs; whnf
  subst hb
  generalize hsc : fdScope (stAt 26) = sc at F R' N ⊢
  conv at hsc => lhs; whnf
  subst hsc
  generalize hnm : fdName (stAt 26) = nm at F R' N ⊢
  obtain ⟨c1, rfl, hc1⟩ := cells1 hca hcd
  repeat (first | ((with_reducible refine g_call ?_); first | ((refine r_spec (s_chosen_form _ _ _ _ _ hlen) (Room.le (by assumption) (by decide)) (by assumption) (by assumption) (by assumption) (by exact ⟨by walk_at "ls", hnums _ (endSub (by assumption) (by walk_at "sub"))⟩) ?_); intro v h' hb' tk' F' N' K' P'; (have hform := P' _ Off.refl); obtain ⟨fa, ft, fu, rfl, hft⟩ := hform) | ((refine r_spec (s_formed _ _ _ _ _ (by assumption)) (Room.le (by assumption) (by decide)) (by assumption) (by assumption) (by assumption) (by exact ⟨by assumption, by assumption⟩) ?_); intro v h' hb' tk' F' N' K' P'; obtain ⟨t, rfl⟩ := P' _ Off.refl)) | (walk_at "go1"))
  repeat (first | ((with_reducible refine g_call ?_); first | ((refine r_spec (s_chosen_form _ _ _ _ _ hlen) (Room.le (by assumption) (by decide)) (by assumption) (by assumption) (by assumption) (by exact ⟨by walk_at "ls", hnums _ (endSub (by assumption) (by walk_at "sub"))⟩) ?_); intro v h' hb' tk' F' N' K' P'; (have hform := P' _ Off.refl); obtain ⟨fa, ft, fu, rfl, hft⟩ := hform) | ((refine r_spec (s_formed _ _ _ _ _ (by assumption)) (Room.le (by assumption) (by decide)) (by assumption) (by assumption) (by assumption) (by exact ⟨by assumption, by assumption⟩) ?_); intro v h' hb' tk' F' N' K' P'; obtain ⟨t, rfl⟩ := P' _ Off.refl)) | (walk_at "go1"))
  rename_i I oI h1 X F1 N1
  obtain ⟨hvl, hv⟩ := hv
  refine comp_run1 (fun i => match os[i]? with | some (some _) => true | _ => false) (fun _ i y => vs[i]? = some y ∧ ∃ n, os[i]? = some (some n)) R'.hand F1 N1 X (by omega) rfl rfl rfl (by decide) ?_ ?_
  · intro i v C h tk m' hi hP F3 N3 kW hx
    have kb := (base_turn F1 N1).trans kW
    obtain ⟨o, ho⟩ : ∃ o, os[i]? = some o := ⟨os[i]'(by omega), List.getElem?_eq_getElem _⟩
    have hf := hv i v o hP ho
    cases o with
    | none =>
      obtain rfl : v = .none := hf.1
      repeat (first | ((with_reducible refine g_call ?_); first | ((refine r_spec (s_chosen_form _ _ _ _ _ hlen) (Room.le (by assumption) (by decide)) (by assumption) (by assumption) (by assumption) (by exact ⟨by walk_at "ls", hnums _ (endSub (by assumption) (by walk_at "sub"))⟩) ?_); intro v h' hb' tk' F' N' K' P'; (have hform := P' _ Off.refl); obtain ⟨fa, ft, fu, rfl, hft⟩ := hform) | ((refine r_spec (s_formed _ _ _ _ _ (by assumption)) (Room.le (by assumption) (by decide)) (by assumption) (by assumption) (by assumption) (by exact ⟨by assumption, by assumption⟩) ?_); intro v h' hb' tk' F' N' K' P'; obtain ⟨t, rfl⟩ := P' _ Off.refl)) | (walk_at "go1"))
      refine ⟨by rw [ho], ?_⟩
      rw [if_neg (by decide)]
      (refine ⟨_, _, _, rfl, by assumption, by walk_at "sub", fun g hg => ?_⟩; exact trivial)
    | some n =>
      obtain ⟨b, t3, t4, rfl, hy⟩ : Num s.heap v n := hf.1
      have hy := tup_up hy kb
      repeat (first | ((with_reducible refine g_call ?_); first | ((refine r_spec (s_chosen_form _ _ _ _ _ hlen) (Room.le (by assumption) (by decide)) (by assumption) (by assumption) (by assumption) (by exact ⟨by walk_at "ls", hnums _ (endSub (by assumption) (by walk_at "sub"))⟩) ?_); intro v h' hb' tk' F' N' K' P'; (have hform := P' _ Off.refl); obtain ⟨fa, ft, fu, rfl, hft⟩ := hform) | ((refine r_spec (s_formed _ _ _ _ _ (by assumption)) (Room.le (by assumption) (by decide)) (by assumption) (by assumption) (by assumption) (by exact ⟨by assumption, by assumption⟩) ?_); intro v h' hb' tk' F' N' K' P'; obtain ⟨t, rfl⟩ := P' _ Off.refl)) | (walk_at "go1"))
      refine ⟨by rw [ho], ?_⟩
      rw [if_pos rfl]
      repeat (first | ((with_reducible refine g_call ?_); first | ((refine r_spec (s_chosen_form _ _ _ _ _ hlen) (Room.le (by assumption) (by decide)) (by assumption) (by assumption) (by assumption) (by exact ⟨by walk_at "ls", hnums _ (endSub (by assumption) (by walk_at "sub"))⟩) ?_); intro v h' hb' tk' F' N' K' P'; (have hform := P' _ Off.refl); obtain ⟨fa, ft, fu, rfl, hft⟩ := hform) | ((refine r_spec (s_formed _ _ _ _ _ (by assumption)) (Room.le (by assumption) (by decide)) (by assumption) (by assumption) (by assumption) (by exact ⟨by assumption, by assumption⟩) ?_); intro v h' hb' tk' F' N' K' P'; obtain ⟨t, rfl⟩ := P' _ Off.refl)) | (walk_at "go1"))
      (refine ⟨_, _, _, rfl, by assumption, by walk_at "sub", fun g hg => ?_⟩; exact ⟨hP, n, ho⟩)
  · intro C oC D h2 tk2 hb2 ys z F2 N2 hC fC k2 hys
    have hy1 := hys hb2 Off.refl
    have hnums : ∀ g, Sub s.heap g → Nums g ys := fun g kg y hy => by
      obtain ⟨j, hj⟩ := List.getElem?_of_mem hy
      obtain ⟨i, _, hi, n, ho⟩ := paired_get hy1 j y hj
      obtain ⟨a1, a2⟩ := hv i y _ hi ho
      exact ⟨n, a2, Num.up a1 kg⟩
    have hlen : ys.length ≤ 1000 := by
      have e1 := paired_len hy1
      have e2 := List.length_filter_le (fun i => match os[i]? with | some (some _) => true | _ => false) (List.range vs.length)
      rw [List.length_range] at e2
      omega
    repeat (first | ((with_reducible refine g_call ?_); first | ((refine r_spec (s_chosen_form _ _ _ _ _ hlen) (Room.le (by assumption) (by decide)) (by assumption) (by assumption) (by assumption) (by exact ⟨by walk_at "ls", hnums _ (endSub (by assumption) (by walk_at "sub"))⟩) ?_); intro v h' hb' tk' F' N' K' P'; (have hform := P' _ Off.refl); obtain ⟨fa, ft, fu, rfl, hft⟩ := hform) | ((refine r_spec (s_formed _ _ _ _ _ (by assumption)) (Room.le (by assumption) (by decide)) (by assumption) (by assumption) (by assumption) (by exact ⟨by assumption, by assumption⟩) ?_); intro v h' hb' tk' F' N' K' P'; obtain ⟨t, rfl⟩ := P' _ Off.refl)) | (walk_at "go1"))
    rename_i I2 oI2 h3 X3 F3 N3
    refine comp_run0 (fun _ i y => ∃ o t, os[i]? = some o ∧ y = .str (shown o) t) R'.hand F3 N3 X3 (by omega) rfl rfl rfl (by decide) ?_ ?_
    · intro i v C h tk m' hi hP F4 N4 kW hx
      have kb := (base_turn F3 N3).trans kW
      obtain ⟨o, ho⟩ : ∃ o, os[i]? = some o := ⟨os[i]'(by omega), List.getElem?_eq_getElem _⟩
      have hcell : CellAt (wide h C []) (L + 1) (.ref fa) := (CellAt.turn N3 (by walk_at "mem") (by assumption)).up kW
      obtain ⟨hf, hio⟩ := hv i v o hP ho
      have hfr : Frac (wide h C []) v o := hf.up (Sub.trans (by walk_at "sub") kb)
      have hfm : Form (wide h C []) (.ref fa) := ⟨_, _, _, rfl, tup_up hft (Sub.trans (by walk_at "sub") kb)⟩
      have hfr := hfr.up F4.keep
      have hfm : Form h (.ref fa) := let ⟨a, t, u, e, x⟩ := hfm; ⟨a, t, u, e, tup_up x F4.keep⟩
      repeat (first | ((with_reducible refine g_call ?_); first | ((refine r_spec (s_chosen_form _ _ _ _ _ hlen) (Room.le (by assumption) (by decide)) (by assumption) (by assumption) (by assumption) (by exact ⟨by walk_at "ls", hnums _ (endSub (by assumption) (by walk_at "sub"))⟩) ?_); intro v h' hb' tk' F' N' K' P'; (have hform := P' _ Off.refl); obtain ⟨fa, ft, fu, rfl, hft⟩ := hform) | ((refine r_spec (s_formed _ _ _ _ _ (by assumption)) (Room.le (by assumption) (by decide)) (by assumption) (by assumption) (by assumption) (by exact ⟨by assumption, by assumption⟩) ?_); intro v h' hb' tk' F' N' K' P'; obtain ⟨t, rfl⟩ := P' _ Off.refl)) | (walk_at "go1"))
      (refine ⟨_, _, _, rfl, by assumption, by walk_at "sub", fun g hg => ?_⟩; exact ⟨o, _, ho, rfl⟩)
    · intro C oC D2 h2 tk2 hb2 zs z F2 N2 hC fC k2 hzl hzs
      have hS : StrL zs (os.map shown) := ⟨by rw [hzl, hvl, List.length_map], fun i y s' e1 e2 => by
        obtain ⟨o, t, ho, rfl⟩ := hzs _ Off.refl i y e1
        rw [List.getElem?_map, ho] at e2
        cases e2; exact ⟨t, rfl⟩⟩
      repeat (first | ((with_reducible refine g_call ?_); first | ((refine r_spec (s_chosen_form _ _ _ _ _ hlen) (Room.le (by assumption) (by decide)) (by assumption) (by assumption) (by assumption) (by exact ⟨by walk_at "ls", hnums _ (endSub (by assumption) (by walk_at "sub"))⟩) ?_); intro v h' hb' tk' F' N' K' P'; (have hform := P' _ Off.refl); obtain ⟨fa, ft, fu, rfl, hft⟩ := hform) | ((refine r_spec (s_formed _ _ _ _ _ (by assumption)) (Room.le (by assumption) (by decide)) (by assumption) (by assumption) (by assumption) (by exact ⟨by assumption, by assumption⟩) ?_); intro v h' hb' tk' F' N' K' P'; obtain ⟨t, rfl⟩ := P' _ Off.refl)) | (walk_at "go1"))
      (refine ret _ _ _ (endSub (by assumption) (by walk_at "sub")) (Fm.keepB (by assumption)) (fun g hg => ?_); exact ⟨_, zs, rfl, ⟨_, news_off hg (by assumption) (by walk_at "sub") (by walk_at "mem") (fixed_seq rfl)⟩, hS⟩)
end -- B5
section
open PySem PySem.W PyProof.Rows PySem.Calls
set_option maxRecDepth 100000
set_option maxHeartbeats 1000000
open PySem.W
section
variable {w : World} {A : Around} {E : Value → Shared → Prop} {env : Env} {L I C x dx d : Addr} {B hb hp h' : Heap} {m : Str → Option Value} {news : List (Addr × Obj)} {n i : Nat} {o od : Obj} {k : Str} {kvs : List (Str × Value)}
variable {gs : Array GenState} {dr : Drawn} {tk : Nat} {os : OsState}
theorem r_vec {i : Addr} {t : Tok} {Q : Value → Shared → Prop} (R : Room A 1) (G : Gd w B) (F : Fm B hb L hp m) (N : Nw hb L hp news)
    (h : ∀ x dx od h' tk', VecD od k (.ref i) .none → 667 ≤ dx → Fm B hb L h' m → Nw hb L h' ((x, instObj 258 dx) :: (dx, od) :: news) → Q (.ref x) ⟨h', gs, dr, tk', os⟩) :
    wpAny (model pr w) A (call (.ref 258) [.str k t, .ref i]) Q E ⟨hp, gs, dr, tk, os⟩ := by
  refine wpAny_call (make_K (s := ⟨hp, gs, dr, tk, os⟩) F.fr0 allN_news (G.X F.keepB) rfl rfl rfl fun x dx h' F' N' ap lt => ?_)
  obtain ⟨F1, N1, z⟩ := make2 G F N F' N' ap lt
  refine init_walk G R.depth F1 N1 rfl rfl G.C2 rfl (binds_K (G.X F1.keepB) rfl rfl rfl rfl rfl) rfl rfl rfl rfl fun L₁ h₁ F₂ N₂ ex => ?_
  generalize hb : fdBody (mtAt 36 0) = bd
  conv at hb => lhs; whnf
  subst hb
  generalize hsc : fdScope (mtAt 36 0) = sc
  conv at hsc => lhs; whnf
  subst hsc
  have N₂ : Nw (hideAll h' [dx]) L₁ h₁ [(dx, dictOf [] 0)] := N₂
  repeat (walk_at "go1")
  exact ⟨_, _, _, _, rfl, rfl, by assumption, by assumption, fun h'' F4 N4 => h x dx _ h'' _ ⟨_, _, _, _, _, _, _, _, _, _, _, _, _, _, rfl⟩ z F4 N4⟩
theorem r_vec3 {i : Addr} {t : Tok} {v : Value} {Q : Value → Shared → Prop} (R : Room A 1) (G : Gd w B) (F : Fm B hb L hp m) (N : Nw hb L hp news)
    (h : ∀ x dx od h' tk', VecD od k (.ref i) v → 667 ≤ dx → Fm B hb L h' m → Nw hb L h' ((x, instObj 258 dx) :: (dx, od) :: news) → Q (.ref x) ⟨h', gs, dr, tk', os⟩) :
    wpAny (model pr w) A (call (.ref 258) [.str k t, .ref i, v]) Q E ⟨hp, gs, dr, tk, os⟩ := by
  refine wpAny_call (make_K (s := ⟨hp, gs, dr, tk, os⟩) F.fr0 allN_news (G.X F.keepB) rfl rfl rfl fun x dx h' F' N' ap lt => ?_)
  obtain ⟨F1, N1, z⟩ := make2 G F N F' N' ap lt
  refine init_walk (binds := [("self", .ref x), ("kind", .str k t), ("items", .ref i), ("attrs", v)]) G R.depth F1 N1 rfl rfl G.C2 rfl (binds_K (G.X F1.keepB) rfl rfl rfl rfl rfl) rfl rfl rfl rfl fun L₁ h₁ F₂ N₂ ex => ?_
  generalize hb : fdBody (mtAt 36 0) = bd
  conv at hb => lhs; whnf
  subst hb
  generalize hsc : fdScope (mtAt 36 0) = sc
  conv at hsc => lhs; whnf
  subst hsc
  have N₂ : Nw (hideAll h' [dx]) L₁ h₁ [(dx, dictOf [] 0)] := N₂
  repeat (walk_at "go1")
  exact ⟨_, _, _, _, rfl, rfl, by assumption, by assumption, fun h'' F4 N4 => h x dx _ h'' _ ⟨_, _, _, _, _, _, _, _, _, _, _, _, _, _, rfl⟩ z F4 N4⟩
theorem r_null {Q : Value → Shared → Prop} (R : Room A 1) (G : Gd w B) (F : Fm B hb L hp m) (N : Nw hb L hp news)
    (h : ∀ x dx od h' tk', Fm B hb L h' m → Nw hb L h' ((x, instObj 229 dx) :: (dx, od) :: news) → Q (.ref x) ⟨h', gs, dr, tk', os⟩) :
    wpAny (model pr w) A (call (.ref 229) []) Q E ⟨hp, gs, dr, tk, os⟩ := by
  refine wpAny_call (make_K (s := ⟨hp, gs, dr, tk, os⟩) F.fr0 allN_news (G.X F.keepB) rfl rfl rfl fun x dx h' F' N' ap lt => ?_)
  obtain ⟨F1, N1, z⟩ := make2 G F N F' N' ap lt
  refine init_walk (binds := [("self", .ref x)]) G R.depth F1 N1 rfl rfl G.C1 rfl (BindsTo.of_eq rfl) rfl rfl rfl rfl fun L₁ h₁ F₂ N₂ ex => ?_
  generalize hb : fdBody (mtAt 35 0) = bd
  conv at hb => lhs; whnf
  subst hb
  generalize hsc : fdScope (mtAt 35 0) = sc
  conv at hsc => lhs; whnf
  subst hsc
  have N₂ : Nw (hideAll h' [dx]) L₁ h₁ [(dx, dictOf [] 0)] := N₂
  repeat (walk_at "go1")
  exact ⟨_, _, _, _, rfl, rfl, by assumption, by assumption, fun h'' F4 N4 => h x dx _ h'' _ F4 N4⟩
theorem r_cwK {s : Shared} {pos : Pos} {f : Addr} {e : Expr} {rest : List Expr} {Q : Value → Shared → Prop} (G : Gd w B) (hk : keepIn (KFr w.params) (.ref f) = true)
    (he : starEach (e :: rest) env = (false, eval e env) :: starEach rest env) (hn : (backTo pos (starEach rest env)).any (·.1) = false)
    (h : wpAny (model pr w) A (spliced (backTo pos (starEach (e :: rest) env))) (fun vs s₁ => SubX B s₁.heap ∧ wpAny (model pr w) A (call (.ref f) vs) Q E s₁) E s) :
    wpAny (model pr w) A (callWith pos (.ref f) [] (backTo pos (starEach (e :: rest) env)) []) Q E s :=
  callWith_K G.K hk (wpAny_mono h (fun vs s₁ q => ⟨G.X q.1, q.2⟩) fun _ _ x => x) he hn
theorem r_cwK0 {pos : Pos} {f : Addr} {Q : Value → Shared → Prop} (G : Gd w B) (F : Fm B hb L hp m) (hk : keepIn (KFr w.params) (.ref f) = true)
    (h : wpAny (model pr w) A (call (.ref f) []) Q E ⟨hp, gs, dr, tk, os⟩) : wpAny (model pr w) A (callWith pos (.ref f) [] (backTo pos (starEach [] env)) []) Q E ⟨hp, gs, dr, tk, os⟩ :=
  callWith_K0 (s := ⟨hp, gs, dr, tk, os⟩) (G.X F.keepB) hk h
end
end -- C1
section
open PySem PySem.W PyProof.Rows PySem.Builtin
set_option maxRecDepth 100000
set_option linter.unusedVariables false
section
variable {w : World} {A : Around} {E : Value → Shared → Prop} {env : Env} {L I C x dx d : Addr} {B hb hp h' : Heap} {m : Str → Option Value} {news : List (Addr × Obj)} {n i : Nat} {P : Nat → Value → Prop} {o od : Obj} {k : Str} {a v : Value} {kvs : List (Str × Value)} {t : Tok}
variable {gs : Array GenState} {dr : Drawn} {tk : Nat} {os : OsState}
abbrev DO (w : World) (o : Obj) (kvs : List (Str × Value)) : Prop := o.IsDictOf (strKind pr w) kvs
theorem DO.fixed (h : DO w o kvs) (z : kvs.length ≤ 4) : Fixed o := by
  obtain ⟨es, ep, _, hd, _, hp, _⟩ := h
  refine fixed_size hd ?_
  have := hp.length
  rw [Array.length_toList] at this
  omega
/-- a dict of strs stands at d -/
def Dct (w : World) (h : Heap) (d : Addr) (kvs : List (Str × Value)) : Prop := ∃ o, h.get? d = some o ∧ DO w o kvs ∧ 667 ≤ d ∧ kvs.length ≤ 4
theorem Dct.up {h h' : Heap} (x : Dct w h d kvs) (s : Sub h h') : Dct w h' d kvs := let ⟨o, e, a, b, c⟩ := x; ⟨o, s.fix e (a.fixed c), a, b, c⟩
theorem Dct.of (N : Nw hb L hp news) (hm : (d, o) ∈ news) (a : DO w o kvs) (z : 667 ≤ d) (c : kvs.length ≤ 4) : Dct w hp d kvs := ⟨o, N.get hm (a.fixed c), a, z, c⟩
theorem Dct.off {g a₀ : Heap} (hg : Off a₀ hp g) (N : Nw hb L hp news) (kk : Sub a₀ hb) (hm : (d, o) ∈ news) (a : DO w o kvs) (z : 667 ≤ d) (c : kvs.length ≤ 4) : Dct w g d kvs := ⟨o, news_off hg N kk hm (a.fixed c), a, z, c⟩
theorem Dct.dof (x : Dct w hp d kvs) : hp.DictOf (strKind pr w) d kvs := let ⟨o, e, a, _⟩ := x; Heap.dictOf_iff.mpr ⟨o, e, a⟩
theorem Dct.no (x : Dct w hp d kvs) : (d == sysModules) = false := by
  obtain ⟨_, _, _, z, _⟩ := x
  have : d ≠ sysModules := fun q => by rw [q] at z; exact absurd z (by decide)
  simpa using this
theorem key_is (k : Str) (t : Tok) : (strKind pr w).is k (.str k t) = true := by
  show Value.isStrOf k (.str k t) = true
  simp [Value.isStrOf]
theorem r_getD {Q : Value → Shared → Prop} (x : Dct w hp d kvs) (h : Q ((valueAt kvs k).getD .none) ⟨hp, gs, dr, tk + 1, os⟩) : wpAny (model pr w) A (call (.builtin "dict.get") [.ref d, .str k t]) Q E ⟨hp, gs, dr, tk, os⟩ :=
  call_meetsIn (s := ⟨hp, gs, dr, tk, os⟩) PySem.F.slot_dict_get (Heap.DictOf.typeIs (s := ⟨hp, gs, dr, tk, os⟩) x.dof) PySem.F.entry_dict_get (PySem.F.args_dict_get_2 _ _) (meets_dict_get (strKind pr w) d (key_is k t) x.no) ⟨_, x.dof.mapOf, h⟩
theorem r_mD {name : Str} {id : String} {pl : Sem Bool} {Q : Value × List Value → Shared → Prop} (S : Slot "dict" name id) (hT : typeOf (.builtin id) = pure (.type "method_descriptor")) (x : Dct w hp d kvs)
    (h : Q (.builtin id, [.ref d]) ⟨hp, gs, dr, tk, os⟩) : wpAny (model pr w) A (getMethod (.ref d) name pl) Q E ⟨hp, gs, dr, tk, os⟩ :=
  getMethod_builtin (Heap.DictOf.typeIs (s := ⟨hp, gs, dr, tk, os⟩) x.dof) PySem.F.plainAttrs_dict S hT x.dof.mapOf.noDict h
theorem r_itemD {value slice : Expr} {Q : Value → Shared → Prop} (x : Dct w hp d kvs) (hv : valueAt kvs k = some v) (hs : subscripted slice false (.ref d) (.str k t) = operate [.ref d, .str k t] (getItem (.ref d) (.str k t)))
    (h : Q v ⟨hp, gs, dr, tk + 1, os⟩) : wpAny (model pr w) A (subscriptTail value slice (.ref d) (.str k t)) Q E ⟨hp, gs, dr, tk, os⟩ :=
  subscriptTail_builtinR (x := v) (Heap.DictOf.typeIs (s := ⟨hp, gs, dr, tk, os⟩) x.dof) slot_dict_getitem.lookup (wpAny_getItem_of (key_is k t) x.dof.mapOf hv ⟨rfl, h⟩) hs
theorem r_notinD {Q : Value → Shared → Prop} (x : Dct w hp d kvs) (h : Q (.bool (!(valueAt kvs k).isSome)) ⟨hp, gs, dr, tk + 1, os⟩) : wpAny (model pr w) A (compareOp .NotIn (.str k t) (.ref d)) Q E ⟨hp, gs, dr, tk, os⟩ :=
  wpAny_notIn_of (s := ⟨hp, gs, dr, tk, os⟩) (key_is k t) x.no x.dof.mapOf h
theorem r_lenD {Q : Value → Shared → Prop} (x : Dct w hp d kvs) (h : Q (.int kvs.length (tk + 1)) ⟨hp, gs, dr, tk + 2, os⟩) : wpAny (model pr w) A (call (.builtin "len") [.ref d]) Q E ⟨hp, gs, dr, tk, os⟩ :=
  call_len_dict (s := ⟨hp, gs, dr, tk, os⟩) x.no x.dof (by obtain ⟨_, _, _, _, z⟩ := x; omega) h
theorem fresh_ne (F : Fm B hb L hp m) : hb.get? hp.objs.size = none := F.fresh (Nat.le_refl _)
theorem isDictOf_new : DO w emptyDict [] := ⟨#[], 0, ⟨rfl, rfl, rfl⟩, rfl, (fun e he => by simp at he), .nil, .nil⟩
theorem r_dict0 {pos : Pos} {Q : Value → Shared → Prop} (G : Gd w B) (F : Fm B hb L hp m) (N : Nw hb L hp news)
    (h : ∀ d o h', DO w o [] → 667 ≤ d → Fm B hb L h' m → Nw hb L h' ((d, o) :: news) → Q (.ref d) ⟨h', gs, dr, tk, os⟩) : wpAny (model pr w) A (eval (.Dict [] [] pos) env) Q E ⟨hp, gs, dr, tk, os⟩ :=
  wpAny_Dict_empty (s := ⟨hp, gs, dr, tk, os⟩) (h _ _ _ isDictOf_new (size667 F G) (F.push _) (N.push F _ rfl))
/-- d[k] = v of an own dict -/
theorem r_setD {j : Nat} {Q : Unit → Shared → Prop} (F : Fm B hb L hp m) (N : Nw hb L hp news) (hm : news[j]? = some (d, o)) (x : DO w o kvs) (z : kvs.length ≤ 4)
    (h : ∀ h' o', DO w o' (stored kvs k v) → Fm B hb L h' m → Nw hb L h' (news.set j (d, o')) → Q () ⟨h', gs, dr, tk + 1, os⟩) : wpAny (model pr w) A (setItem (.ref d) (.str k t) v) Q E ⟨hp, gs, dr, tk, os⟩ := by
  have e := N.get (List.mem_of_getElem? hm) (x.fixed z)
  refine wpAny_setItem_pairs (s := ⟨hp, gs, dr, tk, os⟩) (hsz := Nat.le_trans z (by decide)) (key_is k t) (Heap.dictOf_iff.mpr ⟨o, e, x⟩) fun h' hd hs => ?_
  obtain ⟨o', e', x'⟩ := Heap.dictOf_iff.mp hd
  exact h h' o' x' (F.upd N (List.mem_of_getElem? hm) hs) (N.upd hm hs e')
/-- what the display of a dict needs behind its pairs -/
def DictEnd (w : World) (d : Addr) (Q : Value → Shared → Prop) (vs : List (Value × Value)) (s₁ : Shared) : Prop := ∃ kvs, Carries (strKind pr w) vs kvs ∧ s₁.heap.DictOf (strKind pr w) d [] ∧
      ∀ h', h'.DictOf (strKind pr w) d (merged [] kvs) → Heap.SameBut d s₁.heap h' → Q (.ref d) { s₁ with heap := h', toks := s₁.toks + vs.length }
theorem r_dict {keys : List (Option Expr)} {values : List Expr} {pos : Pos} {Q : Value → Shared → Prop} (G : Gd w B) (F : Fm B hb L hp m) (N : Nw hb L hp news)
    (hall : keys.all (·.isSome) = true) (hl : (keys.length == values.length) = true) (h0 : keys.isEmpty = false) (hlen : keys.length ≤ 15)
    (h : ∀ d o h', DO w o [] → 667 ≤ d → Fm B hb L h' m → Nw hb L h' ((d, o) :: news) → wpAny (model pr w) A (evalPairs (pairTrees keys values env pos)) (DictEnd w d Q) E ⟨h', gs, dr, tk, os⟩) :
    wpAny (model pr w) A (eval (.Dict keys values pos) env) Q E ⟨hp, gs, dr, tk, os⟩ :=
  wpAny_Dict_walk (knd := strKind pr w) hall (by simpa using hl) (by intro e; rw [e] at h0; cases h0) hlen (h _ _ _ isDictOf_new (size667 F G) (F.push _) (N.push F _ rfl))
theorem dict_end {j : Nat} {vs : List (Value × Value)} {Q : Value → Shared → Prop} (kvs : List (Str × Value)) (F : Fm B hb L hp m) (N : Nw hb L hp news) (hm : news[j]? = some (d, o)) (x : DO w o []) (hc : Carries (strKind pr w) vs kvs)
    (h : ∀ h' o' tk', DO w o' (merged [] kvs) → Fm B hb L h' m → Nw hb L h' (news.set j (d, o')) → Q (.ref d) ⟨h', gs, dr, tk', os⟩) : DictEnd w d Q vs ⟨hp, gs, dr, tk, os⟩ := by
  have e := N.get (List.mem_of_getElem? hm) (x.fixed (Nat.zero_le _))
  refine ⟨kvs, hc, Heap.dictOf_iff.mpr ⟨o, e, x⟩, fun h' hd hs => ?_⟩
  obtain ⟨o', e', x'⟩ := Heap.dictOf_iff.mp hd
  exact h h' o' _ x' (F.upd N (List.mem_of_getElem? hm) hs) (N.upd hm hs e')
theorem carries1 {k1 : Str} {t1 : Tok} {v1 : Value} : Carries (strKind pr w) [(.str k1 t1, v1)] [(k1, v1)] := ⟨key_is _ _, rfl, trivial⟩
theorem carries2 {k1 k2 : Str} {t1 t2 : Tok} {v1 v2 : Value} : Carries (strKind pr w) [(.str k1 t1, v1), (.str k2 t2, v2)] [(k1, v1), (k2, v2)] := ⟨key_is _ _, rfl, key_is _ _, rfl, trivial⟩
theorem carries3 {k1 k2 k3 : Str} {t1 t2 t3 : Tok} {v1 v2 v3 : Value} : Carries (strKind pr w) [(.str k1 t1, v1), (.str k2 t2, v2), (.str k3 t3, v3)] [(k1, v1), (k2, v2), (k3, v3)] := ⟨key_is _ _, rfl, key_is _ _, rfl, key_is _ _, rfl, trivial⟩
theorem r_pairC {kk vv : Expr} {ks : List (Option Expr)} {vs : List Expr} {pos : Pos} {s : Shared} {Q : List (Value × Value) → Shared → Prop}
    (h : wpAny (model pr w) A (eval kk env) (fun kv s₁ => wpAny (model pr w) A (eval vv env) (fun vv s₂ => wpAny (model pr w) A (evalPairs (pairTrees ks vs env pos)) (fun r s₃ => Q ((kv, vv) :: r) s₃) E s₂) E s₁) E s) :
    wpAny (model pr w) A (evalPairs (pairTrees (some kk :: ks) (vv :: vs) env pos)) Q E s := pairTrees_cons_walk h
theorem r_pairN {pos : Pos} {s : Shared} {Q : List (Value × Value) → Shared → Prop} (h : Q [] s) : wpAny (model pr w) A (evalPairs (pairTrees [] [] env pos)) Q E s := pairTrees_nil_walk h
/-- the keys, one by one -/
theorem r_iterD {Q : Value → Shared → Prop} (F : Fm B hb L hp m) (N : Nw hb L hp news) (x : Dct w hb d kvs)
    (h : ∀ I o h', Iter w hb I kvs.length (fun i v => ∃ k y t, kvs[i]? = some (k, y) ∧ v = .str k t) 0 o → Fm B hb L h' m → Nw hb L h' ((I, o) :: news) → Q (.ref I) ⟨h', gs, dr, tk, os⟩) : wpAny (model pr w) A (pyIter (.ref d)) Q E ⟨hp, gs, dr, tk, os⟩ := by
  have x' := x.up F.keep
  obtain ⟨ep, hd⟩ := x'.dof.dictAt
  refine wpAny_pyIter_dict (s := ⟨hp, gs, dr, tk, os⟩) x.no hd ?_
  obtain ⟨ox, ex, ax, zx, cx⟩ := x
  have ex' := F.keep.fix ex (ax.fixed cx)
  have hne : d ≠ hp.objs.size := Nat.ne_of_lt (Heap.lt_size ex')
  have X : It w hb hp.objs.size kvs.length (fun i v => ∃ k y t, kvs[i]? = some (k, y) ∧ v = .str k t) [hp.objs.size, d] (fun i h => h.IsKeyIter hp.objs.size d i kvs.length ep ∧ h.DictAt (strKind pr w) d kvs ep) :=
    ⟨fun A hh => by
      have W := Walks.dictKeys (prog := pr) (w := w) (knd := strKind pr w) hh hp.objs.size d hne kvs ep
      exact ⟨W.sub, W.frame, fun i s Q E hi st hQ => W.item i s Q E hi st fun v h' tk hv => hQ v h' tk (by obtain ⟨k, y, e, ek⟩ := hv; obtain ⟨t, rfl⟩ := Value.isStrOf_shape (show Value.isStrOf k v = true from ek); exact ⟨k, y, t, e, rfl⟩), W.done, W.self⟩,
     fun b hb' hn => by
      rcases List.mem_cons.mp hb' with q | q
      · exact absurd q hn
      · rw [List.mem_singleton.mp q]; exact ⟨_, ex, ax.fixed cx⟩,
     fun i h st => by obtain ⟨⟨o, e, _, dd⟩, _⟩ := st; exact ⟨o, e, fixed_fields dd⟩⟩
  have F' := F.push { cls := .type "dict_keyiterator", data := .fields #[.ref d, .int 0 0, .int kvs.length 0, .int ep 0] }
  obtain ⟨o, e, X'⟩ := X.iter (i := 0) F'.keep ⟨⟨_, Heap.get?_push_size _ rfl, rfl, rfl⟩, hd.push _⟩
  rw [Heap.get?_push_size _ rfl] at e
  cases e
  exact h _ _ _ X' F' (N.push F _ rfl)
theorem r_asgsub {o i : Expr} {pos' pos : Pos} {value : Expr} {s : Shared} {Q : Flow → Shared → Prop} (hs : swapsWith value (some (.Subscript o i pos')) pos.line env = pure false)
    (h : wpAny (model pr w) A (eval value env) (fun v s₁ => wpAny (model pr w) A (eval o env) (fun ov s₂ => wpAny (model pr w) A (eval i env) (fun iv s₃ =>
      wpAny (model pr w) A (setItem ov iv v) (fun _ => Q .next) E s₃) E s₂) E s₁) E s) :
    wpAny (model pr w) A (exec (.Assign [.Subscript o i pos'] value pos) env) Q E s := wpAny_Assign_Subscript h hs
theorem g_setit {o i v : Value} {s : Shared} {Q : Unit → Shared → Prop} (h : wpAny (model pr w) A (setItem o i v) Q E s) : wpAny (model pr w) A (setItem o i v) Q E s := h
theorem g_pairs {l : List (Sem Value × Sem Value)} {s : Shared} {Q : List (Value × Value) → Shared → Prop} (h : wpAny (model pr w) A (evalPairs l) Q E s) : wpAny (model pr w) A (evalPairs l) Q E s := h
theorem g_dend {vs : List (Value × Value)} {Q : Value → Shared → Prop} {s : Shared} (h : DictEnd w d Q vs s) : DictEnd w d Q vs s := h
end
end -- D1
section
open PySem PySem.W PyProof.Rows PySem.Builtin PySem.SeqAt
set_option maxRecDepth 100000
set_option linter.unusedVariables false
/-- equal items: the same but for tokens; lists and tuples of such -/
inductive EqV (h : Heap) : Value → Value → Nat → Prop
  | flat {v w : Value} {d : PyData} {n : Nat} : Carried v d → Carried w d → EqV h v w n
  | list {a b : Addr} {vs ws : List Value} {n : Nat} : Ls h a vs → Ls h b ws → vs.length = ws.length → (∀ (j : Nat) (v w : Value), vs[j]? = some v → ws[j]? = some w → EqV h v w n) → EqV h (.ref a) (.ref b) (n + 1)
  | tup {a b : Addr} {vs ws : List Value} {n : Nat} : IsTup h a vs.toArray → IsTup h b ws.toArray → vs.length = ws.length → (∀ (j : Nat) (v w : Value), vs[j]? = some v → ws[j]? = some w → EqV h v w n) → EqV h (.ref a) (.ref b) (n + 1)
theorem getA {vs : List Value} {j : Nat} (h1 : j < vs.toArray.size) : vs[j]? = some (vs.toArray[j]) := by
  rw [List.size_toArray] at h1
  rw [List.getElem?_eq_getElem h1, List.getElem_toArray]
theorem allT (n : Nat) : ((List.range n).all fun _ => true) = true := by simp
theorem EqV.at {s : Shared} {v w : Value} {n : Nat} (x : EqV s.heap v w n) : ∀ {A : Around}, A.units + n + 2 < cLine → EqAt A s v w true := by
  generalize hh : s.heap = h at x
  induction x with
  | flat c1 c2 =>
    intro A hu
    cases c1 <;> cases c2
    · rename_i i t u
      have := (MeetsSeq.EqGives.int i i t u).at A s
      simpa using this
    · exact EqAt.same _
    · rename_i x t u
      have := (eqGives_str x x t u).at A s
      simpa using this
    · exact EqAt.same _
  | @list a b vs ws n la lb hl hv ih =>
    intro A hu
    subst hh
    by_cases q : a = b
    · subst q; exact EqAt.same _
    · refine EqAt.of_refs q ?_
      have := RcAt.lists (A := A) (e := fun _ => true) la.isList lb.isList (by simpa using hl) (by omega) fun j h1 h2 => ih j _ _ (getA h1) (getA h2) (A := A.in1) (by show A.units + 1 + n + 2 < cLine; omega)
      rw [allT] at this; exact this
  | @tup a b vs ws n la lb hl hv ih =>
    intro A hu
    subst hh
    by_cases q : a = b
    · subst q; exact EqAt.same _
    · refine EqAt.of_refs q ?_
      have := RcAt.tuples (A := A) (e := fun _ => true) (l := a) (b := b) la lb (by omega) fun j h1 h2 => ih j _ _ (getA h1) (getA h2) (A := A.in1) (by show A.units + 1 + n + 2 < cLine; omega)
      rw [allT, List.size_toArray, List.size_toArray, hl] at this; simpa using this
theorem car_at : ∀ {vs ws : List Value} {ds : List PyData} {h : Heap}, CarriedAll vs ds → CarriedAll ws ds → ∀ (j : Nat) (v w : Value), vs[j]? = some v → ws[j]? = some w → EqV h v w 0
  | _, _, _, _, .nil, .nil, j, _, _, e, _ => by simp at e
  | _, _, _, _, .cons a r, .cons b s, 0, _, _, e, f => by cases e; cases f; exact .flat a b
  | _, _, _, _, .cons a r, .cons b s, j + 1, _, _, e, f => car_at r s j _ _ (by simpa using e) (by simpa using f)
theorem carried_len : ∀ {vs ws : List Value} {ds : List PyData}, CarriedAll vs ds → CarriedAll ws ds → vs.length = ws.length
  | _, _, _, a, b => a.length_eq.trans b.length_eq.symm
section
variable {w : World} {A : Around} {E : Value → Shared → Prop} {env : Env} {L I C x dx d : Addr} {B hb hp h' : Heap} {m : Str → Option Value} {news : List (Addr × Obj)} {n i : Nat} {P : Nat → Value → Prop} {o od : Obj} {k : Str} {v : Value} {kvs : List (Str × Value)} {t : Tok} {a b : Addr} {vs ws : List Value} {ds : List PyData}
variable {gs : Array GenState} {dr : Drawn} {tk : Nat} {os : OsState}
theorem Room.u8 {d : Nat} (R : Room A d) : A.units + 50 < cLine := by have := R.units; omega
theorem ne_of {a b : Value} {k : Bool} {s : Shared} {Q : Value → Shared → Prop} (h : SeqAt.RcNeAt A s a b k) (hq : Q (.bool k) s) : wpAny (model pr w) A (compareOp .NotEq a b) Q E s := h pr w E Q hq
theorem r_eqV {d : Nat} {n : Nat} {Q : Value → Shared → Prop} (R : Room A d) (x : EqV hp (.ref a) (.ref b) (n + 1)) (hn : n ≤ 20) (h : Q (.bool true) ⟨hp, gs, dr, tk, os⟩) :
    wpAny (model pr w) A (compareOp .Eq (.ref a) (.ref b)) Q E ⟨hp, gs, dr, tk, os⟩ := by
  have hu := R.u8
  cases x with
  | flat c _ => cases c
  | @list _ _ vs ws _ la lb hl hv =>
    refine eq_listAt (s := ⟨hp, gs, dr, tk, os⟩) (e := fun _ => true) la.isList lb.isList (by simpa using hl) (by omega) (fun j h1 h2 => (hv j _ _ (getA h1) (getA h2)).at (s := ⟨hp, gs, dr, tk, os⟩) (by show A.units + 1 + n + 2 < cLine; omega)) (by rw [allT]; exact h)
  | @tup _ _ vs ws _ la lb hl hv =>
    refine eq_tupleAt (s := ⟨hp, gs, dr, tk, os⟩) (e := fun _ => true) (l := a) (b := b) la lb (by omega) (fun j h1 h2 => (hv j _ _ (getA h1) (getA h2)).at (s := ⟨hp, gs, dr, tk, os⟩) (by show A.units + 1 + n + 2 < cLine; omega)) (by rw [allT, List.size_toArray, List.size_toArray, hl]; simpa using h)
theorem r_neV {d : Nat} {n : Nat} {Q : Value → Shared → Prop} (R : Room A d) (x : EqV hp (.ref a) (.ref b) (n + 1)) (hn : n ≤ 20) (h : Q (.bool false) ⟨hp, gs, dr, tk, os⟩) :
    wpAny (model pr w) A (compareOp .NotEq (.ref a) (.ref b)) Q E ⟨hp, gs, dr, tk, os⟩ := by
  have hu := R.u8
  cases x with
  | flat c _ => cases c
  | @list _ _ vs ws _ la lb hl hv =>
    refine ne_of (SeqAt.RcNeAt.lists (A := A) (s := ⟨hp, gs, dr, tk, os⟩) (e := fun _ => true) la.isList lb.isList (by simpa using hl) (by omega) (fun j h1 h2 => (hv j _ _ (getA h1) (getA h2)).at (s := ⟨hp, gs, dr, tk, os⟩) (by show A.units + 1 + n + 2 < cLine; omega))) (by rw [allT]; exact h)
  | @tup _ _ vs ws _ la lb hl hv =>
    refine ne_of (SeqAt.RcNeAt.tuples (A := A) (s := ⟨hp, gs, dr, tk, os⟩) (e := fun _ => true) (l := a) (b := b) la lb (by omega) (fun j h1 h2 => (hv j _ _ (getA h1) (getA h2)).at (s := ⟨hp, gs, dr, tk, os⟩) (by show A.units + 1 + n + 2 < cLine; omega))) (by rw [allT, List.size_toArray, List.size_toArray, hl]; simpa using h)
theorem r_eqL {d : Nat} {Q : Value → Shared → Prop} (R : Room A d) (x : Ls hp a vs) (y : Ls hp b ws) (cx : CarriedAll vs ds) (cy : CarriedAll ws ds) (h : Q (.bool true) ⟨hp, gs, dr, tk, os⟩) :
    wpAny (model pr w) A (compareOp .Eq (.ref a) (.ref b)) Q E ⟨hp, gs, dr, tk, os⟩ := r_eqV (n := 0) R (.list x y (carried_len cx cy) (car_at cx cy)) (by decide) h
theorem r_neL {d : Nat} {Q : Value → Shared → Prop} (R : Room A d) (x : Ls hp a vs) (y : Ls hp b ws) (cx : CarriedAll vs ds) (cy : CarriedAll ws ds) (h : Q (.bool false) ⟨hp, gs, dr, tk, os⟩) :
    wpAny (model pr w) A (compareOp .NotEq (.ref a) (.ref b)) Q E ⟨hp, gs, dr, tk, os⟩ := r_neV (n := 0) R (.list x y (carried_len cx cy) (car_at cx cy)) (by decide) h
theorem r_inLs {ys : List Str} {Q : Value → Shared → Prop} (x : Ls hp a vs) (hi : StrsAre vs ys) (h : Q (.bool (ys.any (· == k))) ⟨hp, gs, dr, tk, os⟩) : wpAny (model pr w) A (compareOp .In (.str k t) (.ref a)) Q E ⟨hp, gs, dr, tk, os⟩ :=
  in_list_strs (s := ⟨hp, gs, dr, tk, os⟩) x.isList hi h
noncomputable def strsOf : List Value → List Str
  | [] => []
  | .str x _ :: r => x :: strsOf r
  | _ :: r => strsOf r
noncomputable def allStr : List Value → Bool
  | [] => true
  | .str _ _ :: r => allStr r
  | _ => false
theorem strs_of : ∀ {vs : List Value}, allStr vs = true → StrsAre vs (strsOf vs)
  | [], _ => .nil
  | .str x t :: r, h => .cons x t (strs_of (vs := r) h)
  | .none :: _, h | .bool _ :: _, h | .int _ _ :: _, h | .ref _ :: _, h | .type _ :: _, h | .builtin _ :: _, h => by cases h
theorem r_notinT {Q : Value → Shared → Prop} (x : IsTup hp a vs.toArray) (hi : allStr vs = true) (h : Q (.bool (!((strsOf vs).any (· == k)))) ⟨hp, gs, dr, tk, os⟩) : wpAny (model pr w) A (compareOp .NotIn (.str k t) (.ref a)) Q E ⟨hp, gs, dr, tk, os⟩ :=
  notin_tuple_strs (s := ⟨hp, gs, dr, tk, os⟩) x (by simpa using strs_of hi) h
theorem r_inT {Q : Value → Shared → Prop} (x : IsTup hp a vs.toArray) (hi : allStr vs = true) (h : Q (.bool ((strsOf vs).any (· == k))) ⟨hp, gs, dr, tk, os⟩) : wpAny (model pr w) A (compareOp .In (.str k t) (.ref a)) Q E ⟨hp, gs, dr, tk, os⟩ :=
  in_tuple_strs (s := ⟨hp, gs, dr, tk, os⟩) x (by simpa using strs_of hi) h
theorem tup_news {vs : List Value} (N : Nw hb L hp news) (hm : (a, { cls := .type "tuple", data := .seq vs.toArray }) ∈ news) : IsTup hp a vs.toArray := ⟨_, N.get hm (fixed_seq rfl), rfl, _, rfl⟩
/-- 1 .. n -/
noncomputable def upto (n : Nat) : List PyData := (rangeKs 1 n).map PyData.int
theorem r_upto {n : Nat} {r : Addr} {t₁ t₂ t₃ : Tok} {Q : Value → Shared → Prop} (hh : A.handled = none) (F : Fm B hb L hp m) (N : Nw hb L hp news) (hr : IsRange hp r 1 ((n : Int) + 1) 1 t₁ t₂ t₃) (hn : n ≤ 1000000)
    (h : ∀ D us z h' tk', CarriedAll us (upto n) → us.length = n → Fm B hb L h' m → Nw hb L h' ((D, listOf us.toArray z) :: news) → Q (.ref D) ⟨h', gs, dr, tk', os⟩) : wpAny (model pr w) A (call (.type "list") [.ref r]) Q E ⟨hp, gs, dr, tk, os⟩ := by
  have rs : Builtin.Range.rangeSize 1 ((n : Int) + 1) 1 = (n : Int) := by unfold Builtin.Range.rangeSize; simp; omega
  refine kll_range (s := ⟨hp, gs, dr, tk, os⟩) hh F.fr0 allN_news hr ?_ rs (Nat.le_trans hn (by decide)) fun D us z h' tk' F' N' ap iu => ?_
  · unfold Builtin.Range.small
    rw [rs]
    unfold Builtin.Range.rangeFitsLong
    simp
    omega
  · have nD : hp.get? D = none := by
      cases q : hp.get? D with
      | none => rfl
      | some o => exact absurd (ap _ (mem_all0 q (N' _ (.head _)).2.1)) (Nat.lt_irrefl _)
    obtain ⟨F2, N2⟩ := kit1 (m' := m) F N nD F' N'
    exact h D us z h' tk' (ke_carried iu) (by have := iu.length; rw [rangeKs_length] at this; omega) F2 N2
end
end -- D2
section
open PySem PySem.W PyProof.Rows PySem.Builtin PySem.SeqAt
set_option maxRecDepth 100000
set_option linter.unusedVariables false
section
variable {w : World} {A : Around} {E : Value → Shared → Prop} {env : Env} {L I C x dx d : Addr} {B hb hp h' : Heap} {m : Str → Option Value} {news : List (Addr × Obj)} {n i : Nat} {o od : Obj} {k : Str} {v : Value} {t : Tok} {a b : Addr} {vs ws : List Value} {ds : List PyData} {ns : List Int}
variable {gs : Array GenState} {dr : Drawn} {tk : Nat} {os : OsState}
theorem tup_index2 {t0 t1 t2 u : Tok} {n0 n1 x : Str} {rest : List Value} {Q : Value → Shared → Prop} (ht : IsTup hp a (.str n0 t0 :: .str n1 t1 :: .str x t2 :: rest).toArray) (h0 : (n0 == x) = false) (h1 : (n1 == x) = false) (h : ∀ t tk', Q (.int 2 t) ⟨hp, gs, dr, tk', os⟩) :
    wpAny (model pr w) A (call (.builtin "tuple.index") [.ref a, .str x u]) Q E ⟨hp, gs, dr, tk, os⟩ := by
  refine wpAny_call_entry PySem.F.slot_tuple_index (IsTup.typeIs (s := ⟨hp, gs, dr, tk, os⟩) ht) PySem.F.entry_tuple_index ?_ (PySem.F.args_tuple_index_2 _ _)
  show wpAny _ _ (Builtin.Tuple.tupleItemsOf (.ref a) >>= _) _ _ _
  refine wpAny_bind (tupleItemsOf_ ht ?_)
  refine wpAny_bind (wpAny_pure ?_)
  refine wpAny_bind (wpAny_pure ?_)
  dsimp only
  have e : min ((.str n0 t0 :: .str n1 t1 :: .str x t2 :: rest : List Value).toArray).size ((.str n0 t0 :: .str n1 t1 :: .str x t2 :: rest : List Value).toArray).size = rest.length + 3 := by simp
  rw [e, Std.Legacy.Range.forIn_eq_forIn_range']
  simp only [Std.Legacy.Range.size, Nat.sub_zero, Nat.add_sub_cancel, Nat.div_one]
  have r3 : List.range' 0 (rest.length + 3) 1 = 0 :: 1 :: 2 :: List.range' 3 rest.length 1 := by simp [List.range'_succ]
  rw [r3, List.forIn_cons]
  refine wpAny_bind (wpAny_bind ?_)
  show wpAny _ _ (eqBool (.str n0 t0) (.str x u) >>= _) _ _ _
  refine wpAny_bind (eqBool_str ?_)
  rw [h0]
  refine wpAny_pure ?_
  dsimp only
  rw [List.forIn_cons]
  refine wpAny_bind ?_
  show wpAny _ _ (eqBool (.str n1 t1) (.str x u) >>= _) _ _ _
  refine wpAny_bind (eqBool_str ?_)
  rw [h1]
  refine wpAny_pure ?_
  dsimp only
  rw [List.forIn_cons]
  refine wpAny_bind ?_
  show wpAny _ _ (eqBool (.str x t2) (.str x u) >>= _) _ _ _
  refine wpAny_bind (eqBool_str ?_)
  rw [beq_self_eq_true]
  refine wpAny_bind ?_
  refine wpAny_bind (wpAny_mkInt ?_)
  exact wpAny_pure (wpAny_pure (wpAny_pure (wpAny_pure ⟨_, rfl, h _ _⟩)))
theorem r_mT {pl : Sem Bool} {Q : Value × List Value → Shared → Prop} (N : Nw hb L hp news) (hm : (a, { cls := .type "tuple", data := .seq vs.toArray }) ∈ news)
    (h : Q (.builtin "tuple.index", [.ref a]) ⟨hp, gs, dr, tk, os⟩) : wpAny (model pr w) A (getMethod (.ref a) "index" pl) Q E ⟨hp, gs, dr, tk, os⟩ := by
  have e := N.get hm (fixed_seq rfl)
  exact getMethod_builtin (s := ⟨hp, gs, dr, tk, os⟩) ⟨_, e, rfl⟩ PySem.F.plainAttrs_tuple PySem.F.slot_tuple_index PySem.F.type_tuple_index (fun a e' => by cases e'; exact ⟨_, e, rfl⟩) h
theorem r_tupH {value slice : Expr} {t : Addr} {k : Int} {u : Tok} {x : Value} {Q : Value → Shared → Prop} (ht : IsTup hp t vs.toArray)
    (hj : 0 ≤ k ∧ k < 1000) (hx : vs[k.toNat]? = some x) (hs : subscripted slice false (.ref t) (.int k u) = operate [.ref t, .int k u] (getItem (.ref t) (.int k u)))
    (h : Q x ⟨hp, gs, dr, tk, os⟩) : wpAny (model pr w) A (subscriptTail value slice (.ref t) (.int k u)) Q E ⟨hp, gs, dr, tk, os⟩ := by
  have hlt : k.toNat < vs.length := (List.getElem?_eq_some_iff.mp hx).1
  exact item_tupleT (s := ⟨hp, gs, dr, tk, os⟩) (j := k.toNat) ht (by omega) (by omega) (seqIx hj.1 hlt) hx h hs
theorem r_maxL {Q : Value → Shared → Prop} (hh : A.handled = none) (F : Fm B hb L hp m) (N : Nw hb L hp news) (x : Ls hp a vs) (hi : IntsAre vs ns) (hne : 0 < ns.length)
    (h : ∀ h' M t tk', M ∈ ns → (∀ a, a ∈ ns → a ≤ M) → Fm B hb L h' m → Nw hb L h' news → Q (.int M t) ⟨h', gs, dr, tk', os⟩) : wpAny (model pr w) A (call (.builtin "max") [.ref a]) Q E ⟨hp, gs, dr, tk, os⟩ :=
  max_list_N (s := ⟨hp, gs, dr, tk, os⟩) hh F.fr0 allN_news x.isList hi hne fun h' M t tk' F' N' h1 h2 => h h' M t tk' h1 h2 (F.kit F.fr0 F' N' F.nl) (N.kit F.fr0 F' N')
/-- blanks -/
noncomputable def blanks (n : Int) : Str := Txt.mul (" " : Str) n
theorem r_mulS {n : Int} {t u : Tok} {Q : Value → Shared → Prop} (h0 : 0 ≤ n) (h1 : n ≤ 1000) (h : ∀ t' tk', Q (.str (blanks n) t') ⟨hp, gs, dr, tk', os⟩) : wpAny (model pr w) A (binaryOp .Mult (.str " " t) (.int n u)) Q E ⟨hp, gs, dr, tk, os⟩ :=
  SB.mul (s := ⟨hp, gs, dr, tk, os⟩) (mulOk_of 1 1000 (by decide) (by omega) (by omega) (by decide) (by decide)) h
theorem r_cutL {value slice : Expr} {j : Int} {uj : Tok} {Q : Value → Shared → Prop} (F : Fm B hb L hp m) (N : Nw hb L hp news) (x : Ls hp a vs) (hi : IntsAre vs ns) (hz : vs.length ≤ 1000000)
    (hs : subscripted slice false (.ref a) (.ref hp.objs.size) = operate [.ref hp.objs.size, .ref a] (getItem (.ref a) (.ref hp.objs.size))) (ht : ∀ r, letTemporaryGo value (.ref a) r = pure ())
    (h : ∀ D h' us ms, IntsAre us ms → us.length ≤ vs.length → Fm B hb L h' m → Nw hb L h' ((D, listOf us.toArray 0) :: news) → Q (.ref D) ⟨h', gs, dr, tk, os⟩) :
    wpAny (model pr w) A (subscriptTail value slice (.ref a) (.ref hp.objs.size)) Q E ⟨hp.push { cls := .type "slice", data := .fields #[.none, .int j uj, .none] }, gs, dr, tk, os⟩ := by
  refine slice_listK (s := ⟨hp, gs, dr, tk, os⟩) x.isList .none (.int j uj) ?_ hs ht (by rw [List.size_toArray]; exact Nat.le_trans hz (by decide))
  have F1 := F.push { cls := .type "slice", data := .fields #[.none, .int j uj, .none] }
  have N1 := (N.push F { cls := .type "slice", data := .fields #[.none, .int j uj, .none] } rfl).drop
  have F2 := F1.push { cls := .type "list", data := .seq (slicePick vs.toArray none (some j) none) }
  have N2 := N1.push F1 { cls := .type "list", data := .seq (slicePick vs.toArray none (some j) none) } rfl
  rw [Heap.size_push] at N2
  refine h _ _ (slicePick vs.toArray none (some j) none).toList _ (hi.pick none (some j) none) ?_ F2 ?_
  · have := slicePick_size_le vs.toArray none (some j) none
    rw [Array.length_toList]; simpa using this
  · rw [Array.toArray_toList]; exact N2
theorem fold_rep (x : Value) : ∀ (k : Nat) (acc : Array Value), List.foldl (fun x1 x2 => x1 ++ x2) acc (List.replicate k #[x]) = acc ++ (List.replicate k x).toArray
  | 0, acc => by simp
  | k + 1, acc => by
    rw [List.replicate_succ, List.foldl_cons, fold_rep x k]
    apply Array.toList_inj.mp
    simp [List.replicate_succ]
theorem r_mul20 {t u : Tok} {Q : Value → Shared → Prop} (F : Fm B hb L hp m) (N : Nw hb L hp news) (x : Ls hp a [.int 0 t])
    (h : ∀ D h', Fm B hb L h' m → Nw hb L h' ((D, listOf (List.replicate 20 (.int 0 t)).toArray 0) :: news) → Q (.ref D) ⟨h', gs, dr, tk, os⟩) : wpAny (model pr w) A (binaryOp .Mult (.ref a) (.int 20 u)) Q E ⟨hp, gs, dr, tk, os⟩ := by
  obtain ⟨z, e⟩ := x
  refine mul_list (s := ⟨hp, gs, dr, tk, os⟩) F.fr0 allN_news e (by decide) (by decide) (by show 1 * 20 ≤ 2 ^ 24; decide) fun h' F' N' => ?_
  have e1 : (if ([.int 0 t] : List Value).toArray.isEmpty = true then 0 else (20 : Int).toNat) = 20 := by simp
  rw [e1, fold_rep (.int 0 t) 20 #[], Array.empty_append] at N'
  obtain ⟨F2, N2⟩ := kit1 (m' := m) F N (noSize _) F' N'
  exact h _ h' F2 N2
theorem ints_append : ∀ {vs ws : List Value} {ns ms : List Int}, IntsAre vs ns → IntsAre ws ms → IntsAre (vs ++ ws) (ns ++ ms) := IntsAre.append
theorem g_forat {target : Expr} {body : List Stmt} {it : Value} {s : Shared} {Q : Flow → Shared → Prop} (h : ForAt w A env target body Q it s) : ForAt w A env target body Q it s := h
end
end -- D3
section
open PySem PySem.W PyProof.Rows PySem.Builtin PySem.SeqAt
set_option maxRecDepth 100000
set_option linter.unusedVariables false
section
variable {w : World} {A : Around} {E : Value → Shared → Prop} {env : Env} {L I C x dx d : Addr} {B hb hp h' : Heap} {m : Str → Option Value} {news : List (Addr × Obj)} {n i : Nat} {o od : Obj} {k : Str} {v : Value} {t : Tok} {a b : Addr} {vs ws : List Value} {ds : List PyData} {ns : List Int}
variable {gs : Array GenState} {dr : Drawn} {tk : Nat} {os : OsState}
/-- an own list is no longer changed -/
theorem freeze {j z : Nat} (F : Fm B hb L hp m) (N : Nw hb L hp news) (hk : news[j]? = some (a, listOf vs.toArray z)) : ∃ hb', Fm B hb' L hp m ∧ Nw hb' L hp (news.eraseIdx j) ∧ Sub hb hb' ∧ Ls hb' a vs := by
  obtain ⟨F', N', K'⟩ := only F N (List.eraseIdx_sublist news j)
  have hm := List.mem_of_getElem? hk
  refine ⟨_, F', N', K', z, wide_get (N.get hm (fixed_seq rfl)) (N.ne hm) fun p hp' e => ?_⟩
  obtain ⟨i, ij, hi⟩ := List.mem_eraseIdx_iff_getElem?.mp hp'
  have pa := List.pairwise_iff_getElem.mp N.apart
  obtain ⟨li, ei⟩ := List.getElem?_eq_some_iff.mp hi
  obtain ⟨lj, ej⟩ := List.getElem?_eq_some_iff.mp hk
  rcases Nat.lt_or_gt_of_ne ij with q | q
  · exact pa i j li lj q (by rw [ej, ei]; exact e.symm)
  · exact pa j i lj li q (by rw [ej, ei]; exact e)
theorem r_iterLo {l : Addr} {j z : Nat} {Q : Value → Shared → Prop} (F : Fm B hb L hp m) (N : Nw hb L hp news) (hk : news[j]? = some (l, listOf vs.toArray z))
    (h : ∀ I o h' hb', Iter w hb' I vs.length (fun i v => vs[i]? = some v) 0 o → Fm B hb' L h' m → Nw hb' L h' ((I, o) :: news.eraseIdx j) → Sub hb hb' → Ls hb' l vs → Q (.ref I) ⟨h', gs, dr, tk, os⟩) : wpAny (model pr w) A (pyIter (.ref l)) Q E ⟨hp, gs, dr, tk, os⟩ := by
  obtain ⟨hb', F', N', K', l'⟩ := freeze F N hk
  exact r_iterL F' N' l' fun I o h' X' F2 N2 => h I o h' hb' X' F2 N2 K' l'
/-- the attributes of a column, as the law makes them -/
def AtK (w : World) (h : Heap) (a : Value) (kvs : List (Str × Value)) : Prop := (a = .none ∧ kvs = []) ∨ ∃ d, a = .ref d ∧ Dct w h d kvs ∧
  ((∃ k1 v1, kvs = [(k1, v1)] ∧ (!((["names", "dim", "dimnames"] : List Str).any (· == k1))) = true) ∨ ∃ k1 v1 k2 v2, kvs = [(k1, v1), (k2, v2)] ∧ (!((["names", "dim", "dimnames"] : List Str).any (· == k1))) = true ∧ (!((["names", "dim", "dimnames"] : List Str).any (· == k2))) = true ∧ k2 ≠ k1)
theorem AtK.up {h h' : Heap} {a : Value} {kvs : List (Str × Value)} (x : AtK w h a kvs) (s : Sub h h') : AtK w h' a kvs := x.imp id fun ⟨d, e, y, z⟩ => ⟨d, e, y.up s, z⟩
end
end -- D4
local macro_rules | `(tactic| walk_at "vec") => `(tactic| first | assumption | exact Vec.up (by assumption) (endSub (by assumption) (by walk_at "sub")) | exact Vec.of (by assumption) (by walk_at "mem") (by walk_at "mem") (by assumption) (by assumption) rfl)
local macro_rules | `(tactic| walk_at "dct") => `(tactic| first | assumption | exact Dct.up (by assumption) (endSub (by assumption) (by walk_at "sub")) | exact Dct.of (by assumption) (by walk_at "mem") (by assumption) (by assumption) (Nat.le_of_ble_eq_true rfl))
local macro_rules | `(tactic| walk_at "dctb") => `(tactic| first | assumption | exact Dct.up (by assumption) (by walk_at "sub"))
local macro_rules | `(tactic| walk_at "ev") => `(tactic| first
  | ((with_reducible refine' r_attr ?he ?_); (case he => with_unfolding_all rfl))
  | ((with_reducible refine' r_dict0 ?kG ?kF ?kN ?_); (case kG => assumption); (case kF => assumption); (case kN => assumption); intro d o h' D' z' F' N')
  | ((with_reducible refine' r_dict ?kG ?kF ?kN ?ka ?kl ?k0 ?kz ?_); (case kG => assumption); (case kF => assumption); (case kN => assumption); (case ka => rfl); (case kl => rfl); (case k0 => rfl); (case kz => exact Nat.le_of_ble_eq_true rfl); intro d o h' D' z' F' N'))
local macro_rules | `(tactic| walk_at "ex") => `(tactic| first
  | ((with_reducible refine' r_asgsub ?hs ?_); (case hs => with_unfolding_all rfl)))
local macro_rules | `(tactic| walk_at "geta") => `(tactic| first
  | ((with_reducible refine' r_kind ?kG ?kF ?kv ?_); (case kG => assumption); (case kF => assumption); (case kv => walk_at "vec"); intro t')
  | ((with_reducible refine' r_items ?kG ?kF ?kv ?_); (case kG => assumption); (case kF => assumption); (case kv => walk_at "vec"))
  | ((with_reducible refine' r_attrs ?kG ?kF ?kv ?_); (case kG => assumption); (case kF => assumption); (case kv => walk_at "vec")))
local macro_rules | `(tactic| walk_at "seta") => `(tactic| first
  | ((with_reducible refine' r_setA ?kG ?kF ?kN ?k1 ?k2 ?kd ?_); (case kG => assumption); (case kF => assumption); (case kN => assumption); (case k1 => walk_at "mem"); (case k2 => walk_at "idx"); (case kd => assumption); intro h' od' tk' V' F' N'; (try dsimp only [List.set] at N'))
  | ((with_reducible refine' r_share ?kG ?kF ?kN ?kv ?_); (case kG => assumption); (case kF => assumption); (case kN => assumption); (case kv => walk_at "vec"); intro h' tk' F' N'))
local macro_rules | `(tactic| walk_at "gm") => `(tactic| first
  | ((with_reducible refine' r_mD PySem.F.slot_dict_get PySem.F.type_dict_get ?x ?_); (case x => walk_at "dct")))
local macro_rules | `(tactic| walk_at "tail") => `(tactic| first
  | ((with_reducible refine' r_itemD ?x ?hv ?hs ?_); (case x => walk_at "dct"); (case hv => first | rfl | assumption); (case hs => with_unfolding_all rfl))
  | ((with_reducible refine' r_itemL ?x ?h0 ?h1 ?hv ?hs ?_); (case x => walk_at "ls"); (case h0 => first | decide | omega); (case h1 => first | decide | omega); (case hv => first | rfl | assumption); (case hs => with_unfolding_all rfl)))
local macro_rules | `(tactic| walk_at "cmp") => `(tactic| first
  | ((with_reducible refine' r_notinD ?x ?_); (case x => walk_at "dct")))
local macro_rules | `(tactic| walk_at "iter") => `(tactic| first
  | ((with_reducible refine' r_iterD ?kF ?kN ?kx ?_); (case kF => assumption); (case kN => assumption); (case kx => walk_at "dctb"); intro I oI h' X' F' N'))
local macro_rules | `(tactic| walk_at "call") => `(tactic| first
  | ((with_reducible refine' r_vec ?kR ?kG ?kF ?kN ?_); (case kR => exact Room.le (by assumption) (by decide)); (case kG => assumption); (case kF => assumption); (case kN => assumption); intro x dx od h' tk' V' z' F' N')
  | ((with_reducible refine' r_vec3 ?kR ?kG ?kF ?kN ?_); (case kR => exact Room.le (by assumption) (by decide)); (case kG => assumption); (case kF => assumption); (case kN => assumption); intro x dx od h' tk' V' z' F' N')
  | ((with_reducible refine' r_null ?kR ?kG ?kF ?kN ?_); (case kR => exact Room.le (by assumption) (by decide)); (case kG => assumption); (case kF => assumption); (case kN => assumption); intro x dx od h' tk' F' N')
  | ((with_reducible refine' r_isvec ?kG ?kF ?kv ?_); (case kG => assumption); (case kF => assumption); (case kv => walk_at "vec"))
  | ((refine' r_getD ?x ?_); (case x => walk_at "dct"))
  | ((with_reducible refine' r_lenD ?x ?_); (case x => walk_at "dct"))
  | ((with_reducible refine' r_lenL ?x ?hz ?_); (case x => walk_at "ls"); (case hz => walk_at "sz"))
  | ((with_reducible refine' r_copyL ?kF ?kN ?x ?hz ?_); (case kF => assumption); (case kN => assumption); (case x => walk_at "ls"); (case hz => walk_at "sz"); intro D h' z' F' N')
  | ((with_reducible refine' r_range1 ?kF ?kN ?_); (case kF => assumption); (case kN => assumption); intro r h' tk' Rg' F' N'))
local macro_rules | `(tactic| walk_at "bin") => `(tactic| first
  | ((with_reducible refine' r_addL ?kF ?kN ?x ?y ?hz ?_); (case kF => assumption); (case kN => assumption); (case x => walk_at "ls"); (case y => walk_at "ls"); (case hz => walk_at "sz"); intro D h' F' N'))
local macro_rules | `(tactic| walk_at "cw2") => `(tactic| first
  | ((with_reducible refine' r_cwK ?kG ?kk ?ke ?kn ?_); (case kG => assumption); (case kk => rfl); (case ke => rfl); (case kn => rfl))
  | ((with_reducible refine' r_cwK0 ?kG ?kF ?kk ?_); (case kG => assumption); (case kF => assumption); (case kk => rfl)))
local macro_rules | `(tactic| walk_at "go1") => `(tactic| first
  | ((with_reducible refine g_geta ?_); walk_at "geta")
  | ((with_reducible refine g_cw ?_); walk_at "cw2")
  | ((with_reducible refine g_setit ?_); ((with_reducible refine' r_setD ?kF ?kN ?km ?kx ?kz ?_); (case kF => assumption); (case kN => assumption); (case km => walk_at "idx"); (case kx => assumption); (case kz => exact Nat.le_of_ble_eq_true rfl); intro h' o' D' F' N'; (try dsimp only [List.set] at N')))
  | ((with_reducible refine g_pairs ?_); first | with_reducible refine r_pairC ?_ | with_reducible refine r_pairN ?_)
  | ((with_reducible refine g_dend ?_); first
    | ((refine' dict_end _ ?kF ?kN ?km ?kx carries1 ?_); (case kF => assumption); (case kN => assumption); (case km => walk_at "idx"); (case kx => assumption); intro h' o' tk' D' F' N'; (try dsimp only [List.set] at N'))
    | ((refine' dict_end _ ?kF ?kN ?km ?kx carries2 ?_); (case kF => assumption); (case kN => assumption); (case km => walk_at "idx"); (case kx => assumption); intro h' o' tk' D' F' N'; (try dsimp only [List.set] at N'))
    | ((refine' dict_end _ ?kF ?kN ?km ?kx carries3 ?_); (case kF => assumption); (case kN => assumption); (case km => walk_at "idx"); (case kx => assumption); intro h' o' tk' D' F' N'; (try dsimp only [List.set] at N'))))
local macro_rules | `(tactic| walk_at "car") => `(tactic| first | assumption | rfl)
local macro_rules | `(tactic| walk_at "cmp") => `(tactic| first
  | ((with_reducible refine' r_eqL ?R ?x ?y ?cx ?cy ?_); (case R => assumption); (case x => walk_at "ls"); (case y => walk_at "ls"); (case cx => assumption); (case cy => assumption))
  | ((with_reducible refine' r_neL ?R ?x ?y ?cx ?cy ?_); (case R => assumption); (case x => walk_at "ls"); (case y => walk_at "ls"); (case cx => assumption); (case cy => assumption))
  | ((with_reducible refine' r_inLs ?x ?hi ?_); (case x => walk_at "ls"); (case hi => assumption))
  | ((with_reducible refine' r_notinT ?x ?hi ?_); (case x => exact tup_news (by assumption) (by walk_at "mem")); (case hi => rfl))
  | ((with_reducible refine' r_inT ?x ?hi ?_); (case x => exact tup_news (by assumption) (by walk_at "mem")); (case hi => rfl)))
local macro_rules | `(tactic| walk_at "strs") => `(tactic| (repeat (first | exact StrsAre.nil | refine StrsAre.cons _ _ ?_)))
local macro_rules | `(tactic| walk_at "call") => `(tactic| first
  | ((with_reducible refine' r_range2 ?kF ?kN ?_); (case kF => assumption); (case kN => assumption); intro r h' tk' t₁ t₂ t₃ Rg' F' N')
  | ((with_reducible refine' r_upto ?kR ?kF ?kN ?kr ?kn ?_); (case kR => exact Room.hand (by assumption)); (case kF => assumption); (case kN => assumption); (case kr => assumption); (case kn => walk_at "sz"); intro D us z h' tk' C' l' F' N'))
local macro_rules | `(tactic| walk_at "gm") => `(tactic| first
  | ((with_reducible refine' r_mT ?kN ?km ?_); (case kN => assumption); (case km => walk_at "mem")))
local macro_rules | `(tactic| walk_at "tail") => `(tactic| first
  | ((with_reducible refine' r_tupH ?t ?hj ?hx ?hs ?_); (case t => exact tup_news (by assumption) (by walk_at "mem")); (case hj => decide); (case hx => rfl); (case hs => with_unfolding_all rfl))
  | ((with_reducible refine' r_cutL ?F ?N ?x ?hi ?hz ?hs ?ht ?_); (case F => assumption); (case N => assumption); (case x => walk_at "ls"); (case hi => assumption); (case hz => walk_at "sz"); (case hs => with_unfolding_all rfl); (case ht => intro _; with_unfolding_all rfl); intro D h' us ms I' l' F' N'))
local macro_rules | `(tactic| walk_at "call") => `(tactic| first
  | ((refine' tup_index2 ?t ?h0 ?h1 ?_); (case t => exact tup_news (by assumption) (by walk_at "mem")); (case h0 => rfl); (case h1 => rfl); intro t' tk')
  | ((with_reducible refine' r_maxL ?R ?kF ?kN ?x ?hi ?hn ?_); (case R => exact Room.hand (by assumption)); (case kF => assumption); (case kN => assumption); (case x => walk_at "ls"); (case hi => assumption); (case hn => first | assumption | omega | (simp; done)); intro h' M t tk' hM1 hM2 F' N'))
local macro_rules | `(tactic| walk_at "bin") => `(tactic| first
  | ((with_reducible refine' r_mulS ?h0 ?h1 ?_); (case h0 => omega); (case h1 => omega); intro t' tk')
  | ((with_reducible refine' r_mul20 ?kF ?kN ?x ?_); (case kF => assumption); (case kN => assumption); (case x => walk_at "ls"); intro D h' F' N'))
local macro_rules | `(tactic| walk_at "iterx") => `(tactic| first | assumption | exact Iter.up (by assumption) (by walk_at "sub"))
local macro_rules | `(tactic| walk_at "forat") => `(tactic| first
  | ((refine' for_item ?hh ?F ?N ?hk ?X ?hi ?_); (case hh => exact Room.hand (by assumption)); (case F => assumption); (case N => assumption); (case hk => walk_at "idx"); (case X => walk_at "iterx"); (case hi => first | decide | exact Nat.le_of_ble_eq_true rfl); intro v h' tk' o' P' X' F' N'; (first | ((have q := Option.some.inj P'); subst q) | ((obtain ⟨k', y', t', q1, q2⟩ := P'); (have q3 := Option.some.inj q1); cases q3; subst q2) | ((obtain ⟨t', q2⟩ := P'); subst q2)); (try dsimp only [List.set] at N'))
  | ((refine' for_end ?hh ?F ?N ?hk ?X ?_); (case hh => exact Room.hand (by assumption)); (case F => assumption); (case N => assumption); (case hk => walk_at "idx"); (case X => walk_at "iterx"); intro h' tk' F' N'; (try dsimp only [List.eraseIdx] at N')))
local macro_rules | `(tactic| walk_at "go1") => `(tactic| first
  | ((with_reducible refine g_forat ?_); walk_at "forat"))
local macro_rules | `(tactic| walk_at "iter") => `(tactic| first
  | ((with_reducible refine' r_iterLo ?kF ?kN ?kl ?_); (case kF => assumption); (case kN => assumption); (case kl => walk_at "idx"); intro I oI h' hb' X' F' N' K' l'; (try dsimp only [List.eraseIdx] at N')))
local macro_rules | `(tactic| walk_at "call") => `(tactic| first
  | ((refine' r_extend ?F ?N ?i ?x ?h0 ?z ?_); (case F => assumption); (case N => assumption); (case i => walk_at "idx"); (case x => walk_at "ls"); (case h0 => first | assumption | (simp; done)); (case z => first | walk_at "sz" | (simp only [List.nil_append, List.length_append, List.length_nil, List.length_cons]; omega)); intro h' n' F' N'; (try dsimp only [List.set, List.nil_append] at N'))
  | ((refine' r_append ?F ?N ?i ?z ?_); (case F => assumption); (case N => assumption); (case i => walk_at "idx"); (case z => walk_at "sz"); intro h' n' F' N'; (try dsimp only [List.set, List.nil_append, List.cons_append] at N')))
local macro_rules | `(tactic| walk_at "go1") => `(tactic| first
  | ((with_reducible refine g_loa ?_); (with_reducible refine' r_cellL ?kN ?kk ?kl ?kc ?km ?ke ?_); (case kN => assumption); (case kk => rfl); (case kl => rfl); (case kc => rfl); (case km => walk_at "mem"); (case ke => assumption)))
local macro_rules | `(tactic| walk_at "call") => `(tactic| first
  | ((with_reducible refine' r_maxL ?R ?kF ?kN ?x ?hi ?hn ?_); (case R => exact Room.hand (by assumption)); (case kF => assumption); (case kN => assumption); (case x => walk_at "ls"); (case hi => exact IntsAre.cons _ _ (by assumption)); (case hn => exact Nat.succ_pos _); intro h' M t tk' hM1 hM2 F' N'))
section
open PySem PySem.W PyProof.Rows PySem.Calls
set_option maxRecDepth 100000
set_option maxHeartbeats 1000000
theorem s_share (w : World) (B : Heap) (x : Addr) (k : Str) (i : Addr) (a : Value) : Spec w B 1 (.ref 297) [.ref x] (fun h => Vec h x k i a) (fun _ r => r = .ref x) := by
  intro A s Q E R G hB hv ret
  refine enter0 41 (binds := [("v", .ref x)]) R G hB ⟨_, by simp only [tblS]; repeat (first | exact List.Mem.head _ | refine List.Mem.tail _ ?_)⟩ (fun _ _ => rfl) rfl rfl rfl fun cd L h₁ F N R' => ?_
  generalize hb : fdBody (stAt 41) = bd
  conv at hb => lhs; whnf
  subst hb
  generalize hsc : fdScope (stAt 41) = sc at F R' N ⊢
  conv at hsc => lhs; whnf
  subst hsc
  generalize hnm : fdName (stAt 41) = nm at F R' N ⊢
  repeat (walk_at "go1")
  (refine ret _ _ _ (endSub (by assumption) (by walk_at "sub")) (Fm.keepB (by assumption)) (fun g hg => ?_); exact rfl)
theorem s_integer (w : World) (B : Heap) (l : Addr) (vs : List Value) (hz : vs.length ≤ 1000) : Spec w B 2 (.ref 269) [.ref l] (fun h => Ls h l vs) (fun h r => ∃ x i, r = .ref x ∧ Vec h x "integer" i .none ∧ Ls h i vs) := by
  intro A s Q E R G hB hl ret
  have hz2 : vs.length ≤ 1000000 := by omega
  refine enter0 37 (binds := [("items", .ref l)]) R G hB ⟨_, by simp only [tblS]; repeat (first | exact List.Mem.head _ | refine List.Mem.tail _ ?_)⟩ (fun _ _ => rfl) rfl rfl rfl fun cd L h₁ F N R' => ?_
  generalize hb : fdBody (stAt 37) = bd
  conv at hb => lhs; whnf
  subst hb
  generalize hsc : fdScope (stAt 37) = sc at F R' N ⊢
  conv at hsc => lhs; whnf
  subst hsc
  generalize hnm : fdName (stAt 37) = nm at F R' N ⊢
  repeat (walk_at "go1")
  (refine ret _ _ _ (endSub (by assumption) (by walk_at "sub")) (Fm.keepB (by assumption)) (fun g hg => ?_); exact ⟨_, _, rfl, Vec.off hg (by assumption) (by walk_at "sub") (by walk_at "mem") (by walk_at "mem") (by assumption) (by assumption) rfl, ⟨_, news_off hg (by assumption) (by walk_at "sub") (by walk_at "mem") (fixed_seq rfl)⟩⟩)
theorem s_character (w : World) (B : Heap) (l : Addr) (vs : List Value) (hz : vs.length ≤ 1000) : Spec w B 2 (.ref 276) [.ref l] (fun h => Ls h l vs) (fun h r => ∃ x i, r = .ref x ∧ Vec h x "character" i .none ∧ Ls h i vs) := by
  intro A s Q E R G hB hl ret
  have hz2 : vs.length ≤ 1000000 := by omega
  refine enter0 38 (binds := [("items", .ref l)]) R G hB ⟨_, by simp only [tblS]; repeat (first | exact List.Mem.head _ | refine List.Mem.tail _ ?_)⟩ (fun _ _ => rfl) rfl rfl rfl fun cd L h₁ F N R' => ?_
  generalize hb : fdBody (stAt 38) = bd
  conv at hb => lhs; whnf
  subst hb
  generalize hsc : fdScope (stAt 38) = sc at F R' N ⊢
  conv at hsc => lhs; whnf
  subst hsc
  generalize hnm : fdName (stAt 38) = nm at F R' N ⊢
  repeat (walk_at "go1")
  (refine ret _ _ _ (endSub (by assumption) (by walk_at "sub")) (Fm.keepB (by assumption)) (fun g hg => ?_); exact ⟨_, _, rfl, Vec.off hg (by assumption) (by walk_at "sub") (by walk_at "mem") (by walk_at "mem") (by assumption) (by assumption) rfl, ⟨_, news_off hg (by assumption) (by walk_at "sub") (by walk_at "mem") (fixed_seq rfl)⟩⟩)
/-- the attributes of a Vector -/
def At (w : World) (h : Heap) (a : Value) (kvs : List (Str × Value)) : Prop := (a = .none ∧ kvs = []) ∨ ∃ d, a = .ref d ∧ Dct w h d kvs
theorem s_get_attr (w : World) (B : Heap) (x : Addr) (k : Str) (i : Addr) (a : Value) (kvs : List (Str × Value)) (n : Str) (t : Tok) : Spec w B 1 (.ref 304) [.ref x, .str n t] (fun h => Vec h x k i a ∧ At w h a kvs) (fun _ r => r = (valueAt kvs n).getD .none) := by
  rintro A s Q E R G hB ⟨hv, ⟨rfl, rfl⟩ | ⟨d, rfl, hd⟩⟩ ret
  · refine enter0 43 (binds := [("v", .ref x), ("name", .str n t)]) R G hB ⟨_, by simp only [tblS]; repeat (first | exact List.Mem.head _ | refine List.Mem.tail _ ?_)⟩ (fun _ _ => rfl) rfl rfl rfl fun cd L h₁ F N R' => ?_
    generalize hb : fdBody (stAt 43) = bd
    conv at hb => lhs; whnf
    subst hb
    generalize hsc : fdScope (stAt 43) = sc at F R' N ⊢
    conv at hsc => lhs; whnf
    subst hsc
    generalize hnm : fdName (stAt 43) = nm at F R' N ⊢
    repeat (walk_at "go1")
    (refine ret _ _ _ (endSub (by assumption) (by walk_at "sub")) (Fm.keepB (by assumption)) (fun g hg => ?_); exact rfl)
  · refine enter0 43 (binds := [("v", .ref x), ("name", .str n t)]) R G hB ⟨_, by simp only [tblS]; repeat (first | exact List.Mem.head _ | refine List.Mem.tail _ ?_)⟩ (fun _ _ => rfl) rfl rfl rfl fun cd L h₁ F N R' => ?_
    generalize hb : fdBody (stAt 43) = bd
    conv at hb => lhs; whnf
    subst hb
    generalize hsc : fdScope (stAt 43) = sc at F R' N ⊢
    conv at hsc => lhs; whnf
    subst hsc
    generalize hnm : fdName (stAt 43) = nm at F R' N ⊢
    repeat (walk_at "go1")
    (refine ret _ _ _ (endSub (by assumption) (by walk_at "sub")) (Fm.keepB (by assumption)) (fun g hg => ?_); exact rfl)
/-- the classes -/
def Cls (w : World) (h : Heap) (kvs : List (Str × Value)) (cs : List Value) : Prop := (valueAt kvs "class" = none ∧ cs = []) ∨ ∃ y k i a, valueAt kvs "class" = some (.ref y) ∧ Vec h y k i a ∧ Ls h i cs
theorem At.up {w : World} {h h' : Heap} {a : Value} {kvs : List (Str × Value)} (x : At w h a kvs) (s : Sub h h') : At w h' a kvs := x.imp id fun ⟨d, e, y⟩ => ⟨d, e, y.up s⟩
theorem s_class_attr (w : World) (B : Heap) (x : Addr) (k : Str) (i : Addr) (a : Value) (kvs : List (Str × Value)) (cs : List Value) (hz : cs.length ≤ 1000) : Spec w B 2 (.ref 347) [.ref x] (fun h => Vec h x k i a ∧ At w h a kvs ∧ Cls w h kvs cs) (fun h r => ∃ D, r = .ref D ∧ Ls h D cs) := by
  have hz2 : cs.length ≤ 1000000 := by omega
  rintro A s Q E R G hB ⟨hv, ha, ⟨hc, rfl⟩ | ⟨y, k2, i2, a2, hc, hv2, hl⟩⟩ ret
  · refine enter0 50 (binds := [("v", .ref x)]) R G hB ⟨_, by simp only [tblS]; repeat (first | exact List.Mem.head _ | refine List.Mem.tail _ ?_)⟩ (fun _ _ => rfl) rfl rfl rfl fun cd L h₁ F N R' => ?_
    generalize hb : fdBody (stAt 50) = bd
    conv at hb => lhs; whnf
    subst hb
    generalize hsc : fdScope (stAt 50) = sc at F R' N ⊢
    conv at hsc => lhs; whnf
    subst hsc
    generalize hnm : fdName (stAt 50) = nm at F R' N ⊢
    repeat (first | ((with_reducible refine g_call ?_); first | ((refine r_spec (s_get_attr _ _ _ _ _ _ _ _ _) (Room.le (by assumption) (by decide)) (by assumption) (by assumption) (by assumption) (by exact ⟨by walk_at "vec", At.up (by assumption) (endSub (by assumption) (by walk_at "sub"))⟩) ?_); intro v h' hb' tk' F' N' K' P'; (have e1 := P' _ Off.refl); (simp only [hc, Option.getD_some, Option.getD_none] at e1); subst e1)) | (walk_at "go1"))
    (refine ret _ _ _ (endSub (by assumption) (by walk_at "sub")) (Fm.keepB (by assumption)) (fun g hg => ?_); exact ⟨_, rfl, _, news_off hg (by assumption) (by walk_at "sub") (by walk_at "mem") (fixed_seq rfl)⟩)
  · refine enter0 50 (binds := [("v", .ref x)]) R G hB ⟨_, by simp only [tblS]; repeat (first | exact List.Mem.head _ | refine List.Mem.tail _ ?_)⟩ (fun _ _ => rfl) rfl rfl rfl fun cd L h₁ F N R' => ?_
    generalize hb : fdBody (stAt 50) = bd
    conv at hb => lhs; whnf
    subst hb
    generalize hsc : fdScope (stAt 50) = sc at F R' N ⊢
    conv at hsc => lhs; whnf
    subst hsc
    generalize hnm : fdName (stAt 50) = nm at F R' N ⊢
    repeat (first | ((with_reducible refine g_call ?_); first | ((refine r_spec (s_get_attr _ _ _ _ _ _ _ _ _) (Room.le (by assumption) (by decide)) (by assumption) (by assumption) (by assumption) (by exact ⟨by walk_at "vec", At.up (by assumption) (endSub (by assumption) (by walk_at "sub"))⟩) ?_); intro v h' hb' tk' F' N' K' P'; (have e1 := P' _ Off.refl); (simp only [hc, Option.getD_some, Option.getD_none] at e1); subst e1)) | (walk_at "go1"))
    (refine ret _ _ _ (endSub (by assumption) (by walk_at "sub")) (Fm.keepB (by assumption)) (fun g hg => ?_); exact ⟨_, rfl, _, news_off hg (by assumption) (by walk_at "sub") (by walk_at "mem") (fixed_seq rfl)⟩)
end -- E1
section
open PySem PySem.W PyProof.Rows PySem.Calls
set_option maxRecDepth 100000
set_option maxHeartbeats 1000000
theorem Cls.up {w : World} {h h' : Heap} {kvs : List (Str × Value)} {cs : List Value} (x : Cls w h kvs cs) (s : Sub h h') : Cls w h' kvs cs := x.imp id fun ⟨y, k, i, a, e, v, l⟩ => ⟨y, k, i, a, e, v.up s, l.up s⟩
/-- no factor: its class says nothing of it -/
def NoFac (w : World) (h : Heap) (kvs : List (Str × Value)) : Prop := ∃ cs ys, Cls w h kvs cs ∧ StrsAre cs ys ∧ (ys.any (· == "factor")) = false ∧ cs.length ≤ 1000
theorem NoFac.up {w : World} {h h' : Heap} {kvs : List (Str × Value)} (x : NoFac w h kvs) (s : Sub h h') : NoFac w h' kvs := let ⟨cs, ys, a, b⟩ := x; ⟨cs, ys, a.up s, b⟩
theorem s_is_factor (w : World) (B : Heap) (x : Addr) (i : Addr) (a : Value) (kvs : List (Str × Value)) : Spec w B 3 (.ref 522) [.ref x] (fun h => Vec h x "integer" i a ∧ At w h a kvs ∧ NoFac w h kvs) (fun h r => r = .bool false) := by
  rintro A s Q E R G hB ⟨hv, ha, cs, ys, hc, hs, hf, hz⟩ ret
  refine enter0 79 (binds := [("v", .ref x)]) R G hB ⟨_, by simp only [tblS]; repeat (first | exact List.Mem.head _ | refine List.Mem.tail _ ?_)⟩ (fun _ _ => rfl) rfl rfl rfl fun cd L h₁ F N R' => ?_
  generalize hb : fdBody (stAt 79) = bd
  conv at hb => lhs; whnf
  subst hb
  generalize hsc : fdScope (stAt 79) = sc at F R' N ⊢
  conv at hsc => lhs; whnf
  subst hsc
  generalize hnm : fdName (stAt 79) = nm at F R' N ⊢
  repeat (first | ((with_reducible refine g_call ?_); first | ((refine r_spec (s_class_attr _ _ _ _ _ _ _ _ (by assumption)) (Room.le (by assumption) (by decide)) (by assumption) (by assumption) (by assumption) (by exact ⟨by walk_at "vec", At.up (by assumption) (endSub (by assumption) (by walk_at "sub")), Cls.up (by assumption) (endSub (by assumption) (by walk_at "sub"))⟩) ?_); intro v h' hb' tk' F' N' K' P'; obtain ⟨D, rfl, hD⟩ := P' _ Off.refl)) | (walk_at "go1"))
  (refine ret _ _ _ (endSub (by assumption) (by walk_at "sub")) (Fm.keepB (by assumption)) (fun g hg => ?_); exact (by rw [hf]))
theorem s_is_factor_c (w : World) (B : Heap) (x : Addr) (i : Addr) (a : Value) : Spec w B 3 (.ref 522) [.ref x] (fun h => Vec h x "character" i a) (fun h r => r = .bool false) := by
  rintro A s Q E R G hB hv ret
  refine enter0 79 (binds := [("v", .ref x)]) R G hB ⟨_, by simp only [tblS]; repeat (first | exact List.Mem.head _ | refine List.Mem.tail _ ?_)⟩ (fun _ _ => rfl) rfl rfl rfl fun cd L h₁ F N R' => ?_
  generalize hb : fdBody (stAt 79) = bd
  conv at hb => lhs; whnf
  subst hb
  generalize hsc : fdScope (stAt 79) = sc at F R' N ⊢
  conv at hsc => lhs; whnf
  subst hsc
  generalize hnm : fdName (stAt 79) = nm at F R' N ⊢
  repeat (first | ((with_reducible refine g_call ?_); first | ((refine r_spec (s_class_attr _ _ _ _ _ _ _ _ (by assumption)) (Room.le (by assumption) (by decide)) (by assumption) (by assumption) (by assumption) (by exact ⟨by walk_at "vec", At.up (by assumption) (endSub (by assumption) (by walk_at "sub")), Cls.up (by assumption) (endSub (by assumption) (by walk_at "sub"))⟩) ?_); intro v h' hb' tk' F' N' K' P'; obtain ⟨D, rfl, hD⟩ := P' _ Off.refl)) | (walk_at "go1"))
  (refine ret _ _ _ (endSub (by assumption) (by walk_at "sub")) (Fm.keepB (by assumption)) (fun g hg => ?_); exact rfl)
/-- a data frame -/
def FrameD (w : World) (h : Heap) (d : Addr) (nms : List Value) (n : Nat) : Prop := ∃ nv ni na cv ci ca ct rv ri ra rows, Dct w h d [("names", .ref nv), ("class", .ref cv), ("row.names", .ref rv)] ∧ Vec h nv "character" ni na ∧ Ls h ni nms ∧ Vec h cv "character" ci ca ∧ Ls h ci [.str "data.frame" ct] ∧
    Vec h rv "integer" ri ra ∧ Ls h ri rows ∧ CarriedAll rows (upto n) ∧ rows.length = n
structure Frame (w : World) (h : Heap) (x i : Addr) (cols nms : List Value) (n : Nat) : Prop where
  a : ∃ d, Vec h x "list" i (.ref d) ∧ FrameD w h d nms n
  l : Ls h i cols
theorem FrameD.up {w : World} {h h' : Heap} {d : Addr} {nms : List Value} {n : Nat} (x : FrameD w h d nms n) (s : Sub h h') : FrameD w h' d nms n := by
  obtain ⟨nv, ni, na, cv, ci, ca, ct, rv, ri, ra, rows, x1, x2, x3, x4, x5, x6, x7, x8⟩ := x
  exact ⟨nv, ni, na, cv, ci, ca, ct, rv, ri, ra, rows, x1.up s, x2.up s, x3.up s, x4.up s, x5.up s, x6.up s, x7.up s, x8⟩
theorem Frame.up {w : World} {h h' : Heap} {x i : Addr} {cols nms : List Value} {n : Nat} (f : Frame w h x i cols nms n) (s : Sub h h') : Frame w h' x i cols nms n :=
  ⟨let ⟨d, v, fd⟩ := f.a; ⟨d, v.up s, fd.up s⟩, f.l.up s⟩
theorem s_dim_of (w : World) (B : Heap) (x i : Addr) (cols nms : List Value) (n : Nat) : Spec w B 2 (.ref 335) [.ref x] (fun h => Frame w h x i cols nms n) (fun h r => r = .none) := by
  rintro A s Q E R G hB ⟨⟨d, hv, nv, ni, na, cv, ci, ca, ct, rv, ri, ra, rows, hd, h2, h3, h4, h5, h6, h7, h8, h9⟩, hl⟩ ret
  refine enter0 48 (binds := [("v", .ref x)]) R G hB ⟨_, by simp only [tblS]; repeat (first | exact List.Mem.head _ | refine List.Mem.tail _ ?_)⟩ (fun _ _ => rfl) rfl rfl rfl fun cd L h₁ F N R' => ?_
  generalize hb : fdBody (stAt 48) = bd
  conv at hb => lhs; whnf
  subst hb
  generalize hsc : fdScope (stAt 48) = sc at F R' N ⊢
  conv at hsc => lhs; whnf
  subst hsc
  generalize hnm : fdName (stAt 48) = nm at F R' N ⊢
  repeat (first | ((with_reducible refine g_call ?_); first | ((refine r_spec (s_get_attr _ _ _ _ _ _ _ _ _) (Room.le (by assumption) (by decide)) (by assumption) (by assumption) (by assumption) (by exact ⟨by walk_at "vec", .inr ⟨_, rfl, by walk_at "dct"⟩⟩) ?_); intro v h' hb' tk' F' N' K' P'; (have e1 := P' _ Off.refl); (conv at e1 => rhs; whnf); subst e1) | ((refine r_spec (s_class_attr _ _ _ _ _ _ _ _ (by assumption)) (Room.le (by assumption) (by decide)) (by assumption) (by assumption) (by assumption) (by exact ⟨by walk_at "vec", At.up (by assumption) (endSub (by assumption) (by walk_at "sub")), Cls.up (by assumption) (endSub (by assumption) (by walk_at "sub"))⟩) ?_); intro v h' hb' tk' F' N' K' P'; obtain ⟨D, rfl, hD⟩ := P' _ Off.refl)) | (walk_at "go1"))
  (refine ret _ _ _ (endSub (by assumption) (by walk_at "sub")) (Fm.keepB (by assumption)) (fun g hg => ?_); exact rfl)
theorem s_names_of (w : World) (B : Heap) (x i : Addr) (cols nms : List Value) (n : Nat) (hz : nms.length ≤ 1000) : Spec w B 3 (.ref 328) [.ref x] (fun h => Frame w h x i cols nms n) (fun h r => ∃ D, r = .ref D ∧ Ls h D nms) := by
  have hz2 : nms.length ≤ 1000000 := by omega
  rintro A s Q E R G hB hfr ret
  have hfr' := hfr
  obtain ⟨⟨d, hv, nv, ni, na, cv, ci, ca, ct, rv, ri, ra, rows, hd, h2, h3, h4, h5, h6, h7, h8, h9⟩, hl⟩ := hfr'
  refine enter0 47 (binds := [("v", .ref x)]) R G hB ⟨_, by simp only [tblS]; repeat (first | exact List.Mem.head _ | refine List.Mem.tail _ ?_)⟩ (fun _ _ => rfl) rfl rfl rfl fun cd L h₁ F N R' => ?_
  generalize hb : fdBody (stAt 47) = bd
  conv at hb => lhs; whnf
  subst hb
  generalize hsc : fdScope (stAt 47) = sc at F R' N ⊢
  conv at hsc => lhs; whnf
  subst hsc
  generalize hnm : fdName (stAt 47) = nm at F R' N ⊢
  repeat (first | ((with_reducible refine g_call ?_); first | ((refine r_spec (s_dim_of _ _ _ _ _ _ _) (Room.le (by assumption) (by decide)) (by assumption) (by assumption) (by assumption) (by exact Frame.up (by assumption) (endSub (by assumption) (by walk_at "sub"))) ?_); intro v h' hb' tk' F' N' K' P'; obtain rfl := P' _ Off.refl) | ((refine r_spec (s_get_attr _ _ _ _ _ _ _ _ _) (Room.le (by assumption) (by decide)) (by assumption) (by assumption) (by assumption) (by exact ⟨by walk_at "vec", .inr ⟨_, rfl, by walk_at "dct"⟩⟩) ?_); intro v h' hb' tk' F' N' K' P'; (have e1 := P' _ Off.refl); (conv at e1 => rhs; whnf); subst e1) | ((refine r_spec (s_class_attr _ _ _ _ _ _ _ _ (by assumption)) (Room.le (by assumption) (by decide)) (by assumption) (by assumption) (by assumption) (by exact ⟨by walk_at "vec", At.up (by assumption) (endSub (by assumption) (by walk_at "sub")), Cls.up (by assumption) (endSub (by assumption) (by walk_at "sub"))⟩) ?_); intro v h' hb' tk' F' N' K' P'; obtain ⟨D, rfl, hD⟩ := P' _ Off.refl)) | (walk_at "go1"))
  (refine ret _ _ _ (endSub (by assumption) (by walk_at "sub")) (Fm.keepB (by assumption)) (fun g hg => ?_); exact ⟨_, rfl, _, news_off hg (by assumption) (by walk_at "sub") (by walk_at "mem") (fixed_seq rfl)⟩)
theorem s_frame_rows (w : World) (B : Heap) (x i : Addr) (cols nms : List Value) (n : Nat) (hz : n ≤ 1000) : Spec w B 1 (.ref 534) [.ref x] (fun h => Frame w h x i cols nms n) (fun h r => ∃ t, r = .int n t) := by
  rintro A s Q E R G hB ⟨⟨d, hv, nv, ni, na, cv, ci, ca, ct, rv, ri, ra, rows, hd, h2, h3, h4, h5, h6, h7, h8, h9⟩, hl⟩ ret
  have hz2 : rows.length ≤ 1000000 := by omega
  refine enter0 81 (binds := [("df", .ref x)]) R G hB ⟨_, by simp only [tblS]; repeat (first | exact List.Mem.head _ | refine List.Mem.tail _ ?_)⟩ (fun _ _ => rfl) rfl rfl rfl fun cd L h₁ F N R' => ?_
  generalize hb : fdBody (stAt 81) = bd
  conv at hb => lhs; whnf
  subst hb
  generalize hsc : fdScope (stAt 81) = sc at F R' N ⊢
  conv at hsc => lhs; whnf
  subst hsc
  generalize hnm : fdName (stAt 81) = nm at F R' N ⊢
  repeat (first | ((with_reducible refine g_call ?_); first | ((refine r_spec (s_dim_of _ _ _ _ _ _ _) (Room.le (by assumption) (by decide)) (by assumption) (by assumption) (by assumption) (by exact Frame.up (by assumption) (endSub (by assumption) (by walk_at "sub"))) ?_); intro v h' hb' tk' F' N' K' P'; obtain rfl := P' _ Off.refl) | ((refine r_spec (s_get_attr _ _ _ _ _ _ _ _ _) (Room.le (by assumption) (by decide)) (by assumption) (by assumption) (by assumption) (by exact ⟨by walk_at "vec", .inr ⟨_, rfl, by walk_at "dct"⟩⟩) ?_); intro v h' hb' tk' F' N' K' P'; (have e1 := P' _ Off.refl); (conv at e1 => rhs; whnf); subst e1) | ((refine r_spec (s_class_attr _ _ _ _ _ _ _ _ (by assumption)) (Room.le (by assumption) (by decide)) (by assumption) (by assumption) (by assumption) (by exact ⟨by walk_at "vec", At.up (by assumption) (endSub (by assumption) (by walk_at "sub")), Cls.up (by assumption) (endSub (by assumption) (by walk_at "sub"))⟩) ?_); intro v h' hb' tk' F' N' K' P'; obtain ⟨D, rfl, hD⟩ := P' _ Off.refl)) | (walk_at "go1"))
  (refine ret _ _ _ (endSub (by assumption) (by walk_at "sub")) (Fm.keepB (by assumption)) (fun g hg => ?_); exact ⟨_, by rw [h9]⟩)
theorem s_has_plain (w : World) (B : Heap) (x i : Addr) (cols nms : List Value) (n : Nat) (hz : n ≤ 1000) : Spec w B 1 (.ref 553) [.ref x] (fun h => Frame w h x i cols nms n) (fun h r => r = .bool true) := by
  rintro A s Q E R G hB ⟨⟨d, hv, nv, ni, na, cv, ci, ca, ct, rv, ri, ra, rows, hd, h2, h3, h4, h5, h6, h7, h8, h9⟩, hl⟩ ret
  have hz2 : rows.length ≤ 1000000 := by omega
  subst h9
  refine enter0 84 (binds := [("df", .ref x)]) R G hB ⟨_, by simp only [tblS]; repeat (first | exact List.Mem.head _ | refine List.Mem.tail _ ?_)⟩ (fun _ _ => rfl) rfl rfl rfl fun cd L h₁ F N R' => ?_
  generalize hb : fdBody (stAt 84) = bd
  conv at hb => lhs; whnf
  subst hb
  generalize hsc : fdScope (stAt 84) = sc at F R' N ⊢
  conv at hsc => lhs; whnf
  subst hsc
  generalize hnm : fdName (stAt 84) = nm at F R' N ⊢
  repeat (first | ((with_reducible refine g_call ?_); first | ((refine r_spec (s_dim_of _ _ _ _ _ _ _) (Room.le (by assumption) (by decide)) (by assumption) (by assumption) (by assumption) (by exact Frame.up (by assumption) (endSub (by assumption) (by walk_at "sub"))) ?_); intro v h' hb' tk' F' N' K' P'; obtain rfl := P' _ Off.refl) | ((refine r_spec (s_get_attr _ _ _ _ _ _ _ _ _) (Room.le (by assumption) (by decide)) (by assumption) (by assumption) (by assumption) (by exact ⟨by walk_at "vec", .inr ⟨_, rfl, by walk_at "dct"⟩⟩) ?_); intro v h' hb' tk' F' N' K' P'; (have e1 := P' _ Off.refl); (conv at e1 => rhs; whnf); subst e1) | ((refine r_spec (s_class_attr _ _ _ _ _ _ _ _ (by assumption)) (Room.le (by assumption) (by decide)) (by assumption) (by assumption) (by assumption) (by exact ⟨by walk_at "vec", At.up (by assumption) (endSub (by assumption) (by walk_at "sub")), Cls.up (by assumption) (endSub (by assumption) (by walk_at "sub"))⟩) ?_); intro v h' hb' tk' F' N' K' P'; obtain ⟨D, rfl, hD⟩ := P' _ Off.refl)) | (walk_at "go1"))
  (refine ret _ _ _ (endSub (by assumption) (by walk_at "sub")) (Fm.keepB (by assumption)) (fun g hg => ?_); exact rfl)
theorem s_column_names (w : World) (B : Heap) (x i : Addr) (cols nms : List Value) (n : Nat) (hz : nms.length ≤ 1000) (hs : ∀ y ∈ nms, ∃ s t, y = .str s t) : Spec w B 4 (.ref 539) [.ref x] (fun h => Frame w h x i cols nms n) (fun h r => ∃ D, r = .ref D ∧ Ls h D nms) := by
  rintro A s Q E R G hB hfr ret
  refine enter0 82 (binds := [("df", .ref x)]) R G hB ⟨_, by simp only [tblS]; repeat (first | exact List.Mem.head _ | refine List.Mem.tail _ ?_)⟩ (fun _ _ => rfl) rfl rfl rfl fun cd L h₁ F N R' => ?_
  generalize hb : fdBody (stAt 82) = bd
  conv at hb => lhs; whnf
  subst hb
  generalize hsc : fdScope (stAt 82) = sc at F R' N ⊢
  conv at hsc => lhs; whnf
  subst hsc
  generalize hnm : fdName (stAt 82) = nm at F R' N ⊢
  repeat (first | ((with_reducible refine g_call ?_); first | ((refine r_spec (s_names_of _ _ _ _ _ _ _ (by assumption)) (Room.le (by assumption) (by decide)) (by assumption) (by assumption) (by assumption) (by exact Frame.up (by assumption) (endSub (by assumption) (by walk_at "sub"))) ?_); intro v h' hb' tk' F' N' K' P'; obtain ⟨Dn, rfl, hDn⟩ := P' _ Off.refl) | ((refine r_spec (s_dim_of _ _ _ _ _ _ _) (Room.le (by assumption) (by decide)) (by assumption) (by assumption) (by assumption) (by exact Frame.up (by assumption) (endSub (by assumption) (by walk_at "sub"))) ?_); intro v h' hb' tk' F' N' K' P'; obtain rfl := P' _ Off.refl) | ((refine r_spec (s_get_attr _ _ _ _ _ _ _ _ _) (Room.le (by assumption) (by decide)) (by assumption) (by assumption) (by assumption) (by exact ⟨by walk_at "vec", .inr ⟨_, rfl, by walk_at "dct"⟩⟩) ?_); intro v h' hb' tk' F' N' K' P'; (have e1 := P' _ Off.refl); (conv at e1 => rhs; whnf); subst e1) | ((refine r_spec (s_class_attr _ _ _ _ _ _ _ _ (by assumption)) (Room.le (by assumption) (by decide)) (by assumption) (by assumption) (by assumption) (by exact ⟨by walk_at "vec", At.up (by assumption) (endSub (by assumption) (by walk_at "sub")), Cls.up (by assumption) (endSub (by assumption) (by walk_at "sub"))⟩) ?_); intro v h' hb' tk' F' N' K' P'; obtain ⟨D, rfl, hD⟩ := P' _ Off.refl)) | (walk_at "go1"))
  rename_i I oI h1 X F1 N1
  refine comp_run0 (fun _ i y => nms[i]? = some y) R'.hand F1 N1 X (by omega) rfl rfl rfl (by decide) ?_ ?_
  · intro i v C h tk m' hi hP F3 N3 kW hx
    obtain ⟨s', t', rfl⟩ := hs v (List.mem_of_getElem? hP)
    repeat (first | ((with_reducible refine g_call ?_); first | ((refine r_spec (s_names_of _ _ _ _ _ _ _ (by assumption)) (Room.le (by assumption) (by decide)) (by assumption) (by assumption) (by assumption) (by exact Frame.up (by assumption) (endSub (by assumption) (by walk_at "sub"))) ?_); intro v h' hb' tk' F' N' K' P'; obtain ⟨Dn, rfl, hDn⟩ := P' _ Off.refl) | ((refine r_spec (s_dim_of _ _ _ _ _ _ _) (Room.le (by assumption) (by decide)) (by assumption) (by assumption) (by assumption) (by exact Frame.up (by assumption) (endSub (by assumption) (by walk_at "sub"))) ?_); intro v h' hb' tk' F' N' K' P'; obtain rfl := P' _ Off.refl) | ((refine r_spec (s_get_attr _ _ _ _ _ _ _ _ _) (Room.le (by assumption) (by decide)) (by assumption) (by assumption) (by assumption) (by exact ⟨by walk_at "vec", .inr ⟨_, rfl, by walk_at "dct"⟩⟩) ?_); intro v h' hb' tk' F' N' K' P'; (have e1 := P' _ Off.refl); (conv at e1 => rhs; whnf); subst e1) | ((refine r_spec (s_class_attr _ _ _ _ _ _ _ _ (by assumption)) (Room.le (by assumption) (by decide)) (by assumption) (by assumption) (by assumption) (by exact ⟨by walk_at "vec", At.up (by assumption) (endSub (by assumption) (by walk_at "sub")), Cls.up (by assumption) (endSub (by assumption) (by walk_at "sub"))⟩) ?_); intro v h' hb' tk' F' N' K' P'; obtain ⟨D, rfl, hD⟩ := P' _ Off.refl)) | (walk_at "go1"))
    (refine ⟨_, _, _, rfl, by assumption, by walk_at "sub", fun g hg => ?_⟩; exact hP)
  · intro C oC D h2 tk2 hb2 ys z F2 N2 hC fC k2 hl hy
    have e : ys = nms := List.ext_getElem? fun i => by
      rcases Nat.lt_or_ge i ys.length with q | q
      · have := hy hb2 Off.refl i _ (List.getElem?_eq_getElem q)
        rw [this, List.getElem?_eq_getElem q]
      · rw [List.getElem?_eq_none q, List.getElem?_eq_none (by omega)]
    subst e
    repeat (first | ((with_reducible refine g_call ?_); first | ((refine r_spec (s_names_of _ _ _ _ _ _ _ (by assumption)) (Room.le (by assumption) (by decide)) (by assumption) (by assumption) (by assumption) (by exact Frame.up (by assumption) (endSub (by assumption) (by walk_at "sub"))) ?_); intro v h' hb' tk' F' N' K' P'; obtain ⟨Dn, rfl, hDn⟩ := P' _ Off.refl) | ((refine r_spec (s_dim_of _ _ _ _ _ _ _) (Room.le (by assumption) (by decide)) (by assumption) (by assumption) (by assumption) (by exact Frame.up (by assumption) (endSub (by assumption) (by walk_at "sub"))) ?_); intro v h' hb' tk' F' N' K' P'; obtain rfl := P' _ Off.refl) | ((refine r_spec (s_get_attr _ _ _ _ _ _ _ _ _) (Room.le (by assumption) (by decide)) (by assumption) (by assumption) (by assumption) (by exact ⟨by walk_at "vec", .inr ⟨_, rfl, by walk_at "dct"⟩⟩) ?_); intro v h' hb' tk' F' N' K' P'; (have e1 := P' _ Off.refl); (conv at e1 => rhs; whnf); subst e1) | ((refine r_spec (s_class_attr _ _ _ _ _ _ _ _ (by assumption)) (Room.le (by assumption) (by decide)) (by assumption) (by assumption) (by assumption) (by exact ⟨by walk_at "vec", At.up (by assumption) (endSub (by assumption) (by walk_at "sub")), Cls.up (by assumption) (endSub (by assumption) (by walk_at "sub"))⟩) ?_); intro v h' hb' tk' F' N' K' P'; obtain ⟨D, rfl, hD⟩ := P' _ Off.refl)) | (walk_at "go1"))
    (refine ret _ _ _ (endSub (by assumption) (by walk_at "sub")) (Fm.keepB (by assumption)) (fun g hg => ?_); exact ⟨_, rfl, _, news_off hg (by assumption) (by walk_at "sub") (by walk_at "mem") (fixed_seq rfl)⟩)
theorem s_is_lacking (w : World) (B : Heap) (v : Value) (o : Option Int) (t : Tok) (hv : (o = none ∧ v = .none) ∨ ∃ n t, o = some n ∧ v = .int n t) : Spec w B 1 (.ref 515) [.str "integer" t, v] (fun _ => True) (fun h r => r = .bool o.isNone) := by
  rintro A s Q E R G hB _ ret
  rcases hv with ⟨rfl, rfl⟩ | ⟨n, t1, rfl, rfl⟩
  · refine enter0 77 (binds := [("kind", .str "integer" t), ("item", .none)]) R G hB ⟨_, by simp only [tblS]; repeat (first | exact List.Mem.head _ | refine List.Mem.tail _ ?_)⟩ (fun _ _ => rfl) rfl rfl rfl fun cd L h₁ F N R' => ?_
    generalize hb : fdBody (stAt 77) = bd
    conv at hb => lhs; whnf
    subst hb
    generalize hsc : fdScope (stAt 77) = sc at F R' N ⊢
    conv at hsc => lhs; whnf
    subst hsc
    generalize hnm : fdName (stAt 77) = nm at F R' N ⊢
    repeat (first | ((with_reducible refine g_call ?_); first | ((refine r_spec (s_names_of _ _ _ _ _ _ _ (by assumption)) (Room.le (by assumption) (by decide)) (by assumption) (by assumption) (by assumption) (by exact Frame.up (by assumption) (endSub (by assumption) (by walk_at "sub"))) ?_); intro v h' hb' tk' F' N' K' P'; obtain ⟨Dn, rfl, hDn⟩ := P' _ Off.refl) | ((refine r_spec (s_dim_of _ _ _ _ _ _ _) (Room.le (by assumption) (by decide)) (by assumption) (by assumption) (by assumption) (by exact Frame.up (by assumption) (endSub (by assumption) (by walk_at "sub"))) ?_); intro v h' hb' tk' F' N' K' P'; obtain rfl := P' _ Off.refl) | ((refine r_spec (s_get_attr _ _ _ _ _ _ _ _ _) (Room.le (by assumption) (by decide)) (by assumption) (by assumption) (by assumption) (by exact ⟨by walk_at "vec", .inr ⟨_, rfl, by walk_at "dct"⟩⟩) ?_); intro v h' hb' tk' F' N' K' P'; (have e1 := P' _ Off.refl); (conv at e1 => rhs; whnf); subst e1) | ((refine r_spec (s_class_attr _ _ _ _ _ _ _ _ (by assumption)) (Room.le (by assumption) (by decide)) (by assumption) (by assumption) (by assumption) (by exact ⟨by walk_at "vec", At.up (by assumption) (endSub (by assumption) (by walk_at "sub")), Cls.up (by assumption) (endSub (by assumption) (by walk_at "sub"))⟩) ?_); intro v h' hb' tk' F' N' K' P'; obtain ⟨D, rfl, hD⟩ := P' _ Off.refl)) | (walk_at "go1"))
    (refine ret _ _ _ (endSub (by assumption) (by walk_at "sub")) (Fm.keepB (by assumption)) (fun g hg => ?_); exact rfl)
  · refine enter0 77 (binds := [("kind", .str "integer" t), ("item", .int n t1)]) R G hB ⟨_, by simp only [tblS]; repeat (first | exact List.Mem.head _ | refine List.Mem.tail _ ?_)⟩ (fun _ _ => rfl) rfl rfl rfl fun cd L h₁ F N R' => ?_
    generalize hb : fdBody (stAt 77) = bd
    conv at hb => lhs; whnf
    subst hb
    generalize hsc : fdScope (stAt 77) = sc at F R' N ⊢
    conv at hsc => lhs; whnf
    subst hsc
    generalize hnm : fdName (stAt 77) = nm at F R' N ⊢
    repeat (first | ((with_reducible refine g_call ?_); first | ((refine r_spec (s_names_of _ _ _ _ _ _ _ (by assumption)) (Room.le (by assumption) (by decide)) (by assumption) (by assumption) (by assumption) (by exact Frame.up (by assumption) (endSub (by assumption) (by walk_at "sub"))) ?_); intro v h' hb' tk' F' N' K' P'; obtain ⟨Dn, rfl, hDn⟩ := P' _ Off.refl) | ((refine r_spec (s_dim_of _ _ _ _ _ _ _) (Room.le (by assumption) (by decide)) (by assumption) (by assumption) (by assumption) (by exact Frame.up (by assumption) (endSub (by assumption) (by walk_at "sub"))) ?_); intro v h' hb' tk' F' N' K' P'; obtain rfl := P' _ Off.refl) | ((refine r_spec (s_get_attr _ _ _ _ _ _ _ _ _) (Room.le (by assumption) (by decide)) (by assumption) (by assumption) (by assumption) (by exact ⟨by walk_at "vec", .inr ⟨_, rfl, by walk_at "dct"⟩⟩) ?_); intro v h' hb' tk' F' N' K' P'; (have e1 := P' _ Off.refl); (conv at e1 => rhs; whnf); subst e1) | ((refine r_spec (s_class_attr _ _ _ _ _ _ _ _ (by assumption)) (Room.le (by assumption) (by decide)) (by assumption) (by assumption) (by assumption) (by exact ⟨by walk_at "vec", At.up (by assumption) (endSub (by assumption) (by walk_at "sub")), Cls.up (by assumption) (endSub (by assumption) (by walk_at "sub"))⟩) ?_); intro v h' hb' tk' F' N' K' P'; obtain ⟨D, rfl, hD⟩ := P' _ Off.refl)) | (walk_at "go1"))
    (refine ret _ _ _ (endSub (by assumption) (by walk_at "sub")) (Fm.keepB (by assumption)) (fun g hg => ?_); exact rfl)
end -- E2
section
open PySem PySem.W PyProof.Rows PySem.Calls
set_option maxRecDepth 100000
set_option maxHeartbeats 1000000
theorem s_kind_order (w : World) (B : Heap) (t : Tok) : Spec w B 1 (.ref 386) [.str "integer" t] (fun _ => True) (fun h r => ∃ t, r = .int 2 t) := by
  rintro A s Q E R G hB _ ret
  refine enter0 56 (binds := [("kind", .str "integer" t)]) R G hB ⟨_, by simp only [tblS]; repeat (first | exact List.Mem.head _ | refine List.Mem.tail _ ?_)⟩ (fun _ _ => rfl) rfl rfl rfl fun cd L h₁ F N R' => ?_
  generalize hb : fdBody (stAt 56) = bd
  conv at hb => lhs; whnf
  subst hb
  generalize hsc : fdScope (stAt 56) = sc at F R' N ⊢
  conv at hsc => lhs; whnf
  subst hsc
  generalize hnm : fdName (stAt 56) = nm at F R' N ⊢
  repeat (walk_at "go1")
  (refine ret _ _ _ (endSub (by assumption) (by walk_at "sub")) (Fm.keepB (by assumption)) (fun g hg => ?_); exact ⟨_, rfl⟩)
theorem s_label_text (w : World) (B : Heap) (v : Value) (t : Tok) (x : Str) (u : Tok) (hv : v = .str x u) : Spec w B 1 (.ref 311) [.str "character" t, v] (fun _ => True) (fun h r => r = v) := by
  subst hv
  rintro A s Q E R G hB _ ret
  refine enter0 44 (binds := [("kind", .str "character" t), ("item", .str x u)]) R G hB ⟨_, by simp only [tblS]; repeat (first | exact List.Mem.head _ | refine List.Mem.tail _ ?_)⟩ (fun _ _ => rfl) rfl rfl rfl fun cd L h₁ F N R' => ?_
  generalize hb : fdBody (stAt 44) = bd
  conv at hb => lhs; whnf
  subst hb
  generalize hsc : fdScope (stAt 44) = sc at F R' N ⊢
  conv at hsc => lhs; whnf
  subst hsc
  generalize hnm : fdName (stAt 44) = nm at F R' N ⊢
  repeat (walk_at "go1")
  (refine ret _ _ _ (endSub (by assumption) (by walk_at "sub")) (Fm.keepB (by assumption)) (fun g hg => ?_); exact rfl)
theorem s_common_kind (w : World) (B : Heap) (l : Addr) (t1 t2 : Tok) : Spec w B 2 (.ref 393) [.ref l] (fun h => Ls h l [.str "integer" t1, .str "integer" t2]) (fun h r => ∃ t, r = .str "integer" t) := by
  rintro A s Q E R G hB hl ret
  refine enter0 57 (binds := [("kinds", .ref l)]) R G hB ⟨_, by simp only [tblS]; repeat (first | exact List.Mem.head _ | refine List.Mem.tail _ ?_)⟩ (fun _ _ => rfl) rfl rfl rfl fun cd L h₁ F N R' => ?_
  generalize hb : fdBody (stAt 57) = bd
  conv at hb => lhs; whnf
  subst hb
  generalize hsc : fdScope (stAt 57) = sc at F R' N ⊢
  conv at hsc => lhs; whnf
  subst hsc
  generalize hnm : fdName (stAt 57) = nm at F R' N ⊢
  repeat (first | ((with_reducible refine g_call ?_); first | ((refine r_spec (s_kind_order _ _ _) (Room.le (by assumption) (by decide)) (by assumption) (by assumption) (by assumption) (by trivial) ?_); intro v h' hb' tk' F' N' K' P'; obtain ⟨t, rfl⟩ := P' _ Off.refl)) | (walk_at "go1"))
  (refine ret _ _ _ (endSub (by assumption) (by walk_at "sub")) (Fm.keepB (by assumption)) (fun g hg => ?_); exact ⟨_, rfl⟩)
theorem list_eq {ys zs : List Value} (hl : ys.length = zs.length) (h : ∀ (i : Nat) (y : Value), ys[i]? = some y → zs[i]? = some y) : ys = zs := List.ext_getElem? fun i => by
  rcases Nat.lt_or_ge i ys.length with q | q
  · rw [h i _ (List.getElem?_eq_getElem q), List.getElem?_eq_getElem q]
  · rw [List.getElem?_eq_none q, List.getElem?_eq_none (by omega)]
theorem s_label_texts (w : World) (B : Heap) (x i : Addr) (vs : List Value) (hz : vs.length ≤ 1000) (hs : ∀ y ∈ vs, ∃ s t, y = .str s t) : Spec w B 3 (.ref 323) [.ref x] (fun h => Vec h x "character" i .none ∧ Ls h i vs) (fun h r => ∃ D, r = .ref D ∧ Ls h D vs) := by
  rintro A s Q E R G hB ⟨hv, hl⟩ ret
  refine enterC 46 (binds := [("value", .ref x)]) (m := fun y => none) [("texts", 2), ("value", 1)] [none, some (.ref x)] R G hB ⟨_, by simp only [tblS]; repeat (first | exact List.Mem.head _ | refine List.Mem.tail _ ?_)⟩ (fun _ _ => rfl) (fun _ _ => rfl) rfl (fun _ => rfl) (by decide) (fun _ _ => rfl) (fun _ => rfl) (by decide) rfl fun cd L h₁ tk₁ cells F N hca hcd R' => ?_
  generalize hb : fdBody (stAt 46) = bd
  conv at hb => lhs; whnf
  subst hb
  generalize hsc : fdScope (stAt 46) = sc at F R' N ⊢
  conv at hsc => lhs; whnf
  subst hsc
  generalize hnm : fdName (stAt 46) = nm at F R' N ⊢
  obtain ⟨c2, c1, rfl, hc2, hc1⟩ := cells2 hca hcd
  repeat (first | ((with_reducible refine g_call ?_); first | ((refine r_spec (s_get_attr _ _ _ _ _ _ _ _ _) (Room.le (by assumption) (by decide)) (by assumption) (by assumption) (by assumption) (by exact ⟨by walk_at "vec", .inl ⟨rfl, rfl⟩⟩) ?_); intro v h' hb' tk' F' N' K' P'; (have e1 := P' _ Off.refl); (conv at e1 => rhs; whnf); subst e1) | ((refine r_spec (s_label_text _ _ _ _ _ _ rfl) (Room.le (by assumption) (by decide)) (by assumption) (by assumption) (by assumption) (by trivial) ?_); intro v h' hb' tk' F' N' K' P'; (have e2 := P' _ Off.refl); subst e2) | ((refine r_spec (s_kind_order _ _ _) (Room.le (by assumption) (by decide)) (by assumption) (by assumption) (by assumption) (by trivial) ?_); intro v h' hb' tk' F' N' K' P'; obtain ⟨t, rfl⟩ := P' _ Off.refl)) | (walk_at "go1"))
  rename_i I oI h1 X F1 N1
  refine comp_run0 (fun _ i y => vs[i]? = some y) R'.hand F1 N1 X (by omega) rfl rfl rfl (by decide) ?_ ?_
  · intro i v C h tk m' hi hP F3 N3 kW hx
    have kb := (base_turn F1 N1).trans kW
    obtain ⟨s', t', rfl⟩ := hs v (List.mem_of_getElem? hP)
    have hcell : CellAt (wide h C []) (L + 1) (.ref x) := (CellAt.turn N1 (by walk_at "mem") (by assumption)).up kW
    repeat (first | ((with_reducible refine g_call ?_); first | ((refine r_spec (s_get_attr _ _ _ _ _ _ _ _ _) (Room.le (by assumption) (by decide)) (by assumption) (by assumption) (by assumption) (by exact ⟨by walk_at "vec", .inl ⟨rfl, rfl⟩⟩) ?_); intro v h' hb' tk' F' N' K' P'; (have e1 := P' _ Off.refl); (conv at e1 => rhs; whnf); subst e1) | ((refine r_spec (s_label_text _ _ _ _ _ _ rfl) (Room.le (by assumption) (by decide)) (by assumption) (by assumption) (by assumption) (by trivial) ?_); intro v h' hb' tk' F' N' K' P'; (have e2 := P' _ Off.refl); subst e2) | ((refine r_spec (s_kind_order _ _ _) (Room.le (by assumption) (by decide)) (by assumption) (by assumption) (by assumption) (by trivial) ?_); intro v h' hb' tk' F' N' K' P'; obtain ⟨t, rfl⟩ := P' _ Off.refl)) | (walk_at "go1"))
    (refine ⟨_, _, _, rfl, by assumption, by walk_at "sub", fun g hg => ?_⟩; exact hP)
  · intro C oC D h2 tk2 hb2 ys z F2 N2 hC fC k2 hl hy
    obtain rfl : ys = vs := list_eq hl fun i y e => hy hb2 Off.refl i y e
    repeat (first | ((with_reducible refine g_call ?_); first | ((refine r_spec (s_get_attr _ _ _ _ _ _ _ _ _) (Room.le (by assumption) (by decide)) (by assumption) (by assumption) (by assumption) (by exact ⟨by walk_at "vec", .inl ⟨rfl, rfl⟩⟩) ?_); intro v h' hb' tk' F' N' K' P'; (have e1 := P' _ Off.refl); (conv at e1 => rhs; whnf); subst e1) | ((refine r_spec (s_label_text _ _ _ _ _ _ rfl) (Room.le (by assumption) (by decide)) (by assumption) (by assumption) (by assumption) (by trivial) ?_); intro v h' hb' tk' F' N' K' P'; (have e2 := P' _ Off.refl); subst e2) | ((refine r_spec (s_kind_order _ _ _) (Room.le (by assumption) (by decide)) (by assumption) (by assumption) (by assumption) (by trivial) ?_); intro v h' hb' tk' F' N' K' P'; obtain ⟨t, rfl⟩ := P' _ Off.refl)) | (walk_at "go1"))
    (refine ret _ _ _ (endSub (by assumption) (by walk_at "sub")) (Fm.keepB (by assumption)) (fun g hg => ?_); exact ⟨_, rfl, _, news_off hg (by assumption) (by walk_at "sub") (by walk_at "mem") (fixed_seq rfl)⟩)
theorem do_eq {w : World} {o : Obj} {a b : List (Str × Value)} (x : DO w o a) (e : a = b) : DO w o b := e ▸ x
/-- keys that a column keeps -/
abbrev Keeps1 (k : Str) : Prop := (!((["names", "dim", "dimnames"] : List Str).any (· == k))) = true
theorem s_kept0 (w : World) (B : Heap) (x : Addr) (i : Addr) : Spec w B 1 (.ref 560) [.ref x] (fun h => Vec h x "integer" i .none) (fun h r => r = .none) := by
  rintro A s Q E R G hB hv ret
  refine enter0 85 (binds := [("column", .ref x)]) R G hB ⟨_, by simp only [tblS]; repeat (first | exact List.Mem.head _ | refine List.Mem.tail _ ?_)⟩ (fun _ _ => rfl) rfl rfl rfl fun cd L h₁ F N R' => ?_
  generalize hb : fdBody (stAt 85) = bd
  conv at hb => lhs; whnf
  subst hb
  generalize hsc : fdScope (stAt 85) = sc at F R' N ⊢
  conv at hsc => lhs; whnf
  subst hsc
  generalize hnm : fdName (stAt 85) = nm at F R' N ⊢
  repeat (first | ((with_reducible refine g_call ?_); first | ((refine r_spec (s_get_attr _ _ _ _ _ _ _ _ _) (Room.le (by assumption) (by decide)) (by assumption) (by assumption) (by assumption) (by exact ⟨by walk_at "vec", .inl ⟨rfl, rfl⟩⟩) ?_); intro v h' hb' tk' F' N' K' P'; (have e1 := P' _ Off.refl); (conv at e1 => rhs; whnf); subst e1) | ((refine r_spec (s_label_text _ _ _ _ _ _ rfl) (Room.le (by assumption) (by decide)) (by assumption) (by assumption) (by assumption) (by trivial) ?_); intro v h' hb' tk' F' N' K' P'; (have e2 := P' _ Off.refl); subst e2) | ((refine r_spec (s_kind_order _ _ _) (Room.le (by assumption) (by decide)) (by assumption) (by assumption) (by assumption) (by trivial) ?_); intro v h' hb' tk' F' N' K' P'; obtain ⟨t, rfl⟩ := P' _ Off.refl)) | (walk_at "go1"))
  (refine ret _ _ _ (endSub (by assumption) (by walk_at "sub")) (Fm.keepB (by assumption)) (fun g hg => ?_); exact rfl)
theorem s_kept1 (w : World) (B : Heap) (x : Addr) (i d : Addr) (k1 : Str) (v1 : Value) (hk : Keeps1 k1) : Spec w B 1 (.ref 560) [.ref x] (fun h => Vec h x "integer" i (.ref d) ∧ Dct w h d [(k1, v1)]) (fun h r => ∃ d, r = .ref d ∧ Dct w h d [(k1, v1)]) := by
  have hva1 : valueAt [(k1, v1)] k1 = some v1 := by simp [valueAt]
  rintro A s Q E R G hB ⟨hv, hd⟩ ret
  refine enter0 85 (binds := [("column", .ref x)]) R G hB ⟨_, by simp only [tblS]; repeat (first | exact List.Mem.head _ | refine List.Mem.tail _ ?_)⟩ (fun _ _ => rfl) rfl rfl rfl fun cd L h₁ F N R' => ?_
  generalize hb : fdBody (stAt 85) = bd
  conv at hb => lhs; whnf
  subst hb
  generalize hsc : fdScope (stAt 85) = sc at F R' N ⊢
  conv at hsc => lhs; whnf
  subst hsc
  generalize hnm : fdName (stAt 85) = nm at F R' N ⊢
  repeat (first | ((with_reducible refine g_call ?_); first | ((refine r_spec (s_get_attr _ _ _ _ _ _ _ _ _) (Room.le (by assumption) (by decide)) (by assumption) (by assumption) (by assumption) (by exact ⟨by walk_at "vec", .inl ⟨rfl, rfl⟩⟩) ?_); intro v h' hb' tk' F' N' K' P'; (have e1 := P' _ Off.refl); (conv at e1 => rhs; whnf); subst e1) | ((refine r_spec (s_label_text _ _ _ _ _ _ rfl) (Room.le (by assumption) (by decide)) (by assumption) (by assumption) (by assumption) (by trivial) ?_); intro v h' hb' tk' F' N' K' P'; (have e2 := P' _ Off.refl); subst e2) | ((refine r_spec (s_kind_order _ _ _) (Room.le (by assumption) (by decide)) (by assumption) (by assumption) (by assumption) (by trivial) ?_); intro v h' hb' tk' F' N' K' P'; obtain ⟨t, rfl⟩ := P' _ Off.refl)) | (walk_at "go1"))
  have D2 := do_eq (w := w) (a := stored [] k1 v1) (b := [(k1, v1)]) (by assumption) rfl
  (refine ret _ _ _ (endSub (by assumption) (by walk_at "sub")) (Fm.keepB (by assumption)) (fun g hg => ?_); exact ⟨_, rfl, Dct.off hg (by assumption) (by walk_at "sub") (by walk_at "mem") D2 (by assumption) (Nat.le_of_ble_eq_true rfl)⟩)
theorem s_kept2 (w : World) (B : Heap) (x : Addr) (i d : Addr) (k1 k2 : Str) (v1 v2 : Value) (hk : Keeps1 k1) (hk2 : Keeps1 k2) (hn : k2 ≠ k1) : Spec w B 1 (.ref 560) [.ref x] (fun h => Vec h x "integer" i (.ref d) ∧ Dct w h d [(k1, v1), (k2, v2)]) (fun h r => ∃ d, r = .ref d ∧ Dct w h d [(k1, v1), (k2, v2)]) := by
  have hva : valueAt [(k1, v1), (k2, v2)] k2 = some v2 := by simp [valueAt, Ne.symm hn]
  have hva1 : valueAt [(k1, v1), (k2, v2)] k1 = some v1 := by simp [valueAt]
  rintro A s Q E R G hB ⟨hv, hd⟩ ret
  refine enter0 85 (binds := [("column", .ref x)]) R G hB ⟨_, by simp only [tblS]; repeat (first | exact List.Mem.head _ | refine List.Mem.tail _ ?_)⟩ (fun _ _ => rfl) rfl rfl rfl fun cd L h₁ F N R' => ?_
  generalize hb : fdBody (stAt 85) = bd
  conv at hb => lhs; whnf
  subst hb
  generalize hsc : fdScope (stAt 85) = sc at F R' N ⊢
  conv at hsc => lhs; whnf
  subst hsc
  generalize hnm : fdName (stAt 85) = nm at F R' N ⊢
  repeat (first | ((with_reducible refine g_call ?_); first | ((refine r_spec (s_get_attr _ _ _ _ _ _ _ _ _) (Room.le (by assumption) (by decide)) (by assumption) (by assumption) (by assumption) (by exact ⟨by walk_at "vec", .inl ⟨rfl, rfl⟩⟩) ?_); intro v h' hb' tk' F' N' K' P'; (have e1 := P' _ Off.refl); (conv at e1 => rhs; whnf); subst e1) | ((refine r_spec (s_label_text _ _ _ _ _ _ rfl) (Room.le (by assumption) (by decide)) (by assumption) (by assumption) (by assumption) (by trivial) ?_); intro v h' hb' tk' F' N' K' P'; (have e2 := P' _ Off.refl); subst e2) | ((refine r_spec (s_kind_order _ _ _) (Room.le (by assumption) (by decide)) (by assumption) (by assumption) (by assumption) (by trivial) ?_); intro v h' hb' tk' F' N' K' P'; obtain ⟨t, rfl⟩ := P' _ Off.refl)) | (walk_at "go1"))
  have hst : stored (stored [] k1 v1) k2 v2 = [(k1, v1), (k2, v2)] := by simp [stored, Ne.symm hn]
  have D2 := do_eq (w := w) (by assumption) hst
  repeat (first | ((with_reducible refine g_call ?_); first | ((refine r_spec (s_get_attr _ _ _ _ _ _ _ _ _) (Room.le (by assumption) (by decide)) (by assumption) (by assumption) (by assumption) (by exact ⟨by walk_at "vec", .inl ⟨rfl, rfl⟩⟩) ?_); intro v h' hb' tk' F' N' K' P'; (have e1 := P' _ Off.refl); (conv at e1 => rhs; whnf); subst e1) | ((refine r_spec (s_label_text _ _ _ _ _ _ rfl) (Room.le (by assumption) (by decide)) (by assumption) (by assumption) (by assumption) (by trivial) ?_); intro v h' hb' tk' F' N' K' P'; (have e2 := P' _ Off.refl); subst e2) | ((refine r_spec (s_kind_order _ _ _) (Room.le (by assumption) (by decide)) (by assumption) (by assumption) (by assumption) (by trivial) ?_); intro v h' hb' tk' F' N' K' P'; obtain ⟨t, rfl⟩ := P' _ Off.refl)) | (walk_at "go1"))
  (refine ret _ _ _ (endSub (by assumption) (by walk_at "sub")) (Fm.keepB (by assumption)) (fun g hg => ?_); exact ⟨_, rfl, Dct.off hg (by assumption) (by walk_at "sub") (by walk_at "mem") D2 (by assumption) (Nat.le_of_ble_eq_true rfl)⟩)
end -- E3
section
open PySem PySem.W PyProof.Rows PySem.Calls
set_option maxRecDepth 100000
set_option maxHeartbeats 1000000
theorem AtK.at_ {w : World} {h : Heap} {a : Value} {kvs : List (Str × Value)} (x : AtK w h a kvs) : At w h a kvs := x.imp id fun ⟨d, e, y, _⟩ => ⟨d, e, y⟩
theorem AtK.handed {w : World} {h : Heap} {a : Value} {kvs : List (Str × Value)} (x : AtK w h a kvs) : handedIn a = true := by
  rcases x with ⟨rfl, _⟩ | ⟨d, rfl, _⟩ <;> rfl
theorem s_kept (w : World) (B : Heap) (x : Addr) (i : Addr) (a : Value) (kvs : List (Str × Value)) : Spec w B 1 (.ref 560) [.ref x] (fun h => Vec h x "integer" i a ∧ AtK w h a kvs) (fun h r => AtK w h r kvs) := by
  rintro A s Q E R G hB ⟨hv, ⟨rfl, rfl⟩ | ⟨d, rfl, hd, ⟨k1, v1, rfl, hk⟩ | ⟨k1, v1, k2, v2, rfl, hk1, hk2, hn⟩⟩⟩ ret
  · exact s_kept0 w B x i A s Q E R G hB hv fun v h' tk' k1 k2 p => ret v h' tk' k1 k2 fun g hg => .inl ⟨p g hg, rfl⟩
  · exact s_kept1 w B x i d k1 v1 hk A s Q E R G hB ⟨hv, hd⟩ fun v h' tk' q1 q2 p => ret v h' tk' q1 q2 fun g hg => let ⟨d', e, y⟩ := p g hg; .inr ⟨d', e, y, .inl ⟨k1, v1, rfl, hk⟩⟩
  · exact s_kept2 w B x i d k1 k2 v1 v2 hk1 hk2 hn A s Q E R G hB ⟨hv, hd⟩ fun v h' tk' q1 q2 p => ret v h' tk' q1 q2 fun g hg => let ⟨d', e, y⟩ := p g hg; .inr ⟨d', e, y, .inr ⟨k1, v1, k2, v2, rfl, hk1, hk2, hn⟩⟩
/-- a column of whole numbers -/
structure Col (w : World) (h : Heap) (x i : Addr) (a : Value) (vs : List Value) (kvs : List (Str × Value)) : Prop where
  v : Vec h x "integer" i a
  l : Ls h i vs
  k : AtK w h a kvs
  f : NoFac w h kvs
theorem Col.up {w : World} {h h' : Heap} {x i : Addr} {a : Value} {vs : List Value} {kvs : List (Str × Value)} (c : Col w h x i a vs kvs) (s : Sub h h') : Col w h' x i a vs kvs := ⟨c.v.up s, c.l.up s, c.k.up s, c.f.up s⟩
theorem s_joined_column (w : World) (B : Heap) (l x1 x2 i1 i2 : Addr) (a1 a2 : Value) (vs1 vs2 : List Value) (kv1 kv2 : List (Str × Value)) (h1 : vs1 ≠ []) (h2 : vs2 ≠ []) (hz1 : vs1.length ≤ 1000) (hz2 : vs2.length ≤ 1000) :
    Spec w B 4 (.ref 591) [.ref l] (fun h => Ls h l [.ref x1, .ref x2] ∧ Col w h x1 i1 a1 vs1 kv1 ∧ Col w h x2 i2 a2 vs2 kv2) (fun h r => ∃ x i a, r = .ref x ∧ Vec h x "integer" i a ∧ Ls h i (vs1 ++ vs2) ∧ AtK w h a kv1) := by
  rintro A s Q E R G hB ⟨hl, ⟨v1, l1, k1, f1⟩, ⟨v2, l2, k2, f2⟩⟩ ret
  refine enter0 92 (binds := [("parts", .ref l)]) R G hB ⟨_, by simp only [tblS]; repeat (first | exact List.Mem.head _ | refine List.Mem.tail _ ?_)⟩ (fun _ _ => rfl) rfl rfl rfl fun cd L h₁ F N R' => ?_
  generalize hb : fdBody (stAt 92) = bd
  conv at hb => lhs; whnf
  subst hb
  generalize hsc : fdScope (stAt 92) = sc at F R' N ⊢
  conv at hsc => lhs; whnf
  subst hsc
  generalize hnm : fdName (stAt 92) = nm at F R' N ⊢
  repeat (first | ((with_reducible refine g_call ?_); first | ((refine r_spec (s_common_kind _ _ _ _ _) (Room.le (by assumption) (by decide)) (by assumption) (by assumption) (by assumption) (by exact (by walk_at "ls")) ?_); intro v h' hb' tk' F' N' K' P'; obtain ⟨t, rfl⟩ := P' _ Off.refl) | ((refine r_spec (s_kept _ _ _ _ _ _) (Room.le (by assumption) (by decide)) (by assumption) (by assumption) (by assumption) (by exact ⟨by walk_at "vec", AtK.up (by assumption) (endSub (by assumption) (by walk_at "sub"))⟩) ?_); intro v h' hb' tk' F' N' K' P'; (have hkept := P')) | ((refine r_spec (s_is_factor _ _ _ _ _ _) (Room.le (by assumption) (by decide)) (by assumption) (by assumption) (by assumption) (by exact ⟨by walk_at "vec", (AtK.up (by assumption) (endSub (by assumption) (by walk_at "sub"))).at_, NoFac.up (by assumption) (endSub (by assumption) (by walk_at "sub"))⟩) ?_); intro v h' hb' tk' F' N' K' P'; obtain rfl := P' _ Off.refl)) | (walk_at "go1"))
  rename_i I oI h3 hb3 X F3 N3 K3 l3
  refine comp_run0 (fun _ i y => ∃ t, y = .str "integer" t) R'.hand F3 N3 X (Nat.le_of_ble_eq_true rfl) rfl rfl rfl (by decide) ?_ ?_
  · intro i v C h tk m' hi hP F4 N4 kW hx
    have kb := (base_turn F3 N3).trans kW
    have hv : ∃ x i a, v = .ref x ∧ Vec (wide h C []) x "integer" i a := by
      match i, hP with
      | 0, hP => cases hP; exact ⟨x1, i1, a1, rfl, v1.up (Sub.trans (by walk_at "sub") kb)⟩
      | 1, hP => cases hP; exact ⟨x2, i2, a2, rfl, v2.up (Sub.trans (by walk_at "sub") kb)⟩
      | k + 2, hP => simp at hP
    obtain ⟨xv, iv, av, rfl, hv⟩ := hv
    repeat (first | ((with_reducible refine g_call ?_); first | ((refine r_spec (s_common_kind _ _ _ _ _) (Room.le (by assumption) (by decide)) (by assumption) (by assumption) (by assumption) (by exact (by walk_at "ls")) ?_); intro v h' hb' tk' F' N' K' P'; obtain ⟨t, rfl⟩ := P' _ Off.refl) | ((refine r_spec (s_kept _ _ _ _ _ _) (Room.le (by assumption) (by decide)) (by assumption) (by assumption) (by assumption) (by exact ⟨by walk_at "vec", AtK.up (by assumption) (endSub (by assumption) (by walk_at "sub"))⟩) ?_); intro v h' hb' tk' F' N' K' P'; (have hkept := P')) | ((refine r_spec (s_is_factor _ _ _ _ _ _) (Room.le (by assumption) (by decide)) (by assumption) (by assumption) (by assumption) (by exact ⟨by walk_at "vec", (AtK.up (by assumption) (endSub (by assumption) (by walk_at "sub"))).at_, NoFac.up (by assumption) (endSub (by assumption) (by walk_at "sub"))⟩) ?_); intro v h' hb' tk' F' N' K' P'; obtain rfl := P' _ Off.refl)) | (walk_at "go1"))
    (refine ⟨_, _, _, rfl, by assumption, by walk_at "sub", fun g hg => ?_⟩; exact ⟨_, rfl⟩)
  · intro C oC D h2 tk2 hb2 ys z F2 N2 hC fC k2' hyl hy
    match ys, hyl with
    | [y1, y2], _ =>
      obtain ⟨t1, rfl⟩ := hy hb2 Off.refl 0 _ rfl
      obtain ⟨t2, rfl⟩ := hy hb2 Off.refl 1 _ rfl
      repeat (first | ((with_reducible refine g_call ?_); first | ((refine r_spec (s_common_kind _ _ _ _ _) (Room.le (by assumption) (by decide)) (by assumption) (by assumption) (by assumption) (by exact (by walk_at "ls")) ?_); intro v h' hb' tk' F' N' K' P'; obtain ⟨t, rfl⟩ := P' _ Off.refl) | ((refine r_spec (s_kept _ _ _ _ _ _) (Room.le (by assumption) (by decide)) (by assumption) (by assumption) (by assumption) (by exact ⟨by walk_at "vec", AtK.up (by assumption) (endSub (by assumption) (by walk_at "sub"))⟩) ?_); intro v h' hb' tk' F' N' K' P'; (have hkept := P')) | ((refine r_spec (s_is_factor _ _ _ _ _ _) (Room.le (by assumption) (by decide)) (by assumption) (by assumption) (by assumption) (by exact ⟨by walk_at "vec", (AtK.up (by assumption) (endSub (by assumption) (by walk_at "sub"))).at_, NoFac.up (by assumption) (endSub (by assumption) (by walk_at "sub"))⟩) ?_); intro v h' hb' tk' F' N' K' P'; obtain rfl := P' _ Off.refl)) | (walk_at "go1"))
      (refine ret _ _ _ (endSub (by assumption) (by walk_at "sub")) (Fm.keepB (by assumption)) (fun g hg => ?_); exact ⟨_, _, _, rfl, Vec.off hg (by assumption) (by walk_at "sub") (by walk_at "mem") (by walk_at "mem") (by assumption) (by assumption) (hkept _ Off.refl).handed, ⟨_, news_off hg (by assumption) (by walk_at "sub") (by walk_at "mem") (fixed_seq rfl)⟩, hkept g (hg.of (endSub (by assumption) (by walk_at "sub")) (endSub (by assumption) (by walk_at "sub")))⟩)
end -- E4
section
open PySem PySem.W PyProof.Rows PySem.Calls
set_option maxRecDepth 100000
set_option maxHeartbeats 1000000
theorem Spec.pre {w : World} {B : Heap} {d : Nat} {g : Value} {args : List Value} {Pre : Heap → Prop} {Post : Heap → Value → Prop} {P : Prop} (f : P → Spec w B d g args Pre Post) : Spec w B d g args (fun h => Pre h ∧ P) Post :=
  fun A s Q E R G hB hp ret => f hp.2 A s Q E R G hB hp.1 ret
theorem s_matched (w : World) (B : Heap) (nl x i : Addr) (cols nms nms' : List Value) (n : Nat) (ds : List PyData) (hz : nms'.length ≤ 1000) (hs : ∀ y ∈ nms', ∃ s t, y = .str s t) (hc : CarriedAll nms ds) (hc' : CarriedAll nms' ds) :
    Spec w B 5 (.ref 598) [.ref nl, .ref x] (fun h => Ls h nl nms ∧ Frame w h x i cols nms' n) (fun h r => r = .ref i) := by
  have hlen := carried_len hc hc'
  have hz1 : nms.length ≤ 1000000 := by omega
  have hz2 : nms'.length ≤ 1000000 := by omega
  rintro A s Q E R G hB ⟨hl, hf⟩ ret
  have hf' := hf
  obtain ⟨⟨d, hv, _⟩, _⟩ := hf'
  refine enter0 93 (binds := [("names", .ref nl), ("df", .ref x)]) R G hB ⟨_, by simp only [tblS]; repeat (first | exact List.Mem.head _ | refine List.Mem.tail _ ?_)⟩ (fun _ _ => rfl) rfl rfl rfl fun cd L h₁ F N R' => ?_
  generalize hb : fdBody (stAt 93) = bd
  conv at hb => lhs; whnf
  subst hb
  generalize hsc : fdScope (stAt 93) = sc at F R' N ⊢
  conv at hsc => lhs; whnf
  subst hsc
  generalize hnm : fdName (stAt 93) = nm at F R' N ⊢
  repeat (first | ((with_reducible refine g_call ?_); first | ((refine r_spec (s_column_names _ _ _ _ _ _ _ (by assumption) (by assumption)) (Room.le (by assumption) (by decide)) (by assumption) (by assumption) (by assumption) (by exact Frame.up (by assumption) (endSub (by assumption) (by walk_at "sub"))) ?_); intro v h' hb' tk' F' N' K' P'; obtain ⟨Dn, rfl, hDn⟩ := P' _ Off.refl)) | (walk_at "go1"))
  (refine ret _ _ _ (endSub (by assumption) (by walk_at "sub")) (Fm.keepB (by assumption)) (fun g hg => ?_); exact rfl)
theorem len_fix {us : List Value} {n1 n2 : Nat} (h : us.length = 0 + n1 + n2) : us.length = n1 + n2 := by omega
theorem car_fix {us : List Value} {n1 n2 : Nat} (h : CarriedAll us (upto (0 + n1 + n2))) : CarriedAll us (upto (n1 + n2)) := by rwa [Nat.zero_add] at h
theorem s_joined_labels (w : World) (B : Heap) (l x1 x2 i1 i2 : Addr) (c1 c2 nm1 nm2 : List Value) (n1 n2 : Nat) (h1 : 1 ≤ n1) (h2 : 1 ≤ n2) (hz1' : n1 ≤ 400) (hz2' : n2 ≤ 400) :
    Spec w B 3 (.ref 603) [.ref l] (fun h => Ls h l [.ref x1, .ref x2] ∧ Frame w h x1 i1 c1 nm1 n1 ∧ Frame w h x2 i2 c2 nm2 n2) (fun h r => ∃ x i us, r = .ref x ∧ Vec h x "integer" i .none ∧ Ls h i us ∧ CarriedAll us (upto (n1 + n2)) ∧ us.length = n1 + n2) := by
  have hz1 : n1 ≤ 1000 := by omega
  have hz2 : n2 ≤ 1000 := by omega
  rintro A s Q E R G hB ⟨hl, f1, f2⟩ ret
  refine enterC 94 (binds := [("frames", .ref l)]) (m := fun y => if y = "frames" then some (.ref l) else (none)) [("total", 1)] [none] R G hB ⟨_, by simp only [tblS]; repeat (first | exact List.Mem.head _ | refine List.Mem.tail _ ?_)⟩ (fun _ _ => rfl) (fun _ _ => rfl) rfl (fun _ => rfl) (by decide) (fun _ _ => rfl) (fun _ => rfl) (by decide) rfl fun cd L h₁ tk₁ cells F N hca hcd R' => ?_
  generalize hb : fdBody (stAt 94) = bd
  conv at hb => lhs; whnf
  subst hb
  generalize hsc : fdScope (stAt 94) = sc at F R' N ⊢
  conv at hsc => lhs; whnf
  subst hsc
  generalize hnm : fdName (stAt 94) = nm at F R' N ⊢
  obtain ⟨c1, rfl, hc1⟩ := cells1 hca hcd
  repeat (first | ((with_reducible refine g_call ?_); first | ((refine r_spec (Spec.pre fun hz => s_integer _ _ _ _ hz) (Room.le (by assumption) (by decide)) (by assumption) (by assumption) (by assumption) (by exact ⟨by walk_at "ls", by omega⟩) ?_); intro v h' hb' tk' F' N' K' P'; obtain ⟨xi, ii, rfl, hxi, hii⟩ := P' _ Off.refl) | ((refine r_spec (Spec.pre fun hz => s_has_plain _ _ _ _ _ _ _ hz) (Room.le (by assumption) (by decide)) (by assumption) (by assumption) (by assumption) (by exact ⟨Frame.up (by assumption) (endSub (by assumption) (by walk_at "sub")), by assumption⟩) ?_); intro v h' hb' tk' F' N' K' P'; obtain rfl := P' _ Off.refl) | ((refine r_spec (Spec.pre fun hz => s_frame_rows _ _ _ _ _ _ _ hz) (Room.le (by assumption) (by decide)) (by assumption) (by assumption) (by assumption) (by exact ⟨Frame.up (by assumption) (endSub (by assumption) (by walk_at "sub")), by assumption⟩) ?_); intro v h' hb' tk' F' N' K' P'; obtain ⟨tn, rfl⟩ := P' _ Off.refl) | ((refine r_spec (s_column_names _ _ _ _ _ _ _ (by assumption) (by assumption)) (Room.le (by assumption) (by decide)) (by assumption) (by assumption) (by assumption) (by exact Frame.up (by assumption) (endSub (by assumption) (by walk_at "sub"))) ?_); intro v h' hb' tk' F' N' K' P'; obtain ⟨Dn, rfl, hDn⟩ := P' _ Off.refl)) | (walk_at "go1"))
  rename_i I oI hh1 X F1 N1
  refine comp_run0 (fun _ i y => ∃ s t, y = .str s t) R'.hand F1 N1 X (by omega) rfl rfl rfl (by decide) ?_ ?_
  · intro i v C h tk m' hi hP F3 N3 kW hx
    obtain ⟨ti, rfl⟩ := hP
    have hcell := (CellAt.turn (c := L + 1) N1 (by walk_at "mem") (by assumption)).up kW
    repeat (first | ((with_reducible refine g_call ?_); first | ((refine r_spec (Spec.pre fun hz => s_integer _ _ _ _ hz) (Room.le (by assumption) (by decide)) (by assumption) (by assumption) (by assumption) (by exact ⟨by walk_at "ls", by omega⟩) ?_); intro v h' hb' tk' F' N' K' P'; obtain ⟨xi, ii, rfl, hxi, hii⟩ := P' _ Off.refl) | ((refine r_spec (Spec.pre fun hz => s_has_plain _ _ _ _ _ _ _ hz) (Room.le (by assumption) (by decide)) (by assumption) (by assumption) (by assumption) (by exact ⟨Frame.up (by assumption) (endSub (by assumption) (by walk_at "sub")), by assumption⟩) ?_); intro v h' hb' tk' F' N' K' P'; obtain rfl := P' _ Off.refl) | ((refine r_spec (Spec.pre fun hz => s_frame_rows _ _ _ _ _ _ _ hz) (Room.le (by assumption) (by decide)) (by assumption) (by assumption) (by assumption) (by exact ⟨Frame.up (by assumption) (endSub (by assumption) (by walk_at "sub")), by assumption⟩) ?_); intro v h' hb' tk' F' N' K' P'; obtain ⟨tn, rfl⟩ := P' _ Off.refl) | ((refine r_spec (s_column_names _ _ _ _ _ _ _ (by assumption) (by assumption)) (Room.le (by assumption) (by decide)) (by assumption) (by assumption) (by assumption) (by exact Frame.up (by assumption) (endSub (by assumption) (by walk_at "sub"))) ?_); intro v h' hb' tk' F' N' K' P'; obtain ⟨Dn, rfl, hDn⟩ := P' _ Off.refl)) | (walk_at "go1"))
    (refine ⟨_, _, _, rfl, by assumption, by walk_at "sub", fun g hg => ?_⟩; exact ⟨_, _, rfl⟩)
  intro C oC D hh2 tk2 hb2 ys z F2 N2 hC fC k2 hyl hy
  have hne : ys ≠ [] := fun e => by subst e; simp at hyl; omega
  have hys : ys.length ≤ 1000 := by omega
  clear hy
  repeat (first | ((with_reducible refine g_call ?_); first | ((refine r_spec (Spec.pre fun hz => s_integer _ _ _ _ hz) (Room.le (by assumption) (by decide)) (by assumption) (by assumption) (by assumption) (by exact ⟨by walk_at "ls", by omega⟩) ?_); intro v h' hb' tk' F' N' K' P'; obtain ⟨xi, ii, rfl, hxi, hii⟩ := P' _ Off.refl) | ((refine r_spec (Spec.pre fun hz => s_has_plain _ _ _ _ _ _ _ hz) (Room.le (by assumption) (by decide)) (by assumption) (by assumption) (by assumption) (by exact ⟨Frame.up (by assumption) (endSub (by assumption) (by walk_at "sub")), by assumption⟩) ?_); intro v h' hb' tk' F' N' K' P'; obtain rfl := P' _ Off.refl) | ((refine r_spec (Spec.pre fun hz => s_frame_rows _ _ _ _ _ _ _ hz) (Room.le (by assumption) (by decide)) (by assumption) (by assumption) (by assumption) (by exact ⟨Frame.up (by assumption) (endSub (by assumption) (by walk_at "sub")), by assumption⟩) ?_); intro v h' hb' tk' F' N' K' P'; obtain ⟨tn, rfl⟩ := P' _ Off.refl) | ((refine r_spec (s_column_names _ _ _ _ _ _ _ (by assumption) (by assumption)) (Room.le (by assumption) (by decide)) (by assumption) (by assumption) (by assumption) (by exact Frame.up (by assumption) (endSub (by assumption) (by walk_at "sub"))) ?_); intro v h' hb' tk' F' N' K' P'; obtain ⟨Dn, rfl, hDn⟩ := P' _ Off.refl)) | (walk_at "go1"))
  rename_i I oI hh1 X F1 N1
  refine comp_run0 (fun _ i y => ∃ s t, y = .str s t) R'.hand F1 N1 X (by omega) rfl rfl rfl (by decide) ?_ ?_
  · intro i v C h tk m' hi hP F3 N3 kW hx
    obtain ⟨ti, rfl⟩ := hP
    have hcell := (CellAt.turn (c := L + 1) N1 (by walk_at "mem") (by assumption)).up kW
    repeat (first | ((with_reducible refine g_call ?_); first | ((refine r_spec (Spec.pre fun hz => s_integer _ _ _ _ hz) (Room.le (by assumption) (by decide)) (by assumption) (by assumption) (by assumption) (by exact ⟨by walk_at "ls", by omega⟩) ?_); intro v h' hb' tk' F' N' K' P'; obtain ⟨xi, ii, rfl, hxi, hii⟩ := P' _ Off.refl) | ((refine r_spec (Spec.pre fun hz => s_has_plain _ _ _ _ _ _ _ hz) (Room.le (by assumption) (by decide)) (by assumption) (by assumption) (by assumption) (by exact ⟨Frame.up (by assumption) (endSub (by assumption) (by walk_at "sub")), by assumption⟩) ?_); intro v h' hb' tk' F' N' K' P'; obtain rfl := P' _ Off.refl) | ((refine r_spec (Spec.pre fun hz => s_frame_rows _ _ _ _ _ _ _ hz) (Room.le (by assumption) (by decide)) (by assumption) (by assumption) (by assumption) (by exact ⟨Frame.up (by assumption) (endSub (by assumption) (by walk_at "sub")), by assumption⟩) ?_); intro v h' hb' tk' F' N' K' P'; obtain ⟨tn, rfl⟩ := P' _ Off.refl) | ((refine r_spec (s_column_names _ _ _ _ _ _ _ (by assumption) (by assumption)) (Room.le (by assumption) (by decide)) (by assumption) (by assumption) (by assumption) (by exact Frame.up (by assumption) (endSub (by assumption) (by walk_at "sub"))) ?_); intro v h' hb' tk' F' N' K' P'; obtain ⟨Dn, rfl, hDn⟩ := P' _ Off.refl)) | (walk_at "go1"))
    (refine ⟨_, _, _, rfl, by assumption, by walk_at "sub", fun g hg => ?_⟩; exact ⟨_, _, rfl⟩)
  intro C oC D hh2 tk2 hb2 ys z F2 N2 hC fC k2 hyl hy
  have hne : ys ≠ [] := fun e => by subst e; simp at hyl; omega
  have hys : ys.length ≤ 1000 := by omega
  clear hy
  repeat (first | ((with_reducible refine g_call ?_); first | ((refine r_spec (Spec.pre fun hz => s_integer _ _ _ _ hz) (Room.le (by assumption) (by decide)) (by assumption) (by assumption) (by assumption) (by exact ⟨by walk_at "ls", by omega⟩) ?_); intro v h' hb' tk' F' N' K' P'; obtain ⟨xi, ii, rfl, hxi, hii⟩ := P' _ Off.refl) | ((refine r_spec (Spec.pre fun hz => s_has_plain _ _ _ _ _ _ _ hz) (Room.le (by assumption) (by decide)) (by assumption) (by assumption) (by assumption) (by exact ⟨Frame.up (by assumption) (endSub (by assumption) (by walk_at "sub")), by assumption⟩) ?_); intro v h' hb' tk' F' N' K' P'; obtain rfl := P' _ Off.refl) | ((refine r_spec (Spec.pre fun hz => s_frame_rows _ _ _ _ _ _ _ hz) (Room.le (by assumption) (by decide)) (by assumption) (by assumption) (by assumption) (by exact ⟨Frame.up (by assumption) (endSub (by assumption) (by walk_at "sub")), by assumption⟩) ?_); intro v h' hb' tk' F' N' K' P'; obtain ⟨tn, rfl⟩ := P' _ Off.refl) | ((refine r_spec (s_column_names _ _ _ _ _ _ _ (by assumption) (by assumption)) (Room.le (by assumption) (by decide)) (by assumption) (by assumption) (by assumption) (by exact Frame.up (by assumption) (endSub (by assumption) (by walk_at "sub"))) ?_); intro v h' hb' tk' F' N' K' P'; obtain ⟨Dn, rfl, hDn⟩ := P' _ Off.refl)) | (walk_at "go1"))
  have l2 := len_fix (n1 := n1) (n2 := n2) (by assumption)
  have c2 := car_fix (n1 := n1) (n2 := n2) (by assumption)
  repeat (first | ((with_reducible refine g_call ?_); first | ((refine r_spec (Spec.pre fun hz => s_integer _ _ _ _ hz) (Room.le (by assumption) (by decide)) (by assumption) (by assumption) (by assumption) (by exact ⟨by walk_at "ls", by omega⟩) ?_); intro v h' hb' tk' F' N' K' P'; obtain ⟨xi, ii, rfl, hxi, hii⟩ := P' _ Off.refl) | ((refine r_spec (Spec.pre fun hz => s_has_plain _ _ _ _ _ _ _ hz) (Room.le (by assumption) (by decide)) (by assumption) (by assumption) (by assumption) (by exact ⟨Frame.up (by assumption) (endSub (by assumption) (by walk_at "sub")), by assumption⟩) ?_); intro v h' hb' tk' F' N' K' P'; obtain rfl := P' _ Off.refl) | ((refine r_spec (Spec.pre fun hz => s_frame_rows _ _ _ _ _ _ _ hz) (Room.le (by assumption) (by decide)) (by assumption) (by assumption) (by assumption) (by exact ⟨Frame.up (by assumption) (endSub (by assumption) (by walk_at "sub")), by assumption⟩) ?_); intro v h' hb' tk' F' N' K' P'; obtain ⟨tn, rfl⟩ := P' _ Off.refl) | ((refine r_spec (s_column_names _ _ _ _ _ _ _ (by assumption) (by assumption)) (Room.le (by assumption) (by decide)) (by assumption) (by assumption) (by assumption) (by exact Frame.up (by assumption) (endSub (by assumption) (by walk_at "sub"))) ?_); intro v h' hb' tk' F' N' K' P'; obtain ⟨Dn, rfl, hDn⟩ := P' _ Off.refl)) | (walk_at "go1"))
  (refine ret _ _ _ (endSub (by assumption) (by walk_at "sub")) (Fm.keepB (by assumption)) (fun g hg => ?_); exact (by obtain ⟨x', i', e, a, b⟩ := P' g (hg.of (endSub (by assumption) (by walk_at "sub")) (endSub (by assumption) (by walk_at "sub"))); exact ⟨x', i', _, e, a, b, c2, l2⟩))
end -- E5
section
open PySem PySem.W PyProof.Rows PySem.Calls
set_option maxRecDepth 100000
set_option maxHeartbeats 1000000
def AllVec (h : Heap) (cols : List Value) : Prop := ∀ v ∈ cols, ∃ x k i a, v = .ref x ∧ Vec h x k i a
/-- a frame but for its row names -/
def Made (w : World) (h : Heap) (x i : Addr) (cols nms : List Value) (rv : Addr) : Prop := ∃ d nv ni na cv ci ca ct, Vec h x "list" i (.ref d) ∧ Ls h i cols ∧ Dct w h d [("names", .ref nv), ("class", .ref cv), ("row.names", .ref rv)] ∧ Vec h nv "character" ni na ∧ Ls h ni nms ∧ Vec h cv "character" ci ca ∧ Ls h ci [.str "data.frame" ct]
theorem s_new_frame (w : World) (B : Heap) (cl nl rv : Addr) (cols nms : List Value) (hz : cols.length ≤ 1000) (hz2 : nms.length ≤ 1000) : Spec w B 3 (.ref 527) [.ref cl, .ref nl, .ref rv] (fun h => Ls h cl cols ∧ Ls h nl nms ∧ AllVec h cols) (fun h r => ∃ x i, r = .ref x ∧ Made w h x i cols nms rv) := by
  rintro A s Q E R G hB ⟨hl, hn, hv⟩ ret
  refine enter0 80 (binds := [("columns", .ref cl), ("names", .ref nl), ("row_labels", .ref rv)]) R G hB ⟨_, by simp only [tblS]; repeat (first | exact List.Mem.head _ | refine List.Mem.tail _ ?_)⟩ (fun _ _ => rfl) rfl rfl rfl fun cd L h₁ F N R' => ?_
  generalize hb : fdBody (stAt 80) = bd
  conv at hb => lhs; whnf
  subst hb
  generalize hsc : fdScope (stAt 80) = sc at F R' N ⊢
  conv at hsc => lhs; whnf
  subst hsc
  generalize hnm : fdName (stAt 80) = nm at F R' N ⊢
  repeat (first | ((with_reducible refine g_call ?_); first | ((refine r_spec (Spec.pre fun hz => s_character _ _ _ _ hz) (Room.le (by assumption) (by decide)) (by assumption) (by assumption) (by assumption) (by exact ⟨by walk_at "ls", by first | omega | exact Nat.le_of_ble_eq_true rfl⟩) ?_); intro v h' hb' tk' F' N' K' P'; (first | (have := Pc1; clear this; have Pc2 := P') | (have Pc1 := P')); obtain ⟨xc, ic, rfl, hxc, hic⟩ := P' _ Off.refl) | ((refine r_spec (s_share _ _ _ _ _ _) (Room.le (by assumption) (by decide)) (by assumption) (by assumption) (by assumption) (by exact (by walk_at "vec")) ?_); intro v h' hb' tk' F' N' K' P'; (have e2 := P' _ Off.refl); subst e2)) | (walk_at "go1"))
  rename_i I oI hh1 X F1 N1
  refine comp_run0 (fun _ i y => cols[i]? = some y) R'.hand F1 N1 X (by omega) rfl rfl rfl (by decide) ?_ ?_
  · intro i v C h tk m' hi hP F3 N3 kW hx
    have kb := (base_turn F1 N1).trans kW
    obtain ⟨xv, kv, iv, av, rfl, hvv⟩ := hv v (List.mem_of_getElem? hP)
    have hvv := hvv.up kb
    repeat (first | ((with_reducible refine g_call ?_); first | ((refine r_spec (Spec.pre fun hz => s_character _ _ _ _ hz) (Room.le (by assumption) (by decide)) (by assumption) (by assumption) (by assumption) (by exact ⟨by walk_at "ls", by first | omega | exact Nat.le_of_ble_eq_true rfl⟩) ?_); intro v h' hb' tk' F' N' K' P'; (first | (have := Pc1; clear this; have Pc2 := P') | (have Pc1 := P')); obtain ⟨xc, ic, rfl, hxc, hic⟩ := P' _ Off.refl) | ((refine r_spec (s_share _ _ _ _ _ _) (Room.le (by assumption) (by decide)) (by assumption) (by assumption) (by assumption) (by exact (by walk_at "vec")) ?_); intro v h' hb' tk' F' N' K' P'; (have e2 := P' _ Off.refl); subst e2)) | (walk_at "go1"))
    (refine ⟨_, _, _, rfl, by assumption, by walk_at "sub", fun g hg => ?_⟩; exact hP)
  intro C oC D hh2 tk2 hb2 ys z F2 N2 hC fC k2 hyl hy
  obtain rfl : ys = cols := list_eq hyl fun i y e => hy hb2 Off.refl i y e
  clear hy
  repeat (first | ((with_reducible refine g_call ?_); first | ((refine r_spec (Spec.pre fun hz => s_character _ _ _ _ hz) (Room.le (by assumption) (by decide)) (by assumption) (by assumption) (by assumption) (by exact ⟨by walk_at "ls", by first | omega | exact Nat.le_of_ble_eq_true rfl⟩) ?_); intro v h' hb' tk' F' N' K' P'; (first | (have := Pc1; clear this; have Pc2 := P') | (have Pc1 := P')); obtain ⟨xc, ic, rfl, hxc, hic⟩ := P' _ Off.refl) | ((refine r_spec (s_share _ _ _ _ _ _) (Room.le (by assumption) (by decide)) (by assumption) (by assumption) (by assumption) (by exact (by walk_at "vec")) ?_); intro v h' hb' tk' F' N' K' P'; (have e2 := P' _ Off.refl); subst e2)) | (walk_at "go1"))
  (refine ret _ _ _ (endSub (by assumption) (by walk_at "sub")) (Fm.keepB (by assumption)) (fun g hg => ?_); exact (by obtain ⟨x1', i1', e1, v1, l1⟩ := Pc1 g (hg.of (endSub (by assumption) (by walk_at "sub")) (endSub (by assumption) (by walk_at "sub"))); obtain ⟨x2', i2', e2, v2, l2⟩ := Pc2 g (hg.of (endSub (by assumption) (by walk_at "sub")) (endSub (by assumption) (by walk_at "sub"))); cases e1; cases e2; exact ⟨_, _, rfl, _, _, _, _, _, _, _, _, Vec.off hg (by assumption) (by walk_at "sub") (by walk_at "mem") (by walk_at "mem") (by assumption) (by assumption) rfl, ⟨_, news_off hg (by assumption) (by walk_at "sub") (by walk_at "mem") (fixed_seq rfl)⟩, Dct.off hg (by assumption) (by walk_at "sub") (by walk_at "mem") (by assumption) (by assumption) (Nat.le_of_ble_eq_true rfl), v1, l1, v2, l2⟩))
end -- E6
section
open PySem PySem.W PyProof.Rows PySem.Calls
set_option maxRecDepth 100000
set_option maxHeartbeats 1000000
theorem pair_at {α : Type} {a b v : α} {P : α → Prop} {i : Nat} (h : ([a, b] : List α)[i]? = some v) (ha : P a) (hb : P b) : P v := by
  match i, h with
  | 0, h => cases h; exact ha
  | 1, h => cases h; exact hb
  | k + 2, h => simp at h
/-- a frame of one column n -/
structure Fr1 (w : World) (h : Heap) (f j x i : Addr) (a : Value) (vs : List Value) (kvs : List (Str × Value)) (t : Tok) : Prop where
  f : Frame w h f j [.ref x] [.str "n" t] vs.length
  c : Col w h x i a vs kvs
theorem s_bind (w : World) (B : Heap) (l f1 f2 j1 j2 x1 x2 i1 i2 : Addr) (a1 a2 : Value) (vs1 vs2 : List Value) (kv1 kv2 : List (Str × Value)) (t1 t2 : Tok) (hn1 : 1 ≤ vs1.length) (hn2 : 1 ≤ vs2.length) (hz1 : vs1.length ≤ 400) (hz2 : vs2.length ≤ 400) :
    Spec w B 6 (.ref 608) [.ref l] (fun h => Ls h l [.ref f1, .ref f2] ∧ Fr1 w h f1 j1 x1 i1 a1 vs1 kv1 t1 ∧ Fr1 w h f2 j2 x2 i2 a2 vs2 kv2 t2)
    (fun h r => ∃ x i xc ic ac rv ri us, r = .ref x ∧ Made w h x i [.ref xc] [.str "n" t1] rv ∧ Vec h xc "integer" ic ac ∧ Ls h ic (vs1 ++ vs2) ∧ AtK w h ac kv1 ∧ Vec h rv "integer" ri .none ∧ Ls h ri us ∧ CarriedAll us (upto (vs1.length + vs2.length)) ∧ us.length = vs1.length + vs2.length) := by
  have hne1 : vs1 ≠ [] := fun e => by subst e; simp at hn1
  have hne2 : vs2 ≠ [] := fun e => by subst e; simp at hn2
  rintro A s Q E R G hB ⟨hl, ⟨hf1, hq1⟩, ⟨hf2, hq2⟩⟩ ret
  refine enterC 95 (binds := [("frames", .ref l)]) (m := fun y => if y = "frames" then some (.ref l) else (none)) [("place", 2), ("names", 1)] [none, none] R G hB ⟨_, by simp only [tblS]; repeat (first | exact List.Mem.head _ | refine List.Mem.tail _ ?_)⟩ (fun _ _ => rfl) (fun _ _ => rfl) rfl (fun _ => rfl) (by decide) (fun _ _ => rfl) (fun _ => rfl) (by decide) rfl fun cd L h₁ tk₁ cells F N hca hcd R' => ?_
  generalize hb : fdBody (stAt 95) = bd
  conv at hb => lhs; whnf
  subst hb
  generalize hsc : fdScope (stAt 95) = sc at F R' N ⊢
  conv at hsc => lhs; whnf
  subst hsc
  generalize hnm : fdName (stAt 95) = nm at F R' N ⊢
  obtain ⟨c2, c1, rfl, hc2, hc1⟩ := cells2 hca hcd
  repeat (first | ((with_reducible refine g_call ?_); first | ((refine r_spec (s_matched _ _ _ _ _ _ [.str "n" _] [.str "n" _] _ [.str "n"] (Nat.le_of_ble_eq_true rfl) (by intro y hy; rw [List.mem_singleton.mp hy]; exact ⟨_, _, rfl⟩) (.cons (.str _ _) .nil) (.cons (.str _ _) .nil)) (Room.le (by assumption) (by decide)) (by assumption) (by assumption) (by assumption) (by exact ⟨by walk_at "ls", Frame.up (by assumption) (endSub (by assumption) (by walk_at "sub"))⟩) ?_); intro v h' hb' tk' F' N' K' P'; obtain rfl := P' _ Off.refl) | ((refine r_spec (Spec.pre fun hz => s_new_frame _ _ _ _ _ _ _ (And.left hz) (And.right hz)) (Room.le (by assumption) (by decide)) (by assumption) (by assumption) (by assumption) (by exact ⟨⟨by walk_at "ls", by walk_at "ls", fun v hv => by rw [List.mem_singleton.mp hv]; exact ⟨_, _, _, _, rfl, by walk_at "vec"⟩⟩, by exact Nat.le_of_ble_eq_true rfl, by exact Nat.le_of_ble_eq_true rfl⟩) ?_); intro v h' hb' tk' F' N' K' P'; (have Pn := P'); obtain ⟨xn, jn, rfl, hn⟩ := P' _ Off.refl) | ((refine r_spec (s_joined_labels _ _ _ _ _ _ _ _ _ _ _ _ _ hn1 hn2 (by omega) (by omega)) (Room.le (by assumption) (by decide)) (by assumption) (by assumption) (by assumption) (by exact ⟨by walk_at "ls", Frame.up hf1 (endSub (by assumption) (by walk_at "sub")), Frame.up hf2 (endSub (by assumption) (by walk_at "sub"))⟩) ?_); intro v h' hb' tk' F' N' K' P'; (have Pl := P'); obtain ⟨xl, il, ul, rfl, hl1, hl2, hl3, hl4⟩ := P' _ Off.refl) | ((refine r_spec (s_joined_column _ _ _ _ _ _ _ _ _ _ _ _ _ hne1 hne2 (by omega) (by omega)) (Room.le (by assumption) (by decide)) (by assumption) (by assumption) (by assumption) (by exact ⟨by walk_at "ls", Col.up hq1 (endSub (by assumption) (by walk_at "sub")), Col.up hq2 (endSub (by assumption) (by walk_at "sub"))⟩) ?_); intro v h' hb' tk' F' N' K' P'; (have Pj := P'); obtain ⟨xj, ij, aj, rfl, hj1, hj2, hj3⟩ := P' _ Off.refl) | ((refine r_spec (Spec.pre fun hz => s_column_names _ _ _ _ _ _ _ (And.left hz) (And.right hz)) (Room.le (by assumption) (by decide)) (by assumption) (by assumption) (by assumption) (by exact ⟨Frame.up (by assumption) (endSub (by assumption) (by walk_at "sub")), by exact Nat.le_of_ble_eq_true rfl, by intro y hy; rw [List.mem_singleton.mp hy]; exact ⟨_, _, rfl⟩⟩) ?_); intro v h' hb' tk' F' N' K' P'; obtain ⟨Dn, rfl, hDn⟩ := P' _ Off.refl)) | (walk_at "go1"))
  rename_i I oI hh1 X F1 N1
  refine comp_run1 (fun _ => true) (fun _ i y => ([.ref f1, .ref f2] : List Value)[i]? = some y) R'.hand F1 N1 X (Nat.le_of_ble_eq_true rfl) rfl rfl rfl (by decide) ?_ ?_
  · intro i v C h tk m' hi hP F3 N3 kW hx
    have kb := (base_turn F1 N1).trans kW
    have hfr : ∃ f j x t n, v = .ref f ∧ Frame w (wide h C []) f j [.ref x] [.str "n" t] n := pair_at (P := fun v => ∃ f j x t n, v = .ref f ∧ Frame w (wide h C []) f j [.ref x] [.str "n" t] n) hP ⟨_, _, _, _, _, rfl, hf1.up (Sub.trans (by walk_at "sub") kb)⟩ ⟨_, _, _, _, _, rfl, hf2.up (Sub.trans (by walk_at "sub") kb)⟩
    obtain ⟨fv, jv, xv, tv, nv, rfl, ⟨⟨dv, hvv, _⟩, hlv⟩⟩ := hfr
    repeat (first | ((with_reducible refine g_call ?_); first | ((refine r_spec (s_matched _ _ _ _ _ _ [.str "n" _] [.str "n" _] _ [.str "n"] (Nat.le_of_ble_eq_true rfl) (by intro y hy; rw [List.mem_singleton.mp hy]; exact ⟨_, _, rfl⟩) (.cons (.str _ _) .nil) (.cons (.str _ _) .nil)) (Room.le (by assumption) (by decide)) (by assumption) (by assumption) (by assumption) (by exact ⟨by walk_at "ls", Frame.up (by assumption) (endSub (by assumption) (by walk_at "sub"))⟩) ?_); intro v h' hb' tk' F' N' K' P'; obtain rfl := P' _ Off.refl) | ((refine r_spec (Spec.pre fun hz => s_new_frame _ _ _ _ _ _ _ (And.left hz) (And.right hz)) (Room.le (by assumption) (by decide)) (by assumption) (by assumption) (by assumption) (by exact ⟨⟨by walk_at "ls", by walk_at "ls", fun v hv => by rw [List.mem_singleton.mp hv]; exact ⟨_, _, _, _, rfl, by walk_at "vec"⟩⟩, by exact Nat.le_of_ble_eq_true rfl, by exact Nat.le_of_ble_eq_true rfl⟩) ?_); intro v h' hb' tk' F' N' K' P'; (have Pn := P'); obtain ⟨xn, jn, rfl, hn⟩ := P' _ Off.refl) | ((refine r_spec (s_joined_labels _ _ _ _ _ _ _ _ _ _ _ _ _ hn1 hn2 (by omega) (by omega)) (Room.le (by assumption) (by decide)) (by assumption) (by assumption) (by assumption) (by exact ⟨by walk_at "ls", Frame.up hf1 (endSub (by assumption) (by walk_at "sub")), Frame.up hf2 (endSub (by assumption) (by walk_at "sub"))⟩) ?_); intro v h' hb' tk' F' N' K' P'; (have Pl := P'); obtain ⟨xl, il, ul, rfl, hl1, hl2, hl3, hl4⟩ := P' _ Off.refl) | ((refine r_spec (s_joined_column _ _ _ _ _ _ _ _ _ _ _ _ _ hne1 hne2 (by omega) (by omega)) (Room.le (by assumption) (by decide)) (by assumption) (by assumption) (by assumption) (by exact ⟨by walk_at "ls", Col.up hq1 (endSub (by assumption) (by walk_at "sub")), Col.up hq2 (endSub (by assumption) (by walk_at "sub"))⟩) ?_); intro v h' hb' tk' F' N' K' P'; (have Pj := P'); obtain ⟨xj, ij, aj, rfl, hj1, hj2, hj3⟩ := P' _ Off.refl) | ((refine r_spec (Spec.pre fun hz => s_column_names _ _ _ _ _ _ _ (And.left hz) (And.right hz)) (Room.le (by assumption) (by decide)) (by assumption) (by assumption) (by assumption) (by exact ⟨Frame.up (by assumption) (endSub (by assumption) (by walk_at "sub")), by exact Nat.le_of_ble_eq_true rfl, by intro y hy; rw [List.mem_singleton.mp hy]; exact ⟨_, _, rfl⟩⟩) ?_); intro v h' hb' tk' F' N' K' P'; obtain ⟨Dn, rfl, hDn⟩ := P' _ Off.refl)) | (walk_at "go1"))
    refine ⟨rfl, ite_yes (by show (0 : Int) < 1; decide) ?_⟩
    repeat (first | ((with_reducible refine g_call ?_); first | ((refine r_spec (s_matched _ _ _ _ _ _ [.str "n" _] [.str "n" _] _ [.str "n"] (Nat.le_of_ble_eq_true rfl) (by intro y hy; rw [List.mem_singleton.mp hy]; exact ⟨_, _, rfl⟩) (.cons (.str _ _) .nil) (.cons (.str _ _) .nil)) (Room.le (by assumption) (by decide)) (by assumption) (by assumption) (by assumption) (by exact ⟨by walk_at "ls", Frame.up (by assumption) (endSub (by assumption) (by walk_at "sub"))⟩) ?_); intro v h' hb' tk' F' N' K' P'; obtain rfl := P' _ Off.refl) | ((refine r_spec (Spec.pre fun hz => s_new_frame _ _ _ _ _ _ _ (And.left hz) (And.right hz)) (Room.le (by assumption) (by decide)) (by assumption) (by assumption) (by assumption) (by exact ⟨⟨by walk_at "ls", by walk_at "ls", fun v hv => by rw [List.mem_singleton.mp hv]; exact ⟨_, _, _, _, rfl, by walk_at "vec"⟩⟩, by exact Nat.le_of_ble_eq_true rfl, by exact Nat.le_of_ble_eq_true rfl⟩) ?_); intro v h' hb' tk' F' N' K' P'; (have Pn := P'); obtain ⟨xn, jn, rfl, hn⟩ := P' _ Off.refl) | ((refine r_spec (s_joined_labels _ _ _ _ _ _ _ _ _ _ _ _ _ hn1 hn2 (by omega) (by omega)) (Room.le (by assumption) (by decide)) (by assumption) (by assumption) (by assumption) (by exact ⟨by walk_at "ls", Frame.up hf1 (endSub (by assumption) (by walk_at "sub")), Frame.up hf2 (endSub (by assumption) (by walk_at "sub"))⟩) ?_); intro v h' hb' tk' F' N' K' P'; (have Pl := P'); obtain ⟨xl, il, ul, rfl, hl1, hl2, hl3, hl4⟩ := P' _ Off.refl) | ((refine r_spec (s_joined_column _ _ _ _ _ _ _ _ _ _ _ _ _ hne1 hne2 (by omega) (by omega)) (Room.le (by assumption) (by decide)) (by assumption) (by assumption) (by assumption) (by exact ⟨by walk_at "ls", Col.up hq1 (endSub (by assumption) (by walk_at "sub")), Col.up hq2 (endSub (by assumption) (by walk_at "sub"))⟩) ?_); intro v h' hb' tk' F' N' K' P'; (have Pj := P'); obtain ⟨xj, ij, aj, rfl, hj1, hj2, hj3⟩ := P' _ Off.refl) | ((refine r_spec (Spec.pre fun hz => s_column_names _ _ _ _ _ _ _ (And.left hz) (And.right hz)) (Room.le (by assumption) (by decide)) (by assumption) (by assumption) (by assumption) (by exact ⟨Frame.up (by assumption) (endSub (by assumption) (by walk_at "sub")), by exact Nat.le_of_ble_eq_true rfl, by intro y hy; rw [List.mem_singleton.mp hy]; exact ⟨_, _, rfl⟩⟩) ?_); intro v h' hb' tk' F' N' K' P'; obtain ⟨Dn, rfl, hDn⟩ := P' _ Off.refl)) | (walk_at "go1"))
    (refine ⟨_, _, _, rfl, by assumption, by walk_at "sub", fun g hg => ?_⟩; exact hP)
  intro C oC D hh2 tk2 hb2 ys z F2 N2 hC fC k2 hys
  have hy := hys hb2 Off.refl
  have hl2 : ys.length = 2 := (paired_len hy).symm
  match ys, hl2 with
  | [y1, y2], _ =>
  obtain ⟨i1', e1', g1⟩ := paired_get hy 0 y1 rfl
  obtain ⟨i2', e2', g2⟩ := paired_get hy 1 y2 rfl
  cases e1'; cases e2'; cases g1; cases g2
  clear hy hys
  repeat (first | ((with_reducible refine g_call ?_); first | ((refine r_spec (s_matched _ _ _ _ _ _ [.str "n" _] [.str "n" _] _ [.str "n"] (Nat.le_of_ble_eq_true rfl) (by intro y hy; rw [List.mem_singleton.mp hy]; exact ⟨_, _, rfl⟩) (.cons (.str _ _) .nil) (.cons (.str _ _) .nil)) (Room.le (by assumption) (by decide)) (by assumption) (by assumption) (by assumption) (by exact ⟨by walk_at "ls", Frame.up (by assumption) (endSub (by assumption) (by walk_at "sub"))⟩) ?_); intro v h' hb' tk' F' N' K' P'; obtain rfl := P' _ Off.refl) | ((refine r_spec (Spec.pre fun hz => s_new_frame _ _ _ _ _ _ _ (And.left hz) (And.right hz)) (Room.le (by assumption) (by decide)) (by assumption) (by assumption) (by assumption) (by exact ⟨⟨by walk_at "ls", by walk_at "ls", fun v hv => by rw [List.mem_singleton.mp hv]; exact ⟨_, _, _, _, rfl, by walk_at "vec"⟩⟩, by exact Nat.le_of_ble_eq_true rfl, by exact Nat.le_of_ble_eq_true rfl⟩) ?_); intro v h' hb' tk' F' N' K' P'; (have Pn := P'); obtain ⟨xn, jn, rfl, hn⟩ := P' _ Off.refl) | ((refine r_spec (s_joined_labels _ _ _ _ _ _ _ _ _ _ _ _ _ hn1 hn2 (by omega) (by omega)) (Room.le (by assumption) (by decide)) (by assumption) (by assumption) (by assumption) (by exact ⟨by walk_at "ls", Frame.up hf1 (endSub (by assumption) (by walk_at "sub")), Frame.up hf2 (endSub (by assumption) (by walk_at "sub"))⟩) ?_); intro v h' hb' tk' F' N' K' P'; (have Pl := P'); obtain ⟨xl, il, ul, rfl, hl1, hl2, hl3, hl4⟩ := P' _ Off.refl) | ((refine r_spec (s_joined_column _ _ _ _ _ _ _ _ _ _ _ _ _ hne1 hne2 (by omega) (by omega)) (Room.le (by assumption) (by decide)) (by assumption) (by assumption) (by assumption) (by exact ⟨by walk_at "ls", Col.up hq1 (endSub (by assumption) (by walk_at "sub")), Col.up hq2 (endSub (by assumption) (by walk_at "sub"))⟩) ?_); intro v h' hb' tk' F' N' K' P'; (have Pj := P'); obtain ⟨xj, ij, aj, rfl, hj1, hj2, hj3⟩ := P' _ Off.refl) | ((refine r_spec (Spec.pre fun hz => s_column_names _ _ _ _ _ _ _ (And.left hz) (And.right hz)) (Room.le (by assumption) (by decide)) (by assumption) (by assumption) (by assumption) (by exact ⟨Frame.up (by assumption) (endSub (by assumption) (by walk_at "sub")), by exact Nat.le_of_ble_eq_true rfl, by intro y hy; rw [List.mem_singleton.mp hy]; exact ⟨_, _, rfl⟩⟩) ?_); intro v h' hb' tk' F' N' K' P'; obtain ⟨Dn, rfl, hDn⟩ := P' _ Off.refl)) | (walk_at "go1"))
  rename_i I oI hh3 hb3 X F3 N3 K3 l3
  refine comp_run0 (fun _ i y => ([.ref j1, .ref j2] : List Value)[i]? = some y) R'.hand F3 N3 X (Nat.le_of_ble_eq_true rfl) rfl rfl rfl (by decide) ?_ ?_
  · intro i v C h tk m' hi hP F4 N4 kW hx
    have kb := (base_turn F3 N3).trans kW
    have hcell := (CellAt.turn (c := L + 1) N3 (by walk_at "mem") (by assumption)).up kW
    have hfr : ∃ f j x t n, v = .ref f ∧ ([.ref j1, .ref j2] : List Value)[i]? = some (.ref j) ∧ Frame w (wide h C []) f j [.ref x] [.str "n" t] n := by
      match i, hP with
      | 0, hP => cases hP; exact ⟨_, _, _, _, _, rfl, rfl, hf1.up (Sub.trans (by walk_at "sub") kb)⟩
      | 1, hP => cases hP; exact ⟨_, _, _, _, _, rfl, rfl, hf2.up (Sub.trans (by walk_at "sub") kb)⟩
      | k + 2, hP => simp at hP
    obtain ⟨fv, jv, xv, tv, nv, rfl, hj, hfv⟩ := hfr
    have hDn2 := hDn.up (Sub.trans (by walk_at "sub") kb)
    repeat (first | ((with_reducible refine g_call ?_); first | ((refine r_spec (s_matched _ _ _ _ _ _ [.str "n" _] [.str "n" _] _ [.str "n"] (Nat.le_of_ble_eq_true rfl) (by intro y hy; rw [List.mem_singleton.mp hy]; exact ⟨_, _, rfl⟩) (.cons (.str _ _) .nil) (.cons (.str _ _) .nil)) (Room.le (by assumption) (by decide)) (by assumption) (by assumption) (by assumption) (by exact ⟨by walk_at "ls", Frame.up (by assumption) (endSub (by assumption) (by walk_at "sub"))⟩) ?_); intro v h' hb' tk' F' N' K' P'; obtain rfl := P' _ Off.refl) | ((refine r_spec (Spec.pre fun hz => s_new_frame _ _ _ _ _ _ _ (And.left hz) (And.right hz)) (Room.le (by assumption) (by decide)) (by assumption) (by assumption) (by assumption) (by exact ⟨⟨by walk_at "ls", by walk_at "ls", fun v hv => by rw [List.mem_singleton.mp hv]; exact ⟨_, _, _, _, rfl, by walk_at "vec"⟩⟩, by exact Nat.le_of_ble_eq_true rfl, by exact Nat.le_of_ble_eq_true rfl⟩) ?_); intro v h' hb' tk' F' N' K' P'; (have Pn := P'); obtain ⟨xn, jn, rfl, hn⟩ := P' _ Off.refl) | ((refine r_spec (s_joined_labels _ _ _ _ _ _ _ _ _ _ _ _ _ hn1 hn2 (by omega) (by omega)) (Room.le (by assumption) (by decide)) (by assumption) (by assumption) (by assumption) (by exact ⟨by walk_at "ls", Frame.up hf1 (endSub (by assumption) (by walk_at "sub")), Frame.up hf2 (endSub (by assumption) (by walk_at "sub"))⟩) ?_); intro v h' hb' tk' F' N' K' P'; (have Pl := P'); obtain ⟨xl, il, ul, rfl, hl1, hl2, hl3, hl4⟩ := P' _ Off.refl) | ((refine r_spec (s_joined_column _ _ _ _ _ _ _ _ _ _ _ _ _ hne1 hne2 (by omega) (by omega)) (Room.le (by assumption) (by decide)) (by assumption) (by assumption) (by assumption) (by exact ⟨by walk_at "ls", Col.up hq1 (endSub (by assumption) (by walk_at "sub")), Col.up hq2 (endSub (by assumption) (by walk_at "sub"))⟩) ?_); intro v h' hb' tk' F' N' K' P'; (have Pj := P'); obtain ⟨xj, ij, aj, rfl, hj1, hj2, hj3⟩ := P' _ Off.refl) | ((refine r_spec (Spec.pre fun hz => s_column_names _ _ _ _ _ _ _ (And.left hz) (And.right hz)) (Room.le (by assumption) (by decide)) (by assumption) (by assumption) (by assumption) (by exact ⟨Frame.up (by assumption) (endSub (by assumption) (by walk_at "sub")), by exact Nat.le_of_ble_eq_true rfl, by intro y hy; rw [List.mem_singleton.mp hy]; exact ⟨_, _, rfl⟩⟩) ?_); intro v h' hb' tk' F' N' K' P'; obtain ⟨Dn, rfl, hDn⟩ := P' _ Off.refl)) | (walk_at "go1"))
    (refine ⟨_, _, _, rfl, by assumption, by walk_at "sub", fun g hg => ?_⟩; exact hj)
  intro C oC D hh2 tk2 hb2 ys z F2 N2 hC fC k2 hyl hys
  have hy := hys hb2 Off.refl
  obtain rfl : ys = [.ref j1, .ref j2] := list_eq hyl hy
  clear hy hys
  repeat (first | ((with_reducible refine g_call ?_); first | ((refine r_spec (s_matched _ _ _ _ _ _ [.str "n" _] [.str "n" _] _ [.str "n"] (Nat.le_of_ble_eq_true rfl) (by intro y hy; rw [List.mem_singleton.mp hy]; exact ⟨_, _, rfl⟩) (.cons (.str _ _) .nil) (.cons (.str _ _) .nil)) (Room.le (by assumption) (by decide)) (by assumption) (by assumption) (by assumption) (by exact ⟨by walk_at "ls", Frame.up (by assumption) (endSub (by assumption) (by walk_at "sub"))⟩) ?_); intro v h' hb' tk' F' N' K' P'; obtain rfl := P' _ Off.refl) | ((refine r_spec (Spec.pre fun hz => s_new_frame _ _ _ _ _ _ _ (And.left hz) (And.right hz)) (Room.le (by assumption) (by decide)) (by assumption) (by assumption) (by assumption) (by exact ⟨⟨by walk_at "ls", by walk_at "ls", fun v hv => by rw [List.mem_singleton.mp hv]; exact ⟨_, _, _, _, rfl, by walk_at "vec"⟩⟩, by exact Nat.le_of_ble_eq_true rfl, by exact Nat.le_of_ble_eq_true rfl⟩) ?_); intro v h' hb' tk' F' N' K' P'; (have Pn := P'); obtain ⟨xn, jn, rfl, hn⟩ := P' _ Off.refl) | ((refine r_spec (s_joined_labels _ _ _ _ _ _ _ _ _ _ _ _ _ hn1 hn2 (by omega) (by omega)) (Room.le (by assumption) (by decide)) (by assumption) (by assumption) (by assumption) (by exact ⟨by walk_at "ls", Frame.up hf1 (endSub (by assumption) (by walk_at "sub")), Frame.up hf2 (endSub (by assumption) (by walk_at "sub"))⟩) ?_); intro v h' hb' tk' F' N' K' P'; (have Pl := P'); obtain ⟨xl, il, ul, rfl, hl1, hl2, hl3, hl4⟩ := P' _ Off.refl) | ((refine r_spec (s_joined_column _ _ _ _ _ _ _ _ _ _ _ _ _ hne1 hne2 (by omega) (by omega)) (Room.le (by assumption) (by decide)) (by assumption) (by assumption) (by assumption) (by exact ⟨by walk_at "ls", Col.up hq1 (endSub (by assumption) (by walk_at "sub")), Col.up hq2 (endSub (by assumption) (by walk_at "sub"))⟩) ?_); intro v h' hb' tk' F' N' K' P'; (have Pj := P'); obtain ⟨xj, ij, aj, rfl, hj1, hj2, hj3⟩ := P' _ Off.refl) | ((refine r_spec (Spec.pre fun hz => s_column_names _ _ _ _ _ _ _ (And.left hz) (And.right hz)) (Room.le (by assumption) (by decide)) (by assumption) (by assumption) (by assumption) (by exact ⟨Frame.up (by assumption) (endSub (by assumption) (by walk_at "sub")), by exact Nat.le_of_ble_eq_true rfl, by intro y hy; rw [List.mem_singleton.mp hy]; exact ⟨_, _, rfl⟩⟩) ?_); intro v h' hb' tk' F' N' K' P'; obtain ⟨Dn, rfl, hDn⟩ := P' _ Off.refl)) | (walk_at "go1"))
  rename_i I oI hh5 hb5 X F5 N5 K5 l5
  refine comp_run0 (fun _ i y => ([.ref x1, .ref x2] : List Value)[i]? = some y) R'.hand F5 N5 X (Nat.le_of_ble_eq_true rfl) rfl rfl rfl (by decide) ?_ ?_
  · intro i v C h tk m' hi hP F4 N4 kW hx
    have kb := (base_turn F5 N5).trans kW
    have hcell := (CellAt.turn (c := L + 1 + 1) N5 (by walk_at "mem") (by assumption)).up kW
    have hfr : ∃ j x, v = .ref j ∧ ([.ref x1, .ref x2] : List Value)[i]? = some (.ref x) ∧ Ls (wide h C []) j [.ref x] := by
      match i, hP with
      | 0, hP => cases hP; exact ⟨_, _, rfl, rfl, hf1.l.up (Sub.trans (by walk_at "sub") kb)⟩
      | 1, hP => cases hP; exact ⟨_, _, rfl, rfl, hf2.l.up (Sub.trans (by walk_at "sub") kb)⟩
      | k + 2, hP => simp at hP
    obtain ⟨jv, xv, rfl, hj, hlv⟩ := hfr
    repeat (first | ((with_reducible refine g_call ?_); first | ((refine r_spec (s_matched _ _ _ _ _ _ [.str "n" _] [.str "n" _] _ [.str "n"] (Nat.le_of_ble_eq_true rfl) (by intro y hy; rw [List.mem_singleton.mp hy]; exact ⟨_, _, rfl⟩) (.cons (.str _ _) .nil) (.cons (.str _ _) .nil)) (Room.le (by assumption) (by decide)) (by assumption) (by assumption) (by assumption) (by exact ⟨by walk_at "ls", Frame.up (by assumption) (endSub (by assumption) (by walk_at "sub"))⟩) ?_); intro v h' hb' tk' F' N' K' P'; obtain rfl := P' _ Off.refl) | ((refine r_spec (Spec.pre fun hz => s_new_frame _ _ _ _ _ _ _ (And.left hz) (And.right hz)) (Room.le (by assumption) (by decide)) (by assumption) (by assumption) (by assumption) (by exact ⟨⟨by walk_at "ls", by walk_at "ls", fun v hv => by rw [List.mem_singleton.mp hv]; exact ⟨_, _, _, _, rfl, by walk_at "vec"⟩⟩, by exact Nat.le_of_ble_eq_true rfl, by exact Nat.le_of_ble_eq_true rfl⟩) ?_); intro v h' hb' tk' F' N' K' P'; (have Pn := P'); obtain ⟨xn, jn, rfl, hn⟩ := P' _ Off.refl) | ((refine r_spec (s_joined_labels _ _ _ _ _ _ _ _ _ _ _ _ _ hn1 hn2 (by omega) (by omega)) (Room.le (by assumption) (by decide)) (by assumption) (by assumption) (by assumption) (by exact ⟨by walk_at "ls", Frame.up hf1 (endSub (by assumption) (by walk_at "sub")), Frame.up hf2 (endSub (by assumption) (by walk_at "sub"))⟩) ?_); intro v h' hb' tk' F' N' K' P'; (have Pl := P'); obtain ⟨xl, il, ul, rfl, hl1, hl2, hl3, hl4⟩ := P' _ Off.refl) | ((refine r_spec (s_joined_column _ _ _ _ _ _ _ _ _ _ _ _ _ hne1 hne2 (by omega) (by omega)) (Room.le (by assumption) (by decide)) (by assumption) (by assumption) (by assumption) (by exact ⟨by walk_at "ls", Col.up hq1 (endSub (by assumption) (by walk_at "sub")), Col.up hq2 (endSub (by assumption) (by walk_at "sub"))⟩) ?_); intro v h' hb' tk' F' N' K' P'; (have Pj := P'); obtain ⟨xj, ij, aj, rfl, hj1, hj2, hj3⟩ := P' _ Off.refl) | ((refine r_spec (Spec.pre fun hz => s_column_names _ _ _ _ _ _ _ (And.left hz) (And.right hz)) (Room.le (by assumption) (by decide)) (by assumption) (by assumption) (by assumption) (by exact ⟨Frame.up (by assumption) (endSub (by assumption) (by walk_at "sub")), by exact Nat.le_of_ble_eq_true rfl, by intro y hy; rw [List.mem_singleton.mp hy]; exact ⟨_, _, rfl⟩⟩) ?_); intro v h' hb' tk' F' N' K' P'; obtain ⟨Dn, rfl, hDn⟩ := P' _ Off.refl)) | (walk_at "go1"))
    (refine ⟨_, _, _, rfl, by assumption, by walk_at "sub", fun g hg => ?_⟩; exact hj)
  intro C oC D hh2 tk2 hb2 ys z F2 N2 hC fC k2 hyl hys
  have hy := hys hb2 Off.refl
  obtain rfl : ys = [.ref x1, .ref x2] := list_eq hyl hy
  clear hy hys
  repeat (first | ((with_reducible refine g_call ?_); first | ((refine r_spec (s_matched _ _ _ _ _ _ [.str "n" _] [.str "n" _] _ [.str "n"] (Nat.le_of_ble_eq_true rfl) (by intro y hy; rw [List.mem_singleton.mp hy]; exact ⟨_, _, rfl⟩) (.cons (.str _ _) .nil) (.cons (.str _ _) .nil)) (Room.le (by assumption) (by decide)) (by assumption) (by assumption) (by assumption) (by exact ⟨by walk_at "ls", Frame.up (by assumption) (endSub (by assumption) (by walk_at "sub"))⟩) ?_); intro v h' hb' tk' F' N' K' P'; obtain rfl := P' _ Off.refl) | ((refine r_spec (Spec.pre fun hz => s_new_frame _ _ _ _ _ _ _ (And.left hz) (And.right hz)) (Room.le (by assumption) (by decide)) (by assumption) (by assumption) (by assumption) (by exact ⟨⟨by walk_at "ls", by walk_at "ls", fun v hv => by rw [List.mem_singleton.mp hv]; exact ⟨_, _, _, _, rfl, by walk_at "vec"⟩⟩, by exact Nat.le_of_ble_eq_true rfl, by exact Nat.le_of_ble_eq_true rfl⟩) ?_); intro v h' hb' tk' F' N' K' P'; (have Pn := P'); obtain ⟨xn, jn, rfl, hn⟩ := P' _ Off.refl) | ((refine r_spec (s_joined_labels _ _ _ _ _ _ _ _ _ _ _ _ _ hn1 hn2 (by omega) (by omega)) (Room.le (by assumption) (by decide)) (by assumption) (by assumption) (by assumption) (by exact ⟨by walk_at "ls", Frame.up hf1 (endSub (by assumption) (by walk_at "sub")), Frame.up hf2 (endSub (by assumption) (by walk_at "sub"))⟩) ?_); intro v h' hb' tk' F' N' K' P'; (have Pl := P'); obtain ⟨xl, il, ul, rfl, hl1, hl2, hl3, hl4⟩ := P' _ Off.refl) | ((refine r_spec (s_joined_column _ _ _ _ _ _ _ _ _ _ _ _ _ hne1 hne2 (by omega) (by omega)) (Room.le (by assumption) (by decide)) (by assumption) (by assumption) (by assumption) (by exact ⟨by walk_at "ls", Col.up hq1 (endSub (by assumption) (by walk_at "sub")), Col.up hq2 (endSub (by assumption) (by walk_at "sub"))⟩) ?_); intro v h' hb' tk' F' N' K' P'; (have Pj := P'); obtain ⟨xj, ij, aj, rfl, hj1, hj2, hj3⟩ := P' _ Off.refl) | ((refine r_spec (Spec.pre fun hz => s_column_names _ _ _ _ _ _ _ (And.left hz) (And.right hz)) (Room.le (by assumption) (by decide)) (by assumption) (by assumption) (by assumption) (by exact ⟨Frame.up (by assumption) (endSub (by assumption) (by walk_at "sub")), by exact Nat.le_of_ble_eq_true rfl, by intro y hy; rw [List.mem_singleton.mp hy]; exact ⟨_, _, rfl⟩⟩) ?_); intro v h' hb' tk' F' N' K' P'; obtain ⟨Dn, rfl, hDn⟩ := P' _ Off.refl)) | (walk_at "go1"))
  (refine ret _ _ _ (endSub (by assumption) (by walk_at "sub")) (Fm.keepB (by assumption)) (fun g hg => ?_); exact (by obtain ⟨xj', ij', aj', e1, v1, l1, k1⟩ := Pj g (hg.of (endSub (by assumption) (by walk_at "sub")) (endSub (by assumption) (by walk_at "sub"))); obtain ⟨xl', il', us', e2, v2, l2, c2, z2⟩ := Pl g (hg.of (endSub (by assumption) (by walk_at "sub")) (endSub (by assumption) (by walk_at "sub"))); obtain ⟨xn', jn', e3, M⟩ := Pn g (hg.of (endSub (by assumption) (by walk_at "sub")) (endSub (by assumption) (by walk_at "sub"))); cases e1; cases e2; cases e3; exact ⟨_, _, _, _, _, _, _, _, rfl, M, v1, l1, k1, v2, l2, c2, z2⟩))
end -- E7
section
open PySem PySem.W PyProof.Rows PySem.Builtin PySem.SeqAt
noncomputable def itD : Option Int → PyData
  | none => .none
  | some n => .int n
theorem carried_int {v : Value} {n : Int} (h : Carried v (.int n)) : ∃ t, v = .int n t := by cases h; exact ⟨_, rfl⟩
theorem carried_none {v : Value} (h : Carried v .none) : v = .none := by cases h; rfl
theorem carried_str {v : Value} {x : Str} (h : Carried v (.str x)) : ∃ t, v = .str x t := by cases h; exact ⟨_, rfl⟩
theorem car_get : ∀ {vs : List Value} {ds : List PyData}, CarriedAll vs ds → ∀ (i : Nat) (v : Value), vs[i]? = some v → ∃ d, ds[i]? = some d ∧ Carried v d
  | _, _, .nil, i, v, e => by simp at e
  | _, _, .cons a r, 0, v, e => by cases e; exact ⟨_, rfl, a⟩
  | _, _, .cons a r, i + 1, v, e => car_get r i v (by simpa using e)
theorem car_of : ∀ {vs : List Value} {ds : List PyData}, vs.length = ds.length → (∀ (i : Nat) (v : Value) (d : PyData), vs[i]? = some v → ds[i]? = some d → Carried v d) → CarriedAll vs ds
  | [], [], _, _ => .nil
  | v :: vs, d :: ds, hl, h => .cons (h 0 v d rfl rfl) (car_of (by simpa using hl) fun i v' d' e f => h (i + 1) v' d' (by simpa using e) (by simpa using f))
theorem car_append : ∀ {vs ws : List Value} {ds es : List PyData}, CarriedAll vs ds → CarriedAll ws es → CarriedAll (vs ++ ws) (ds ++ es)
  | _, _, _, _, .nil, h => h
  | _, _, _, _, .cons a r, h => .cons a (car_append r h)
/-- what an item of a column is -/
theorem item_is {vs : List Value} {os : List (Option Int)} (hc : CarriedAll vs (os.map itD)) {i : Nat} {v : Value} (hv : vs[i]? = some v) : ∃ o, os[i]? = some o ∧ ((o = none ∧ v = .none) ∨ ∃ n t, o = some n ∧ v = .int n t) := by
  obtain ⟨d, hd, hk⟩ := car_get hc i v hv
  rw [List.getElem?_map] at hd
  cases ho : os[i]? with
  | none => rw [ho] at hd; cases hd
  | some o =>
    rw [ho] at hd
    cases hd
    refine ⟨o, rfl, ?_⟩
    cases o with
    | none => exact .inl ⟨rfl, carried_none hk⟩
    | some n => obtain ⟨t, e⟩ := carried_int hk; exact .inr ⟨n, t, rfl, e⟩
theorem shown_len {o : Option Int} (h : ItO o) : (shown o).length ≤ 7 := by
  cases o with
  | none => decide
  | some n =>
    obtain ⟨a, b, c⟩ : Itm n := h
    have hN : n.natAbs < 1000000 := by omega
    have := txt_len hN
    by_cases q : n < 0
    · show (txt n).length ≤ 7
      rw [← txt_neg q, Str.length_append]
      have : ("-" : Str).length = 1 := rfl
      omega
    · show (txt n).length ≤ 7
      rw [show n = (n.natAbs : Int) by omega]; omega
/-- the widest -/
noncomputable def widest (ns : List Int) : Int := ns.foldr max 0
theorem widest_of {ns : List Int} {M : Int} (h1 : M ∈ ns) (h2 : ∀ a, a ∈ ns → a ≤ M) (h0 : ∀ a ∈ ns, 0 ≤ a) : M = widest ns := by
  have up : ∀ l : List Int, ∀ a ∈ l, a ≤ widest l := by
    intro l
    induction l with
    | nil => intro a ha; cases ha
    | cons x r ih =>
      intro a ha
      show a ≤ max x (widest r)
      rcases List.mem_cons.mp ha with rfl | ha
      · omega
      · have := ih a ha; omega
  have lo : ∀ l : List Int, (∀ a ∈ l, a ≤ M) → 0 ≤ M → widest l ≤ M := by
    intro l
    induction l with
    | nil => intro _ h; exact h
    | cons x r ih =>
      intro h h0
      show max x (widest r) ≤ M
      have := ih (fun a ha => h a (.tail _ ha)) h0
      have := h x (.head _)
      omega
  have := up ns M h1
  have := lo ns h2 (h0 M h1)
  omega
theorem widest0 {ns : List Int} (h0 : ∀ a ∈ ns, 0 ≤ a) : widest (0 :: ns) = widest ns := by
  have : 0 ≤ widest ns := by
    cases ns with
    | nil => exact Int.le_refl _
    | cons x r => show 0 ≤ max x (widest r); have := h0 x (.head _); omega
  show max 0 (widest ns) = widest ns
  omega
noncomputable def lens (os : List (Option Int)) : List Int := os.map fun o => ((shown o).length : Int)
theorem lens_pos (os : List (Option Int)) : ∀ a ∈ lens os, 0 ≤ a := fun a ha => by obtain ⟨o, _, rfl⟩ := List.mem_map.mp ha; omega
theorem lens_le {os : List (Option Int)} (h : ∀ o ∈ os, ItO o) : ∀ a ∈ lens os, a ≤ 7 := fun a ha => by obtain ⟨o, ho, rfl⟩ := List.mem_map.mp ha; have := shown_len (h o ho); omega
theorem widest_le {ns : List Int} (h : ∀ a ∈ ns, a ≤ 7) : 0 ≤ widest ns ∧ widest ns ≤ 7 := by
  induction ns with
  | nil => exact ⟨Int.le_refl _, by decide⟩
  | cons x r ih =>
    have := ih fun a ha => h a (.tail _ ha)
    have := h x (.head _)
    show 0 ≤ max x (widest r) ∧ max x (widest r) ≤ 7
    omega
theorem le_widest {ns : List Int} {a : Int} (h : a ∈ ns) : a ≤ widest ns := by
  induction ns with
  | nil => cases h
  | cons x r ih =>
    show a ≤ max x (widest r)
    rcases List.mem_cons.mp h with rfl | h
    · omega
    · have := ih h; omega
/-- an item of the matrix -/
noncomputable def padD (W : Int) : Option Int → PyData
  | none => .none
  | some n => .str (blanks (W - (txt n).length) ++ txt n)
theorem lens_car {ys : List Value} {os : List (Option Int)} (hl : ys.length = os.length) (h : ∀ (i : Nat) (y : Value), ys[i]? = some y → ∃ o t, os[i]? = some o ∧ y = .int ((shown o).length : Int) t) : IntsAre ys (lens os) := by
  induction ys generalizing os with
  | nil => cases os with | nil => exact .nil | cons => cases hl
  | cons y r ih =>
    cases os with
    | nil => cases hl
    | cons o q =>
      obtain ⟨o', t, e, rfl⟩ := h 0 y rfl
      cases e
      exact .cons _ _ (ih (by simpa using hl) fun i y' e => by simpa using h (i + 1) y' (by simpa using e))
theorem rjust_eq {x : Str} {W : Int} (h : (x.length : Int) ≤ W) : Txt.rjust x W = blanks (W - x.length) ++ x := by
  have hb : (blanks (W - x.length)).cps.toList = List.replicate (W - x.length).toNat 32 := mul_one_list 32 _
  apply Str.ext'
  apply Array.toList_inj.mp
  rw [Str.cps_append, Array.toList_append, hb]
  unfold Txt.rjust
  split
  · rename_i q
    have : (W - x.length).toNat = 0 := by omega
    rw [this]; simp
  · have : W.toNat - x.length = (W - x.length).toNat := by omega
    rw [this]
    simp [Str.padded]
end -- T2
section
open PySem PySem.W PyProof.Rows PySem.Calls
set_option maxRecDepth 100000
set_option maxHeartbeats 1000000
theorem snoc_get {us : List Value} {x : Value} {P : Nat → Value → Prop} {i : Nat} (hl : us.length = i) (h : ∀ (j : Nat) (y : Value), us[j]? = some y → P j y) (hx : P i x) : ∀ (j : Nat) (y : Value), (us ++ [x])[j]? = some y → P j y := by
  subst hl
  intro j y e
  rcases Nat.lt_or_ge j us.length with q | q
  · rw [List.getElem?_append_left q] at e; exact h j y e
  · rw [List.getElem?_append_right q] at e
    have : j - us.length = 0 := by
      cases k : j - us.length with
      | zero => rfl
      | succ n => rw [k] at e; simp at e
    rw [this] at e
    cases e
    have : j = us.length := by omega
    subst this; exact hx
theorem s_padded (w : World) (B : Heap) (x i : Addr) (a : Value) (vs : List Value) (os : List (Option Int)) (hc : CarriedAll vs (os.map itD)) (ho : ∀ o ∈ os, ItO o) (hz : os.length ≤ 1000) :
    Spec w B 7 (.ref 613) [.ref x] (fun h => Vec h x "integer" i a ∧ Ls h i vs) (fun h r => ∃ D us, r = .ref D ∧ Ls h D us ∧ CarriedAll us (os.map (padD (widest (lens os))))) := by
  have hvl : vs.length = os.length := by rw [hc.length_eq, List.length_map]
  rintro A s Q E R G hB ⟨hv, hl⟩ ret
  refine enter0 96 (binds := [("column", .ref x)]) R G hB ⟨_, by simp only [tblS]; repeat (first | exact List.Mem.head _ | refine List.Mem.tail _ ?_)⟩ (fun _ _ => rfl) rfl rfl rfl fun cd L h₁ F N R' => ?_
  generalize hb : fdBody (stAt 96) = bd
  conv at hb => lhs; whnf
  subst hb
  generalize hsc : fdScope (stAt 96) = sc at F R' N ⊢
  conv at hsc => lhs; whnf
  subst hsc
  generalize hnm : fdName (stAt 96) = nm at F R' N ⊢
  repeat (first | ((with_reducible refine g_call ?_); first | ((refine r_spec (s_is_lacking _ _ _ _ _ hlk) (Room.le (by assumption) (by decide)) (by assumption) (by assumption) (by assumption) (by trivial) ?_); intro v h' hb' tk' F' N' K' P'; (have e3 := P' _ Off.refl); subst e3) | ((refine r_spec (s_common_texts _ _ _ _ _ _ hlen2) (Room.le (by assumption) (by decide)) (by assumption) (by assumption) (by assumption) (by exact ⟨by walk_at "ls", hfrac _ (endSub (by assumption) (by walk_at "sub"))⟩) ?_); intro v h' hb' tk' F' N' K' P'; obtain ⟨Dt, ts, rfl, hDt, hts⟩ := P' _ Off.refl) | ((refine r_spec (s_from_int _ _ _ _) (Room.le (by assumption) (by decide)) (by assumption) (by assumption) (by assumption) (by trivial) ?_); intro v h' hb' tk' F' N' K' P'; (have Pf := P')) | ((refine r_spec (s_from_none _ _) (Room.le (by assumption) (by decide)) (by assumption) (by assumption) (by assumption) (by trivial) ?_); intro v h' hb' tk' F' N' K' P'; (have Pf := P'); obtain rfl := P' _ Off.refl)) | (walk_at "go1"))
  rename_i I oI hh1 X F1 N1
  refine comp_run0 (fun h i y => ∃ o, os[i]? = some o ∧ Frac h y o) R'.hand F1 N1 X (by omega) rfl rfl rfl (by decide) ?_ ?_
  · intro i v C h tk m' hi hP F3 N3 kW hx
    obtain ⟨o, hoi, ⟨rfl, rfl⟩ | ⟨n, t, rfl, rfl⟩⟩ := item_is hc hP
    · repeat (first | ((with_reducible refine g_call ?_); first | ((refine r_spec (s_is_lacking _ _ _ _ _ hlk) (Room.le (by assumption) (by decide)) (by assumption) (by assumption) (by assumption) (by trivial) ?_); intro v h' hb' tk' F' N' K' P'; (have e3 := P' _ Off.refl); subst e3) | ((refine r_spec (s_common_texts _ _ _ _ _ _ hlen2) (Room.le (by assumption) (by decide)) (by assumption) (by assumption) (by assumption) (by exact ⟨by walk_at "ls", hfrac _ (endSub (by assumption) (by walk_at "sub"))⟩) ?_); intro v h' hb' tk' F' N' K' P'; obtain ⟨Dt, ts, rfl, hDt, hts⟩ := P' _ Off.refl) | ((refine r_spec (s_from_int _ _ _ _) (Room.le (by assumption) (by decide)) (by assumption) (by assumption) (by assumption) (by trivial) ?_); intro v h' hb' tk' F' N' K' P'; (have Pf := P')) | ((refine r_spec (s_from_none _ _) (Room.le (by assumption) (by decide)) (by assumption) (by assumption) (by assumption) (by trivial) ?_); intro v h' hb' tk' F' N' K' P'; (have Pf := P'); obtain rfl := P' _ Off.refl)) | (walk_at "go1"))
      (refine ⟨_, _, _, rfl, by assumption, by walk_at "sub", fun g hg => ?_⟩; exact ⟨none, hoi, rfl⟩)
    · repeat (first | ((with_reducible refine g_call ?_); first | ((refine r_spec (s_is_lacking _ _ _ _ _ hlk) (Room.le (by assumption) (by decide)) (by assumption) (by assumption) (by assumption) (by trivial) ?_); intro v h' hb' tk' F' N' K' P'; (have e3 := P' _ Off.refl); subst e3) | ((refine r_spec (s_common_texts _ _ _ _ _ _ hlen2) (Room.le (by assumption) (by decide)) (by assumption) (by assumption) (by assumption) (by exact ⟨by walk_at "ls", hfrac _ (endSub (by assumption) (by walk_at "sub"))⟩) ?_); intro v h' hb' tk' F' N' K' P'; obtain ⟨Dt, ts, rfl, hDt, hts⟩ := P' _ Off.refl) | ((refine r_spec (s_from_int _ _ _ _) (Room.le (by assumption) (by decide)) (by assumption) (by assumption) (by assumption) (by trivial) ?_); intro v h' hb' tk' F' N' K' P'; (have Pf := P')) | ((refine r_spec (s_from_none _ _) (Room.le (by assumption) (by decide)) (by assumption) (by assumption) (by assumption) (by trivial) ?_); intro v h' hb' tk' F' N' K' P'; (have Pf := P'); obtain rfl := P' _ Off.refl)) | (walk_at "go1"))
      (refine ⟨_, _, _, rfl, by assumption, by walk_at "sub", fun g hg => ?_⟩; exact ⟨some n, hoi, Pf g (hg.of (Sub.refl _) (Fm.keep (by assumption)))⟩)
  intro C oC D hh2 tk2 hb2 ys z F2 N2 hC fC k2 hyl hys
  have hlen2 : ys.length ≤ 1000 := by omega
  have hfrac : ∀ g, Sub hb2 g → FracL g ys os := fun g kg => ⟨by omega, fun i v o e f => by
    obtain ⟨o', e', fr⟩ := hys hb2 Off.refl i v e
    rw [f] at e'; cases e'
    exact ⟨fr.up kg, ho o (List.mem_of_getElem? f)⟩⟩
  clear hys
  repeat (first | ((with_reducible refine g_call ?_); first | ((refine r_spec (s_is_lacking _ _ _ _ _ hlk) (Room.le (by assumption) (by decide)) (by assumption) (by assumption) (by assumption) (by trivial) ?_); intro v h' hb' tk' F' N' K' P'; (have e3 := P' _ Off.refl); subst e3) | ((refine r_spec (s_common_texts _ _ _ _ _ _ hlen2) (Room.le (by assumption) (by decide)) (by assumption) (by assumption) (by assumption) (by exact ⟨by walk_at "ls", hfrac _ (endSub (by assumption) (by walk_at "sub"))⟩) ?_); intro v h' hb' tk' F' N' K' P'; obtain ⟨Dt, ts, rfl, hDt, hts⟩ := P' _ Off.refl) | ((refine r_spec (s_from_int _ _ _ _) (Room.le (by assumption) (by decide)) (by assumption) (by assumption) (by assumption) (by trivial) ?_); intro v h' hb' tk' F' N' K' P'; (have Pf := P')) | ((refine r_spec (s_from_none _ _) (Room.le (by assumption) (by decide)) (by assumption) (by assumption) (by assumption) (by trivial) ?_); intro v h' hb' tk' F' N' K' P'; (have Pf := P'); obtain rfl := P' _ Off.refl)) | (walk_at "go1"))
  have htl : ts.length = os.length := by rw [hts.1, List.length_map]
  rename_i I oI hh3 X F3 N3
  refine comp_run0 (fun h i y => ∃ o t, os[i]? = some o ∧ y = .int ((shown o).length : Int) t) R'.hand F3 N3 X (by omega) rfl rfl rfl (by decide) ?_ ?_
  · intro i v C h tk m' hi hP F4 N4 kW hx
    obtain ⟨o, hoi⟩ : ∃ o, os[i]? = some o := ⟨os[i]'(by omega), List.getElem?_eq_getElem _⟩
    obtain ⟨tv, rfl⟩ := hts.2 i v (shown o) hP (by rw [List.getElem?_map, hoi]; rfl)
    have hsl := shown_len (ho o (List.mem_of_getElem? hoi))
    have hsz : (shown o).length ≤ 1000000 := by omega
    repeat (first | ((with_reducible refine g_call ?_); first | ((refine r_spec (s_is_lacking _ _ _ _ _ hlk) (Room.le (by assumption) (by decide)) (by assumption) (by assumption) (by assumption) (by trivial) ?_); intro v h' hb' tk' F' N' K' P'; (have e3 := P' _ Off.refl); subst e3) | ((refine r_spec (s_common_texts _ _ _ _ _ _ hlen2) (Room.le (by assumption) (by decide)) (by assumption) (by assumption) (by assumption) (by exact ⟨by walk_at "ls", hfrac _ (endSub (by assumption) (by walk_at "sub"))⟩) ?_); intro v h' hb' tk' F' N' K' P'; obtain ⟨Dt, ts, rfl, hDt, hts⟩ := P' _ Off.refl) | ((refine r_spec (s_from_int _ _ _ _) (Room.le (by assumption) (by decide)) (by assumption) (by assumption) (by assumption) (by trivial) ?_); intro v h' hb' tk' F' N' K' P'; (have Pf := P')) | ((refine r_spec (s_from_none _ _) (Room.le (by assumption) (by decide)) (by assumption) (by assumption) (by assumption) (by trivial) ?_); intro v h' hb' tk' F' N' K' P'; (have Pf := P'); obtain rfl := P' _ Off.refl)) | (walk_at "go1"))
    (refine ⟨_, _, _, rfl, by assumption, by walk_at "sub", fun g hg => ?_⟩; exact ⟨o, _, hoi, rfl⟩)
  intro C oC D hh4 tk4 hb4 ys4 z4 F5 N5 hC fC k4 hyl4 hys4
  have hI : IntsAre ys4 (lens os) := lens_car (by omega) (hys4 hb4 Off.refl)
  clear hys4
  have hlen4 : [Value.int 0 0].length + ys4.length ≤ 1000000 := by simp; omega
  repeat (first | ((with_reducible refine g_call ?_); first | ((refine r_spec (s_is_lacking _ _ _ _ _ hlk) (Room.le (by assumption) (by decide)) (by assumption) (by assumption) (by assumption) (by trivial) ?_); intro v h' hb' tk' F' N' K' P'; (have e3 := P' _ Off.refl); subst e3) | ((refine r_spec (s_common_texts _ _ _ _ _ _ hlen2) (Room.le (by assumption) (by decide)) (by assumption) (by assumption) (by assumption) (by exact ⟨by walk_at "ls", hfrac _ (endSub (by assumption) (by walk_at "sub"))⟩) ?_); intro v h' hb' tk' F' N' K' P'; obtain ⟨Dt, ts, rfl, hDt, hts⟩ := P' _ Off.refl) | ((refine r_spec (s_from_int _ _ _ _) (Room.le (by assumption) (by decide)) (by assumption) (by assumption) (by assumption) (by trivial) ?_); intro v h' hb' tk' F' N' K' P'; (have Pf := P')) | ((refine r_spec (s_from_none _ _) (Room.le (by assumption) (by decide)) (by assumption) (by assumption) (by assumption) (by trivial) ?_); intro v h' hb' tk' F' N' K' P'; (have Pf := P'); obtain rfl := P' _ Off.refl)) | (walk_at "go1"))
  have hW := (widest_of (ns := 0 :: lens os) (by assumption) (by assumption) (fun a ha => by rcases List.mem_cons.mp ha with rfl | ha; exact Int.le_refl _; exact lens_pos os a ha)).trans (widest0 (lens_pos os))
  have hW2 := widest_le (lens_le ho)
  rename_i I oI hh5 X5 F5 N5
  refine for_inv (fun i s' => ∃ h' tk' m' o' hb' a' us z rest tW, s' = ⟨h', s.gens, s.drawn, tk', s.os⟩ ∧ Fm B hb' L h' m' ∧ Nw hb' L h' ((I, o') :: (a', listOf us.toArray z) :: rest) ∧ Iter w hb' I ts.length (fun i v => ∃ t, v = .int i t) i o' ∧ Sub s.heap hb' ∧ Ls hb' Dt ts ∧
      m' "column" = some (.ref x) ∧ m' "texts" = some (.ref Dt) ∧ m' "width" = some (.int (widest (lens os)) tW) ∧ m' "found" = some (.ref a') ∧ us.length = i ∧ ∀ (j : Nat) (y : Value), us[j]? = some y → ∃ o, os[j]? = some o ∧ Carried y (padD (widest (lens os)) o)) ts.length ?_ ?_
    ⟨_, _, _, _, _, _, [], _, _, _, rfl, F5, N5, X5, by walk_at "sub", by walk_at "lsb", rfl, rfl, by rw [← hW]; rfl, rfl, rfl, fun j y e => by simp at e⟩
  · rintro i s' hi ⟨h', tk', m', o', hb', a', us, z, rest, tW, rfl, F6, N6, X6, K6, hDt6, m1, m2, m3, m4, hul, hus⟩ next
    refine for_item (k := 0) R'.hand F6 N6 rfl X6 hi fun v h2 tk2 o2 hv2 X7 F7 N7 => ?_
    obtain ⟨ti, rfl⟩ := hv2
    dsimp only [List.set] at N7
    have hil : i < os.length := by omega
    obtain ⟨o, hoi⟩ : ∃ o, os[i]? = some o := ⟨os[i]'hil, List.getElem?_eq_getElem _⟩
    obtain ⟨vi, hvi'⟩ : ∃ vi, vs[i]? = some vi := ⟨vs[i]'(by omega), List.getElem?_eq_getElem _⟩
    obtain ⟨si, hsi'⟩ : ∃ vi, ts[i]? = some vi := ⟨ts[i]'(by omega), List.getElem?_eq_getElem _⟩
    obtain ⟨tv, rfl⟩ := hts.2 i si (shown o) hsi' (by rw [List.getElem?_map, hoi]; rfl)
    have hvi : vs[((i : Nat) : Int).toNat]? = some vi := hvi'
    have hsi : ts[((i : Nat) : Int).toNat]? = some _ := hsi'
    have hi6 : (i : Int) ≤ 1000000 := by omega
    have hul6 : us.length ≤ 1000000 := by omega
    have hv6 := hv.up K6
    have hl6 := hl.up K6
    obtain ⟨o', hoi', hlk⟩ := item_is hc hvi'
    rw [hoi] at hoi'; cases hoi'
    have hw7 : 0 ≤ widest (lens os) := hW2.1
    have hw8 : widest (lens os) ≤ 1000000 := by omega
    repeat (first | ((with_reducible refine g_call ?_); first | ((refine r_spec (s_is_lacking _ _ _ _ _ hlk) (Room.le (by assumption) (by decide)) (by assumption) (by assumption) (by assumption) (by trivial) ?_); intro v h' hb' tk' F' N' K' P'; (have e3 := P' _ Off.refl); subst e3) | ((refine r_spec (s_common_texts _ _ _ _ _ _ hlen2) (Room.le (by assumption) (by decide)) (by assumption) (by assumption) (by assumption) (by exact ⟨by walk_at "ls", hfrac _ (endSub (by assumption) (by walk_at "sub"))⟩) ?_); intro v h' hb' tk' F' N' K' P'; obtain ⟨Dt, ts, rfl, hDt, hts⟩ := P' _ Off.refl) | ((refine r_spec (s_from_int _ _ _ _) (Room.le (by assumption) (by decide)) (by assumption) (by assumption) (by assumption) (by trivial) ?_); intro v h' hb' tk' F' N' K' P'; (have Pf := P')) | ((refine r_spec (s_from_none _ _) (Room.le (by assumption) (by decide)) (by assumption) (by assumption) (by assumption) (by trivial) ?_); intro v h' hb' tk' F' N' K' P'; (have Pf := P'); obtain rfl := P' _ Off.refl)) | (walk_at "go1"))
    cases o with
    | none =>
      repeat (first | ((with_reducible refine g_call ?_); first | ((refine r_spec (s_is_lacking _ _ _ _ _ hlk) (Room.le (by assumption) (by decide)) (by assumption) (by assumption) (by assumption) (by trivial) ?_); intro v h' hb' tk' F' N' K' P'; (have e3 := P' _ Off.refl); subst e3) | ((refine r_spec (s_common_texts _ _ _ _ _ _ hlen2) (Room.le (by assumption) (by decide)) (by assumption) (by assumption) (by assumption) (by exact ⟨by walk_at "ls", hfrac _ (endSub (by assumption) (by walk_at "sub"))⟩) ?_); intro v h' hb' tk' F' N' K' P'; obtain ⟨Dt, ts, rfl, hDt, hts⟩ := P' _ Off.refl) | ((refine r_spec (s_from_int _ _ _ _) (Room.le (by assumption) (by decide)) (by assumption) (by assumption) (by assumption) (by trivial) ?_); intro v h' hb' tk' F' N' K' P'; (have Pf := P')) | ((refine r_spec (s_from_none _ _) (Room.le (by assumption) (by decide)) (by assumption) (by assumption) (by assumption) (by trivial) ?_); intro v h' hb' tk' F' N' K' P'; (have Pf := P'); obtain rfl := P' _ Off.refl)) | (walk_at "go1"))
      exact next _ ⟨_, _, _, o2, _, a', us ++ [.none], _, rest, tW, rfl, by assumption, by assumption, X7.up (by walk_at "sub"), by walk_at "sub", by walk_at "lsb", by exact m1, by exact m2, by exact m3, by exact m4, by simp [hul], snoc_get hul hus ⟨none, hoi, .none⟩⟩
    | some n =>
      repeat (first | ((with_reducible refine g_call ?_); first | ((refine r_spec (s_is_lacking _ _ _ _ _ hlk) (Room.le (by assumption) (by decide)) (by assumption) (by assumption) (by assumption) (by trivial) ?_); intro v h' hb' tk' F' N' K' P'; (have e3 := P' _ Off.refl); subst e3) | ((refine r_spec (s_common_texts _ _ _ _ _ _ hlen2) (Room.le (by assumption) (by decide)) (by assumption) (by assumption) (by assumption) (by exact ⟨by walk_at "ls", hfrac _ (endSub (by assumption) (by walk_at "sub"))⟩) ?_); intro v h' hb' tk' F' N' K' P'; obtain ⟨Dt, ts, rfl, hDt, hts⟩ := P' _ Off.refl) | ((refine r_spec (s_from_int _ _ _ _) (Room.le (by assumption) (by decide)) (by assumption) (by assumption) (by assumption) (by trivial) ?_); intro v h' hb' tk' F' N' K' P'; (have Pf := P')) | ((refine r_spec (s_from_none _ _) (Room.le (by assumption) (by decide)) (by assumption) (by assumption) (by assumption) (by trivial) ?_); intro v h' hb' tk' F' N' K' P'; (have Pf := P'); obtain rfl := P' _ Off.refl)) | (walk_at "go1"))
      have hle : ((shown (some n)).length : Int) ≤ widest (lens os) := le_widest (List.mem_map.mpr ⟨some n, List.mem_of_getElem? hoi, rfl⟩)
      exact next _ ⟨_, _, _, o2, _, a', us ++ [.str (Txt.rjust (shown (some n)) (widest (lens os))) _], _, rest, tW, rfl, by assumption, by assumption, X7.up (by walk_at "sub"), by walk_at "sub", by walk_at "lsb", by exact m1, by exact m2, by exact m3, by exact m4, by simp [hul], snoc_get hul hus ⟨some n, hoi, by rw [rjust_eq hle]; exact .str _ _⟩⟩
  · rintro s' ⟨h', tk', m', o', hb', a', us, z, rest, tW, rfl, F6, N6, X6, K6, hDt6, m1, m2, m3, m4, hul, hus⟩
    refine for_end (k := 0) R'.hand F6 N6 rfl X6 fun h2 tk2 F7 N7 => ?_
    dsimp only [List.eraseIdx] at N7
    repeat (first | ((with_reducible refine g_call ?_); first | ((refine r_spec (s_is_lacking _ _ _ _ _ hlk) (Room.le (by assumption) (by decide)) (by assumption) (by assumption) (by assumption) (by trivial) ?_); intro v h' hb' tk' F' N' K' P'; (have e3 := P' _ Off.refl); subst e3) | ((refine r_spec (s_common_texts _ _ _ _ _ _ hlen2) (Room.le (by assumption) (by decide)) (by assumption) (by assumption) (by assumption) (by exact ⟨by walk_at "ls", hfrac _ (endSub (by assumption) (by walk_at "sub"))⟩) ?_); intro v h' hb' tk' F' N' K' P'; obtain ⟨Dt, ts, rfl, hDt, hts⟩ := P' _ Off.refl) | ((refine r_spec (s_from_int _ _ _ _) (Room.le (by assumption) (by decide)) (by assumption) (by assumption) (by assumption) (by trivial) ?_); intro v h' hb' tk' F' N' K' P'; (have Pf := P')) | ((refine r_spec (s_from_none _ _) (Room.le (by assumption) (by decide)) (by assumption) (by assumption) (by assumption) (by trivial) ?_); intro v h' hb' tk' F' N' K' P'; (have Pf := P'); obtain rfl := P' _ Off.refl)) | (walk_at "go1"))
    have hfin : CarriedAll us (os.map (padD (widest (lens os)))) := car_of (by rw [hul, htl, List.length_map]) fun i v d e f => by
      obtain ⟨o, h1, h2⟩ := hus i v e
      rw [List.getElem?_map, h1] at f
      cases f; exact h2
    (refine ret _ _ _ (endSub (by assumption) (by walk_at "sub")) (Fm.keepB (by assumption)) (fun g hg => ?_); exact ⟨_, us, rfl, ⟨_, news_off hg (by assumption) (by walk_at "sub") (by walk_at "mem") (fixed_seq rfl)⟩, hfin⟩)
end -- F1
section
open PySem PySem.W PyProof.Rows PySem.Calls
set_option maxRecDepth 100000
set_option maxHeartbeats 1000000
theorem nofac_nil (w : World) (h : Heap) : NoFac w h [] := ⟨[], [], .inl ⟨rfl, rfl⟩, .nil, rfl, by decide⟩
theorem s_is_text_c (w : World) (B : Heap) (x i : Addr) (a : Value) : Spec w B 4 (.ref 627) [.ref x] (fun h => Vec h x "character" i a) (fun h r => r = .bool true) := by
  rintro A s Q E R G hB hv ret
  refine enter0 98 (binds := [("column", .ref x)]) R G hB ⟨_, by simp only [tblS]; repeat (first | exact List.Mem.head _ | refine List.Mem.tail _ ?_)⟩ (fun _ _ => rfl) rfl rfl rfl fun cd L h₁ F N R' => ?_
  generalize hb : fdBody (stAt 98) = bd
  conv at hb => lhs; whnf
  subst hb
  generalize hsc : fdScope (stAt 98) = sc at F R' N ⊢
  conv at hsc => lhs; whnf
  subst hsc
  generalize hnm : fdName (stAt 98) = nm at F R' N ⊢
  repeat (first | ((with_reducible refine g_call ?_); first | ((refine r_spec (s_is_factor _ _ _ _ _ _) (Room.le (by assumption) (by decide)) (by assumption) (by assumption) (by assumption) (by exact ⟨by walk_at "vec", .inl ⟨rfl, rfl⟩, nofac_nil _ _⟩) ?_); intro v h' hb' tk' F' N' K' P'; obtain rfl := P' _ Off.refl) | ((refine r_spec (s_is_factor_c _ _ _ _ _) (Room.le (by assumption) (by decide)) (by assumption) (by assumption) (by assumption) (by exact (by walk_at "vec")) ?_); intro v h' hb' tk' F' N' K' P'; obtain rfl := P' _ Off.refl)) | (walk_at "go1"))
  (refine ret _ _ _ (endSub (by assumption) (by walk_at "sub")) (Fm.keepB (by assumption)) (fun g hg => ?_); exact rfl)
theorem s_is_text_i (w : World) (B : Heap) (x i : Addr) : Spec w B 4 (.ref 627) [.ref x] (fun h => Vec h x "integer" i .none) (fun h r => r = .bool false) := by
  rintro A s Q E R G hB hv ret
  refine enter0 98 (binds := [("column", .ref x)]) R G hB ⟨_, by simp only [tblS]; repeat (first | exact List.Mem.head _ | refine List.Mem.tail _ ?_)⟩ (fun _ _ => rfl) rfl rfl rfl fun cd L h₁ F N R' => ?_
  generalize hb : fdBody (stAt 98) = bd
  conv at hb => lhs; whnf
  subst hb
  generalize hsc : fdScope (stAt 98) = sc at F R' N ⊢
  conv at hsc => lhs; whnf
  subst hsc
  generalize hnm : fdName (stAt 98) = nm at F R' N ⊢
  repeat (first | ((with_reducible refine g_call ?_); first | ((refine r_spec (s_is_factor _ _ _ _ _ _) (Room.le (by assumption) (by decide)) (by assumption) (by assumption) (by assumption) (by exact ⟨by walk_at "vec", .inl ⟨rfl, rfl⟩, nofac_nil _ _⟩) ?_); intro v h' hb' tk' F' N' K' P'; obtain rfl := P' _ Off.refl) | ((refine r_spec (s_is_factor_c _ _ _ _ _) (Room.le (by assumption) (by decide)) (by assumption) (by assumption) (by assumption) (by exact (by walk_at "vec")) ?_); intro v h' hb' tk' F' N' K' P'; obtain rfl := P' _ Off.refl)) | (walk_at "go1"))
  (refine ret _ _ _ (endSub (by assumption) (by walk_at "sub")) (Fm.keepB (by assumption)) (fun g hg => ?_); exact rfl)
theorem s_col_texts_i (w : World) (B : Heap) (x i : Addr) (vs : List Value) (os : List (Option Int)) (hcar : CarriedAll vs (os.map itD)) (hito : ∀ o ∈ os, ItO o) (hlo : os.length ≤ 1000) :
    Spec w B 8 (.ref 620) [.ref x] (fun h => Vec h x "integer" i .none ∧ Ls h i vs) (fun h r => ∃ D us, r = .ref D ∧ Ls h D us ∧ CarriedAll us (os.map (padD (widest (lens os))))) := by
  rintro A s Q E R G hB ⟨hv, hl⟩ ret
  refine enter0 97 (binds := [("column", .ref x)]) R G hB ⟨_, by simp only [tblS]; repeat (first | exact List.Mem.head _ | refine List.Mem.tail _ ?_)⟩ (fun _ _ => rfl) rfl rfl rfl fun cd L h₁ F N R' => ?_
  generalize hb : fdBody (stAt 97) = bd
  conv at hb => lhs; whnf
  subst hb
  generalize hsc : fdScope (stAt 97) = sc at F R' N ⊢
  conv at hsc => lhs; whnf
  subst hsc
  generalize hnm : fdName (stAt 97) = nm at F R' N ⊢
  repeat (first | ((with_reducible refine g_call ?_); first | ((refine r_spec (s_label_texts _ _ _ _ _ hlw hsw) (Room.le (by assumption) (by decide)) (by assumption) (by assumption) (by assumption) (by exact ⟨by walk_at "vec", by walk_at "ls"⟩) ?_); intro v h' hb' tk' F' N' K' P'; (have Pp := P')) | ((refine r_spec (s_padded _ _ _ _ _ _ _ hcar hito hlo) (Room.le (by assumption) (by decide)) (by assumption) (by assumption) (by assumption) (by exact ⟨by walk_at "vec", by walk_at "ls"⟩) ?_); intro v h' hb' tk' F' N' K' P'; (have Pp := P')) | ((refine r_spec (s_is_factor _ _ _ _ _ _) (Room.le (by assumption) (by decide)) (by assumption) (by assumption) (by assumption) (by exact ⟨by walk_at "vec", .inl ⟨rfl, rfl⟩, nofac_nil _ _⟩) ?_); intro v h' hb' tk' F' N' K' P'; obtain rfl := P' _ Off.refl) | ((refine r_spec (s_is_factor_c _ _ _ _ _) (Room.le (by assumption) (by decide)) (by assumption) (by assumption) (by assumption) (by exact (by walk_at "vec")) ?_); intro v h' hb' tk' F' N' K' P'; obtain rfl := P' _ Off.refl)) | (walk_at "go1"))
  (refine ret _ _ _ (endSub (by assumption) (by walk_at "sub")) (Fm.keepB (by assumption)) (fun g hg => ?_); exact (Pp g (hg.of (endSub (by assumption) (by walk_at "sub")) (endSub (by assumption) (by walk_at "sub")))))
theorem s_col_texts_c (w : World) (B : Heap) (x i : Addr) (vs : List Value) (hlw : vs.length ≤ 1000) (hsw : ∀ y ∈ vs, ∃ s t, y = .str s t) :
    Spec w B 8 (.ref 620) [.ref x] (fun h => Vec h x "character" i .none ∧ Ls h i vs) (fun h r => ∃ D, r = .ref D ∧ Ls h D vs) := by
  rintro A s Q E R G hB ⟨hv, hl⟩ ret
  refine enter0 97 (binds := [("column", .ref x)]) R G hB ⟨_, by simp only [tblS]; repeat (first | exact List.Mem.head _ | refine List.Mem.tail _ ?_)⟩ (fun _ _ => rfl) rfl rfl rfl fun cd L h₁ F N R' => ?_
  generalize hb : fdBody (stAt 97) = bd
  conv at hb => lhs; whnf
  subst hb
  generalize hsc : fdScope (stAt 97) = sc at F R' N ⊢
  conv at hsc => lhs; whnf
  subst hsc
  generalize hnm : fdName (stAt 97) = nm at F R' N ⊢
  repeat (first | ((with_reducible refine g_call ?_); first | ((refine r_spec (s_label_texts _ _ _ _ _ hlw hsw) (Room.le (by assumption) (by decide)) (by assumption) (by assumption) (by assumption) (by exact ⟨by walk_at "vec", by walk_at "ls"⟩) ?_); intro v h' hb' tk' F' N' K' P'; (have Pp := P')) | ((refine r_spec (s_padded _ _ _ _ _ _ _ hcar hito hlo) (Room.le (by assumption) (by decide)) (by assumption) (by assumption) (by assumption) (by exact ⟨by walk_at "vec", by walk_at "ls"⟩) ?_); intro v h' hb' tk' F' N' K' P'; (have Pp := P')) | ((refine r_spec (s_is_factor _ _ _ _ _ _) (Room.le (by assumption) (by decide)) (by assumption) (by assumption) (by assumption) (by exact ⟨by walk_at "vec", .inl ⟨rfl, rfl⟩, nofac_nil _ _⟩) ?_); intro v h' hb' tk' F' N' K' P'; obtain rfl := P' _ Off.refl) | ((refine r_spec (s_is_factor_c _ _ _ _ _) (Room.le (by assumption) (by decide)) (by assumption) (by assumption) (by assumption) (by exact (by walk_at "vec")) ?_); intro v h' hb' tk' F' N' K' P'; obtain rfl := P' _ Off.refl)) | (walk_at "go1"))
  (refine ret _ _ _ (endSub (by assumption) (by walk_at "sub")) (Fm.keepB (by assumption)) (fun g hg => ?_); exact (Pp g (hg.of (endSub (by assumption) (by walk_at "sub")) (endSub (by assumption) (by walk_at "sub")))))
def DimN (h : Heap) (x : Addr) (nms : List Value) : Prop := ∃ i nu cv ci, Vec h x "list" i .none ∧ Ls h i [.ref nu, .ref cv] ∧ Vec h cv "character" ci .none ∧ Ls h ci nms
theorem s_dimnames (w : World) (B : Heap) (l nl : Addr) (nms : List Value) (hz : nms.length ≤ 1000) : Spec w B 3 (.ref 565) [.ref l] (fun h => Ls h l [.none, .ref nl] ∧ Ls h nl nms) (fun h r => ∃ x, r = .ref x ∧ DimN h x nms) := by
  rintro A s Q E R G hB ⟨hl, hn⟩ ret
  refine enter0 87 (binds := [("rows", .ref l)]) R G hB ⟨_, by simp only [tblS]; repeat (first | exact List.Mem.head _ | refine List.Mem.tail _ ?_)⟩ (fun _ _ => rfl) rfl rfl rfl fun cd L h₁ F N R' => ?_
  generalize hb : fdBody (stAt 87) = bd
  conv at hb => lhs; whnf
  subst hb
  generalize hsc : fdScope (stAt 87) = sc at F R' N ⊢
  conv at hsc => lhs; whnf
  subst hsc
  generalize hnm : fdName (stAt 87) = nm at F R' N ⊢
  repeat (first | ((with_reducible refine g_call ?_); first | ((refine r_spec (Spec.pre fun hz => s_character _ _ _ _ hz) (Room.le (by assumption) (by decide)) (by assumption) (by assumption) (by assumption) (by exact ⟨by walk_at "ls", by first | omega | exact Nat.le_of_ble_eq_true rfl⟩) ?_); intro v h' hb' tk' F' N' K' P'; (have Pc1 := P'); obtain ⟨xc, ic, rfl, hxc, hic⟩ := P' _ Off.refl) | ((refine r_spec (s_label_texts _ _ _ _ _ hlw hsw) (Room.le (by assumption) (by decide)) (by assumption) (by assumption) (by assumption) (by exact ⟨by walk_at "vec", by walk_at "ls"⟩) ?_); intro v h' hb' tk' F' N' K' P'; (have Pp := P')) | ((refine r_spec (s_padded _ _ _ _ _ _ _ hcar hito hlo) (Room.le (by assumption) (by decide)) (by assumption) (by assumption) (by assumption) (by exact ⟨by walk_at "vec", by walk_at "ls"⟩) ?_); intro v h' hb' tk' F' N' K' P'; (have Pp := P')) | ((refine r_spec (s_is_factor _ _ _ _ _ _) (Room.le (by assumption) (by decide)) (by assumption) (by assumption) (by assumption) (by exact ⟨by walk_at "vec", .inl ⟨rfl, rfl⟩, nofac_nil _ _⟩) ?_); intro v h' hb' tk' F' N' K' P'; obtain rfl := P' _ Off.refl) | ((refine r_spec (s_is_factor_c _ _ _ _ _) (Room.le (by assumption) (by decide)) (by assumption) (by assumption) (by assumption) (by exact (by walk_at "vec")) ?_); intro v h' hb' tk' F' N' K' P'; obtain rfl := P' _ Off.refl)) | (walk_at "go1"))
  rename_i I oI hh1 X F1 N1
  refine comp_run1 (fun i => match i with | 0 => false | _ => true) (fun _ i y => True) R'.hand F1 N1 X (Nat.le_of_ble_eq_true rfl) rfl rfl rfl (by decide) ?_ ?_
  · intro i v C h tk m' hi hP F3 N3 kW hx
    match i, hP with
    | 0, hP =>
      cases hP
      repeat (first | ((with_reducible refine g_call ?_); first | ((refine r_spec (Spec.pre fun hz => s_character _ _ _ _ hz) (Room.le (by assumption) (by decide)) (by assumption) (by assumption) (by assumption) (by exact ⟨by walk_at "ls", by first | omega | exact Nat.le_of_ble_eq_true rfl⟩) ?_); intro v h' hb' tk' F' N' K' P'; (have Pc1 := P'); obtain ⟨xc, ic, rfl, hxc, hic⟩ := P' _ Off.refl) | ((refine r_spec (s_label_texts _ _ _ _ _ hlw hsw) (Room.le (by assumption) (by decide)) (by assumption) (by assumption) (by assumption) (by exact ⟨by walk_at "vec", by walk_at "ls"⟩) ?_); intro v h' hb' tk' F' N' K' P'; (have Pp := P')) | ((refine r_spec (s_padded _ _ _ _ _ _ _ hcar hito hlo) (Room.le (by assumption) (by decide)) (by assumption) (by assumption) (by assumption) (by exact ⟨by walk_at "vec", by walk_at "ls"⟩) ?_); intro v h' hb' tk' F' N' K' P'; (have Pp := P')) | ((refine r_spec (s_is_factor _ _ _ _ _ _) (Room.le (by assumption) (by decide)) (by assumption) (by assumption) (by assumption) (by exact ⟨by walk_at "vec", .inl ⟨rfl, rfl⟩, nofac_nil _ _⟩) ?_); intro v h' hb' tk' F' N' K' P'; obtain rfl := P' _ Off.refl) | ((refine r_spec (s_is_factor_c _ _ _ _ _) (Room.le (by assumption) (by decide)) (by assumption) (by assumption) (by assumption) (by exact (by walk_at "vec")) ?_); intro v h' hb' tk' F' N' K' P'; obtain rfl := P' _ Off.refl)) | (walk_at "go1"))
      refine ⟨rfl, ?_⟩
      rw [if_neg (by decide)]
      (refine ⟨_, _, _, rfl, by assumption, by walk_at "sub", fun g hg => ?_⟩; exact trivial)
    | 1, hP =>
      cases hP
      repeat (first | ((with_reducible refine g_call ?_); first | ((refine r_spec (Spec.pre fun hz => s_character _ _ _ _ hz) (Room.le (by assumption) (by decide)) (by assumption) (by assumption) (by assumption) (by exact ⟨by walk_at "ls", by first | omega | exact Nat.le_of_ble_eq_true rfl⟩) ?_); intro v h' hb' tk' F' N' K' P'; (have Pc1 := P'); obtain ⟨xc, ic, rfl, hxc, hic⟩ := P' _ Off.refl) | ((refine r_spec (s_label_texts _ _ _ _ _ hlw hsw) (Room.le (by assumption) (by decide)) (by assumption) (by assumption) (by assumption) (by exact ⟨by walk_at "vec", by walk_at "ls"⟩) ?_); intro v h' hb' tk' F' N' K' P'; (have Pp := P')) | ((refine r_spec (s_padded _ _ _ _ _ _ _ hcar hito hlo) (Room.le (by assumption) (by decide)) (by assumption) (by assumption) (by assumption) (by exact ⟨by walk_at "vec", by walk_at "ls"⟩) ?_); intro v h' hb' tk' F' N' K' P'; (have Pp := P')) | ((refine r_spec (s_is_factor _ _ _ _ _ _) (Room.le (by assumption) (by decide)) (by assumption) (by assumption) (by assumption) (by exact ⟨by walk_at "vec", .inl ⟨rfl, rfl⟩, nofac_nil _ _⟩) ?_); intro v h' hb' tk' F' N' K' P'; obtain rfl := P' _ Off.refl) | ((refine r_spec (s_is_factor_c _ _ _ _ _) (Room.le (by assumption) (by decide)) (by assumption) (by assumption) (by assumption) (by exact (by walk_at "vec")) ?_); intro v h' hb' tk' F' N' K' P'; obtain rfl := P' _ Off.refl)) | (walk_at "go1"))
      refine ⟨rfl, ite_isT rfl ?_⟩
      repeat (first | ((with_reducible refine g_call ?_); first | ((refine r_spec (Spec.pre fun hz => s_character _ _ _ _ hz) (Room.le (by assumption) (by decide)) (by assumption) (by assumption) (by assumption) (by exact ⟨by walk_at "ls", by first | omega | exact Nat.le_of_ble_eq_true rfl⟩) ?_); intro v h' hb' tk' F' N' K' P'; (have Pc1 := P'); obtain ⟨xc, ic, rfl, hxc, hic⟩ := P' _ Off.refl) | ((refine r_spec (s_label_texts _ _ _ _ _ hlw hsw) (Room.le (by assumption) (by decide)) (by assumption) (by assumption) (by assumption) (by exact ⟨by walk_at "vec", by walk_at "ls"⟩) ?_); intro v h' hb' tk' F' N' K' P'; (have Pp := P')) | ((refine r_spec (s_padded _ _ _ _ _ _ _ hcar hito hlo) (Room.le (by assumption) (by decide)) (by assumption) (by assumption) (by assumption) (by exact ⟨by walk_at "vec", by walk_at "ls"⟩) ?_); intro v h' hb' tk' F' N' K' P'; (have Pp := P')) | ((refine r_spec (s_is_factor _ _ _ _ _ _) (Room.le (by assumption) (by decide)) (by assumption) (by assumption) (by assumption) (by exact ⟨by walk_at "vec", .inl ⟨rfl, rfl⟩, nofac_nil _ _⟩) ?_); intro v h' hb' tk' F' N' K' P'; obtain rfl := P' _ Off.refl) | ((refine r_spec (s_is_factor_c _ _ _ _ _) (Room.le (by assumption) (by decide)) (by assumption) (by assumption) (by assumption) (by exact (by walk_at "vec")) ?_); intro v h' hb' tk' F' N' K' P'; obtain rfl := P' _ Off.refl)) | (walk_at "go1"))
      (refine ⟨_, _, _, rfl, by assumption, by walk_at "sub", fun g hg => ?_⟩; exact trivial)
    | k + 2, hP => simp at hP
  intro C oC D hh2 tk2 hb2 ys z F2 N2 hC fC k2 hys
  have hl1 : ys.length = 1 := (paired_len (hys hb2 Off.refl)).symm
  match ys, hl1 with
  | [y1], _ =>
  clear hys
  repeat (first | ((with_reducible refine g_call ?_); first | ((refine r_spec (Spec.pre fun hz => s_character _ _ _ _ hz) (Room.le (by assumption) (by decide)) (by assumption) (by assumption) (by assumption) (by exact ⟨by walk_at "ls", by first | omega | exact Nat.le_of_ble_eq_true rfl⟩) ?_); intro v h' hb' tk' F' N' K' P'; (have Pc1 := P'); obtain ⟨xc, ic, rfl, hxc, hic⟩ := P' _ Off.refl) | ((refine r_spec (s_label_texts _ _ _ _ _ hlw hsw) (Room.le (by assumption) (by decide)) (by assumption) (by assumption) (by assumption) (by exact ⟨by walk_at "vec", by walk_at "ls"⟩) ?_); intro v h' hb' tk' F' N' K' P'; (have Pp := P')) | ((refine r_spec (s_padded _ _ _ _ _ _ _ hcar hito hlo) (Room.le (by assumption) (by decide)) (by assumption) (by assumption) (by assumption) (by exact ⟨by walk_at "vec", by walk_at "ls"⟩) ?_); intro v h' hb' tk' F' N' K' P'; (have Pp := P')) | ((refine r_spec (s_is_factor _ _ _ _ _ _) (Room.le (by assumption) (by decide)) (by assumption) (by assumption) (by assumption) (by exact ⟨by walk_at "vec", .inl ⟨rfl, rfl⟩, nofac_nil _ _⟩) ?_); intro v h' hb' tk' F' N' K' P'; obtain rfl := P' _ Off.refl) | ((refine r_spec (s_is_factor_c _ _ _ _ _) (Room.le (by assumption) (by decide)) (by assumption) (by assumption) (by assumption) (by exact (by walk_at "vec")) ?_); intro v h' hb' tk' F' N' K' P'; obtain rfl := P' _ Off.refl)) | (walk_at "go1"))
  (refine ret _ _ _ (endSub (by assumption) (by walk_at "sub")) (Fm.keepB (by assumption)) (fun g hg => ?_); exact (by obtain ⟨x1', i1', e1, v1, l1⟩ := Pc1 g (hg.of (endSub (by assumption) (by walk_at "sub")) (endSub (by assumption) (by walk_at "sub"))); cases e1; exact ⟨_, rfl, _, _, _, _, Vec.off hg (by assumption) (by walk_at "sub") (by walk_at "mem") (by walk_at "mem") (by assumption) (by assumption) rfl, ⟨_, news_off hg (by assumption) (by walk_at "sub") (by walk_at "mem") (fixed_seq rfl)⟩, v1, l1⟩))
/-- the matrix -/
def Mat (w : World) (h : Heap) (x il : Addr) (exts nms : List Value) : Prop := ∃ d iv ii dv, Vec h x "character" il (.ref d) ∧ Dct w h d [("dim", .ref iv), ("dimnames", .ref dv)] ∧ Vec h iv "integer" ii .none ∧ Ls h ii exts ∧ DimN h dv nms
theorem s_new_array (w : World) (B : Heap) (il el l nl : Addr) (t : Tok) (exts nms : List Value) (hz : nms.length ≤ 1000) (hz2 : exts.length ≤ 1000) : Spec w B 4 (.ref 572) [.str "character" t, .ref il, .ref el, .ref l] (fun h => Ls h el exts ∧ Ls h l [.none, .ref nl] ∧ Ls h nl nms) (fun h r => ∃ x, r = .ref x ∧ Mat w h x il exts nms) := by
  rintro A s Q E R G hB ⟨he, hl, hn⟩ ret
  refine enter0 88 (binds := [("kind", .str "character" t), ("items", .ref il), ("extents", .ref el), ("names", .ref l)]) R G hB ⟨_, by simp only [tblS]; repeat (first | exact List.Mem.head _ | refine List.Mem.tail _ ?_)⟩ (fun _ _ => rfl) rfl rfl rfl fun cd L h₁ F N R' => ?_
  generalize hb : fdBody (stAt 88) = bd
  conv at hb => lhs; whnf
  subst hb
  generalize hsc : fdScope (stAt 88) = sc at F R' N ⊢
  conv at hsc => lhs; whnf
  subst hsc
  generalize hnm : fdName (stAt 88) = nm at F R' N ⊢
  repeat (first | ((with_reducible refine g_call ?_); first | ((refine r_spec (Spec.pre fun hz => s_integer _ _ _ _ hz) (Room.le (by assumption) (by decide)) (by assumption) (by assumption) (by assumption) (by exact ⟨by walk_at "ls", by assumption⟩) ?_); intro v h' hb' tk' F' N' K' P'; (have Pi := P'); obtain ⟨xi, ii, rfl, hxi, hii⟩ := P' _ Off.refl) | ((refine r_spec (Spec.pre fun hz => s_dimnames _ _ _ _ _ hz) (Room.le (by assumption) (by decide)) (by assumption) (by assumption) (by assumption) (by exact ⟨⟨by walk_at "ls", by walk_at "ls"⟩, by assumption⟩) ?_); intro v h' hb' tk' F' N' K' P'; (have Pd := P'); obtain ⟨xd, rfl, hxd⟩ := P' _ Off.refl) | ((refine r_spec (Spec.pre fun hz => s_character _ _ _ _ hz) (Room.le (by assumption) (by decide)) (by assumption) (by assumption) (by assumption) (by exact ⟨by walk_at "ls", by first | omega | exact Nat.le_of_ble_eq_true rfl⟩) ?_); intro v h' hb' tk' F' N' K' P'; (have Pc1 := P'); obtain ⟨xc, ic, rfl, hxc, hic⟩ := P' _ Off.refl) | ((refine r_spec (s_label_texts _ _ _ _ _ hlw hsw) (Room.le (by assumption) (by decide)) (by assumption) (by assumption) (by assumption) (by exact ⟨by walk_at "vec", by walk_at "ls"⟩) ?_); intro v h' hb' tk' F' N' K' P'; (have Pp := P')) | ((refine r_spec (s_padded _ _ _ _ _ _ _ hcar hito hlo) (Room.le (by assumption) (by decide)) (by assumption) (by assumption) (by assumption) (by exact ⟨by walk_at "vec", by walk_at "ls"⟩) ?_); intro v h' hb' tk' F' N' K' P'; (have Pp := P')) | ((refine r_spec (s_is_factor _ _ _ _ _ _) (Room.le (by assumption) (by decide)) (by assumption) (by assumption) (by assumption) (by exact ⟨by walk_at "vec", .inl ⟨rfl, rfl⟩, nofac_nil _ _⟩) ?_); intro v h' hb' tk' F' N' K' P'; obtain rfl := P' _ Off.refl) | ((refine r_spec (s_is_factor_c _ _ _ _ _) (Room.le (by assumption) (by decide)) (by assumption) (by assumption) (by assumption) (by exact (by walk_at "vec")) ?_); intro v h' hb' tk' F' N' K' P'; obtain rfl := P' _ Off.refl)) | (walk_at "go1"))
  (refine ret _ _ _ (endSub (by assumption) (by walk_at "sub")) (Fm.keepB (by assumption)) (fun g hg => ?_); exact (by obtain ⟨x1', i1', e1, v1, l1⟩ := Pi g (hg.of (endSub (by assumption) (by walk_at "sub")) (endSub (by assumption) (by walk_at "sub"))); obtain ⟨x2', e2, v2⟩ := Pd g (hg.of (endSub (by assumption) (by walk_at "sub")) (endSub (by assumption) (by walk_at "sub"))); cases e1; cases e2; exact ⟨_, rfl, _, _, _, _, Vec.off hg (by assumption) (by walk_at "sub") (by walk_at "mem") (by walk_at "mem") (by assumption) (by assumption) rfl, Dct.off hg (by assumption) (by walk_at "sub") (by walk_at "mem") (by assumption) (by assumption) (Nat.le_of_ble_eq_true rfl), v1, l1, v2⟩))
theorem s_new_matrix (w : World) (B : Heap) (il el nl : Addr) (t : Tok) (exts nms : List Value) (hz : nms.length ≤ 1000) (hz2 : exts.length ≤ 1000) : Spec w B 5 (.ref 579) [.str "character" t, .ref il, .ref el, .none, .ref nl] (fun h => Ls h el exts ∧ Ls h nl nms) (fun h r => ∃ x, r = .ref x ∧ Mat w h x il exts nms) := by
  rintro A s Q E R G hB ⟨he, hn⟩ ret
  refine enter0 89 (binds := [("kind", .str "character" t), ("items", .ref il), ("extents", .ref el), ("row_names", .none), ("column_names", .ref nl)]) R G hB ⟨_, by simp only [tblS]; repeat (first | exact List.Mem.head _ | refine List.Mem.tail _ ?_)⟩ (fun _ _ => rfl) rfl rfl rfl fun cd L h₁ F N R' => ?_
  generalize hb : fdBody (stAt 89) = bd
  conv at hb => lhs; whnf
  subst hb
  generalize hsc : fdScope (stAt 89) = sc at F R' N ⊢
  conv at hsc => lhs; whnf
  subst hsc
  generalize hnm : fdName (stAt 89) = nm at F R' N ⊢
  repeat (first | ((with_reducible refine g_call ?_); first | ((refine r_spec (Spec.pre fun hz => s_new_array _ _ _ _ _ _ _ _ _ (And.left hz) (And.right hz)) (Room.le (by assumption) (by decide)) (by assumption) (by assumption) (by assumption) (by exact ⟨⟨by walk_at "ls", by walk_at "ls", by walk_at "ls"⟩, by assumption, by assumption⟩) ?_); intro v h' hb' tk' F' N' K' P'; (have Pm := P'); obtain ⟨xm, rfl, hxm⟩ := P' _ Off.refl) | ((refine r_spec (Spec.pre fun hz => s_integer _ _ _ _ hz) (Room.le (by assumption) (by decide)) (by assumption) (by assumption) (by assumption) (by exact ⟨by walk_at "ls", by assumption⟩) ?_); intro v h' hb' tk' F' N' K' P'; (have Pi := P'); obtain ⟨xi, ii, rfl, hxi, hii⟩ := P' _ Off.refl) | ((refine r_spec (Spec.pre fun hz => s_dimnames _ _ _ _ _ hz) (Room.le (by assumption) (by decide)) (by assumption) (by assumption) (by assumption) (by exact ⟨⟨by walk_at "ls", by walk_at "ls"⟩, by assumption⟩) ?_); intro v h' hb' tk' F' N' K' P'; (have Pd := P'); obtain ⟨xd, rfl, hxd⟩ := P' _ Off.refl) | ((refine r_spec (Spec.pre fun hz => s_character _ _ _ _ hz) (Room.le (by assumption) (by decide)) (by assumption) (by assumption) (by assumption) (by exact ⟨by walk_at "ls", by first | omega | exact Nat.le_of_ble_eq_true rfl⟩) ?_); intro v h' hb' tk' F' N' K' P'; (have Pc1 := P'); obtain ⟨xc, ic, rfl, hxc, hic⟩ := P' _ Off.refl) | ((refine r_spec (s_label_texts _ _ _ _ _ hlw hsw) (Room.le (by assumption) (by decide)) (by assumption) (by assumption) (by assumption) (by exact ⟨by walk_at "vec", by walk_at "ls"⟩) ?_); intro v h' hb' tk' F' N' K' P'; (have Pp := P')) | ((refine r_spec (s_padded _ _ _ _ _ _ _ hcar hito hlo) (Room.le (by assumption) (by decide)) (by assumption) (by assumption) (by assumption) (by exact ⟨by walk_at "vec", by walk_at "ls"⟩) ?_); intro v h' hb' tk' F' N' K' P'; (have Pp := P')) | ((refine r_spec (s_is_factor _ _ _ _ _ _) (Room.le (by assumption) (by decide)) (by assumption) (by assumption) (by assumption) (by exact ⟨by walk_at "vec", .inl ⟨rfl, rfl⟩, nofac_nil _ _⟩) ?_); intro v h' hb' tk' F' N' K' P'; obtain rfl := P' _ Off.refl) | ((refine r_spec (s_is_factor_c _ _ _ _ _) (Room.le (by assumption) (by decide)) (by assumption) (by assumption) (by assumption) (by exact (by walk_at "vec")) ?_); intro v h' hb' tk' F' N' K' P'; obtain rfl := P' _ Off.refl)) | (walk_at "go1"))
  (refine ret _ _ _ (endSub (by assumption) (by walk_at "sub")) (Fm.keepB (by assumption)) (fun g hg => ?_); exact (Pm g (hg.of (endSub (by assumption) (by walk_at "sub")) (endSub (by assumption) (by walk_at "sub")))))
end -- F2
section
open PySem PySem.W PyProof.Rows PySem.Calls
set_option maxRecDepth 100000
set_option maxHeartbeats 1000000
theorem ne_of_len {us : List Value} {os : List (Option Int)} (h : us.length = os.length) (ho : os ≠ []) : us ≠ [] := fun e => by
  subst e; cases os with | nil => exact ho rfl | cons => cases h
theorem le_of_len {us : List Value} {os : List (Option Int)} (h : us.length = os.length) (ho : os.length ≤ 400) : us.length ≤ 400 := h ▸ ho
theorem s_frame_matrix (w : World) (B : Heap) (f j xw iw xp ip : Addr) (ws vs : List Value) (os : List (Option Int)) (n : Nat) (tt tn0 : Tok) (hcar : CarriedAll vs (os.map itD)) (hito : ∀ o ∈ os, ItO o) (hos : os ≠ []) (hos4 : os.length ≤ 400) (hws0 : ws ≠ []) (hws : ws.length ≤ 400) (hsw : ∀ y ∈ ws, ∃ s t, y = .str s t) (hn : n ≤ 1000) :
    Spec w B 9 (.ref 632) [.ref f] (fun h => Frame w h f j [.ref xw, .ref xp] [.str "t" tt, .str "n" tn0] n ∧ Vec h xw "character" iw .none ∧ Ls h iw ws ∧ Vec h xp "integer" ip .none ∧ Ls h ip vs)
    (fun h r => ∃ x il us te t2, r = .ref x ∧ Mat w h x il [.int n te, .int 2 t2] [.str "t" tt, .str "n" tn0] ∧ Ls h il (ws ++ us) ∧ CarriedAll us (os.map (padD (widest (lens os))))) := by
  have hlo : os.length ≤ 1000 := by omega
  have hlw : ws.length ≤ 1000 := by omega
  rintro A s Q E R G hB ⟨hf, hv1, hl1, hv2, hl2⟩ ret
  have hf' := hf
  obtain ⟨⟨dd, hvf, _⟩, hlf⟩ := hf'
  refine enter0 99 (binds := [("df", .ref f)]) R G hB ⟨_, by simp only [tblS]; repeat (first | exact List.Mem.head _ | refine List.Mem.tail _ ?_)⟩ (fun _ _ => rfl) rfl rfl rfl fun cd L h₁ F N R' => ?_
  generalize hb : fdBody (stAt 99) = bd
  conv at hb => lhs; whnf
  subst hb
  generalize hsc : fdScope (stAt 99) = sc at F R' N ⊢
  conv at hsc => lhs; whnf
  subst hsc
  generalize hnm : fdName (stAt 99) = nm at F R' N ⊢
  repeat (first | ((with_reducible refine g_call ?_); first | ((refine r_spec (Spec.pre fun hz => s_new_matrix _ _ _ _ _ _ _ _ (And.left hz) (And.right hz)) (Room.le (by assumption) (by decide)) (by assumption) (by assumption) (by assumption) (by exact ⟨⟨by walk_at "ls", by walk_at "ls"⟩, by exact Nat.le_of_ble_eq_true rfl, by exact Nat.le_of_ble_eq_true rfl⟩) ?_); intro v h' hb' tk' F' N' K' P'; (have Pm := P'); obtain ⟨xm, rfl, hxm⟩ := P' _ Off.refl) | ((refine r_spec (Spec.pre fun hz => s_column_names _ _ _ _ _ _ _ (And.left hz) (And.right hz)) (Room.le (by assumption) (by decide)) (by assumption) (by assumption) (by assumption) (by exact ⟨Frame.up (by assumption) (endSub (by assumption) (by walk_at "sub")), by exact Nat.le_of_ble_eq_true rfl, by intro y hy; rcases List.mem_cons.mp hy with h | h; exact ⟨_, _, h⟩; rw [List.mem_singleton.mp h]; exact ⟨_, _, rfl⟩⟩) ?_); intro v h' hb' tk' F' N' K' P'; obtain ⟨Dn, rfl, hDn⟩ := P' _ Off.refl) | ((refine r_spec (s_col_texts_c _ _ _ _ _ hlw hsw) (Room.le (by assumption) (by decide)) (by assumption) (by assumption) (by assumption) (by exact ⟨by walk_at "vec", by walk_at "ls"⟩) ?_); intro v h' hb' tk' F' N' K' P'; obtain ⟨Dw, rfl, hDw⟩ := P' _ Off.refl) | ((refine r_spec (s_col_texts_i _ _ _ _ _ _ hcar hito hlo) (Room.le (by assumption) (by decide)) (by assumption) (by assumption) (by assumption) (by exact ⟨by walk_at "vec", by walk_at "ls"⟩) ?_); intro v h' hb' tk' F' N' K' P'; obtain ⟨Dp, up, rfl, hDp, hup⟩ := P' _ Off.refl; (have hupl := hup.length_eq); (rw [List.length_map] at hupl); (have hup0 := ne_of_len hupl hos); (have hup1 := le_of_len hupl hos4)) | ((refine r_spec (s_is_text_i _ _ _ _) (Room.le (by assumption) (by decide)) (by assumption) (by assumption) (by assumption) (by exact (by walk_at "vec")) ?_); intro v h' hb' tk' F' N' K' P'; obtain rfl := P' _ Off.refl) | ((refine r_spec (s_is_text_c _ _ _ _ _) (Room.le (by assumption) (by decide)) (by assumption) (by assumption) (by assumption) (by exact (by walk_at "vec")) ?_); intro v h' hb' tk' F' N' K' P'; obtain rfl := P' _ Off.refl) | ((refine r_spec (Spec.pre fun hz => s_has_plain _ _ _ _ _ _ _ hz) (Room.le (by assumption) (by decide)) (by assumption) (by assumption) (by assumption) (by exact ⟨Frame.up (by assumption) (endSub (by assumption) (by walk_at "sub")), by assumption⟩) ?_); intro v h' hb' tk' F' N' K' P'; obtain rfl := P' _ Off.refl) | ((refine r_spec (Spec.pre fun hz => s_frame_rows _ _ _ _ _ _ _ hz) (Room.le (by assumption) (by decide)) (by assumption) (by assumption) (by assumption) (by exact ⟨Frame.up (by assumption) (endSub (by assumption) (by walk_at "sub")), by assumption⟩) ?_); intro v h' hb' tk' F' N' K' P'; obtain ⟨tn, rfl⟩ := P' _ Off.refl)) | (walk_at "go1"))
  rename_i I oI hh1 X F1 N1
  refine comp_run1 (fun i => match i with | 0 => true | _ => false) (fun _ i y => True) R'.hand F1 N1 X (Nat.le_of_ble_eq_true rfl) rfl rfl rfl (by decide) ?_ ?_
  · intro i v C h tk m' hi hP F3 N3 kW hx
    have kb := (base_turn F1 N1).trans kW
    have hv1' := hv1.up (Sub.trans (by walk_at "sub") kb)
    have hv2' := hv2.up (Sub.trans (by walk_at "sub") kb)
    match i, hP with
    | 0, hP =>
      cases hP
      repeat (first | ((with_reducible refine g_call ?_); first | ((refine r_spec (Spec.pre fun hz => s_new_matrix _ _ _ _ _ _ _ _ (And.left hz) (And.right hz)) (Room.le (by assumption) (by decide)) (by assumption) (by assumption) (by assumption) (by exact ⟨⟨by walk_at "ls", by walk_at "ls"⟩, by exact Nat.le_of_ble_eq_true rfl, by exact Nat.le_of_ble_eq_true rfl⟩) ?_); intro v h' hb' tk' F' N' K' P'; (have Pm := P'); obtain ⟨xm, rfl, hxm⟩ := P' _ Off.refl) | ((refine r_spec (Spec.pre fun hz => s_column_names _ _ _ _ _ _ _ (And.left hz) (And.right hz)) (Room.le (by assumption) (by decide)) (by assumption) (by assumption) (by assumption) (by exact ⟨Frame.up (by assumption) (endSub (by assumption) (by walk_at "sub")), by exact Nat.le_of_ble_eq_true rfl, by intro y hy; rcases List.mem_cons.mp hy with h | h; exact ⟨_, _, h⟩; rw [List.mem_singleton.mp h]; exact ⟨_, _, rfl⟩⟩) ?_); intro v h' hb' tk' F' N' K' P'; obtain ⟨Dn, rfl, hDn⟩ := P' _ Off.refl) | ((refine r_spec (s_col_texts_c _ _ _ _ _ hlw hsw) (Room.le (by assumption) (by decide)) (by assumption) (by assumption) (by assumption) (by exact ⟨by walk_at "vec", by walk_at "ls"⟩) ?_); intro v h' hb' tk' F' N' K' P'; obtain ⟨Dw, rfl, hDw⟩ := P' _ Off.refl) | ((refine r_spec (s_col_texts_i _ _ _ _ _ _ hcar hito hlo) (Room.le (by assumption) (by decide)) (by assumption) (by assumption) (by assumption) (by exact ⟨by walk_at "vec", by walk_at "ls"⟩) ?_); intro v h' hb' tk' F' N' K' P'; obtain ⟨Dp, up, rfl, hDp, hup⟩ := P' _ Off.refl; (have hupl := hup.length_eq); (rw [List.length_map] at hupl); (have hup0 := ne_of_len hupl hos); (have hup1 := le_of_len hupl hos4)) | ((refine r_spec (s_is_text_i _ _ _ _) (Room.le (by assumption) (by decide)) (by assumption) (by assumption) (by assumption) (by exact (by walk_at "vec")) ?_); intro v h' hb' tk' F' N' K' P'; obtain rfl := P' _ Off.refl) | ((refine r_spec (s_is_text_c _ _ _ _ _) (Room.le (by assumption) (by decide)) (by assumption) (by assumption) (by assumption) (by exact (by walk_at "vec")) ?_); intro v h' hb' tk' F' N' K' P'; obtain rfl := P' _ Off.refl) | ((refine r_spec (Spec.pre fun hz => s_has_plain _ _ _ _ _ _ _ hz) (Room.le (by assumption) (by decide)) (by assumption) (by assumption) (by assumption) (by exact ⟨Frame.up (by assumption) (endSub (by assumption) (by walk_at "sub")), by assumption⟩) ?_); intro v h' hb' tk' F' N' K' P'; obtain rfl := P' _ Off.refl) | ((refine r_spec (Spec.pre fun hz => s_frame_rows _ _ _ _ _ _ _ hz) (Room.le (by assumption) (by decide)) (by assumption) (by assumption) (by assumption) (by exact ⟨Frame.up (by assumption) (endSub (by assumption) (by walk_at "sub")), by assumption⟩) ?_); intro v h' hb' tk' F' N' K' P'; obtain ⟨tn, rfl⟩ := P' _ Off.refl)) | (walk_at "go1"))
      refine ⟨rfl, ite_isT rfl ?_⟩
      repeat (first | ((with_reducible refine g_call ?_); first | ((refine r_spec (Spec.pre fun hz => s_new_matrix _ _ _ _ _ _ _ _ (And.left hz) (And.right hz)) (Room.le (by assumption) (by decide)) (by assumption) (by assumption) (by assumption) (by exact ⟨⟨by walk_at "ls", by walk_at "ls"⟩, by exact Nat.le_of_ble_eq_true rfl, by exact Nat.le_of_ble_eq_true rfl⟩) ?_); intro v h' hb' tk' F' N' K' P'; (have Pm := P'); obtain ⟨xm, rfl, hxm⟩ := P' _ Off.refl) | ((refine r_spec (Spec.pre fun hz => s_column_names _ _ _ _ _ _ _ (And.left hz) (And.right hz)) (Room.le (by assumption) (by decide)) (by assumption) (by assumption) (by assumption) (by exact ⟨Frame.up (by assumption) (endSub (by assumption) (by walk_at "sub")), by exact Nat.le_of_ble_eq_true rfl, by intro y hy; rcases List.mem_cons.mp hy with h | h; exact ⟨_, _, h⟩; rw [List.mem_singleton.mp h]; exact ⟨_, _, rfl⟩⟩) ?_); intro v h' hb' tk' F' N' K' P'; obtain ⟨Dn, rfl, hDn⟩ := P' _ Off.refl) | ((refine r_spec (s_col_texts_c _ _ _ _ _ hlw hsw) (Room.le (by assumption) (by decide)) (by assumption) (by assumption) (by assumption) (by exact ⟨by walk_at "vec", by walk_at "ls"⟩) ?_); intro v h' hb' tk' F' N' K' P'; obtain ⟨Dw, rfl, hDw⟩ := P' _ Off.refl) | ((refine r_spec (s_col_texts_i _ _ _ _ _ _ hcar hito hlo) (Room.le (by assumption) (by decide)) (by assumption) (by assumption) (by assumption) (by exact ⟨by walk_at "vec", by walk_at "ls"⟩) ?_); intro v h' hb' tk' F' N' K' P'; obtain ⟨Dp, up, rfl, hDp, hup⟩ := P' _ Off.refl; (have hupl := hup.length_eq); (rw [List.length_map] at hupl); (have hup0 := ne_of_len hupl hos); (have hup1 := le_of_len hupl hos4)) | ((refine r_spec (s_is_text_i _ _ _ _) (Room.le (by assumption) (by decide)) (by assumption) (by assumption) (by assumption) (by exact (by walk_at "vec")) ?_); intro v h' hb' tk' F' N' K' P'; obtain rfl := P' _ Off.refl) | ((refine r_spec (s_is_text_c _ _ _ _ _) (Room.le (by assumption) (by decide)) (by assumption) (by assumption) (by assumption) (by exact (by walk_at "vec")) ?_); intro v h' hb' tk' F' N' K' P'; obtain rfl := P' _ Off.refl) | ((refine r_spec (Spec.pre fun hz => s_has_plain _ _ _ _ _ _ _ hz) (Room.le (by assumption) (by decide)) (by assumption) (by assumption) (by assumption) (by exact ⟨Frame.up (by assumption) (endSub (by assumption) (by walk_at "sub")), by assumption⟩) ?_); intro v h' hb' tk' F' N' K' P'; obtain rfl := P' _ Off.refl) | ((refine r_spec (Spec.pre fun hz => s_frame_rows _ _ _ _ _ _ _ hz) (Room.le (by assumption) (by decide)) (by assumption) (by assumption) (by assumption) (by exact ⟨Frame.up (by assumption) (endSub (by assumption) (by walk_at "sub")), by assumption⟩) ?_); intro v h' hb' tk' F' N' K' P'; obtain ⟨tn, rfl⟩ := P' _ Off.refl)) | (walk_at "go1"))
      (refine ⟨_, _, _, rfl, by assumption, by walk_at "sub", fun g hg => ?_⟩; exact trivial)
    | 1, hP =>
      cases hP
      repeat (first | ((with_reducible refine g_call ?_); first | ((refine r_spec (Spec.pre fun hz => s_new_matrix _ _ _ _ _ _ _ _ (And.left hz) (And.right hz)) (Room.le (by assumption) (by decide)) (by assumption) (by assumption) (by assumption) (by exact ⟨⟨by walk_at "ls", by walk_at "ls"⟩, by exact Nat.le_of_ble_eq_true rfl, by exact Nat.le_of_ble_eq_true rfl⟩) ?_); intro v h' hb' tk' F' N' K' P'; (have Pm := P'); obtain ⟨xm, rfl, hxm⟩ := P' _ Off.refl) | ((refine r_spec (Spec.pre fun hz => s_column_names _ _ _ _ _ _ _ (And.left hz) (And.right hz)) (Room.le (by assumption) (by decide)) (by assumption) (by assumption) (by assumption) (by exact ⟨Frame.up (by assumption) (endSub (by assumption) (by walk_at "sub")), by exact Nat.le_of_ble_eq_true rfl, by intro y hy; rcases List.mem_cons.mp hy with h | h; exact ⟨_, _, h⟩; rw [List.mem_singleton.mp h]; exact ⟨_, _, rfl⟩⟩) ?_); intro v h' hb' tk' F' N' K' P'; obtain ⟨Dn, rfl, hDn⟩ := P' _ Off.refl) | ((refine r_spec (s_col_texts_c _ _ _ _ _ hlw hsw) (Room.le (by assumption) (by decide)) (by assumption) (by assumption) (by assumption) (by exact ⟨by walk_at "vec", by walk_at "ls"⟩) ?_); intro v h' hb' tk' F' N' K' P'; obtain ⟨Dw, rfl, hDw⟩ := P' _ Off.refl) | ((refine r_spec (s_col_texts_i _ _ _ _ _ _ hcar hito hlo) (Room.le (by assumption) (by decide)) (by assumption) (by assumption) (by assumption) (by exact ⟨by walk_at "vec", by walk_at "ls"⟩) ?_); intro v h' hb' tk' F' N' K' P'; obtain ⟨Dp, up, rfl, hDp, hup⟩ := P' _ Off.refl; (have hupl := hup.length_eq); (rw [List.length_map] at hupl); (have hup0 := ne_of_len hupl hos); (have hup1 := le_of_len hupl hos4)) | ((refine r_spec (s_is_text_i _ _ _ _) (Room.le (by assumption) (by decide)) (by assumption) (by assumption) (by assumption) (by exact (by walk_at "vec")) ?_); intro v h' hb' tk' F' N' K' P'; obtain rfl := P' _ Off.refl) | ((refine r_spec (s_is_text_c _ _ _ _ _) (Room.le (by assumption) (by decide)) (by assumption) (by assumption) (by assumption) (by exact (by walk_at "vec")) ?_); intro v h' hb' tk' F' N' K' P'; obtain rfl := P' _ Off.refl) | ((refine r_spec (Spec.pre fun hz => s_has_plain _ _ _ _ _ _ _ hz) (Room.le (by assumption) (by decide)) (by assumption) (by assumption) (by assumption) (by exact ⟨Frame.up (by assumption) (endSub (by assumption) (by walk_at "sub")), by assumption⟩) ?_); intro v h' hb' tk' F' N' K' P'; obtain rfl := P' _ Off.refl) | ((refine r_spec (Spec.pre fun hz => s_frame_rows _ _ _ _ _ _ _ hz) (Room.le (by assumption) (by decide)) (by assumption) (by assumption) (by assumption) (by exact ⟨Frame.up (by assumption) (endSub (by assumption) (by walk_at "sub")), by assumption⟩) ?_); intro v h' hb' tk' F' N' K' P'; obtain ⟨tn, rfl⟩ := P' _ Off.refl)) | (walk_at "go1"))
      refine ⟨rfl, ite_isF rfl ?_⟩
      (refine ⟨_, _, _, rfl, by assumption, by walk_at "sub", fun g hg => ?_⟩; exact trivial)
    | k + 2, hP => simp at hP
  intro C oC D hh2 tk2 hb2 ys z F2 N2 hC fC k2 hys
  have hly : ys.length = 1 := (paired_len (hys hb2 Off.refl)).symm
  match ys, hly with
  | [y1], _ =>
  clear hys
  repeat (first | ((with_reducible refine g_call ?_); first | ((refine r_spec (Spec.pre fun hz => s_new_matrix _ _ _ _ _ _ _ _ (And.left hz) (And.right hz)) (Room.le (by assumption) (by decide)) (by assumption) (by assumption) (by assumption) (by exact ⟨⟨by walk_at "ls", by walk_at "ls"⟩, by exact Nat.le_of_ble_eq_true rfl, by exact Nat.le_of_ble_eq_true rfl⟩) ?_); intro v h' hb' tk' F' N' K' P'; (have Pm := P'); obtain ⟨xm, rfl, hxm⟩ := P' _ Off.refl) | ((refine r_spec (Spec.pre fun hz => s_column_names _ _ _ _ _ _ _ (And.left hz) (And.right hz)) (Room.le (by assumption) (by decide)) (by assumption) (by assumption) (by assumption) (by exact ⟨Frame.up (by assumption) (endSub (by assumption) (by walk_at "sub")), by exact Nat.le_of_ble_eq_true rfl, by intro y hy; rcases List.mem_cons.mp hy with h | h; exact ⟨_, _, h⟩; rw [List.mem_singleton.mp h]; exact ⟨_, _, rfl⟩⟩) ?_); intro v h' hb' tk' F' N' K' P'; obtain ⟨Dn, rfl, hDn⟩ := P' _ Off.refl) | ((refine r_spec (s_col_texts_c _ _ _ _ _ hlw hsw) (Room.le (by assumption) (by decide)) (by assumption) (by assumption) (by assumption) (by exact ⟨by walk_at "vec", by walk_at "ls"⟩) ?_); intro v h' hb' tk' F' N' K' P'; obtain ⟨Dw, rfl, hDw⟩ := P' _ Off.refl) | ((refine r_spec (s_col_texts_i _ _ _ _ _ _ hcar hito hlo) (Room.le (by assumption) (by decide)) (by assumption) (by assumption) (by assumption) (by exact ⟨by walk_at "vec", by walk_at "ls"⟩) ?_); intro v h' hb' tk' F' N' K' P'; obtain ⟨Dp, up, rfl, hDp, hup⟩ := P' _ Off.refl; (have hupl := hup.length_eq); (rw [List.length_map] at hupl); (have hup0 := ne_of_len hupl hos); (have hup1 := le_of_len hupl hos4)) | ((refine r_spec (s_is_text_i _ _ _ _) (Room.le (by assumption) (by decide)) (by assumption) (by assumption) (by assumption) (by exact (by walk_at "vec")) ?_); intro v h' hb' tk' F' N' K' P'; obtain rfl := P' _ Off.refl) | ((refine r_spec (s_is_text_c _ _ _ _ _) (Room.le (by assumption) (by decide)) (by assumption) (by assumption) (by assumption) (by exact (by walk_at "vec")) ?_); intro v h' hb' tk' F' N' K' P'; obtain rfl := P' _ Off.refl) | ((refine r_spec (Spec.pre fun hz => s_has_plain _ _ _ _ _ _ _ hz) (Room.le (by assumption) (by decide)) (by assumption) (by assumption) (by assumption) (by exact ⟨Frame.up (by assumption) (endSub (by assumption) (by walk_at "sub")), by assumption⟩) ?_); intro v h' hb' tk' F' N' K' P'; obtain rfl := P' _ Off.refl) | ((refine r_spec (Spec.pre fun hz => s_frame_rows _ _ _ _ _ _ _ hz) (Room.le (by assumption) (by decide)) (by assumption) (by assumption) (by assumption) (by exact ⟨Frame.up (by assumption) (endSub (by assumption) (by walk_at "sub")), by assumption⟩) ?_); intro v h' hb' tk' F' N' K' P'; obtain ⟨tn, rfl⟩ := P' _ Off.refl)) | (walk_at "go1"))
  (refine ret _ _ _ (endSub (by assumption) (by walk_at "sub")) (Fm.keepB (by assumption)) (fun g hg => ?_); exact (by obtain ⟨x1', e1, v1⟩ := Pm g (hg.of (endSub (by assumption) (by walk_at "sub")) (endSub (by assumption) (by walk_at "sub"))); cases e1; exact ⟨_, _, up, _, _, rfl, v1, ⟨_, news_off hg (by assumption) (by walk_at "sub") (by walk_at "mem") (fixed_seq rfl)⟩, hup⟩))
end -- F3
section
open PySem PySem.W PyProof.Rows PySem.Builtin PySem.SeqAt
set_option maxRecDepth 100000
set_option linter.unusedVariables false
/-- equal, the same thing or the same but for tokens; lists and tuples of such -/
inductive EqW (h : Heap) : Value → Value → Nat → Prop
  | same {v : Value} {n : Nat} : EqW h v v n
  | flat {v w : Value} {d : PyData} {n : Nat} : Carried v d → Carried w d → EqW h v w n
  | list {a b : Addr} {vs ws : List Value} {n : Nat} : Ls h a vs → Ls h b ws → vs.length = ws.length → (∀ (j : Nat) (v w : Value), vs[j]? = some v → ws[j]? = some w → EqW h v w n) → EqW h (.ref a) (.ref b) (n + 1)
  | tup {a b : Addr} {vs ws : List Value} {n : Nat} : IsTup h a vs.toArray → IsTup h b ws.toArray → vs.length = ws.length → (∀ (j : Nat) (v w : Value), vs[j]? = some v → ws[j]? = some w → EqW h v w n) → EqW h (.ref a) (.ref b) (n + 1)
theorem EqW.at {s : Shared} {v w : Value} {n : Nat} (x : EqW s.heap v w n) : ∀ {A : Around}, A.units + n + 2 < cLine → EqAt A s v w true := by
  induction x with
  | same => intro A hu; exact EqAt.same _
  | flat c1 c2 => intro A hu; exact EqV.at (n := 0) (.flat c1 c2) (by omega)
  | @list a b vs ws n la lb hl hv ih =>
    intro A hu
    by_cases q : a = b
    · subst q; exact EqAt.same _
    · refine EqAt.of_refs q ?_
      have := RcAt.lists (A := A) (e := fun _ => true) la.isList lb.isList (by simpa using hl) (by omega) fun j h1 h2 => ih j _ _ (getA h1) (getA h2) (A := A.in1) (by show A.units + 1 + n + 2 < cLine; omega)
      rw [allT] at this; exact this
  | @tup a b vs ws n la lb hl hv ih =>
    intro A hu
    by_cases q : a = b
    · subst q; exact EqAt.same _
    · refine EqAt.of_refs q ?_
      have := RcAt.tuples (A := A) (e := fun _ => true) (l := a) (b := b) la lb (by omega) fun j h1 h2 => ih j _ _ (getA h1) (getA h2) (A := A.in1) (by show A.units + 1 + n + 2 < cLine; omega)
      rw [allT, List.size_toArray, List.size_toArray, hl] at this; simpa using this
section
variable {w : World} {A : Around} {E : Value → Shared → Prop} {hp : Heap} {a b : Addr} {vs ws : List Value}
variable {gs : Array GenState} {dr : Drawn} {tk : Nat} {os : OsState}
theorem r_neW {d : Nat} {n : Nat} {Q : Value → Shared → Prop} (R : Room A d) (la : Ls hp a vs) (lb : Ls hp b ws) (hl : vs.length = ws.length) (hv : ∀ (j : Nat) (v w : Value), vs[j]? = some v → ws[j]? = some w → EqW hp v w n) (hn : n ≤ 20) (h : Q (.bool false) ⟨hp, gs, dr, tk, os⟩) :
    wpAny (model pr w) A (compareOp .NotEq (.ref a) (.ref b)) Q E ⟨hp, gs, dr, tk, os⟩ := by
  have hu := R.u8
  exact ne_of (SeqAt.RcNeAt.lists (A := A) (s := ⟨hp, gs, dr, tk, os⟩) (e := fun _ => true) la.isList lb.isList (by simpa using hl) (by omega) (fun j h1 h2 => (hv j _ _ (getA h1) (getA h2)).at (s := ⟨hp, gs, dr, tk, os⟩) (by show A.units + 1 + n + 2 < cLine; omega))) (by rw [allT]; exact h)
end
end -- D5
section
open PySem PySem.W PyProof.Rows PySem.Calls
set_option maxRecDepth 100000
set_option maxHeartbeats 1000000
/-- a cell of the spool -/
def Cell (v : Value) : Prop := ∃ (n : Nat) (t : Tok), v = .int (n : Int) t
theorem ints_mem : ∀ {vs : List Value} {ns : List Int}, IntsAre vs ns → ∀ v ∈ vs, ∃ n t, v = .int n t
  | _, _, .nil, _, h => nomatch h
  | _, _, .cons n t r, v, h => by
    rcases List.mem_cons.mp h with rfl | h
    · exact ⟨_, _, rfl⟩
    · exact ints_mem r v h
theorem spool_cells {ys : List Value} {k : Nat} {t : Tok} (h : ∀ (i : Nat) (y : Value), ys[i]? = some y → Cell y) : ∀ v ∈ ys ++ List.replicate k (Value.int 0 t), Cell v := fun v hv => by
  rcases List.mem_append.mp hv with q | q
  · obtain ⟨i, hi⟩ := List.getElem?_of_mem q; exact h i v hi
  · rw [(List.mem_replicate.mp q).2]; exact ⟨0, t, rfl⟩
theorem s_spool (w : World) (B : Heap) (l : Addr) (vs : List Value) (ns : List Int) (hi : IntsAre vs ns) (hz : vs.length ≤ 1000) : Spec w B 1 (.ref 637) [.ref l] (fun h => Ls h l vs) (fun h r => ∃ D us, r = .ref D ∧ Ls h D us ∧ (∀ v ∈ us, Cell v) ∧ 20 ≤ us.length ∧ us.length ≤ 10000) := by
  have hz2 : vs.length ≤ 1000000 := by omega
  rintro A s Q E R G hB hl ret
  refine enter0 101 (binds := [("script", .ref l)]) R G hB ⟨_, by simp only [tblS]; repeat (first | exact List.Mem.head _ | refine List.Mem.tail _ ?_)⟩ (fun _ _ => rfl) rfl rfl rfl fun cd L h₁ F N R' => ?_
  generalize hb : fdBody (stAt 101) = bd
  conv at hb => lhs; whnf
  subst hb
  generalize hsc : fdScope (stAt 101) = sc at F R' N ⊢
  conv at hsc => lhs; whnf
  subst hsc
  generalize hnm : fdName (stAt 101) = nm at F R' N ⊢
  repeat (walk_at "go1")
  rename_i D0 hh0 us0 ms0 hi0 hl0 _ _ I oI hh1 hb1 X F1 N1 K1 l1
  have hi2 := ints_mem hi0
  refine comp_run0 (fun _ i y => Cell y) R'.hand F1 N1 X (by omega) rfl rfl rfl (by decide) ?_ ?_
  · intro i v C h tk m' hi hP F3 N3 kW hx
    obtain ⟨n, t, rfl⟩ := hi2 v (List.mem_of_getElem? hP)
    repeat (walk_at "go1")
    (refine ⟨_, _, _, rfl, by assumption, by walk_at "sub", fun g hg => ?_⟩; exact ⟨_, _, rfl⟩)
  intro C oC D hh2 tk2 hb2 ys z F2 N2 hC fC k2 hyl hys
  have hy := hys hb2 Off.refl
  clear hys
  have hz3 : ys.length + (List.replicate 20 (Value.int 0 0)).length ≤ 1000000 := by rw [List.length_replicate]; omega
  repeat (walk_at "go1")
  (refine ret _ _ _ (endSub (by assumption) (by walk_at "sub")) (Fm.keepB (by assumption)) (fun g hg => ?_); exact ⟨_, _, rfl, ⟨_, news_off hg (by assumption) (by walk_at "sub") (by walk_at "mem") (fixed_seq rfl)⟩, spool_cells hy, by rw [List.length_append, List.length_replicate]; omega, by rw [List.length_append, List.length_replicate]; omega⟩)
theorem s_item (w : World) (B : Heap) (v : Value) (hv : Cell v) : Spec w B 1 (.ref 644) [v] (fun _ => True) (fun h r => ∃ o, ItO o ∧ Carried r (itD o)) := by
  obtain ⟨n, t, rfl⟩ := hv
  rintro A s Q E R G hB _ ret
  have hr : ((n : Int) % 7 = 6) ∨ ((n : Int) % 7 ≠ 6) := by omega
  have hr2 : ((n : Int) % 2 = 0) ∨ ((n : Int) % 2 ≠ 0) := by omega
  refine enter0 102 (binds := [("size", .int (n : Int) t)]) R G hB ⟨_, by simp only [tblS]; repeat (first | exact List.Mem.head _ | refine List.Mem.tail _ ?_)⟩ (fun _ _ => rfl) rfl rfl rfl fun cd L h₁ F N R' => ?_
  generalize hb : fdBody (stAt 102) = bd
  conv at hb => lhs; whnf
  subst hb
  generalize hsc : fdScope (stAt 102) = sc at F R' N ⊢
  conv at hsc => lhs; whnf
  subst hsc
  generalize hnm : fdName (stAt 102) = nm at F R' N ⊢
  rcases hr with hc | hc
  · repeat (walk_at "go1")
    (refine ret _ _ _ (endSub (by assumption) (by walk_at "sub")) (Fm.keepB (by assumption)) (fun g hg => ?_); exact ⟨none, trivial, .none⟩)
  · have hI : Itm (10 * ((n : Int) / 7 % 100000) + 1 + (n : Int) / 700000 % 9) := by unfold Itm; omega
    have hI2 : Itm (0 - (10 * ((n : Int) / 7 % 100000) + 1 + (n : Int) / 700000 % 9)) := by unfold Itm; omega
    rcases hr2 with h2 | h2
    · repeat (walk_at "go1")
      (refine ret _ _ _ (endSub (by assumption) (by walk_at "sub")) (Fm.keepB (by assumption)) (fun g hg => ?_); exact ⟨some _, hI, .int _ _⟩)
    · repeat (walk_at "go1")
      (refine ret _ _ _ (endSub (by assumption) (by walk_at "sub")) (Fm.keepB (by assumption)) (fun g hg => ?_); exact ⟨some _, hI2, .int _ _⟩)
end -- G1
section
open PySem PySem.W PyProof.Rows PySem.Calls
set_option maxRecDepth 100000
set_option maxHeartbeats 1000000
/-- where the items of the attributes stand -/
def AttrI (h : Heap) (kvs : List (Str × Value)) (kis : List (Str × Addr)) : Prop := kvs.length = kis.length ∧ ∀ (i : Nat) (k : Str) (v : Value), kvs[i]? = some (k, v) → ∃ y ky iy ay, v = .ref y ∧ Vec h y ky iy ay ∧ kis[i]? = some (k, iy)
theorem AttrI.up {h h' : Heap} {kvs : List (Str × Value)} {kis : List (Str × Addr)} (x : AttrI h kvs kis) (s : Sub h h') : AttrI h' kvs kis := ⟨x.1, fun i k v e => let ⟨y, ky, iy, ay, a, b, c⟩ := x.2 i k v e; ⟨y, ky, iy, ay, a, b.up s, c⟩⟩
theorem do1 {w : World} {o : Obj} {k : Str} {v : Value} (x : DO w o (merged [] [(k, v)])) : DO w o [(k, v)] := x
theorem do2 {w : World} {o : Obj} {v v2 : Value} (x : DO w o (merged [] [(Str.ofString "class", v), (Str.ofString "unit", v2)])) : DO w o [(Str.ofString "class", v), (Str.ofString "unit", v2)] := x
theorem attr1 {h : Heap} {k : Str} {y : Addr} {ky : Str} {iy : Addr} {ay : Value} (x : Vec h y ky iy ay) : AttrI h [(k, .ref y)] [(k, iy)] := ⟨rfl, fun i k' v e => by
  match i, e with
  | 0, e => cases e; exact ⟨y, ky, iy, ay, rfl, x, rfl⟩
  | n + 1, e => simp at e⟩
theorem attr2 {h : Heap} {k k2 : Str} {y y2 : Addr} {ky ky2 : Str} {iy iy2 : Addr} {ay ay2 : Value} (x : Vec h y ky iy ay) (x2 : Vec h y2 ky2 iy2 ay2) : AttrI h [(k, .ref y), (k2, .ref y2)] [(k, iy), (k2, iy2)] := ⟨rfl, fun i k' v e => by
  match i, e with
  | 0, e => cases e; exact ⟨y, ky, iy, ay, rfl, x, rfl⟩
  | 1, e => cases e; exact ⟨y2, ky2, iy2, ay2, rfl, x2, rfl⟩
  | n + 2, e => simp at e⟩
theorem fac1 {w : World} {h : Heap} {y i : Addr} {k : Str} {a : Value} {x : Str} {t : Tok} (v : Vec h y k i a) (l : Ls h i [.str x t]) (e : (x == "factor") = false) : NoFac w h [("class", .ref y)] :=
  ⟨_, _, .inr ⟨y, k, i, a, rfl, v, l⟩, .cons _ _ .nil, by simp [e], Nat.le_of_ble_eq_true rfl⟩
theorem fac2 {w : World} {h : Heap} {y i : Addr} {k : Str} {a v2 : Value} {x : Str} {t : Tok} (v : Vec h y k i a) (l : Ls h i [.str x t]) (e : (x == "factor") = false) : NoFac w h [("class", .ref y), ("unit", v2)] :=
  ⟨_, _, .inr ⟨y, k, i, a, rfl, v, l⟩, .cons _ _ .nil, by simp [e], Nat.le_of_ble_eq_true rfl⟩
theorem fac3 {w : World} {h : Heap} (v : Value) : NoFac w h [("unit", v)] := ⟨[], [], .inl ⟨rfl, rfl⟩, .nil, rfl, by decide⟩
theorem os_of : ∀ {ys : List Value}, (∀ (i : Nat) (y : Value), ys[i]? = some y → ∃ o, ItO o ∧ Carried y (itD o)) → ∃ os : List (Option Int), CarriedAll ys (os.map itD) ∧ ∀ o ∈ os, ItO o
  | [], _ => ⟨[], .nil, fun _ h => nomatch h⟩
  | y :: r, h => by
    obtain ⟨o, a, b⟩ := h 0 y rfl
    obtain ⟨os, c, d⟩ := os_of (ys := r) fun i y' e => h (i + 1) y' (by simpa using e)
    exact ⟨o :: os, .cons b c, fun o' ho => by rcases List.mem_cons.mp ho with rfl | ho; exact a; exact d _ ho⟩
theorem s_column (w : World) (B : Heap) (l : Addr) (us : List Value) (st : Nat) (ts : Tok) (hu : ∀ v ∈ us, Cell v) (hl1 : st + 4 ≤ us.length) (hl2 : us.length ≤ 10000) :
    Spec w B 3 (.ref 649) [.ref l, .int st ts] (fun h => Ls h l us) (fun h r => ∃ (x i : Addr) (a : Value) (vs : List Value) (os : List (Option Int)) (kvs : List (Str × Value)) (kis : List (Str × Addr)), r = .ref x ∧ Col w h x i a vs kvs ∧ CarriedAll vs (os.map itD) ∧ (∀ o ∈ os, ItO o) ∧ 1 ≤ os.length ∧ os.length ≤ 2 ∧ AttrI h kvs kis) := by
  rintro A s Q E R G hB hl ret
  obtain ⟨v0, e0⟩ : ∃ v, us[((st : Nat) : Int).toNat]? = some v := ⟨us[st]'(by omega), List.getElem?_eq_getElem _⟩
  obtain ⟨v2, e2⟩ : ∃ v, us[((st : Int) + 3 - 1).toNat]? = some v := ⟨us[((st : Int) + 3 - 1).toNat]'(by omega), List.getElem?_eq_getElem _⟩
  obtain ⟨v3, e3⟩ : ∃ v, us[((st : Int) + 3 - 0).toNat]? = some v := ⟨us[((st : Int) + 3 - 0).toNat]'(by omega), List.getElem?_eq_getElem _⟩
  obtain ⟨n0, t0, rfl⟩ := hu v0 (List.mem_of_getElem? e0)
  obtain ⟨n2, t2, rfl⟩ := hu v2 (List.mem_of_getElem? e2)
  obtain ⟨n3, t3, rfl⟩ := hu v3 (List.mem_of_getElem? e3)
  refine enterC 103 (binds := [("spool", .ref l), ("start", .int st ts)]) (m := fun y => none) [("start", 2), ("spool", 1)] [some (.int st ts), some (.ref l)] R G hB ⟨_, by simp only [tblS]; repeat (first | exact List.Mem.head _ | refine List.Mem.tail _ ?_)⟩ (fun _ _ => rfl) (fun _ _ => rfl) rfl (fun _ => rfl) (by decide) (fun _ _ => rfl) (fun _ => rfl) (by decide) rfl fun cd L h₁ tk₁ cells F N hca hcd R' => ?_
  generalize hb : fdBody (stAt 103) = bd
  conv at hb => lhs; whnf
  subst hb
  generalize hsc : fdScope (stAt 103) = sc at F R' N ⊢
  conv at hsc => lhs; whnf
  subst hsc
  generalize hnm : fdName (stAt 103) = nm at F R' N ⊢
  obtain ⟨c2, c1, rfl, hc2, hc1⟩ := cells2 hca hcd
  repeat (first | ((with_reducible refine g_call ?_); first | ((refine r_spec (s_item _ _ _ hcellv) (Room.le (by assumption) (by decide)) (by assumption) (by assumption) (by assumption) (by trivial) ?_); intro v h' hb' tk' F' N' K' P'; (have Pt := P'))) | (walk_at "go1"))
  have hM : (1 : Int) + (n0 : Int) % 2 = ((1 + n0 % 2 : Nat) : Int) := by omega
  rw [hM]
  repeat (first | ((with_reducible refine g_call ?_); first | ((refine r_spec (s_item _ _ _ hcellv) (Room.le (by assumption) (by decide)) (by assumption) (by assumption) (by assumption) (by trivial) ?_); intro v h' hb' tk' F' N' K' P'; (have Pt := P'))) | (walk_at "go1"))
  rename_i I oI hh1 X F1 N1
  refine comp_run0 (fun _ i y => ∃ o, ItO o ∧ Carried y (itD o)) R'.hand F1 N1 X (by omega) rfl rfl rfl (by decide) ?_ ?_
  · intro i v C h tk m' hi hP F3 N3 kW hx
    obtain ⟨ti, rfl⟩ := hP
    have hcell1 := (CellAt.turn (c := L + 1) N1 (by walk_at "mem") (by assumption)).up kW
    have hcell2 := (CellAt.turn (c := L + 1 + 1) N1 (by walk_at "mem") (by assumption)).up kW
    have hl3 := hl.up (Sub.trans (by walk_at "sub") ((base_turn F1 N1).trans kW))
    obtain ⟨ve, ee⟩ : ∃ v, us[((st : Int) + 1 + (i : Int)).toNat]? = some v := ⟨us[((st : Int) + 1 + (i : Int)).toNat]'(by omega), List.getElem?_eq_getElem _⟩
    have hcellv := hu ve (List.mem_of_getElem? ee)
    repeat (first | ((with_reducible refine g_call ?_); first | ((refine r_spec (s_item _ _ _ hcellv) (Room.le (by assumption) (by decide)) (by assumption) (by assumption) (by assumption) (by trivial) ?_); intro v h' hb' tk' F' N' K' P'; (have Pt := P'))) | (walk_at "go1"))
    (refine ⟨_, _, _, rfl, by assumption, by walk_at "sub", fun g hg => ?_⟩; exact (Pt g (hg.of (Sub.refl _) (Fm.keep (by assumption)))))
  intro C oC D hh2 tk2 hb2 ys z F2 N2 hC fC k2 hyl hys
  have hy := hys hb2 Off.refl
  clear hys
  obtain ⟨os, hcar, hito⟩ := os_of hy
  have hosl : os.length = 1 + n0 % 2 := by have := hcar.length_eq; rw [List.length_map] at this; omega
  have hm : (1 : Int) + (n0 : Int) % 2 = 1 ∨ (1 : Int) + (n0 : Int) % 2 ≠ 1 := by omega
  have hlen1 : 1 ≤ os.length := by omega
  have hlen2 : os.length ≤ 2 := by omega
  rcases hm with hm | hm
  · have hk : (n2 : Int) % 4 = 0 ∨ (n2 : Int) % 4 = 1 ∨ (n2 : Int) % 4 = 2 ∨ (n2 : Int) % 4 = 3 := by omega
    repeat (first | ((with_reducible refine g_call ?_); first | ((refine r_spec (s_item _ _ _ hcellv) (Room.le (by assumption) (by decide)) (by assumption) (by assumption) (by assumption) (by trivial) ?_); intro v h' hb' tk' F' N' K' P'; (have Pt := P'))) | (walk_at "go1"))
    rcases hk with hk | hk | hk | hk <;> repeat (first | ((with_reducible refine g_call ?_); first | ((refine r_spec (s_item _ _ _ hcellv) (Room.le (by assumption) (by decide)) (by assumption) (by assumption) (by assumption) (by trivial) ?_); intro v h' hb' tk' F' N' K' P'; (have Pt := P'))) | (walk_at "go1"))
    · (refine ret _ _ _ (endSub (by assumption) (by walk_at "sub")) (Fm.keepB (by assumption)) (fun g hg => ?_); exact ⟨_, _, _, _, os, [], [], rfl, ⟨Vec.off hg (by assumption) (by walk_at "sub") (by walk_at "mem") (by walk_at "mem") (by assumption) (by assumption) rfl, ⟨_, news_off hg (by assumption) (by walk_at "sub") (by walk_at "mem") (fixed_seq rfl)⟩, .inl ⟨rfl, rfl⟩, nofac_nil _ _⟩, hcar, hito, hlen1, hlen2, rfl, fun i k v e => by simp at e⟩)
    · (refine ret _ _ _ (endSub (by assumption) (by walk_at "sub")) (Fm.keepB (by assumption)) (fun g hg => ?_); exact (by have D2 := do1 (w := w) (by assumption); exact ⟨_, _, _, _, os, _, _, rfl, ⟨Vec.off hg (by assumption) (by walk_at "sub") (by walk_at "mem") (by walk_at "mem") (by assumption) (by assumption) rfl, ⟨_, news_off hg (by assumption) (by walk_at "sub") (by walk_at "mem") (fixed_seq rfl)⟩, .inr ⟨_, rfl, Dct.off hg (by assumption) (by walk_at "sub") (by walk_at "mem") D2 (by assumption) (Nat.le_of_ble_eq_true rfl), .inl ⟨_, _, rfl, rfl⟩⟩, fac1 (Vec.off hg (by assumption) (by walk_at "sub") (by walk_at "mem") (by walk_at "mem") (by assumption) (by assumption) rfl) ⟨_, news_off hg (by assumption) (by walk_at "sub") (by walk_at "mem") (fixed_seq rfl)⟩ rfl⟩, hcar, hito, hlen1, hlen2, attr1 (Vec.off hg (by assumption) (by walk_at "sub") (by walk_at "mem") (by walk_at "mem") (by assumption) (by assumption) rfl)⟩))
    · (refine ret _ _ _ (endSub (by assumption) (by walk_at "sub")) (Fm.keepB (by assumption)) (fun g hg => ?_); exact (by have D2 := do2 (w := w) (by assumption); exact ⟨_, _, _, _, os, _, _, rfl, ⟨Vec.off hg (by assumption) (by walk_at "sub") (by walk_at "mem") (by walk_at "mem") (by assumption) (by assumption) rfl, ⟨_, news_off hg (by assumption) (by walk_at "sub") (by walk_at "mem") (fixed_seq rfl)⟩, .inr ⟨_, rfl, Dct.off hg (by assumption) (by walk_at "sub") (by walk_at "mem") D2 (by assumption) (Nat.le_of_ble_eq_true rfl), .inr ⟨_, _, _, _, rfl, rfl, rfl, by decide⟩⟩, fac2 (Vec.off hg (by assumption) (by walk_at "sub") (by walk_at "mem") (by walk_at "mem") (by assumption) (by assumption) rfl) ⟨_, news_off hg (by assumption) (by walk_at "sub") (by walk_at "mem") (fixed_seq rfl)⟩ rfl⟩, hcar, hito, hlen1, hlen2, attr2 (Vec.off hg (by assumption) (by walk_at "sub") (by walk_at "mem") (by walk_at "mem") (by assumption) (by assumption) rfl) (Vec.off hg (by assumption) (by walk_at "sub") (by walk_at "mem") (by walk_at "mem") (by assumption) (by assumption) rfl)⟩))
    · (refine ret _ _ _ (endSub (by assumption) (by walk_at "sub")) (Fm.keepB (by assumption)) (fun g hg => ?_); exact (by have D2 := do1 (w := w) (by assumption); exact ⟨_, _, _, _, os, _, _, rfl, ⟨Vec.off hg (by assumption) (by walk_at "sub") (by walk_at "mem") (by walk_at "mem") (by assumption) (by assumption) rfl, ⟨_, news_off hg (by assumption) (by walk_at "sub") (by walk_at "mem") (fixed_seq rfl)⟩, .inr ⟨_, rfl, Dct.off hg (by assumption) (by walk_at "sub") (by walk_at "mem") D2 (by assumption) (Nat.le_of_ble_eq_true rfl), .inl ⟨_, _, rfl, rfl⟩⟩, fac3 _⟩, hcar, hito, hlen1, hlen2, attr1 (Vec.off hg (by assumption) (by walk_at "sub") (by walk_at "mem") (by walk_at "mem") (by assumption) (by assumption) rfl)⟩))
  · have hk : (n3 : Int) % 4 = 0 ∨ (n3 : Int) % 4 = 1 ∨ (n3 : Int) % 4 = 2 ∨ (n3 : Int) % 4 = 3 := by omega
    repeat (first | ((with_reducible refine g_call ?_); first | ((refine r_spec (s_item _ _ _ hcellv) (Room.le (by assumption) (by decide)) (by assumption) (by assumption) (by assumption) (by trivial) ?_); intro v h' hb' tk' F' N' K' P'; (have Pt := P'))) | (walk_at "go1"))
    rcases hk with hk | hk | hk | hk <;> repeat (first | ((with_reducible refine g_call ?_); first | ((refine r_spec (s_item _ _ _ hcellv) (Room.le (by assumption) (by decide)) (by assumption) (by assumption) (by assumption) (by trivial) ?_); intro v h' hb' tk' F' N' K' P'; (have Pt := P'))) | (walk_at "go1"))
    · (refine ret _ _ _ (endSub (by assumption) (by walk_at "sub")) (Fm.keepB (by assumption)) (fun g hg => ?_); exact ⟨_, _, _, _, os, [], [], rfl, ⟨Vec.off hg (by assumption) (by walk_at "sub") (by walk_at "mem") (by walk_at "mem") (by assumption) (by assumption) rfl, ⟨_, news_off hg (by assumption) (by walk_at "sub") (by walk_at "mem") (fixed_seq rfl)⟩, .inl ⟨rfl, rfl⟩, nofac_nil _ _⟩, hcar, hito, hlen1, hlen2, rfl, fun i k v e => by simp at e⟩)
    · (refine ret _ _ _ (endSub (by assumption) (by walk_at "sub")) (Fm.keepB (by assumption)) (fun g hg => ?_); exact (by have D2 := do1 (w := w) (by assumption); exact ⟨_, _, _, _, os, _, _, rfl, ⟨Vec.off hg (by assumption) (by walk_at "sub") (by walk_at "mem") (by walk_at "mem") (by assumption) (by assumption) rfl, ⟨_, news_off hg (by assumption) (by walk_at "sub") (by walk_at "mem") (fixed_seq rfl)⟩, .inr ⟨_, rfl, Dct.off hg (by assumption) (by walk_at "sub") (by walk_at "mem") D2 (by assumption) (Nat.le_of_ble_eq_true rfl), .inl ⟨_, _, rfl, rfl⟩⟩, fac1 (Vec.off hg (by assumption) (by walk_at "sub") (by walk_at "mem") (by walk_at "mem") (by assumption) (by assumption) rfl) ⟨_, news_off hg (by assumption) (by walk_at "sub") (by walk_at "mem") (fixed_seq rfl)⟩ rfl⟩, hcar, hito, hlen1, hlen2, attr1 (Vec.off hg (by assumption) (by walk_at "sub") (by walk_at "mem") (by walk_at "mem") (by assumption) (by assumption) rfl)⟩))
    · (refine ret _ _ _ (endSub (by assumption) (by walk_at "sub")) (Fm.keepB (by assumption)) (fun g hg => ?_); exact (by have D2 := do2 (w := w) (by assumption); exact ⟨_, _, _, _, os, _, _, rfl, ⟨Vec.off hg (by assumption) (by walk_at "sub") (by walk_at "mem") (by walk_at "mem") (by assumption) (by assumption) rfl, ⟨_, news_off hg (by assumption) (by walk_at "sub") (by walk_at "mem") (fixed_seq rfl)⟩, .inr ⟨_, rfl, Dct.off hg (by assumption) (by walk_at "sub") (by walk_at "mem") D2 (by assumption) (Nat.le_of_ble_eq_true rfl), .inr ⟨_, _, _, _, rfl, rfl, rfl, by decide⟩⟩, fac2 (Vec.off hg (by assumption) (by walk_at "sub") (by walk_at "mem") (by walk_at "mem") (by assumption) (by assumption) rfl) ⟨_, news_off hg (by assumption) (by walk_at "sub") (by walk_at "mem") (fixed_seq rfl)⟩ rfl⟩, hcar, hito, hlen1, hlen2, attr2 (Vec.off hg (by assumption) (by walk_at "sub") (by walk_at "mem") (by walk_at "mem") (by assumption) (by assumption) rfl) (Vec.off hg (by assumption) (by walk_at "sub") (by walk_at "mem") (by walk_at "mem") (by assumption) (by assumption) rfl)⟩))
    · (refine ret _ _ _ (endSub (by assumption) (by walk_at "sub")) (Fm.keepB (by assumption)) (fun g hg => ?_); exact (by have D2 := do1 (w := w) (by assumption); exact ⟨_, _, _, _, os, _, _, rfl, ⟨Vec.off hg (by assumption) (by walk_at "sub") (by walk_at "mem") (by walk_at "mem") (by assumption) (by assumption) rfl, ⟨_, news_off hg (by assumption) (by walk_at "sub") (by walk_at "mem") (fixed_seq rfl)⟩, .inr ⟨_, rfl, Dct.off hg (by assumption) (by walk_at "sub") (by walk_at "mem") D2 (by assumption) (Nat.le_of_ble_eq_true rfl), .inl ⟨_, _, rfl, rfl⟩⟩, fac3 _⟩, hcar, hito, hlen1, hlen2, attr1 (Vec.off hg (by assumption) (by walk_at "sub") (by walk_at "mem") (by walk_at "mem") (by assumption) (by assumption) rfl)⟩))
end -- G2
section
open PySem PySem.W PyProof.Rows PySem.Calls
set_option maxRecDepth 100000
set_option maxHeartbeats 1000000
theorem news_offC {B hb h h' g : Heap} {C z : Addr} {m : Str → Option Value} {o : Obj} {news : List (Addr × Obj)} (hg : Off h h' g) (N : Nw hb C h' news) (k : Sub (wide h C []) hb) (hm : (z, o) ∈ news) (f : Fixed o) : g.get? z = some o := by
  have no : h.get? z = none := by
    cases q : h.get? z with
    | none => rfl
    | some x => have := k.none (N.no hm); rw [wide_get (news := []) q (N.ne hm) (fun _ q => nomatch q)] at this; cases this
  obtain ⟨o', e, s⟩ := hg _ _ no (N.get hm f)
  rw [e, s.eq f]
theorem valueAt_get {kvs : List (Str × Value)} (hn : (kvs.map (·.1)).Nodup) {i : Nat} {k : Str} {v : Value} (e : kvs[i]? = some (k, v)) : valueAt kvs k = some v := by
  induction kvs generalizing i with
  | nil => simp at e
  | cons p r ih =>
    rw [List.map_cons, List.nodup_cons] at hn
    cases i with
    | zero => cases e; simp [valueAt]
    | succ j =>
      have e' : r[j]? = some (k, v) := by simpa using e
      have : p.1 ≠ k := fun q => hn.1 (q ▸ List.mem_map.mpr ⟨_, List.mem_of_getElem? e', rfl⟩)
      have := ih hn.2 e'
      unfold valueAt at this ⊢
      rw [List.find?_cons_of_neg (by simpa using ‹p.1 ≠ k›)]; exact this
def AtI (w : World) (h : Heap) (a : Value) (kis : List (Str × Addr)) : Prop := (a = .none ∧ kis = []) ∨ ∃ d kvs, a = .ref d ∧ Dct w h d kvs ∧ AttrI h kvs kis
theorem AtI.up {w : World} {h h' : Heap} {a : Value} {kis : List (Str × Addr)} (x : AtI w h a kis) (s : Sub h h') : AtI w h' a kis := x.imp id fun ⟨d, kvs, e, y, z⟩ => ⟨d, kvs, e, y.up s, z.up s⟩
theorem AtK.ati {w : World} {h : Heap} {a : Value} {kvs : List (Str × Value)} {kis : List (Str × Addr)} (x : AtK w h a kvs) (y : AttrI h kvs kis) : AtI w h a kis := by
  rcases x with ⟨rfl, rfl⟩ | ⟨d, rfl, x, _⟩
  · exact .inl ⟨rfl, by have := y.1; cases kis with | nil => rfl | cons => simp at this⟩
  · exact .inr ⟨d, kvs, rfl, x, y⟩
/-- the pairs of names and items that stand in for attributes -/
def Marks (h : Heap) (us : List Value) (kis : List (Str × Addr)) : Prop := us.length = kis.length ∧ ∀ (i : Nat) (u : Value), us[i]? = some u → ∃ k iy a t, kis[i]? = some (k, iy) ∧ u = .ref a ∧ IsTup h a [.str k t, .ref iy].toArray
theorem Marks.up {h h' : Heap} {us : List Value} {kis : List (Str × Addr)} (x : Marks h us kis) (s : Sub h h') : Marks h' us kis := ⟨x.1, fun i u e => let ⟨k, iy, a, t, x1, x2, x3⟩ := x.2 i u e; ⟨k, iy, a, t, x1, x2, tup_up x3 s⟩⟩
theorem s_attrs (w : World) (B : Heap) (x i : Addr) (k : Str) (a : Value) (kis : List (Str × Addr)) : Spec w B 2 (.ref 654) [.ref x] (fun h => Vec h x k i a ∧ AtI w h a kis) (fun h r => ∃ D us, r = .ref D ∧ Ls h D us ∧ Marks h us kis) := by
  rintro A s Q E R G hB ⟨hv, ⟨rfl, rfl⟩ | ⟨d, kvs, rfl, hd, hI⟩⟩ ret
  · refine enterC 104 (binds := [("v", .ref x)]) (m := fun y => none) [("v", 1)] [some (.ref x)] R G hB ⟨_, by simp only [tblS]; repeat (first | exact List.Mem.head _ | refine List.Mem.tail _ ?_)⟩ (fun _ _ => rfl) (fun _ _ => rfl) rfl (fun _ => rfl) (by decide) (fun _ _ => rfl) (fun _ => rfl) (by decide) rfl fun cd L h₁ tk₁ cells F N hca hcd R' => ?_
    generalize hb : fdBody (stAt 104) = bd
    conv at hb => lhs; whnf
    subst hb
    generalize hsc : fdScope (stAt 104) = sc at F R' N ⊢
    conv at hsc => lhs; whnf
    subst hsc
    generalize hnm : fdName (stAt 104) = nm at F R' N ⊢
    obtain ⟨c1, rfl, hc1⟩ := cells1 hca hcd
    repeat (walk_at "go1")
    (refine ret _ _ _ (endSub (by assumption) (by walk_at "sub")) (Fm.keepB (by assumption)) (fun g hg => ?_); exact ⟨_, [], rfl, ⟨_, news_off hg (by assumption) (by walk_at "sub") (by walk_at "mem") (fixed_seq rfl)⟩, rfl, fun i u e => by simp at e⟩)
  · refine enterC 104 (binds := [("v", .ref x)]) (m := fun y => none) [("v", 1)] [some (.ref x)] R G hB ⟨_, by simp only [tblS]; repeat (first | exact List.Mem.head _ | refine List.Mem.tail _ ?_)⟩ (fun _ _ => rfl) (fun _ _ => rfl) rfl (fun _ => rfl) (by decide) (fun _ _ => rfl) (fun _ => rfl) (by decide) rfl fun cd L h₁ tk₁ cells F N hca hcd R' => ?_
    generalize hb : fdBody (stAt 104) = bd
    conv at hb => lhs; whnf
    subst hb
    generalize hsc : fdScope (stAt 104) = sc at F R' N ⊢
    conv at hsc => lhs; whnf
    subst hsc
    generalize hnm : fdName (stAt 104) = nm at F R' N ⊢
    obtain ⟨c1, rfl, hc1⟩ := cells1 hca hcd
    repeat (walk_at "go1")
    rename_i I oI hh1 X F1 N1
    have hd2 := hd
    obtain ⟨_, _, ⟨_, _, _, _, _, _, hnd⟩, _, hkl⟩ := hd2
    refine comp_run0 (fun h i u => ∃ k iy a t, kis[i]? = some (k, iy) ∧ u = .ref a ∧ IsTup h a [.str k t, .ref iy].toArray) R'.hand F1 N1 X (by omega) rfl rfl rfl (by decide) ?_ ?_
    · intro i v C h tk m' hi hP F3 N3 kW hx
      have kb := (base_turn F1 N1).trans kW
      obtain ⟨k', v', t', e1, rfl⟩ := hP
      obtain ⟨y, ky, iy, ay, rfl, hvy, eki⟩ := hI.2 i k' v' e1
      have hcell := (CellAt.turn (c := L + 1) N1 (by walk_at "mem") (by assumption)).up kW
      have hv2 := hv.up (Sub.trans (by walk_at "sub") kb)
      have hva := valueAt_get hnd e1
      have hd3 := hd.up (Sub.trans (by walk_at "sub") kb)
      have hvy3 := hvy.up (Sub.trans (by walk_at "sub") kb)
      repeat (walk_at "go1")
      (refine ⟨_, _, _, rfl, by assumption, by walk_at "sub", fun g hg => ?_⟩; exact ⟨k', iy, _, t', eki, rfl, tup_of (news_offC (B := B) (m := m') hg (by assumption) (by walk_at "sub") (by walk_at "mem") (fixed_seq rfl))⟩)
    intro C oC D hh2 tk2 hb2 ys z F2 N2 hC fC k2 hyl hys
    repeat (walk_at "go1")
    (refine ret _ _ _ (endSub (by assumption) (by walk_at "sub")) (Fm.keepB (by assumption)) (fun g hg => ?_); exact ⟨_, ys, rfl, ⟨_, news_off hg (by assumption) (by walk_at "sub") (by walk_at "mem") (fixed_seq rfl)⟩, hyl.trans hI.1, hys g (hg.of (endSub (by assumption) (by walk_at "sub")) (endSub (by assumption) (by walk_at "sub")))⟩)
theorem s_frame (w : World) (B : Heap) (cl nl x i : Addr) (k : Str) (a : Value) (cols nms vs : List Value) (hz : cols.length ≤ 1000) (hz2 : nms.length ≤ 1000) (hz3 : vs.length ≤ 1000) (hc0 : cols[0]? = some (.ref x)) :
    Spec w B 4 (.ref 661) [.ref cl, .ref nl] (fun h => Ls h cl cols ∧ Ls h nl nms ∧ AllVec h cols ∧ Vec h x k i a ∧ Ls h i vs) (fun h r => ∃ f j, r = .ref f ∧ Frame w h f j cols nms vs.length) := by
  have hz4 : vs.length ≤ 1000000 := by omega
  have hc1 : cols[(0 : Int).toNat]? = some (.ref x) := hc0
  rintro A s Q E R G hB ⟨hl, hn, hv, hx, hi⟩ ret
  have hav : ∀ g, Sub s.heap g → AllVec g cols := fun g kg v hv' => let ⟨x, k, i, a, e, y⟩ := hv v hv'; ⟨x, k, i, a, e, y.up kg⟩
  refine enter0 105 (binds := [("columns", .ref cl), ("heads", .ref nl)]) R G hB ⟨_, by simp only [tblS]; repeat (first | exact List.Mem.head _ | refine List.Mem.tail _ ?_)⟩ (fun _ _ => rfl) rfl rfl rfl fun cd L h₁ F N R' => ?_
  generalize hb : fdBody (stAt 105) = bd
  conv at hb => lhs; whnf
  subst hb
  generalize hsc : fdScope (stAt 105) = sc at F R' N ⊢
  conv at hsc => lhs; whnf
  subst hsc
  generalize hnm : fdName (stAt 105) = nm at F R' N ⊢
  repeat (first | ((with_reducible refine g_call ?_); first | ((refine r_spec (Spec.pre fun hz => s_new_frame _ _ _ _ _ _ _ (And.left hz) (And.right hz)) (Room.le (by assumption) (by decide)) (by assumption) (by assumption) (by assumption) (by exact ⟨⟨by walk_at "ls", by walk_at "ls", hav _ (endSub (by assumption) (by walk_at "sub"))⟩, by assumption, by assumption⟩) ?_); intro v h' hb' tk' F' N' K' P'; (have Pn := P'); obtain ⟨xn, jn, rfl, hn⟩ := P' _ Off.refl)) | (walk_at "go1"))
  (refine ret _ _ _ (endSub (by assumption) (by walk_at "sub")) (Fm.keepB (by assumption)) (fun g hg => ?_); exact (by obtain ⟨x1', j1', e1, M⟩ := Pn g (hg.of (endSub (by assumption) (by walk_at "sub")) (endSub (by assumption) (by walk_at "sub"))); cases e1; obtain ⟨d, nv, ni, na, cv, ci, ca, ct, m1, m2, m3, m4, m5, m6, m7⟩ := M; exact ⟨_, _, rfl, ⟨_, m1, _, _, _, _, _, _, _, _, _, _, _, m3, m4, m5, m6, m7, Vec.off hg (by assumption) (by walk_at "sub") (by walk_at "mem") (by walk_at "mem") (by assumption) (by assumption) rfl, ⟨_, news_off hg (by assumption) (by walk_at "sub") (by walk_at "mem") (fixed_seq rfl)⟩, by assumption, by assumption⟩, m2⟩))
end -- G3
section
open PySem PySem.W PyProof.Rows PySem.Calls
set_option maxRecDepth 100000
set_option maxHeartbeats 1000000
section
variable {w : World} {A : Around} {E : Value → Shared → Prop} {hp : Heap} {a b : Addr}
variable {gs : Array GenState} {dr : Drawn} {tk : Nat} {os : OsState}
theorem Marks.eq {h : Heap} {us ws : List Value} {kis : List (Str × Addr)} (x : Marks h us kis) (y : Marks h ws kis) : us.length = ws.length ∧ ∀ (j : Nat) (v w : Value), us[j]? = some v → ws[j]? = some w → EqW h v w 1 := by
  refine ⟨x.1.trans y.1.symm, fun j v w' e f => ?_⟩
  obtain ⟨k, iy, a, t, e1, rfl, t1⟩ := x.2 j v e
  obtain ⟨k2, iy2, a2, t2, e2, rfl, t2'⟩ := y.2 j w' f
  rw [e1] at e2; cases e2
  refine .tup t1 t2' rfl fun i v w' e f => ?_
  match i, e, f with
  | 0, e, f => cases e; cases f; exact .flat (.str _ _) (.str _ _)
  | 1, e, f => cases e; cases f; exact .same
  | n + 2, e, _ => simp at e
theorem r_neM {d : Nat} {us ws : List Value} {kis : List (Str × Addr)} {Q : Value → Shared → Prop} (R : Room A d) (la : Ls hp a us) (lb : Ls hp b ws) (m1 : Marks hp us kis) (m2 : Marks hp ws kis) (h : Q (.bool false) ⟨hp, gs, dr, tk, os⟩) :
    wpAny (model pr w) A (compareOp .NotEq (.ref a) (.ref b)) Q E ⟨hp, gs, dr, tk, os⟩ := r_neW (n := 1) R la lb (m1.eq m2).1 (m1.eq m2).2 (by decide) h
theorem r_neMM {d : Nat} {d1 d2 d4 d5 : Addr} {u1 u2 u4 u5 : List Value} {k1 k2 : List (Str × Addr)} {Q : Value → Shared → Prop} (R : Room A d) (la : Ls hp a [.ref d4, .ref d5]) (lb : Ls hp b [.ref d1, .ref d2])
    (l4 : Ls hp d4 u4) (l1 : Ls hp d1 u1) (l5 : Ls hp d5 u5) (l2 : Ls hp d2 u2) (m4 : Marks hp u4 k1) (m1 : Marks hp u1 k1) (m5 : Marks hp u5 k2) (m2 : Marks hp u2 k2) (h : Q (.bool false) ⟨hp, gs, dr, tk, os⟩) :
    wpAny (model pr w) A (compareOp .NotEq (.ref a) (.ref b)) Q E ⟨hp, gs, dr, tk, os⟩ := r_neW (n := 2) R la lb rfl (fun i v w' e f => by
  match i, e, f with
  | 0, e, f => cases e; cases f; exact .list l4 l1 (m4.eq m1).1 (m4.eq m1).2
  | 1, e, f => cases e; cases f; exact .list l5 l2 (m5.eq m2).1 (m5.eq m2).2
  | n + 2, e, _ => simp at e) (by decide) h
end
theorem s_frame1 (w : World) (B : Heap) (cl nl x i : Addr) (k : Str) (a : Value) (nms vs : List Value) :
    Spec w B 4 (.ref 661) [.ref cl, .ref nl] (fun h => Ls h cl [.ref x] ∧ Ls h nl nms ∧ Vec h x k i a ∧ Ls h i vs ∧ nms.length ≤ 1000 ∧ vs.length ≤ 1000) (fun h r => ∃ f j, r = .ref f ∧ Frame w h f j [.ref x] nms vs.length) := by
  rintro A s Q E R G hB ⟨h1, h2, h3, h4, h5, h6⟩ ret
  exact s_frame w B cl nl x i k a [.ref x] nms vs (Nat.le_of_ble_eq_true rfl) h5 h6 rfl A s Q E R G hB ⟨h1, h2, fun v hv => by rw [List.mem_singleton.mp hv]; exact ⟨_, _, _, _, rfl, h3⟩, h3, h4⟩ ret
theorem s_frame2 (w : World) (B : Heap) (cl nl x y i iy : Addr) (k ky : Str) (a ay : Value) (nms vs : List Value) :
    Spec w B 4 (.ref 661) [.ref cl, .ref nl] (fun h => Ls h cl [.ref x, .ref y] ∧ Ls h nl nms ∧ Vec h x k i a ∧ Vec h y ky iy ay ∧ Ls h i vs ∧ nms.length ≤ 1000 ∧ vs.length ≤ 1000) (fun h r => ∃ f j, r = .ref f ∧ Frame w h f j [.ref x, .ref y] nms vs.length) := by
  rintro A s Q E R G hB ⟨h1, h2, h3, h3', h4, h5, h6⟩ ret
  refine s_frame w B cl nl x i k a [.ref x, .ref y] nms vs (Nat.le_of_ble_eq_true rfl) h5 h6 rfl A s Q E R G hB ⟨h1, h2, fun v hv => ?_, h3, h4⟩ ret
  rcases List.mem_cons.mp hv with rfl | hv
  · exact ⟨_, _, _, _, rfl, h3⟩
  · rw [List.mem_singleton.mp hv]; exact ⟨_, _, _, _, rfl, h3'⟩
theorem s_column0 (w : World) (B : Heap) (l : Addr) (us : List Value) (ts : Tok) (hu : ∀ v ∈ us, Cell v) (hl1 : 20 ≤ us.length) (hl2 : us.length ≤ 10000) : Spec w B 3 (.ref 649) [.ref l, .int 0 ts] (fun h => Ls h l us) (fun h r => ∃ (x i : Addr) (a : Value) (vs : List Value) (os : List (Option Int)) (kvs : List (Str × Value)) (kis : List (Str × Addr)), r = .ref x ∧ Col w h x i a vs kvs ∧ CarriedAll vs (os.map itD) ∧ (∀ o ∈ os, ItO o) ∧ 1 ≤ os.length ∧ os.length ≤ 2 ∧ AttrI h kvs kis) := s_column w B l us 0 ts hu (by omega) hl2
theorem s_column4 (w : World) (B : Heap) (l : Addr) (us : List Value) (ts : Tok) (hu : ∀ v ∈ us, Cell v) (hl1 : 20 ≤ us.length) (hl2 : us.length ≤ 10000) : Spec w B 3 (.ref 649) [.ref l, .int 4 ts] (fun h => Ls h l us) (fun h r => ∃ (x i : Addr) (a : Value) (vs : List Value) (os : List (Option Int)) (kvs : List (Str × Value)) (kis : List (Str × Addr)), r = .ref x ∧ Col w h x i a vs kvs ∧ CarriedAll vs (os.map itD) ∧ (∀ o ∈ os, ItO o) ∧ 1 ≤ os.length ∧ os.length ≤ 2 ∧ AttrI h kvs kis) := s_column w B l us 4 ts hu (by omega) hl2
local macro_rules | `(tactic| walk_at "mrk") => `(tactic| first | with_reducible assumption | exact Marks.up (by with_reducible assumption) (endSub (by assumption) (by walk_at "sub")))
local macro_rules | `(tactic| walk_at "cmp") => `(tactic| first
  | ((with_reducible refine' r_neM ?R ?la ?lb ?m1 ?m2 ?_); (case R => assumption); (case la => walk_at "ls"); (case lb => walk_at "ls"); (case m1 => walk_at "mrk"); (case m2 => walk_at "mrk"))
  | ((with_reducible refine' r_neMM ?R ?la ?lb ?l4 ?l1 ?l5 ?l2 ?m4 ?m1 ?m5 ?m2 ?_); (case R => assumption); (case la => walk_at "ls"); (case lb => walk_at "ls"); (case l4 => walk_at "ls"); (case l1 => walk_at "ls"); (case l5 => walk_at "ls"); (case l2 => walk_at "ls"); (case m4 => walk_at "mrk"); (case m1 => walk_at "mrk"); (case m5 => walk_at "mrk"); (case m2 => walk_at "mrk")))
local macro_rules | `(tactic| walk_at "sz") => `(tactic| ((have : ("w" : Str).length = 1 := rfl); omega))
end -- G4
section
open PySem PySem.W PyProof.Rows PySem.Calls
set_option maxRecDepth 100000
set_option maxHeartbeats 1000000
local macro_rules | `(tactic| walk_at "car2") => `(tactic| first | assumption | exact CarriedAll.cons (Carried.int _ _) (CarriedAll.cons (Carried.int _ _) CarriedAll.nil) | exact CarriedAll.cons (Carried.str _ _) (CarriedAll.cons (Carried.str _ _) CarriedAll.nil))
local macro_rules | `(tactic| walk_at "cmp") => `(tactic| first
  | ((with_reducible refine' r_eqL ?R ?x ?y ?cx ?cy ?_); (case R => assumption); (case x => walk_at "ls"); (case y => walk_at "ls"); (case cx => walk_at "car2"); (case cy => walk_at "car2")))
noncomputable abbrev lawEnv (nm : Str) (L : Addr) (cd : Value) : Env := envOf nm (fdScope (stAt 106)) L 666 cd
theorem law3 (w : World) (B hb h : Heap) (L : Addr) (m : Str → Option Value) (nm : Str) (cd : Value) (A : Around) (gs : Array GenState) (dr : Drawn) (tk : Nat) (os' : OsState) (Q : Value → Shared → Prop) (R' : Room A 11) (G : Gd w B) (F : Fm B hb L h m) (N : Nw hb L h [])
    (xp ip xw iw xt il : Addr) (vs ws us : List Value) (dws : List PyData) (os : List (Option Int)) (n : Nat) (te t2 tt tn0 : Tok) (vp : Vec hb xp "integer" ip .none) (lp : Ls hb ip vs) (hcc : CarriedAll vs (os.map itD)) (hito : ∀ o ∈ os, ItO o) (ho1 : 1 ≤ os.length) (ho4 : os.length ≤ 4)
    (vw : Vec hb xw "character" iw .none) (lw : Ls hb iw ws) (hcw : CarriedAll ws dws) (hws : ws.length ≤ 4) (ht : Mat w hb xt il [.int n te, .int 2 t2] [.str "t" tt, .str "n" tn0]) (lt : Ls hb il (ws ++ us)) (hup : CarriedAll us (os.map (padD (widest (lens os))))) (hn : n = os.length)
    (m1 : m "plain_now" = some (.ref xp)) (m2 : m "words" = some (.ref xw)) (m3 : m "told" = some (.ref xt))
    (fin : ∀ h' tk', Sub hb h' → SubX B h' → Q (.bool true) ⟨h', gs, dr, tk', os'⟩) :
    wpAny (model pr w) A (execs ((fdBody (stAt 106)).drop 13) (lawEnv nm L cd)) (fun fl s' => Q (match fl with | .ret v => v | _ => .none) s') (fun _ _ => False) ⟨h, gs, dr, tk, os'⟩ := by
  have hvl : vs.length = os.length := by rw [hcc.length_eq, List.length_map]
  have hcall := car_append hcw hup
  obtain ⟨dt, iv, ii, dv, vt, Dt, viv, lii, inu, nu, cv, ci, vdv, linu, vcv, lci⟩ := ht
  unfold lawEnv
  generalize hbd : (fdBody (stAt 106)).drop 13 = bd
  conv at hbd => lhs; whnf
  subst hbd
  generalize hsc : fdScope (stAt 106) = sc
  conv at hsc => lhs; whnf
  subst hsc
  repeat (walk_at "go1")
  rename_i I oI hh1 X F1 N1
  refine comp_run0 (fun _ i y => ∃ o t, os[i]? = some o ∧ y = .str (shown o) t) R'.hand F1 N1 X (by omega) rfl rfl rfl (by decide) ?_ ?_
  · intro i v C h tk m' hi hP F3 N3 kW hx
    obtain ⟨o, hoi, ⟨rfl, rfl⟩ | ⟨n', t', rfl, rfl⟩⟩ := item_is hcc hP
    · repeat (walk_at "go1")
      (refine ⟨_, _, _, rfl, by assumption, by walk_at "sub", fun g hg => ?_⟩; exact ⟨none, _, hoi, rfl⟩)
    · obtain ⟨b1, b2, b3⟩ : Itm n' := hito _ (List.mem_of_getElem? hoi)
      repeat (walk_at "go1")
      (refine ⟨_, _, _, rfl, by assumption, by walk_at "sub", fun g hg => ?_⟩; exact ⟨some n', _, hoi, rfl⟩)
  intro C oC D hh2 tk2 hb2 ys z F2 N2 hC fC k2 hyl hys
  have hy := hys hb2 Off.refl
  clear hys
  repeat (walk_at "go1")
  rename_i I oI hh3 hb3 X3 F3 N3 K3 l3
  refine comp_run0 (fun h i y => ∃ o t, os[i]? = some o ∧ y = .int ((shown o).length : Int) t) R'.hand F3 N3 X3 (by omega) rfl rfl rfl (by decide) ?_ ?_
  · intro i v C h tk m' hi hP F4 N4 kW hx
    obtain ⟨o, tv, hoi, rfl⟩ := hy i v hP
    have hsl := shown_len (hito o (List.mem_of_getElem? hoi))
    have hsz : (shown o).length ≤ 1000000 := by omega
    repeat (walk_at "go1")
    (refine ⟨_, _, _, rfl, by assumption, by walk_at "sub", fun g hg => ?_⟩; exact ⟨o, _, hoi, rfl⟩)
  intro C oC D hh4 tk4 hb4 ys4 z4 F5 N5 hC fC k4 hyl4 hys4
  have hI : IntsAre ys4 (lens os) := lens_car (by omega) (hys4 hb4 Off.refl)
  clear hys4
  have hpos : 0 < (lens os).length := by show 0 < (os.map _).length; rw [List.length_map]; omega
  repeat (walk_at "go1")
  have hW := widest_of (ns := lens os) (by assumption) (by assumption) (lens_pos os)
  have hW2 := widest_le (lens_le hito)
  rename_i I oI hh5 X5 F5 N5
  refine for_inv (fun i s' => ∃ h' tk' m' o' hb' a' ud z rest tW, s' = ⟨h', gs, dr, tk', os'⟩ ∧ Fm B hb' L h' m' ∧ Nw hb' L h' ((I, o') :: (a', listOf ud.toArray z) :: rest) ∧ Iter w hb' I ys.length (fun i v => ∃ t, v = .int i t) i o' ∧ Sub hb hb' ∧ Ls hb' _ ys ∧
      m' "plain_now" = some (.ref xp) ∧ m' "shown" = some (.ref _) ∧ m' "wide" = some (.int (widest (lens os)) tW) ∧ m' "due" = some (.ref a') ∧ m' "words" = some (.ref xw) ∧ m' "told" = some (.ref xt) ∧ ud.length = i ∧ ∀ (j : Nat) (y : Value), ud[j]? = some y → ∃ o, os[j]? = some o ∧ Carried y (padD (widest (lens os)) o)) ys.length ?_ ?_
    ⟨_, _, _, _, _, _, [], _, _, _, rfl, F5, N5, X5, by walk_at "sub", by walk_at "lsb", m1, rfl, by rw [← hW]; rfl, rfl, m2, m3, rfl, fun j y e => by simp at e⟩
  · rintro i s' hi ⟨h', tk', m', o', hb', a', ud, z, rest, tW, rfl, F6, N6, X6, K6, hD6, p1, p2, p3, p4, p5, p6, hul, hus⟩ next
    refine for_item (k := 0) R'.hand F6 N6 rfl X6 hi fun v h2 tk2 o2 hv2 X7 F7 N7 => ?_
    obtain ⟨ti, rfl⟩ := hv2
    dsimp only [List.set] at N7
    have hil : i < os.length := by omega
    obtain ⟨vi, hvi'⟩ : ∃ vi, vs[i]? = some vi := ⟨vs[i]'(by omega), List.getElem?_eq_getElem _⟩
    obtain ⟨si, hsi'⟩ : ∃ vi, ys[i]? = some vi := ⟨ys[i]'(by omega), List.getElem?_eq_getElem _⟩
    obtain ⟨o, tv, hoi, rfl⟩ := hy i si hsi'
    have hvi : vs[((i : Nat) : Int).toNat]? = some vi := hvi'
    have hsi : ys[((i : Nat) : Int).toNat]? = some _ := hsi'
    have hi6 : (i : Int) ≤ 1000000 := by omega
    have hul6 : ud.length ≤ 1000000 := by omega
    have vp6 := vp.up K6
    have lp6 := lp.up K6
    obtain ⟨o', hoi', hlk⟩ := item_is hcc hvi'
    rw [hoi] at hoi'; cases hoi'
    have hsl := shown_len (hito o (List.mem_of_getElem? hoi))
    have hsz : (shown o).length ≤ 1000000 := by omega
    have hle : ((shown o).length : Int) ≤ widest (lens os) := le_widest (List.mem_map.mpr ⟨o, List.mem_of_getElem? hoi, rfl⟩)
    have hbl : (blanks (widest (lens os) - ((shown o).length : Int))).length ≤ 1000 := by
      have e : (blanks (widest (lens os) - ((shown o).length : Int))).length = (blanks (widest (lens os) - ((shown o).length : Int))).cps.toList.length := by rw [Array.length_toList]; rfl
      rw [e, show (blanks (widest (lens os) - ((shown o).length : Int))).cps.toList = List.replicate (widest (lens os) - ((shown o).length : Int)).toNat 32 from mul_one_list 32 _, List.length_replicate]
      omega
    rcases hlk with ⟨rfl, rfl⟩ | ⟨n', t', rfl, rfl⟩
    · repeat (walk_at "go1")
      exact next _ ⟨_, _, _, o2, _, a', ud ++ [.none], _, rest, tW, rfl, by assumption, by assumption, X7.up (by walk_at "sub"), by walk_at "sub", by walk_at "lsb", by exact p1, by exact p2, by exact p3, by exact p4, by exact p5, by exact p6, by simp [hul], snoc_get hul hus ⟨none, hoi, .none⟩⟩
    · repeat (walk_at "go1")
      exact next _ ⟨_, _, _, o2, _, a', ud ++ [.str (blanks (widest (lens os) - ((shown (some n')).length : Int)) ++ shown (some n')) _], _, rest, tW, rfl, by assumption, by assumption, X7.up (by walk_at "sub"), by walk_at "sub", by walk_at "lsb", by exact p1, by exact p2, by exact p3, by exact p4, by exact p5, by exact p6, by simp [hul], snoc_get hul hus ⟨some n', hoi, .str _ _⟩⟩
  · rintro s' ⟨h', tk', m', o', hb', a', ud, z, rest, tW, rfl, F6, N6, X6, K6, hD6, p1, p2, p3, p4, p5, p6, hul, hus⟩
    refine for_end (k := 0) R'.hand F6 N6 rfl X6 fun h2 tk2 F7 N7 => ?_
    dsimp only [List.eraseIdx] at N7
    have hfin : CarriedAll ud (os.map (padD (widest (lens os)))) := car_of (by rw [hul, hyl, hvl, List.length_map]) fun i v d e f => by
      obtain ⟨o, h1, h2⟩ := hus i v e
      rw [List.getElem?_map, h1] at f
      cases f; exact h2
    have hdall := car_append hcw hfin
    have hul6 : ud.length ≤ 1000000 := by omega
    have hws6 : ws.length + ud.length ≤ 1000000 := by omega
    obtain rfl : n = ud.length := by omega
    have vt6 := vt.up K6
    have vw6 := vw.up K6
    have lw6 := lw.up K6
    have lt6 := lt.up K6
    have Dt6 := Dt.up K6
    have viv6 := viv.up K6
    have lii6 := lii.up K6
    have vdv6 := vdv.up K6
    have linu6 := linu.up K6
    have vcv6 := vcv.up K6
    have lci6 := lci.up K6
    clear F5 N5 X5 F1 N1
    repeat (walk_at "go1")
    exact fin _ _ (endSub (by assumption) (by walk_at "sub")) (Fm.keepB (by assumption))
end -- G5
section
open PySem PySem.W PyProof.Rows PySem.Calls
set_option maxRecDepth 100000
set_option maxHeartbeats 1000000
local macro_rules | `(tactic| walk_at "sz") => `(tactic| ((have : ("w" : Str).length = 1 := rfl); omega))
theorem txt_small {i : Nat} (h : i < 1000) : (Str.ofString (toString (i : Int))).length ≤ 6 := txt_len (by omega)
theorem strs_car : ∀ {ys : List Value}, (∀ (i : Nat) (y : Value), ys[i]? = some y → ∃ s t, y = .str s t) → ∃ ds, CarriedAll ys ds
  | [], _ => ⟨[], .nil⟩
  | y :: r, h => by
    obtain ⟨s, t, rfl⟩ := h 0 y rfl
    obtain ⟨ds, c⟩ := strs_car (ys := r) fun i y e => h (i + 1) y (by simpa using e)
    exact ⟨_, .cons (.str _ _) c⟩
theorem Ls.wide {B hb h : Heap} {L a : Addr} {m : Str → Option Value} {vs : List Value} (F : Fm B hb L h m) (x : Ls h a vs) : Ls (wide h L []) a vs := by
  have n := Ls.neL F x
  obtain ⟨z, e⟩ := x
  exact ⟨z, wide_get e n fun _ q => nomatch q⟩
theorem Vec.wide {B hb h : Heap} {L x i : Addr} {m : Str → Option Value} {k : Str} {a : Value} (F : Fm B hb L h m) (v : Vec h x k i a) : Vec (wide h L []) x k i a := by
  obtain ⟨dx, o, e1, e2, d, z, ha⟩ := v
  obtain ⟨oL, es, ep, eL, dL, r⟩ := F.ns
  refine ⟨dx, o, wide_get e1 (fun q => ?_) (fun _ q => nomatch q), wide_get e2 (fun q => ?_) (fun _ q => nomatch q), d, z, ha⟩
  · rw [q, eL] at e1; cases e1; cases dL
  · rw [q, eL] at e2; cases e2; exact fixed_ns dL r.2 F.nl d.isVD
theorem DimN.up {h h' : Heap} {x : Addr} {nms : List Value} (d : DimN h x nms) (s : Sub h h') : DimN h' x nms := let ⟨i, nu, cv, ci, a, b, c, e⟩ := d; ⟨i, nu, cv, ci, a.up s, b.up s, c.up s, e.up s⟩
theorem Mat.up {w : World} {h h' : Heap} {x il : Addr} {exts nms : List Value} (d : Mat w h x il exts nms) (s : Sub h h') : Mat w h' x il exts nms := let ⟨d, iv, ii, dv, a, b, c, e, f⟩ := d; ⟨d, iv, ii, dv, a.up s, b.up s, c.up s, e.up s, f.up s⟩
theorem law2 (w : World) (B hb h : Heap) (L : Addr) (m : Str → Option Value) (nm : Str) (cd : Value) (A : Around) (gs : Array GenState) (dr : Drawn) (tk : Nat) (os' : OsState) (Q : Value → Shared → Prop) (R' : Room A 11) (G : Gd w B) (F : Fm B hb L h m) (N : Nw hb L h [])
    (xc ic : Addr) (ac : Value) (vs : List Value) (os : List (Option Int)) (vc : Vec hb xc "integer" ic ac) (lc : Ls hb ic vs) (hcc : CarriedAll vs (os.map itD)) (hito : ∀ o ∈ os, ItO o) (ho1 : 1 ≤ os.length) (ho4 : os.length ≤ 4) (m1 : m "column" = some (.ref xc))
    (fin : ∀ h' tk', Sub hb h' → SubX B h' → Q (.bool true) ⟨h', gs, dr, tk', os'⟩) :
    wpAny (model pr w) A (execs ((fdBody (stAt 106)).drop 10) (lawEnv nm L cd)) (fun fl s' => Q (match fl with | .ret v => v | _ => .none) s') (fun _ _ => False) ⟨h, gs, dr, tk, os'⟩ := by
  have hvl : vs.length = os.length := by rw [hcc.length_eq, List.length_map]
  have hos0 : os ≠ [] := fun e => by subst e; simp at ho1
  unfold lawEnv
  generalize hbd : (fdBody (stAt 106)).drop 10 = bd
  conv at hbd => lhs; whnf
  subst hbd
  generalize hsc : fdScope (stAt 106) = sc
  conv at hsc => lhs; whnf
  subst hsc
  repeat (first | ((with_reducible refine g_call ?_); first | ((refine r_spec (s_frame2 _ _ _ _ _ _ _ _ _ _ _ _ _ _) (Room.le (by assumption) (by decide)) (by assumption) (by assumption) (by assumption) (by exact ⟨by walk_at "ls", by walk_at "ls", by walk_at "vec", by walk_at "vec", by walk_at "ls", by exact Nat.le_of_ble_eq_true rfl, by omega⟩) ?_); intro v h' hb' tk' F' N' K' P'; obtain ⟨ff, jf, rfl, gf⟩ := P' _ Off.refl)) | (walk_at "go1"))
  rename_i I oI hh1 X F1 N1
  refine comp_run0 (fun _ i y => ∃ s t, y = .str s t) R'.hand F1 N1 X (by omega) rfl rfl rfl (by decide) ?_ ?_
  · intro i v C h tk m' hi hP F3 N3 kW hx
    obtain ⟨ti, rfl⟩ := hP
    have hts := txt_small (i := i) (by omega)
    repeat (first | ((with_reducible refine g_call ?_); first | ((refine r_spec (s_frame2 _ _ _ _ _ _ _ _ _ _ _ _ _ _) (Room.le (by assumption) (by decide)) (by assumption) (by assumption) (by assumption) (by exact ⟨by walk_at "ls", by walk_at "ls", by walk_at "vec", by walk_at "vec", by walk_at "ls", by exact Nat.le_of_ble_eq_true rfl, by omega⟩) ?_); intro v h' hb' tk' F' N' K' P'; obtain ⟨ff, jf, rfl, gf⟩ := P' _ Off.refl)) | (walk_at "go1"))
    (refine ⟨_, _, _, rfl, by assumption, by walk_at "sub", fun g hg => ?_⟩; exact ⟨_, _, rfl⟩)
  intro C oC D hh2 tk2 hb2 ys z F2 N2 hC fC k2 hyl hys
  have hy := hys hb2 Off.refl
  clear hys
  obtain ⟨dws, hcw⟩ := strs_car hy
  have hysw : ∀ y ∈ ys, ∃ s t, y = .str s t := fun y h => by obtain ⟨i, hi⟩ := List.getElem?_of_mem h; exact hy i y hi
  repeat (first | ((with_reducible refine g_call ?_); first | ((refine r_spec (s_frame2 _ _ _ _ _ _ _ _ _ _ _ _ _ _) (Room.le (by assumption) (by decide)) (by assumption) (by assumption) (by assumption) (by exact ⟨by walk_at "ls", by walk_at "ls", by walk_at "vec", by walk_at "vec", by walk_at "ls", by exact Nat.le_of_ble_eq_true rfl, by omega⟩) ?_); intro v h' hb' tk' F' N' K' P'; obtain ⟨ff, jf, rfl, gf⟩ := P' _ Off.refl)) | (walk_at "go1"))
  have hysl : ys.length = os.length := by omega
  have hys0 : ys ≠ [] := fun e => by subst e; simp at hysl; omega
  refine r_spec (s_frame_matrix _ _ ff jf _ _ _ _ ys vs os ys.length _ _ hcc hito hos0 (by omega) hys0 (by omega) hysw (by omega)) (Room.le (by assumption) (by decide)) (by assumption) (by assumption) (by assumption) ⟨gf.up (endSub (by assumption) (by walk_at "sub")), by walk_at "vec", by walk_at "ls", by walk_at "vec", by walk_at "ls"⟩ ?_
  intro v h' hb' tk' F' N' K' P'
  obtain ⟨xt, il, us, te, t2, rfl, hMat, hlt, hup⟩ := P' _ Off.refl
  (first | ((with_reducible refine g_call ?_); first | ((refine r_spec (s_frame2 _ _ _ _ _ _ _ _ _ _ _ _ _ _) (Room.le (by assumption) (by decide)) (by assumption) (by assumption) (by assumption) (by exact ⟨by walk_at "ls", by walk_at "ls", by walk_at "vec", by walk_at "vec", by walk_at "ls", by exact Nat.le_of_ble_eq_true rfl, by omega⟩) ?_); intro v h' hb' tk' F' N' K' P'; obtain ⟨ff, jf, rfl, gf⟩ := P' _ Off.refl)) | (walk_at "go1"))
  rename_i hL FL NL
  obtain ⟨F9, N9, K9⟩ := only FL NL (List.nil_sublist _)
  refine law3 w B _ hL L _ nm cd A gs dr _ os' Q R' G F9 N9 _ _ _ _ xt il vs ys us dws os ys.length te t2 _ _ (Vec.wide FL (Vec.of NL (by walk_at "mem") (by walk_at "mem") (by assumption) (by assumption) rfl)) (Ls.wide FL (Ls.of_news NL (by walk_at "mem"))) hcc hito ho1 ho4 (Vec.wide FL (Vec.of NL (by walk_at "mem") (by walk_at "mem") (by assumption) (by assumption) rfl)) (Ls.wide FL (Ls.of_news NL (by walk_at "mem"))) hcw (by omega) (hMat.up K9) (hlt.up K9) hup hysl rfl rfl rfl fun h' tk' k kB => fin h' tk' (Sub.trans (Sub.trans (by walk_at "sub") K9) k) kB
end -- G6
section
open PySem PySem.W PyProof.Rows PySem.Calls
set_option maxRecDepth 100000
set_option maxHeartbeats 1000000
local macro_rules | `(tactic| walk_at "mrk") => `(tactic| first | with_reducible assumption | exact Marks.up (by with_reducible assumption) (endSub (by assumption) (by walk_at "sub")))
local macro_rules | `(tactic| walk_at "cmp") => `(tactic| first
  | ((with_reducible refine' r_neM ?R ?la ?lb ?m1 ?m2 ?_); (case R => assumption); (case la => walk_at "ls"); (case lb => walk_at "ls"); (case m1 => walk_at "mrk"); (case m2 => walk_at "mrk"))
  | ((with_reducible refine' r_neMM ?R ?la ?lb ?l4 ?l1 ?l5 ?l2 ?m4 ?m1 ?m5 ?m2 ?_); (case R => assumption); (case la => walk_at "ls"); (case lb => walk_at "ls"); (case l4 => walk_at "ls"); (case l1 => walk_at "ls"); (case l5 => walk_at "ls"); (case l2 => walk_at "ls"); (case m4 => walk_at "mrk"); (case m1 => walk_at "mrk"); (case m5 => walk_at "mrk"); (case m2 => walk_at "mrk")))
local macro_rules | `(tactic| walk_at "sz") => `(tactic| ((have : ("w" : Str).length = 1 := rfl); omega))
theorem law2N (w : World) (B hb h : Heap) (L : Addr) (m : Str → Option Value) (nm : Str) (cd : Value) (A : Around) (gs : Array GenState) (dr : Drawn) (tk : Nat) (os' : OsState) (Q : Value → Shared → Prop) (R' : Room A 11) (G : Gd w B) {news : List (Addr × Obj)} (F : Fm B hb L h m) (N : Nw hb L h news)
    (xc ic : Addr) (ac : Value) (vs : List Value) (os : List (Option Int)) (vc : Vec hb xc "integer" ic ac) (lc : Ls hb ic vs) (hcc : CarriedAll vs (os.map itD)) (hito : ∀ o ∈ os, ItO o) (ho1 : 1 ≤ os.length) (ho4 : os.length ≤ 4) (m1 : m "column" = some (.ref xc))
    (fin : ∀ h' tk', Sub hb h' → SubX B h' → Q (.bool true) ⟨h', gs, dr, tk', os'⟩) :
    wpAny (model pr w) A (execs ((fdBody (stAt 106)).drop 10) (lawEnv nm L cd)) (fun fl s' => Q (match fl with | .ret v => v | _ => .none) s') (fun _ _ => False) ⟨h, gs, dr, tk, os'⟩ := by
  obtain ⟨F9, N9, K9⟩ := only F N (List.nil_sublist _)
  exact law2 w B _ h L m nm cd A gs dr tk os' Q R' G F9 N9 xc ic ac vs os (vc.up K9) (lc.up K9) hcc hito ho1 ho4 m1 fun h' tk' k kB => fin h' tk' (K9.trans k) kB
theorem law1 (w : World) (B hb h : Heap) (L : Addr) (m : Str → Option Value) (nm : Str) (cd : Value) (A : Around) (gs : Array GenState) (dr : Drawn) (tk : Nat) (os' : OsState) (Q : Value → Shared → Prop) (R' : Room A 11) (G : Gd w B) (F : Fm B hb L h m) (N : Nw hb L h [])
    (mk d1 d2 x1 x2 i1 i2 xb ib db nv cv rv ri xc ic : Addr) (a1 a2 ac : Value) (u1 u2 vs1 vs2 ur : List Value) (ki1 ki2 : List (Str × Addr)) (os : List (Option Int)) (t1 t2 : Tok)
    (lmk : Ls hb mk [.ref d1, .ref d2]) (ld1 : Ls hb d1 u1) (ld2 : Ls hb d2 u2) (mm1 : Marks hb u1 ki1) (mm2 : Marks hb u2 ki2) (v1 : Vec hb x1 "integer" i1 a1) (l1 : Ls hb i1 vs1) (hA1 : AtI w hb a1 ki1) (v2 : Vec hb x2 "integer" i2 a2) (l2 : Ls hb i2 vs2) (hA2 : AtI w hb a2 ki2)
    (vb : Vec hb xb "list" ib (.ref db)) (lb : Ls hb ib [.ref xc]) (Db : Dct w hb db [("names", .ref nv), ("class", .ref cv), ("row.names", .ref rv)]) (vc : Vec hb xc "integer" ic ac) (lc : Ls hb ic (vs1 ++ vs2)) (hAc : AtI w hb ac ki1) (vr : Vec hb rv "integer" ri .none) (lr : Ls hb ri ur) (cr2 : CarriedAll ur (upto (vs1 ++ vs2).length))
    (hcc : CarriedAll (vs1 ++ vs2) (os.map itD)) (hito : ∀ o ∈ os, ItO o) (ho1 : 1 ≤ os.length) (ho4 : os.length ≤ 4)
    (m1 : m "first" = some (.ref x1)) (m2 : m "second" = some (.ref x2)) (m3 : m "marks" = some (.ref mk)) (m4 : m "bound" = some (.ref xb))
    (fin : ∀ h' tk', Sub hb h' → SubX B h' → Q (.bool true) ⟨h', gs, dr, tk', os'⟩) :
    wpAny (model pr w) A (execs ((fdBody (stAt 106)).drop 5) (lawEnv nm L cd)) (fun fl s' => Q (match fl with | .ret v => v | _ => .none) s') (fun _ _ => False) ⟨h, gs, dr, tk, os'⟩ := by
  have hvl : (vs1 ++ vs2).length = os.length := by rw [hcc.length_eq, List.length_map]
  have hLen : (vs1 ++ vs2).length = vs1.length + vs2.length := List.length_append
  have hz4 : (vs1 ++ vs2).length ≤ 1000000 := by omega
  have hz5 : vs1.length + vs2.length ≤ 1000000 := by omega
  unfold lawEnv
  generalize hbd : (fdBody (stAt 106)).drop 5 = bd
  conv at hbd => lhs; whnf
  subst hbd
  generalize hsc : fdScope (stAt 106) = sc
  conv at hsc => lhs; whnf
  subst hsc
  repeat (first | ((with_reducible refine g_execs ?_); refine law2N w B _ _ L _ nm cd A gs dr _ os' Q R' G (by assumption) (by assumption) xc ic ac (vs1 ++ vs2) os (vc.up (by walk_at "sub")) (lc.up (by walk_at "sub")) hcc hito ho1 ho4 (by rfl) (fun h' tk' k kB => fin h' tk' (Sub.trans (by walk_at "sub") k) kB)) | (first | ((with_reducible refine g_call ?_); first | ((refine r_spec (s_attrs _ _ _ _ _ _ _) (Room.le (by assumption) (by decide)) (by assumption) (by assumption) (by assumption) (by exact ⟨by walk_at "vec", AtI.up (by with_reducible assumption) (endSub (by assumption) (by walk_at "sub"))⟩) ?_); intro v h' hb' tk' F' N' K' P'; obtain ⟨Dm, um, rfl, hDm, hum⟩ := P' _ Off.refl)) | (walk_at "go1")))
end -- G7
section
open PySem PySem.W PyProof.Rows PySem.Calls
set_option maxRecDepth 100000
set_option maxHeartbeats 1000000
theorem s_law (w : World) (B : Heap) (l : Addr) (vs : List Value) (ns : List Int) (hints : IntsAre vs ns) (hvs : vs.length ≤ 1000) : Spec w B 12 (.ref 666) [.ref l] (fun h => Ls h l vs) (fun h r => r = .bool true) := by
  rintro A s Q E R G hB hl ret
  refine enter0 106 (binds := [("script", .ref l)]) R G hB ⟨_, by simp only [tblS]; repeat (first | exact List.Mem.head _ | refine List.Mem.tail _ ?_)⟩ (fun _ _ => rfl) rfl rfl rfl fun cd L h₁ F N R' => ?_
  generalize hb : fdBody (stAt 106) = bd
  conv at hb => lhs; whnf
  subst hb
  generalize hsc : fdScope (stAt 106) = sc at F R' N ⊢
  conv at hsc => lhs; whnf
  subst hsc
  generalize hnm : fdName (stAt 106) = nm at F R' N ⊢
  repeat (first | ((with_reducible refine g_call ?_); first | ((refine r_spec (s_frame1 _ _ _ _ _ _ _ _ _ _) (Room.le (by assumption) (by decide)) (by assumption) (by assumption) (by assumption) (by exact ⟨by walk_at "ls", by walk_at "ls", by walk_at "vec", by walk_at "ls", by exact Nat.le_of_ble_eq_true rfl, by omega⟩) ?_); intro v h' hb' tk' F' N' K' P'; (first | (have := g1; clear this; obtain ⟨f2, j2, rfl, g2⟩ := P' _ Off.refl) | (obtain ⟨f1, j1, rfl, g1⟩ := P' _ Off.refl))) | ((refine r_spec (s_attrs _ _ _ _ _ _ _) (Room.le (by assumption) (by decide)) (by assumption) (by assumption) (by assumption) (by exact ⟨by walk_at "vec", AtI.up (by with_reducible assumption) (endSub (by assumption) (by walk_at "sub"))⟩) ?_); intro v h' hb' tk' F' N' K' P'; obtain ⟨Dm, um, rfl, hDm, hum⟩ := P' _ Off.refl) | ((refine r_spec (Spec.pre fun hz => s_column4 _ _ _ _ _ hcells (And.left hz) (And.right hz)) (Room.le (by assumption) (by decide)) (by assumption) (by assumption) (by assumption) (by exact ⟨by walk_at "ls", by omega, by omega⟩) ?_); intro v h' hb' tk' F' N' K' P'; (first | (have := q1; clear this; obtain ⟨x2, i2, a2, vs2, os2, kv2, ki2, rfl, q2, ca2, it2, ln2, lm2, ai2⟩ := P' _ Off.refl; have v2 := q2.v; have l2 := q2.l; have hA2 := q2.k.ati ai2; have hvl2 := ca2.length_eq; rw [List.length_map] at hvl2) | (obtain ⟨x1, i1, a1, vs1, os1, kv1, ki1, rfl, q1, ca1, it1, ln1, lm1, ai1⟩ := P' _ Off.refl; have v1 := q1.v; have l1 := q1.l; have hA1 := q1.k.ati ai1; have hvl1 := ca1.length_eq; rw [List.length_map] at hvl1))) | ((refine r_spec (Spec.pre fun hz => s_column0 _ _ _ _ _ hcells (And.left hz) (And.right hz)) (Room.le (by assumption) (by decide)) (by assumption) (by assumption) (by assumption) (by exact ⟨by walk_at "ls", by omega, by omega⟩) ?_); intro v h' hb' tk' F' N' K' P'; (first | (have := q1; clear this; obtain ⟨x2, i2, a2, vs2, os2, kv2, ki2, rfl, q2, ca2, it2, ln2, lm2, ai2⟩ := P' _ Off.refl; have v2 := q2.v; have l2 := q2.l; have hA2 := q2.k.ati ai2; have hvl2 := ca2.length_eq; rw [List.length_map] at hvl2) | (obtain ⟨x1, i1, a1, vs1, os1, kv1, ki1, rfl, q1, ca1, it1, ln1, lm1, ai1⟩ := P' _ Off.refl; have v1 := q1.v; have l1 := q1.l; have hA1 := q1.k.ati ai1; have hvl1 := ca1.length_eq; rw [List.length_map] at hvl1))) | ((refine r_spec (s_spool _ _ _ _ _ hints hvs) (Room.le (by assumption) (by decide)) (by assumption) (by assumption) (by assumption) (by exact (by walk_at "ls")) ?_); intro v h' hb' tk' F' N' K' P'; obtain ⟨Ds, us, rfl, hDs, hcells, hus1, hus2⟩ := P' _ Off.refl)) | (walk_at "go1"))
  refine r_spec (s_bind _ _ _ f1 f2 j1 j2 x1 x2 i1 i2 a1 a2 vs1 vs2 kv1 kv2 _ _ (by omega) (by omega) (by omega) (by omega)) (Room.le (by assumption) (by decide)) (by assumption) (by assumption) (by assumption) (by exact ⟨by walk_at "ls", ⟨g1.up (endSub (by assumption) (by walk_at "sub")), q1.up (endSub (by assumption) (by walk_at "sub"))⟩, ⟨g2.up (endSub (by assumption) (by walk_at "sub")), q2.up (endSub (by assumption) (by walk_at "sub"))⟩⟩) ?_
  intro v h' hb' tk' F' N' K' P'
  obtain ⟨xb, ib, xc, ic, ac, rv, ri, ur, rfl, ⟨db, nv, ni, na, cv, ci, ca, ct, vb, lb, Db, _⟩, vc, lc, kc, vr, lr, cr, zr⟩ := P' _ Off.refl; (have hAc := kc.ati (ai1.up (by walk_at "sub"))); (have hcc : CarriedAll (vs1 ++ vs2) ((os1 ++ os2).map itD) := by rw [List.map_append]; exact car_append ca1 ca2); (have hLen : (vs1 ++ vs2).length = vs1.length + vs2.length := List.length_append); (have cr2 : CarriedAll ur (upto (vs1 ++ vs2).length) := by rw [hLen]; exact cr)
  (first | ((with_reducible refine g_call ?_); first | ((refine r_spec (s_frame1 _ _ _ _ _ _ _ _ _ _) (Room.le (by assumption) (by decide)) (by assumption) (by assumption) (by assumption) (by exact ⟨by walk_at "ls", by walk_at "ls", by walk_at "vec", by walk_at "ls", by exact Nat.le_of_ble_eq_true rfl, by omega⟩) ?_); intro v h' hb' tk' F' N' K' P'; (first | (have := g1; clear this; obtain ⟨f2, j2, rfl, g2⟩ := P' _ Off.refl) | (obtain ⟨f1, j1, rfl, g1⟩ := P' _ Off.refl))) | ((refine r_spec (s_attrs _ _ _ _ _ _ _) (Room.le (by assumption) (by decide)) (by assumption) (by assumption) (by assumption) (by exact ⟨by walk_at "vec", AtI.up (by with_reducible assumption) (endSub (by assumption) (by walk_at "sub"))⟩) ?_); intro v h' hb' tk' F' N' K' P'; obtain ⟨Dm, um, rfl, hDm, hum⟩ := P' _ Off.refl) | ((refine r_spec (Spec.pre fun hz => s_column4 _ _ _ _ _ hcells (And.left hz) (And.right hz)) (Room.le (by assumption) (by decide)) (by assumption) (by assumption) (by assumption) (by exact ⟨by walk_at "ls", by omega, by omega⟩) ?_); intro v h' hb' tk' F' N' K' P'; (first | (have := q1; clear this; obtain ⟨x2, i2, a2, vs2, os2, kv2, ki2, rfl, q2, ca2, it2, ln2, lm2, ai2⟩ := P' _ Off.refl; have v2 := q2.v; have l2 := q2.l; have hA2 := q2.k.ati ai2; have hvl2 := ca2.length_eq; rw [List.length_map] at hvl2) | (obtain ⟨x1, i1, a1, vs1, os1, kv1, ki1, rfl, q1, ca1, it1, ln1, lm1, ai1⟩ := P' _ Off.refl; have v1 := q1.v; have l1 := q1.l; have hA1 := q1.k.ati ai1; have hvl1 := ca1.length_eq; rw [List.length_map] at hvl1))) | ((refine r_spec (Spec.pre fun hz => s_column0 _ _ _ _ _ hcells (And.left hz) (And.right hz)) (Room.le (by assumption) (by decide)) (by assumption) (by assumption) (by assumption) (by exact ⟨by walk_at "ls", by omega, by omega⟩) ?_); intro v h' hb' tk' F' N' K' P'; (first | (have := q1; clear this; obtain ⟨x2, i2, a2, vs2, os2, kv2, ki2, rfl, q2, ca2, it2, ln2, lm2, ai2⟩ := P' _ Off.refl; have v2 := q2.v; have l2 := q2.l; have hA2 := q2.k.ati ai2; have hvl2 := ca2.length_eq; rw [List.length_map] at hvl2) | (obtain ⟨x1, i1, a1, vs1, os1, kv1, ki1, rfl, q1, ca1, it1, ln1, lm1, ai1⟩ := P' _ Off.refl; have v1 := q1.v; have l1 := q1.l; have hA1 := q1.k.ati ai1; have hvl1 := ca1.length_eq; rw [List.length_map] at hvl1))) | ((refine r_spec (s_spool _ _ _ _ _ hints hvs) (Room.le (by assumption) (by decide)) (by assumption) (by assumption) (by assumption) (by exact (by walk_at "ls")) ?_); intro v h' hb' tk' F' N' K' P'; obtain ⟨Ds, us, rfl, hDs, hcells, hus1, hus2⟩ := P' _ Off.refl)) | (walk_at "go1"))
  rename_i hL FL NL
  obtain ⟨F9, N9, K9⟩ := only FL NL (List.nil_sublist _)
  refine law1 w B _ hL L _ _ cd _ s.gens s.drawn _ s.os Q R' G F9 N9 _ _ _ x1 x2 i1 i2 xb ib db nv cv rv ri xc ic a1 a2 ac _ _ vs1 vs2 ur ki1 ki2 (os1 ++ os2) 0 0
    (Ls.wide FL (Ls.of_news NL (by walk_at "mem"))) (Ls.up (by assumption) (Sub.trans (by walk_at "sub") K9)) (Ls.up (by assumption) (Sub.trans (by walk_at "sub") K9)) (Marks.up (by assumption) (Sub.trans (by walk_at "sub") K9)) (Marks.up (by assumption) (Sub.trans (by walk_at "sub") K9))
    (v1.up (Sub.trans (by walk_at "sub") K9)) (l1.up (Sub.trans (by walk_at "sub") K9)) (hA1.up (Sub.trans (by walk_at "sub") K9)) (v2.up (Sub.trans (by walk_at "sub") K9)) (l2.up (Sub.trans (by walk_at "sub") K9)) (hA2.up (Sub.trans (by walk_at "sub") K9))
    (vb.up K9) (lb.up K9) (Db.up K9) (vc.up K9) (lc.up K9) (hAc.up K9) (vr.up K9) (lr.up K9) cr2 hcc (fun o ho => (List.mem_append.mp ho).elim (it1 o) (it2 o)) (by rw [List.length_append]; omega) (by rw [List.length_append]; omega) rfl rfl rfl rfl
    fun h' tk' k kB => ret _ _ _ (Sub.trans (Sub.trans (by walk_at "sub") K9) k) kB (fun _ _ => rfl)
end -- G8
end -- M
section
open PySem PySem.W PyProof.Rows PySem.Calls
set_option maxRecDepth 100000
set_option maxHeartbeats 0
theorem left_of {p q : Program} {loose : List Str} {Xt : Shared → Bool} {β : Type} {Ys : Shared → β} {Yg : World → β} {N m₀ : Nat} {ann : Option Value} {H₀ : Params → Heap} {d₀ : Drawn} {k₀ : Nat} {T₀ : World → OsState → SharedT} {okS : World → Shared → Bool}
    (open_ : ∀ w : World, (fencedOpening treeTable p w N).map (fun s => (s.heap, s.gens, s.drawn, s.toks)) = some (H₀ w.params, Array.mk [], d₀, k₀))
    (size : ∀ P : Params, ((H₀ P).isNs mainGlobals && (Array.mk [] : Array GenState).size == 0, (H₀ P).objs.size, (H₀ P).nsMap mainGlobals "__annotations__") = (true, m₀, ann))
    (abs : ∀ w os, (T₀ w os).abs = ⟨H₀ w.params, Array.mk [], d₀, k₀, os⟩)
    (okE : ∀ w s, okS w s = (staticsOk (importedModules p.main.body) (H₀ w.params) s.heap && namesBound p s.heap && gensDone s && laidKept (H₀ w.params) s.heap))
    (run : ∀ (w : World) (os : OsState), (topRunT p w m₀ ann N (T₀ w os) (topStub p)).map (fun s => (okS w s.abs, openSeen q loose (importedModules p.main.body) Xt true s.abs, Ys s.abs)) = some (true, openGood q loose, Yg w)) :
    LeftO p q loose Xt (fun s => (openSeen q loose (importedModules p.main.body) Xt true s, Ys s)) (fun w => (openGood q loose, Yg w)) N := fun w => by
  obtain ⟨⟨h, gs, d, k, os⟩, e, e'⟩ := Option.map_eq_some_iff.mp (open_ w)
  obtain ⟨rfl, rfl, rfl, rfl⟩ : h = H₀ w.params ∧ gs = Array.mk [] ∧ d = d₀ ∧ k = k₀ := by simpa only [Prod.mk.injEq] using e'
  obtain ⟨s, h1, h2⟩ := Option.map_eq_some_iff.mp (run w os)
  obtain ⟨l1, l2, l3⟩ : okS w s.abs = true ∧ _ ∧ _ := by simpa only [Prod.mk.injEq] using h2
  have r := topRun_of h1
  rw [abs] at r
  obtain ⟨z1, z2, z3⟩ : _ ∧ _ ∧ _ := by simpa only [Prod.mk.injEq] using size w.params
  have t : topFrom treeTable p w N ⟨H₀ w.params, Array.mk [], d, k, os⟩ = some s.abs := by
    unfold topFrom
    dsimp only
    rw [z1, z2, z3, r]
    rw [okE] at l1
    dsimp only [Option.bind]
    rw [l1]
  unfold openEnds
  rw [e]
  show (topFrom treeTable p w N _).map _ = _
  rw [t]
  exact congrArg some (Prod.ext l2 (Prod.ext l2 l3))
noncomputable def Yf (s : Shared) := (openSeen qv looseL (importedModules pr.main.body) (fun _ => true) true s, exS s)
noncomputable def Ya (w : World) := (openGood qv looseL, exG w)
theorem boot_size (P : Params) : ((boot_heap P).isNs mainGlobals && (Array.mk [] : Array GenState).size == 0, (boot_heap P).objs.size, (boot_heap P).nsMap mainGlobals "__annotations__") = (true, 11, some (.ref 6)) := by kernel_rfl!
theorem boot_absS (w : World) (os : OsState) : (S0T w os).abs = ⟨boot_heap w.params, Array.mk [], boot_drawn, boot_toks, os⟩ := congrArg (fun h => Shared.mk h (Array.mk []) boot_drawn boot_toks os) (boot_abs w.params)
theorem pr_open : opening pr = plainProg pr.main.scope.names := by rfl
theorem pr_fence (s : Shared) : fenceModules? pr s = some s := by rfl
theorem opens (w : World) : (fencedOpening treeTable pr w 7000).map (fun s => (s.heap, s.gens, s.drawn, s.toks)) = some (boot_heap w.params, Array.mk [], boot_drawn, boot_toks) := boot_open (p := pr) (N := 7000) pr_open (by decide) pr_fence w
theorem left : LeftO pr qv looseL (fun _ => true) Yf Ya 7000 :=
  left_of (p := pr) (q := qv) (loose := looseL) (Xt := fun _ => true) (Ys := exS) (Yg := exG) (N := 7000) (m₀ := 11) (ann := some (.ref 6)) (H₀ := boot_heap) (d₀ := boot_drawn) (k₀ := boot_toks) (T₀ := S0T) (okS := okS) opens boot_size boot_absS (fun _ _ => rfl) run_one
theorem qv_chains : chainsOk qv = true := by decide +kernel
theorem qv_loose : looseW qv looseL = looseL := by decide +kernel
theorem fn_of {h : Heap} : ∀ {l : List (String × Nat × Nat)}, (l.map fun p => match h.get? p.2.2 with
  | some o => (fNorm o, codeOk h (fCode o) (fdName (stAt p.2.1)))
  | none => (none, false)) = (l.map fun p => (some (docDef (fdName (stAt p.2.1)) (fdParams (stAt p.2.1)) (fdBody (stAt p.2.1)) (fdScope (stAt p.2.1)) .none .none .none), true)) → ∀ p ∈ l, FnAt h p.2.2 p.2.1 := by
  intro l e p hp
  have e := List.map_inj_left.mp e p hp
  split at e
  next o ho =>
    obtain ⟨e1, e2⟩ := Prod.mk.inj e
    have e2 := codeOk_spec e2
    unfold fNorm at e1
    split at e1
    next f hf =>
      have e1 := Option.some.inj e1
      have ec : fCode o = f.code := by unfold fCode; rw [hf]
      rw [ec] at e2
      refine ⟨o, f.pyModule, f.code, ho, ?_, e2⟩
      rw [hf]
      obtain ⟨a1, a2, a3, a4, a5, a6, a7, a8, a9, a10, a11, a12, a13, a14, a15⟩ := f
      unfold docDef at e1 ⊢
      simp only [FuncData.mk.injEq] at e1
      obtain ⟨rfl, rfl, rfl, rfl, rfl, rfl, rfl, rfl, rfl, rfl, -, rfl, -, rfl, rfl⟩ := e1
      rfl
    next => cases e1
  next => cases (Prod.mk.inj e).1
theorem gd_of (w : World) (s : Shared) (y : Yf s = Ya w) : Gd w s.heap := by
  obtain ⟨e, x⟩ := Prod.mk.inj y
  obtain ⟨x1, x2, x3, x4, x5, x6⟩ : _ ∧ _ ∧ _ ∧ _ ∧ _ ∧ _ := by simpa only [exS, exG, Prod.mk.injEq] using x
  obtain ⟨G, -⟩ := ground_of_open (q := qv) (loose := looseL) (Xt := fun _ => true) (XP := fun _ _ => True) (w := w) (fun _ _ => trivial) qv_chains e
  obtain ⟨c1, c2⟩ := Bool.and_eq_true_iff.mp x5
  refine ⟨⟨_, _, _, qv_loose ▸ G.T, fun p hp => List.map_inj_left.mp x3 p hp, fun b hb => List.map_inj_left.mp x4 b hb⟩, fn_of x1, Frag.in_of (as := kAddrs) rfl x2, codeOk_spec c1, codeOk_spec c2, x6⟩
end -- J1
section
open PySem PySem.W PyProof.Rows PySem.Calls
set_option maxRecDepth 100000
set_option maxHeartbeats 0
theorem ns_unique {h : Heap} {a : Addr} {m m' : Str → Option Value} (x : h.Ns a m) (y : h.Ns a m') : m = m' := by
  obtain ⟨o, es, ep, e, d, r⟩ := x
  obtain ⟨o', es', ep', e', d', r'⟩ := y
  rw [e] at e'; cases e'
  rw [d] at d'; cases d'
  funext n
  exact (r.2 n).symm.trans (r'.2 n)
theorem lay_ints {R : WRecords} {cl : Str → Option Addr} {P : Params} {ord : List DictEntry → List DictEntry} : ∀ {ns : List Int} {s s' : Shared} {vs : List Value}, layAllW R cl P ord (ns.map .int) s = some (vs, s') → s'.heap = s.heap ∧ IntsAre vs ns
  | [], s, s', vs, h => by
    simp only [List.map_nil, layAllW, Option.some.injEq, Prod.mk.injEq] at h
    obtain ⟨rfl, rfl⟩ := h
    exact ⟨rfl, .nil⟩
  | n :: ns, s, s', vs, h => by
    simp only [List.map_cons, layAllW, layW] at h
    split at h
    next r hr =>
      simp only [Option.some.injEq, Prod.mk.injEq] at h
      obtain ⟨rfl, rfl⟩ := h
      obtain ⟨e, i⟩ := lay_ints (ns := ns) hr
      exact ⟨e, .cons _ _ i⟩
    next => cases h
theorem lay_one {R : WRecords} {cl : Str → Option Addr} {P : Params} {ord : List DictEntry → List DictEntry} {ns : List Int} {s s' : Shared} {vals : List Value} (h : layAllW R cl P ord [.list (ns.map .int)] s = some (vals, s')) :
    ∃ vs, vals = [.ref s.heap.objs.size] ∧ s'.heap = s.heap.push { cls := .type "list", data := .seq vs.toArray } ∧ IntsAre vs ns := by
  simp only [layAllW, layW] at h
  split at h
  next a ha =>
    split at ha
    next r hr =>
      simp only [Option.some.injEq, Prod.mk.injEq] at h ha
      obtain ⟨rfl, rfl⟩ := h
      subst ha
      obtain ⟨e, i⟩ := lay_ints hr
      exact ⟨r.1, by rw [e], by rw [e], i⟩
    next => cases ha
  next => cases h
end -- J2
section
open PySem PySem.W PyProof.Rows PySem.Calls
set_option maxRecDepth 100000
set_option maxHeartbeats 0
theorem fixed_list {o : Obj} {vs : Array Value} (e : o = { cls := .type "list", data := .seq vs }) : Fixed o := by subst e; exact fixed_seq rfl
theorem pre_most {R : WRecords} {ns : List Int} (x : (WTm.and (.not (.lt (.lit (.int 63)) (.len (.arg 0)))) (.lit (.bool true))).holds R { args := [.list (ns.map .int)] } = true) : ns.length ≤ 63 := by
  by_cases h : ns.length ≤ 63
  · exact h
  · exfalso
    have : (63 : Int) < (ns.length : Int) := by omega
    simp [WTm.holds, WTm.value, less?, Num.less?, this] at x
theorem room_caller : Room callerA 12 := ⟨rfl, by decide, by decide⟩
theorem walk_law {r : RowW} {d : DefRec} {kwd : List (Str × Expr)} (hprog : r.prog = pr) (hn : d.name = Str.ofString "law") (hrec : r.records = []) (hargs : r.args = [.list .int]) (hpre' : r.pre = .and (.not (.lt (.lit (.int 63)) (.len (.arg 0)))) (.lit (.bool true)))
    (hret : r.returns = .bool) (hpost : r.post = .eq .res (.lit (.bool true))) (hrais : r.raises = []) :
    WalkX qv looseL (fun _ _ => True) Yf Ya r d kwd fun f vs => PySem.call f vs := by
  intro w s₀ s₁ mg mb G Y a o pm cd doc dV kV ho hd hcd hD hmg hg args vals as L hpre hlay hrd hwl hlo
  have GD := gd_of w s₀ Y
  obtain ⟨⟨mean, mg', mb', T', gl, bn⟩, hF, hK, c1, c2, hZ⟩ := id GD
  have em : mg = mg' := ns_unique G.T.g (T'.g.keeps L.keeps)
  have ea : mg' (Str.ofString "law") = some (.ref 666) := gl (Str.ofString "law", .ref 666) (by decide)
  rw [em, hn, ea] at hmg
  cases hmg
  obtain ⟨p1, p2⟩ := pre_splitW hpre
  rw [hargs] at p1
  obtain ⟨d0, r0, rfl, q1, q2⟩ := hasAllW_cons p1
  obtain rfl := hasAllW_nil q2
  obtain ⟨xs, rfl, q3⟩ := hasW_list q1
  obtain ⟨ns, rfl⟩ := items_int q3
  rw [hpre'] at p2
  have hlen := pre_most p2
  obtain ⟨ord, -, laid⟩ := L.laid
  obtain ⟨vs, rfl, hh, hi⟩ := lay_one laid
  have hvl : vs.length ≤ 1000 := by rw [hi.length]; omega
  have hB : SubX s₀.heap s₁.heap := L.keeps
  have hl : Ls s₁.heap s₀.heap.objs.size vs := ⟨0, by rw [hh]; exact Heap.get?_push_size _ rfl⟩
  rw [hprog]
  refine s_law w s₀.heap s₀.heap.objs.size vs ns hi hvl callerA s₁ _ _ room_caller GD hB hl fun v h' tk' k kB po => ?_
  obtain rfl : v = .bool true := po h' Off.refl
  refine ⟨.inl ⟨.bool true, .bool true, [], rfl, fun cls => ?_, .bool true, ?_, fun _ => ⟨.nil, fun a ha => (nomatch ha)⟩⟩, .of_keep fun b ob hb => ?_, rfl, .of_eq hg⟩
  · show (r.raises.any fun ct => _) = false
    rw [hrais]; rfl
  · show (WShape.has r.records _ r.returns && r.post.holds r.records _) = true
    rw [hret, hpost]
    simp [WShape.has, WShape.arms, WTm.holds, WTm.value, same]
  · rcases Heap.get?_push_cases (hh ▸ hb : (s₀.heap.push _).get? b = some ob) with ⟨-, e⟩ | e
    · exact k.fix hb (fixed_list e)
    · exact kB _ _ e
end
end Mine
open PySem PySem.W PyProof.Rows Mine
set_option maxRecDepth 100000 in
set_option maxHeartbeats 8000000 in
theorem PySem.Challenge.cw_pq1334_01_holds : PySem.Challenge.rw_pq1334_01.Holds := by
  refine holds_law said fun said => ?_
  refine holds_openX (q := qv) (loose := looseL) (Xt := fun _ => true) (XP := fun _ _ => True) (Yf := Yf) (Ya := Ya) (N := 7000) left (fun _ _ => trivial) (fun _ _ _ _ _ => trivial) (by rfl) (by rfl) (by rfl) (fun _ _ => recFacts_nil rfl) (by rfl) (by assumption) (by decide +kernel) ⟨rfl, rfl, rfl, rfl, rfl, by decide +kernel⟩ ?hw (walk_law rfl rfl rfl rfl rfl rfl rfl rfl)
  case hw => w_witness2
