import PyProof.Rows.All
import Wide.All
import OpenK.AllK
import Wide.FinOn
import PySem.Challenge.RW_nn0020_01
set_option Elab.async false
set_option compiler.extract_closed false
section
open PySem PySem.W PySem.Calls PySem.Spec PyProof.Rows
set_option maxRecDepth 100000
namespace Mine
/-! # A small program logic over wpAny: abstract values, abstract heap, predicate transformers -/
structure Sy where
  prog : Program
  w : World
  K : Frag
  p : Program
  loose : List Str
  mean : ExcName → Option Value
  mg : Str → Option Value
  mb : Str → Option Value
noncomputable abbrev Sy.M (S : Sy) : Model := model S.prog S.w
inductive V where
  | none
  | bool (b : Bool)
  | int (i : Int)
  | str (s : Str)
  | ref (a : Addr)
  | oth (v : Value)
noncomputable def er : Value → V
  | .none => .none
  | .bool b => .bool b
  | .int i _ => .int i
  | .str s _ => .str s
  | .ref a => .ref a
  | v => .oth v
inductive Fl where
  | next | brk | cont
  | ret (v : V)
noncomputable def erF : Flow → Fl
  | .next => .next
  | .brk => .brk
  | .cont => .cont
  | .ret v => .ret (er v)
theorem er_int {v : Value} {i : Int} (h : er v = .int i) : ∃ t, v = .int i t := by
  cases v <;> simp [er] at h
  case int j t => exact ⟨t, by rw [h]⟩
theorem er_bool {v : Value} {b : Bool} (h : er v = .bool b) : v = .bool b := by
  cases v <;> simp [er] at h
  case bool c => rw [h]
theorem er_ref {v : Value} {a : Addr} (h : er v = .ref a) : v = .ref a := by
  cases v <;> simp [er] at h
  case ref c => rw [h]
theorem er_none {v : Value} (h : er v = .none) : v = .none := by
  cases v <;> simp [er] at h
  rfl
theorem er_str {v : Value} {x : Str} (h : er v = .str x) : ∃ t, v = .str x t := by
  cases v <;> simp [er] at h
  case str y t => exact ⟨t, by rw [h]⟩
noncomputable abbrev MM := Str → Option V
noncomputable def MM.set (m : MM) (x : Str) (v : V) : MM := fun y => if y = x then some v else m y
inductive O where
  | list (xs : List V)
  | tup (xs : List V)
  | inst (C dx : Addr)
  | dict (es : List (Str × V))
  | raw (o : Obj)
  | cell (v : V)
noncomputable def keyed : List DictEntry → List (Str × V) → Prop
  | [], [] => True
  | e :: r, (x, v) :: t => (∃ tk, e.key = .str x tk) ∧ er e.val = v ∧ keyed r t
  | _, _ => False
noncomputable def Is : O → Obj → Prop
  | .list xs, ob => ∃ its n, ob = listOf its n ∧ its.toList.map er = xs
  | .tup xs, ob => ∃ its n, ob = { cls := .type "tuple", data := .seq its n } ∧ its.toList.map er = xs
  | .inst C dx, ob => ob = instObj C dx
  | .dict es, ob => ∃ de n, ob = dictOf de n ∧ keyed de es
  | .raw o, ob => ob = o
  | .cell v, ob => ∃ u, ob.data = .cell (some u) ∧ er u = v
noncomputable abbrev HH := Addr → Option O
noncomputable def HH.set (H : HH) (a : Addr) (o : O) : HH := fun b => if b = a then some o else H b
structure Fx where
  A : Around
  env : Env
  h₀ : Heap
  L : Addr
  mL : Str → Option Value
  P : List (Addr × Obj)
noncomputable def Room (n : Nat) (A : Around) : Prop := A.depth + 4 * n ≤ 900 ∧ A.units + 40 * n ≤ 9000
theorem Room.mono {n k : Nat} {A : Around} (h : Room n A) (hk : k ≤ n) : Room k A := ⟨by have := h.1; lia, by have := h.2; lia⟩
noncomputable def HandOk (A : Around) (h : Heap) : Prop :=
  A.handled = none ∨ ∃ e oe ws, A.handled = some (.ref e) ∧ h.get? e = some oe ∧ oe.data = .fields ws ∧ ws[2]? = some .none
structure Fok (S : Sy) (n : Nat) (F : Fx) : Prop where
  frames : ∃ A₀ base outer fenv, Below A₀ base outer F.h₀ ∧ F.A.frames = some (fenv :: outer) ∧ fenv.frame = some F.L ∧ fenv.scope.kind = .function
  kin : S.K.In F.h₀
  top : Top S.p S.loose S.mean S.mg S.mb F.h₀
  hand : HandOk F.A F.h₀
  room : Room n F.A
  kind : F.env.scope.kind = .function
  glob : F.env.globals = mainGlobals
  bi : F.env.builtins = builtinsNs
  cinj : ∀ x y ca, F.env.cells.lookup x = some ca → F.env.cells.lookup y = some ca → x = y
  ckind : ∀ x ca, F.env.cells.lookup x = some ca → F.env.scope.names.lookup x ≠ some .local
structure St (F : Fx) (m : MM) (H : HH) (s : Shared) : Prop where
  fr : ∃ mc, Fr F.h₀ F.L s.heap mc ∧ (F.env.locals = F.L → ∀ x, F.env.scope.names.lookup x = some .local → (mc x).map er = m x) ∧ (F.env.locals ≠ F.L → mc = F.mL)
  own : F.env.locals ≠ F.L → ∃ mc, s.heap.Ns F.env.locals mc ∧ (∀ x, F.env.scope.names.lookup x = some .local → (mc x).map er = m x) ∧ F.h₀.get? F.env.locals = none ∧ H F.env.locals = none
  ce : ∀ x ca, F.env.cells.lookup x = some ca → ∃ ob v, s.heap.get? ca = some ob ∧ ob.data = .cell v ∧ v.map er = m x ∧ ca ≠ F.L ∧ ca ≠ F.env.locals ∧ F.h₀.get? ca = none ∧ H ca = none
  he : ∀ a o, H a = some o → ∃ ob, s.heap.get? a = some ob ∧ Is o ob ∧ a ≠ F.L ∧ F.h₀.get? a = none
  pr : ∀ p ∈ F.P, s.heap.get? p.1 = some p.2 ∧ p.1 ≠ F.L ∧ H p.1 = none ∧ p.1 ≠ F.env.locals ∧ ∀ x, F.env.cells.lookup x ≠ some p.1
noncomputable def Same (s s' : Shared) : Prop := ∃ h tk, s' = { s with heap := h, toks := tk }
theorem Same.refl (s : Shared) : Same s s := ⟨s.heap, s.toks, rfl⟩
theorem Same.trans {a b c : Shared} (h : Same a b) (k : Same b c) : Same a c := by
  obtain ⟨h1, t1, rfl⟩ := h
  obtain ⟨h2, t2, rfl⟩ := k
  exact ⟨h2, t2, rfl⟩
theorem Same.of {s : Shared} {h : Heap} {tk : Nat} : Same s { s with heap := h, toks := tk } := ⟨h, tk, rfl⟩
/-- predicate transformers -/
noncomputable abbrev PT (α : Type) := MM → HH → (α → MM → HH → Prop) → Prop
noncomputable def PT.pure {α : Type} (a : α) : PT α := fun m H k => k a m H
noncomputable def PT.bind {α β : Type} (c : PT α) (f : α → PT β) : PT β := fun m H k => c m H fun a m1 H1 => f a m1 H1 k
inductive EvQ {α β : Type} (F : Fx) (g : α → β) (s : Shared) (k : β → MM → HH → Prop) (v : α) (s' : Shared) : Prop
  | mk (m' : MM) (H' : HH) (st : St F m' H' s') (sm : Same s s') (hk : k (g v) m' H') : EvQ F g s k v s'
noncomputable def Ev (S : Sy) (F : Fx) {α β : Type} (t : Sem α) (g : α → β) (c : PT β) : Prop :=
  ∀ m H k s E, St F m H s → c m H k → wpAny S.M F.A t (EvQ F g s k) E s
section
variable {S : Sy} {F : Fx} {α β : Type} {t : Sem α} {g : α → β} {c : PT β} {m : MM} {H : HH} {s : Shared} {E : Value → Shared → Prop}
theorem Ev.use {P : β → MM → HH → Prop} {Q : α → Shared → Prop} (h : Ev S F t g c) (st : St F m H s) (hc : c m H P)
    (hQ : ∀ a m' H' s', St F m' H' s' → Same s s' → P (g a) m' H' → Q a s') : wpAny S.M F.A t Q E s :=
  wpAny_mono (h m H P s E st hc) (fun v s' ⟨m', H', st', sm, hk⟩ => hQ v m' H' s' st' sm hk) fun _ _ x => x
end
section
variable {F : Fx} {m : MM} {H : HH} {s : Shared}
theorem St.toks (h : St F m H s) (tk : Nat) : St F m H { s with toks := tk } := ⟨h.fr, h.own, h.ce, h.he, h.pr⟩
theorem St.tok1 (h : St F m H s) : St F m H { s with toks := s.toks + 1 } := h.toks _
theorem Same.tok1 : Same s { s with toks := s.toks + 1 } := ⟨s.heap, _, rfl⟩
end
section
variable {S : Sy} {F : Fx} {n : Nat}
theorem Fok.names_kind {x : Str} {k : NameKind} (_ : Fok S n F) (hx : F.env.scope.names.lookup x = some k) : F.env.kindOf x = some k := hx
/-- a local name, read -/
noncomputable def PT.get (x : Str) : PT V := fun m H k => ∃ v, m x = some v ∧ k v m H
theorem Fok.notMod (hF : Fok S n F) : (F.env.scope.kind == .class || (F.env.scope.kind == .module && F.env.locals != F.env.globals)) = false := by
  rw [hF.kind]; rfl
theorem ev_local (hF : Fok S n F) {x : Str} {pos : Pos} (hk : F.env.scope.names.lookup x = some .local) (hd : (x == ("__debug__" : Str)) = false := by decide) :
    Ev S F (eval (.Name x pos) F.env) er (PT.get x) := by
  intro m H k s E st ⟨v, hv, hkv⟩
  refine wpAny_Name ?_ hd
  by_cases hL : F.env.locals = F.L
  · obtain ⟨mc, fr, hm, _⟩ := st.fr
    have h1 := hm hL x hk
    rw [hv] at h1
    cases hmx : mc x with
    | none => rw [hmx] at h1; cases h1
    | some u =>
      rw [hmx] at h1
      cases h1
      exact wpAny_loadName_local hF.kind hk (hL ▸ fr.ns) hmx ⟨m, H, st, .refl _, hkv⟩
  · obtain ⟨mc, hn, hm, _⟩ := st.own hL
    have h1 := hm x hk
    rw [hv] at h1
    cases hmx : mc x with
    | none => rw [hmx] at h1; cases h1
    | some u =>
      rw [hmx] at h1
      cases h1
      exact wpAny_loadName_local hF.kind hk hn hmx ⟨m, H, st, .refl _, hkv⟩
theorem ev_cellName (hF : Fok S n F) {x : Str} {pos : Pos} (hk : F.env.scope.names.lookup x = some .cell) (hc : (F.env.cells.lookup x).isSome = true) (hd : (x == ("__debug__" : Str)) = false := by decide) :
    Ev S F (eval (.Name x pos) F.env) er (PT.get x) := by
  intro m H k s E st ⟨v, hv, hkv⟩
  refine wpAny_Name ?_ hd
  obtain ⟨ca, hca⟩ := Option.isSome_iff_exists.mp hc
  obtain ⟨ob, u, h1, h2, h3, _⟩ := st.ce x ca hca
  rw [hv] at h3
  cases u with
  | none => cases h3
  | some u =>
    cases h3
    exact wpAny_loadName_cell hF.kind hk hca ⟨ob, h1, h2⟩ ⟨m, H, st, .refl _, hkv⟩
theorem ev_global (hF : Fok S n F) {x : Str} {pos : Pos} {v : Value} (hk : F.env.scope.names.lookup x = some .globalImplicit) (e : nsIn S.K mainGlobals x = some (some v)) (hd : (x == ("__debug__" : Str)) = false := by decide) :
    Ev S F (eval (.Name x pos) F.env) er (PT.pure (er v)) := by
  intro m H k s E st hkv
  obtain ⟨mc, fr, _⟩ := st.fr
  have T := topRead_of hF.top
  refine Name_function_global hF.kind hk (loadGlobal_global (env := F.env) (mg := S.mg) ?_ (mg_of hF.kin T.g e) ⟨m, H, st, .refl _, hkv⟩) hd
  rw [hF.glob]
  exact T.g.keeps fr.keep
end
end Mine
end
section
open PySem PySem.W PySem.Calls PySem.Spec PyProof.Rows
set_option maxRecDepth 100000
set_option linter.unusedVariables false
namespace Mine
/-- everything that stands outside h₀ and the frame's own dict -/
noncomputable def full (h₀ : Heap) (L : Addr) (h : Heap) : List (Addr × Obj) :=
  (List.range h.objs.size).filterMap fun a => if a ≠ L ∧ h₀.get? a = none then (h.get? a).map fun o => (a, o) else none
section
variable {h₀ h h' : Heap} {L a : Addr} {o : Obj}
theorem mem_full {p : Addr × Obj} : p ∈ full h₀ L h ↔ h.get? p.1 = some p.2 ∧ p.1 ≠ L ∧ h₀.get? p.1 = none := by
  unfold full
  simp only [List.mem_filterMap, List.mem_range]
  constructor
  · rintro ⟨b, hb, e⟩
    split at e
    · rename_i hc
      cases q : h.get? b with
      | none => rw [q] at e; cases e
      | some ob =>
        rw [q] at e
        cases e
        exact ⟨q, hc.1, hc.2⟩
    · cases e
  · rintro ⟨e1, e2, e3⟩
    refine ⟨p.1, Heap.lt_size e1, ?_⟩
    rw [if_pos ⟨e2, e3⟩, e1]
    rfl
theorem full_news : News h₀ L h (full h₀ L h) := fun _ hp => mem_full.mp hp
theorem full_lt : ∀ p ∈ full h₀ L h, p.1 < h.objs.size := fun _ hp => Heap.lt_size (mem_full.mp hp).1
/-- what a state keeps -/
theorem full_keep {mc mc' : Str → Option Value} (F : Fr h₀ L h mc) (F' : Fr h₀ L h' mc') (N : News h₀ L h' (full h₀ L h)) (ha : h.get? a = some o) (hL : a ≠ L) : h'.get? a = some o := by
  cases q : h₀.get? a with
  | none => exact (N (a, o) (mem_full.mpr ⟨ha, hL, q⟩)).1
  | some o' =>
    have h1 := F.keep a o' q
    rw [ha] at h1
    cases h1
    exact F'.keep a o q
end
section
variable {F : Fx} {m : MM} {H : HH} {s : Shared} {h' : Heap} {tk : Nat} {mc : Str → Option Value}
theorem St.frame (st : St F m H s) : ∃ mc, Fr F.h₀ F.L s.heap mc ∧ (∀ h' tk, Fr F.h₀ F.L h' mc → News F.h₀ F.L h' (full F.h₀ F.L s.heap) → St F m H { s with heap := h', toks := tk }) := by
  obtain ⟨mc, fr, x1, x2⟩ := st.fr
  refine ⟨mc, fr, fun h' tk F' N' => ⟨⟨mc, F', x1, x2⟩, fun hL => ?_, fun x ca hx => ?_, fun a o ho => ?_, fun p hp => ?_⟩⟩
  · obtain ⟨m2, hn, e1, e2, e3⟩ := st.own hL
    obtain ⟨ob, es, ep, hob, r⟩ := hn
    exact ⟨m2, ⟨ob, es, ep, full_keep fr F' N' hob hL, r⟩, e1, e2, e3⟩
  · obtain ⟨ob, v, e1, e2, e3, e4, r⟩ := st.ce x ca hx
    exact ⟨ob, v, full_keep fr F' N' e1 e4, e2, e3, e4, r⟩
  · obtain ⟨ob, e1, e2, e3, e4⟩ := st.he a o ho
    exact ⟨ob, full_keep fr F' N' e1 e3, e2, e3, e4⟩
  · obtain ⟨e1, e2, r⟩ := st.pr p hp
    exact ⟨full_keep fr F' N' e1 e2, e2, r⟩
/-- a new object known -/
theorem St.know {r : Addr} {ob : Obj} {o : O} (st : St F m H s) (hr : s.heap.get? r = some ob) (hi : Is o ob) (hL : r ≠ F.L) (h0 : F.h₀.get? r = none) (hc : ∀ x, F.env.cells.lookup x ≠ some r) (hl : r ≠ F.env.locals) (hp : ∀ p ∈ F.P, p.1 ≠ r) : St F m (H.set r o) s := by
  refine ⟨st.fr, fun hL' => ?_, fun x ca hx => ?_, fun a o' ho => ?_, fun p hp' => ?_⟩
  · obtain ⟨m2, hn, e1, e2, e3⟩ := st.own hL'
    exact ⟨m2, hn, e1, e2, by unfold HH.set; rw [if_neg (fun h => hl h.symm)]; exact e3⟩
  · obtain ⟨ob', v, e1, e2, e3, e4, e5, e6, e7⟩ := st.ce x ca hx
    exact ⟨ob', v, e1, e2, e3, e4, e5, e6, by unfold HH.set; rw [if_neg (show ¬ ca = r from fun h => hc x (by rw [← h]; exact hx))]; exact e7⟩
  · unfold HH.set at ho
    by_cases e : a = r
    · rw [if_pos e] at ho
      cases ho
      subst e
      exact ⟨ob, hr, hi, hL, h0⟩
    · rw [if_neg e] at ho
      exact st.he a o' ho
  · obtain ⟨e1, e2, e3, r⟩ := st.pr p hp'
    exact ⟨e1, e2, by unfold HH.set; rw [if_neg (hp p hp')]; exact e3, r⟩
theorem St.fresh (st : St F m H s) {r : Addr} (hr : s.heap.get? r = none) : H r = none ∧ (∀ x, F.env.cells.lookup x ≠ some r) ∧ r ≠ F.env.locals ∧ ∀ p ∈ F.P, p.1 ≠ r := by
  refine ⟨?_, fun x hx => ?_, fun e => ?_, fun p hp e => ?_⟩
  · cases q : H r with
    | none => rfl
    | some o =>
      obtain ⟨ob, e1, _⟩ := st.he r o q
      rw [hr] at e1
      cases e1
  · obtain ⟨ob, v, e1, _⟩ := st.ce x r hx
    rw [hr] at e1
    cases e1
  · by_cases hL : F.env.locals = F.L
    · obtain ⟨mc, fr, _⟩ := st.fr
      obtain ⟨ob, _, _, hob, _⟩ := fr.ns
      rw [← hL, ← e, hr] at hob
      cases hob
    · obtain ⟨m2, ⟨ob, _, _, hob, _⟩, _⟩ := st.own hL
      rw [← e, hr] at hob
      cases hob
  · have := (st.pr p hp).1
    rw [e, hr] at this
    cases this
/-- a new object on top of what stood -/
theorem St.push {r : Addr} {ob : Obj} {o : O} (st : St F m H s) (h1 : Fr F.h₀ F.L s.heap mc) (st' : St F m H { s with heap := h', toks := tk }) (N' : News F.h₀ F.L h' ((r, ob) :: full F.h₀ F.L s.heap))
    (hr : s.heap.get? r = none) (hi : Is o ob) : H r = none ∧ St F m (H.set r o) { s with heap := h', toks := tk } := by
  obtain ⟨f1, f2, f3, f4⟩ := st.fresh hr
  have n := N' _ (.head _)
  exact ⟨f1, st'.know n.1 hi n.2.1 n.2.2 f2 f3 f4⟩
end
section
variable {S : Sy} {F : Fx} {n : Nat} {m : MM} {H : HH} {s : Shared} {E : Value → Shared → Prop}
theorem size_none {h : Heap} : h.get? h.objs.size = none := by
  cases q : h.get? h.objs.size with
  | none => rfl
  | some o => exact absurd (Heap.lt_size q) (Nat.lt_irrefl _)
theorem none_of_lt {h₀ h : Heap} {L r : Addr} {mc : Str → Option Value} (F : Fr h₀ L h mc) (l : ∀ p ∈ full h₀ L h, p.1 < r) (hL : r ≠ L) (h0 : h₀.get? r = none) : h.get? r = none := by
  cases q : h.get? r with
  | none => rfl
  | some o => exact absurd (l (r, o) (mem_full.mpr ⟨q, hL, h0⟩)) (Nat.lt_irrefl _)
noncomputable def PT.newList (vs : List V) : PT V := fun m H k => vs.length ≤ 10000 ∧ ∀ r, H r = none → k (.ref r) m (H.set r (.list vs))
noncomputable def PT.newTup (vs : List V) : PT V := fun m H k => vs.length ≤ 10000 ∧ ∀ r, H r = none → k (.ref r) m (H.set r (.tup vs))
theorem size_line_le {n : Nat} (h : n ≤ 20000) : n ≤ sizeLine := by rw [sizeLine_eq]; omega
theorem ev_newList {vs : List Value} : Ev S F (newList vs) er (PT.newList (vs.map er)) := by
  intro m H k s E st ⟨hsz, hk⟩
  obtain ⟨mc, fr, nx⟩ := st.frame
  refine newList_N fr full_news (fun h' F' N' => ?_) (size_line_le (by simpa using Nat.le_trans hsz (by decide)))
  have st' := nx h' s.toks F' fun p hp => N' p (.tail _ hp)
  obtain ⟨e1, e2⟩ := st.push (o := .list (vs.map er)) fr st' N' size_none ⟨vs.toArray, 0, rfl, by simp⟩
  exact ⟨m, _, e2, .of, hk _ e1⟩
theorem ev_newTup {vs : List Value} : Ev S F (newTuple vs) er (PT.newTup (vs.map er)) := by
  intro m H k s E st ⟨hsz, hk⟩
  obtain ⟨mc, fr, nx⟩ := st.frame
  refine newTuple_N fr full_news (fun h' F' N' => ?_) (size_line_le (by simpa using Nat.le_trans hsz (by decide)))
  have st' := nx h' s.toks F' fun p hp => N' p (.tail _ hp)
  obtain ⟨e1, e2⟩ := st.push (o := .tup (vs.map er)) fr st' N' size_none ⟨vs.toArray, 0, rfl, by simp⟩
  exact ⟨m, _, e2, .of, hk _ e1⟩
end
section
variable {F : Fx} {m : MM} {H : HH} {s : Shared}
theorem St.list {a : Addr} {xs : List V} (st : St F m H s) (h : H a = some (.list xs)) : ∃ its : Array Value, its.toList.map er = xs ∧ s.heap.IsList a its := by
  obtain ⟨ob, e1, ⟨its, n, e2, e3⟩, _⟩ := st.he a _ h
  exact ⟨its, e3, ob, e1, by rw [e2], n, by rw [e2]⟩
theorem St.tup {a : Addr} {xs : List V} (st : St F m H s) (h : H a = some (.tup xs)) : ∃ its : Array Value, its.toList.map er = xs ∧ IsTup s.heap a its := by
  obtain ⟨ob, e1, ⟨its, n, e2, e3⟩, _⟩ := st.he a _ h
  exact ⟨its, e3, ob, e1, by rw [e2], n, by rw [e2]⟩
end
/-! ## operators -/
section
variable {S : Sy} {F : Fx} {n : Nat}
noncomputable def small (i : Int) : Prop := -(2 ^ 62) < i ∧ i < 2 ^ 62
theorem small_nat {i : Int} (h : small i) : i.natAbs < 2 ^ 64 := by have := h.1; have := h.2; omega
noncomputable def II (a b : V) (p : Int → Int → Prop) : Prop := ∃ i j, a = .int i ∧ b = .int j ∧ p i j
noncomputable def RR (a b : V) (p : Addr → Addr → Prop) : Prop := ∃ i j, a = .ref i ∧ b = .ref j ∧ p i j
theorem ii_of {a b : Value} {p : Int → Int → Prop} (h : II (er a) (er b) p) : ∃ i j t u, a = .int i t ∧ b = .int j u ∧ p i j := by
  obtain ⟨i, j, e1, e2, h⟩ := h
  obtain ⟨t, e1⟩ := er_int e1
  obtain ⟨u, e2⟩ := er_int e2
  exact ⟨i, j, t, u, e1, e2, h⟩
theorem rr_of {a b : Value} {p : Addr → Addr → Prop} (h : RR (er a) (er b) p) : ∃ i j, a = .ref i ∧ b = .ref j ∧ p i j := by
  obtain ⟨i, j, e1, e2, h⟩ := h
  exact ⟨i, j, er_ref e1, er_ref e2, h⟩
theorem ii_to {p : Int → Int → Prop} {i j : Int} (h : p i j) : II (.int i) (.int j) p := ⟨i, j, rfl, rfl, h⟩
theorem rr_to {p : Addr → Addr → Prop} {i j : Addr} (h : p i j) : RR (.ref i) (.ref j) p := ⟨i, j, rfl, rfl, h⟩
noncomputable def binPT (op : Operator) (a b : V) : PT V := fun m H k => match op with
  | .Add => II a b (fun i j => k (.int (i + j)) m H) ∨ RR a b (fun a b => ∃ xs ys, H a = some (.list xs) ∧ H b = some (.list ys) ∧ (PT.newList (xs ++ ys)) m H k)
  | .Sub => II a b fun i j => k (.int (i - j)) m H
  | .Mult => II a b (fun i j => small i ∧ k (.int (i * j)) m H) ∨ ∃ a' j, a = .ref a' ∧ b = .int j ∧ ∃ xs, H a' = some (.list xs) ∧ 0 ≤ j ∧ j < 2 ^ 62 ∧ xs.length * j.toNat ≤ 256 ∧ (PT.newList (List.replicate j.toNat xs).flatten) m H k
  | .FloorDiv => II a b fun i j => 0 < j ∧ j < 1000000000 ∧ k (.int (i.fdiv j)) m H
  | .Mod => II a b fun i j => 0 < j ∧ k (.int (i.fmod j)) m H
  | .LShift => II a b fun i j => 0 ≤ j ∧ j ≤ 1000000 ∧ small i ∧ k (.int (i * 2 ^ j.toNat)) m H
  | .RShift => II a b fun i j => 0 ≤ j ∧ k (.int (i.fdiv (2 ^ j.toNat))) m H
  | .BitAnd => II a b fun i j => k (.int (Builtin.bitAnd i j)) m H
  | .BitOr => II a b fun i j => k (.int (Builtin.bitOr i j)) m H
  | .Pow => II a b fun i j => 0 ≤ j ∧ j ≤ 1000000 ∧ small i ∧ k (.int (i ^ j.toNat)) m H
  | _ => False
theorem fin_int {m : MM} {H : HH} {s : Shared} {k : V → MM → HH → Prop} {i : Int} {tk tk' : Nat} (st : St F m H s) (h : k (.int i) m H) :
    EvQ F er s k (.int i tk) { s with toks := tk' } := ⟨m, H, st.toks _, ⟨s.heap, _, rfl⟩, h⟩
theorem ev_bin (op : Operator) (a b : Value) : Ev S F (binaryOp op a b) er (binPT op (er a) (er b)) := by
  intro m H k s E st h
  cases op
  case Sub => obtain ⟨i, j, t, u, rfl, rfl, q⟩ := ii_of h; exact sub_int (fin_int st q)
  case FloorDiv => obtain ⟨i, j, t, u, rfl, rfl, q⟩ := ii_of h; exact floordiv_int (by omega) (fin_int st q.2.2) (.inl (PyProof.noPylong_small (by omega)))
  case Mod => obtain ⟨i, j, t, u, rfl, rfl, q⟩ := ii_of h; exact mod_int (by omega) (fin_int st q.2)
  case LShift => obtain ⟨i, j, t, u, rfl, rfl, q⟩ := ii_of h; exact lshift_int_small q.1 q.2.1 (small_nat q.2.2.1) (fin_int st q.2.2.2)
  case RShift => obtain ⟨i, j, t, u, rfl, rfl, q⟩ := ii_of h; exact rshift_int q.1 (fin_int st q.2)
  case BitAnd => obtain ⟨i, j, t, u, rfl, rfl, q⟩ := ii_of h; exact and_int (fin_int st q)
  case BitOr => obtain ⟨i, j, t, u, rfl, rfl, q⟩ := ii_of h; exact or_int (fin_int st q)
  case Pow => obtain ⟨i, j, t, u, rfl, rfl, q⟩ := ii_of h; exact pow_int_small q.1 q.2.1 (small_nat q.2.2.1) (fin_int st q.2.2.2)
  case Add =>
    rcases h with h | h
    · obtain ⟨i, j, t, u, rfl, rfl, q⟩ := ii_of h; exact add_int (fin_int st q)
    · obtain ⟨a, b, rfl, rfl, xs, ys, ha, hb, hsz, hk⟩ := rr_of h
      obtain ⟨ia, ea, la⟩ := st.list ha
      obtain ⟨ib, eb, lb⟩ := st.list hb
      obtain ⟨mc, fr, nx⟩ := st.frame
      subst ea eb
      refine add_arrays fr full_news la lb (fun h' F' N' => ?_) (size_line_le (by simp at hsz; omega))
      have st' := nx h' s.toks F' fun p hp => N' p (.tail _ hp)
      obtain ⟨x1, x2⟩ := st.push (o := .list (ia.toList.map er ++ ib.toList.map er)) fr st' N' size_none ⟨_, 0, rfl, by simp⟩
      exact ⟨m, _, x2, .of, hk _ x1⟩
  case Mult =>
    rcases h with h | ⟨a', j, e1, e2, xs, ha, h0, h1, h2, hsz, hk⟩
    · obtain ⟨i, j, t, u, rfl, rfl, q⟩ := ii_of h; exact mul_int (fin_int st q.2) (.of_left (intBits_le (small_nat q.1)))
    · obtain rfl := er_ref e1; obtain ⟨u, rfl⟩ := er_int e2
      obtain ⟨ia, ea, la⟩ := st.list ha
      obtain ⟨mc, fr, nx⟩ := st.frame
      subst ea
      refine KMa.mul (vs := ia.toList) fr full_news (by simpa using la) (by omega) (by omega) (by simpa using h2) rfl (fun D h' F' N' l => ?_)
      have st' := nx h' s.toks F' fun p hp => N' p (.tail _ hp)
      have nn := N' _ (.head _)
      obtain ⟨x1, x2⟩ := st.push (o := .list (List.replicate j.toNat (ia.toList.map er)).flatten) fr st' N' (none_of_lt fr l nn.2.1 nn.2.2) ⟨_, 0, rfl, by simp⟩
      exact ⟨m, _, x2, .of, hk _ x1⟩
  all_goals exact h.elim
end
end Mine
end
section
open PySem PySem.W PySem.Calls PySem.Spec PyProof.Rows
set_option maxRecDepth 100000
set_option linter.unusedVariables false
namespace Mine
/-! ## comparisons -/
noncomputable def Ints2 (H : HH) (a b : Addr) (is js : List Int) : Prop :=
  (H a = some (.list (is.map V.int)) ∧ H b = some (.list (js.map V.int))) ∨ (H a = some (.tup (is.map V.int)) ∧ H b = some (.tup (js.map V.int)))
noncomputable def cmpPT (op : CmpOp) (a b : V) : PT V := fun m H k => match op with
  | .Lt => II a b fun i j => k (.bool (decide (i < j))) m H
  | .Gt => II a b fun i j => k (.bool (decide (j < i))) m H
  | .LtE => II a b fun i j => k (.bool (decide (i ≤ j))) m H
  | .GtE => II a b fun i j => k (.bool (decide (j ≤ i))) m H
  | .Eq => II a b (fun i j => k (.bool (decide (i = j))) m H) ∨ RR a b fun a b => ∃ is js, Ints2 H a b is js ∧ k (.bool (decide (is = js))) m H
  | .NotEq => II a b (fun i j => k (.bool (!decide (i = j))) m H) ∨ RR a b fun a b => ∃ is js, Ints2 H a b is js ∧ k (.bool (!decide (is = js))) m H
  | _ => False
theorem intsAre_of : ∀ {vs : List Value} {is : List Int}, vs.map er = is.map V.int → IntsAre vs is
  | [], [], _ => .nil
  | v :: vs, i :: is, h => by
    simp only [List.map_cons, List.cons.injEq] at h
    obtain ⟨t, rfl⟩ := er_int h.1
    exact .cons i t (intsAre_of h.2)
  | [], _ :: _, h => by simp at h
  | _ :: _, [], h => by simp at h
theorem reads_tup {h : Heap} {a : Addr} {vs : List Value} {ns : List Int} (hl : IsTup h a vs.toArray) (hi : IntsAre vs ns) : Reads h (.ref a) (.tuple (ns.map PyData.int)) [] := by
  obtain ⟨o, ho, hc, n, hd⟩ := hl
  exact Reads.tuple ho hc hd (by simpa using readsAll_of_ints hi)
theorem shaped_tup (ns : List Int) : SeqAt.shaped (.tuple (ns.map PyData.int)) = true := by
  simp [SeqAt.shaped, PyData.canLay0, PyData.depth, ke_canLayAll0, ke_depthAll]
theorem same_tup (ns ms : List Int) : PySem.Spec.same (.tuple (ns.map PyData.int)) (.tuple (ms.map PyData.int)) = decide (ns = ms) := by
  simp only [PySem.Spec.same]; exact ke_sameAll ns ms
section
variable {S : Sy} {F : Fx} {n : Nat}
theorem Room.cline {A : Around} (h : Room n A) : A.units + 64 < cLine := by have := h.2; rw [cLine_is]; lia
theorem fin_b {m : MM} {H : HH} {s : Shared} {k : V → MM → HH → Prop} {b : Bool} (st : St F m H s) (h : k (.bool b) m H) :
    EvQ F er s k (.bool b) s := ⟨m, H, st, .refl _, h⟩
theorem ev_cmp (hF : Fok S n F) (op : CmpOp) (a b : Value) : Ev S F (compareOp op a b) er (cmpPT op (er a) (er b)) := by
  intro m H k s E st h
  have hu := hF.room.cline
  cases op
  case Lt => obtain ⟨i, j, t, u, rfl, rfl, q⟩ := ii_of h; exact lt_int (fin_b st q)
  case Gt => obtain ⟨i, j, t, u, rfl, rfl, q⟩ := ii_of h; exact gt_int (fin_b st q)
  case LtE => obtain ⟨i, j, t, u, rfl, rfl, q⟩ := ii_of h; exact le_int (fin_b st q)
  case GtE => obtain ⟨i, j, t, u, rfl, rfl, q⟩ := ii_of h; exact ge_int (fin_b st q)
  case Eq =>
    rcases h with h | h
    · obtain ⟨i, j, t, u, rfl, rfl, q⟩ := ii_of h
      refine eq_int (fin_b st ?_)
      have e : (i == j) = decide (i = j) := by by_cases h : i = j <;> simp [h]
      rw [e]; exact q
    · obtain ⟨a, b, rfl, rfl, is, js, (⟨ha, hb⟩ | ⟨ha, hb⟩), hk⟩ := rr_of h
      · obtain ⟨ia, ea, la⟩ := st.list ha
        obtain ⟨ib, eb, lb⟩ := st.list hb
        exact eq_intsK (vs := ia.toList) (us := ib.toList) (by simpa using la) (intsAre_of ea) (by simpa using lb) (intsAre_of eb) hu (fin_b st hk)
      · obtain ⟨ia, ea, la⟩ := st.tup ha
        obtain ⟨ib, eb, lb⟩ := st.tup hb
        refine eq_dataH_same (reads_tup (vs := ia.toList) (by simpa using la) (intsAre_of ea)) (reads_tup (vs := ib.toList) (by simpa using lb) (intsAre_of eb)) (shaped_tup _) (shaped_tup _) hu (by simp only [SeqAt.noMix]; exact noMix_ints is js) ?_
        rw [same_tup]; exact fin_b st hk
  case NotEq =>
    rcases h with h | h
    · obtain ⟨i, j, t, u, rfl, rfl, q⟩ := ii_of h
      refine ne_int (fin_b st ?_)
      have e : (i != j) = !decide (i = j) := by by_cases h : i = j <;> simp [h]
      rw [e]; exact q
    · obtain ⟨a, b, rfl, rfl, is, js, (⟨ha, hb⟩ | ⟨ha, hb⟩), hk⟩ := rr_of h
      · obtain ⟨ia, ea, la⟩ := st.list ha
        obtain ⟨ib, eb, lb⟩ := st.list hb
        exact ne_intsK (vs := ia.toList) (us := ib.toList) (by simpa using la) (intsAre_of ea) (by simpa using lb) (intsAre_of eb) hu (fin_b st hk)
      · obtain ⟨ia, ea, la⟩ := st.tup ha
        obtain ⟨ib, eb, lb⟩ := st.tup hb
        refine ne_dataH_same (reads_tup (vs := ia.toList) (by simpa using la) (intsAre_of ea)) (reads_tup (vs := ib.toList) (by simpa using lb) (intsAre_of eb)) (shaped_tup _) (shaped_tup _) hu (by simp only [SeqAt.noMix]; exact noMix_ints is js) ?_
        rw [same_tup]; exact fin_b st hk
  all_goals exact h.elim
noncomputable def truPT (v : V) : PT Bool := fun m H k => match v with
  | .bool b => k b m H
  | _ => False
theorem ev_truthy (v : Value) : Ev S F (truthy v) id (truPT (er v)) := by
  intro m H k s E st h
  unfold truPT at h
  split at h
  case _ e => obtain rfl := er_bool e; exact wpAny_truthy_bool ⟨m, H, st, .refl _, h⟩
  case _ => exact h.elim
/-! ## expressions -/
variable {l r x e : Expr} {pos : Pos} {op : Operator} {cl cr cx c : PT V}
theorem ev_constInt {i : Int} {k : Nat} : Ev S F (eval (.Constant (.int i) k pos) F.env) er (PT.pure (.int i)) := fun m H k s E st h =>
  wpAny_Constant_int ⟨m, H, st.tok1, .tok1, h⟩
theorem ev_constBool {b : Bool} {k : Nat} : Ev S F (eval (.Constant (.bool b) k pos) F.env) er (PT.pure (.bool b)) := fun m H k s E st h =>
  Constant_bool ⟨m, H, st, .refl _, h⟩
theorem ev_constNone {k : Nat} : Ev S F (eval (.Constant .none k pos) F.env) er (PT.pure .none) := fun m H k s E st h =>
  Constant_none ⟨m, H, st, .refl _, h⟩
theorem ev_constStr {x : Str} {k : Nat} : Ev S F (eval (.Constant (.str x) k pos) F.env) er (PT.pure (.str x)) := fun m H k s E st h => by
  rw [eval_Constant]
  exact wpAny_mkText ⟨m, H, st.tok1, .tok1, h⟩
theorem ev_binop (hl : Ev S F (eval l F.env) er cl) (hr : Ev S F (eval r F.env) er cr) : Ev S F (eval (.BinOp l op r pos) F.env) er (cl.bind fun a => cr.bind fun b => binPT op a b) :=
  fun m H k s E st h => wpAny_BinOp (hl.use st h fun a m1 H1 s1 st1 sm1 h1 => hr.use st1 h1 fun b m2 H2 s2 st2 sm2 h2 =>
    (ev_bin op a b).use st2 h2 fun v m3 H3 s3 st3 sm3 h3 => ⟨m3, H3, st3, (sm1.trans sm2).trans sm3, h3⟩)
theorem ev_compare1 {op : CmpOp} (hF : Fok S n F) (hl : Ev S F (eval l F.env) er cl) (hr : Ev S F (eval r F.env) er cr) (hm : behindInMarks op r = false := by with_unfolding_all rfl) :
    Ev S F (eval (.Compare l [op] [r] pos) F.env) er (cl.bind fun a => cr.bind fun b => cmpPT op a b) :=
  fun m H k s E st h => wpAny_Compare1 (hl.use st h fun a m1 H1 s1 st1 sm1 h1 => hr.use st1 h1 fun b m2 H2 s2 st2 sm2 h2 =>
    (ev_cmp hF op a b).use st2 h2 fun v m3 H3 s3 st3 sm3 h3 => ⟨m3, H3, st3, (sm1.trans sm2).trans sm3, h3⟩) hm
noncomputable def negPT (a : V) : PT V := fun m H k => match a with
  | .int i => k (.int (-i)) m H
  | _ => False
theorem ev_neg (hx : Ev S F (eval x F.env) er cx) : Ev S F (eval (.UnaryOp .USub x pos) F.env) er (cx.bind negPT) := fun m H k s E st h =>
  UnaryOp_ (hx.use st h fun a m1 H1 s1 st1 sm1 h1 => by
    unfold negPT at h1
    split at h1
    case _ e => obtain ⟨t, rfl⟩ := er_int e; exact PySem.P.neg_int ⟨m1, H1, st1.tok1, sm1.trans .tok1, h1⟩
    case _ => exact h1.elim)
theorem ev_not {ct : PT Bool} (hx : Ev S F (eval x F.env) er cx) : Ev S F (eval (.UnaryOp .Not x pos) F.env) er (cx.bind fun v => (truPT v).bind fun b => PT.pure (.bool (!b))) := fun m H k s E st h =>
  UnaryOp_ (hx.use st h fun a m1 H1 s1 st1 sm1 h1 => not_of ((ev_truthy a).use st1 h1 fun b m2 H2 s2 st2 sm2 h2 => ⟨m2, H2, st2, sm1.trans sm2, h2⟩))
theorem ev_ifexp {test body orelse : Expr} {ct : PT Bool} {cb ce : PT V} (ht : Ev S F (isTrue test F.env (eval test F.env)) id ct) (hb : Ev S F (eval body F.env) er cb) (he : Ev S F (eval orelse F.env) er ce) :
    Ev S F (eval (.IfExp test body orelse pos) F.env) er (ct.bind fun b => if b then cb else ce) := fun m H k s E st h =>
  IfExp_ (ht.use st h fun b m1 H1 s1 st1 sm1 h1 => by
    cases b with
    | true => exact hb.use st1 h1 fun v m2 H2 s2 st2 sm2 h2 => ⟨m2, H2, st2, sm1.trans sm2, h2⟩
    | false => exact he.use st1 h1 fun v m2 H2 s2 st2 sm2 h2 => ⟨m2, H2, st2, sm1.trans sm2, h2⟩)
theorem ev_boolOne {bop : BoolOp} (h : Ev S F (eval e F.env) er c) : Ev S F (eval (.BoolOp bop [e] pos) F.env) er c := fun m H k s E st hk => BoolOp_one (h m H k s E st hk)
theorem ev_boolAnd {e₂ : Expr} {rest : List Expr} {c2 : PT V} (h1 : Ev S F (eval e F.env) er c) (h2 : Ev S F (eval (.BoolOp .And (e₂ :: rest) pos) F.env) er c2) :
    Ev S F (eval (.BoolOp .And (e :: e₂ :: rest) pos) F.env) er (c.bind fun v => (truPT v).bind fun b => if b then c2 else PT.pure v) := fun m H k s E st h =>
  BoolOp_and (h1.use st h fun a m1 H1 s1 st1 sm1 k1 => (ev_truthy a).use st1 k1 fun b m2 H2 s2 st2 sm2 k2 => by
    cases b with
    | true => exact h2.use st2 k2 fun v m3 H3 s3 st3 sm3 k3 => ⟨m3, H3, st3, (sm1.trans sm2).trans sm3, k3⟩
    | false => exact ⟨m2, H2, st2, sm1.trans sm2, k2⟩)
theorem ev_boolOr {e₂ : Expr} {rest : List Expr} {c2 : PT V} (h1 : Ev S F (eval e F.env) er c) (h2 : Ev S F (eval (.BoolOp .Or (e₂ :: rest) pos) F.env) er c2) :
    Ev S F (eval (.BoolOp .Or (e :: e₂ :: rest) pos) F.env) er (c.bind fun v => (truPT v).bind fun b => if b then PT.pure v else c2) := fun m H k s E st h =>
  BoolOp_or (h1.use st h fun a m1 H1 s1 st1 sm1 k1 => (ev_truthy a).use st1 k1 fun b m2 H2 s2 st2 sm2 k2 => by
    cases b with
    | false => exact h2.use st2 k2 fun v m3 H3 s3 st3 sm3 k3 => ⟨m3, H3, st3, (sm1.trans sm2).trans sm3, k3⟩
    | true => exact ⟨m2, H2, st2, sm1.trans sm2, k2⟩)
/-! ## tests -/
variable {whole : Sem Value}
theorem it_plain (h : Ev S F (eval e F.env) er c) (he : isTrue e F.env (eval e F.env) = (do let v ← eval e F.env; standAt e.pos; holding [v] (truthy v)) := by rfl) :
    Ev S F (isTrue e F.env (eval e F.env)) id (c.bind truPT) := fun m H k s E st hk =>
  isTrue_plain (h.use st hk fun a m1 H1 s1 st1 sm1 k1 => (ev_truthy a).use st1 k1 fun b m2 H2 s2 st2 sm2 k2 => ⟨m2, H2, st2, sm1.trans sm2, k2⟩) he
theorem it_not {ct : PT Bool} (h : Ev S F (isTrue x F.env (eval x F.env)) id ct) : Ev S F (isTrue (.UnaryOp .Not x pos) F.env whole) id (ct.bind fun b => PT.pure (!b)) := fun m H k s E st hk =>
  isTrue_not (h.use st hk fun b m1 H1 s1 st1 sm1 k1 => ⟨m1, H1, st1, sm1, k1⟩)
theorem it_andNil : Ev S F (isTrue (.BoolOp .And [] pos) F.env whole) id (PT.pure true) := fun m H k s E st hk => isTrue_and_nil ⟨m, H, st, .refl _, hk⟩
theorem it_orNil : Ev S F (isTrue (.BoolOp .Or [] pos) F.env whole) id (PT.pure false) := fun m H k s E st hk => isTrue_or_nil ⟨m, H, st, .refl _, hk⟩
theorem it_and {rest : List Expr} {c1 c2 : PT Bool} (h1 : Ev S F (isTrue x F.env (eval x F.env)) id c1) (h2 : Ev S F (isTrue (.BoolOp .And rest pos) F.env whole) id c2) :
    Ev S F (isTrue (.BoolOp .And (x :: rest) pos) F.env whole) id (c1.bind fun b => if b then c2 else PT.pure false) := fun m H k s E st hk =>
  isTrue_and (h1.use st hk fun b m1 H1 s1 st1 sm1 k1 => by
    cases b with
    | true => exact h2.use st1 k1 fun v m3 H3 s3 st3 sm3 k3 => ⟨m3, H3, st3, sm1.trans sm3, k3⟩
    | false => exact ⟨m1, H1, st1, sm1, k1⟩)
theorem it_or {rest : List Expr} {c1 c2 : PT Bool} (h1 : Ev S F (isTrue x F.env (eval x F.env)) id c1) (h2 : Ev S F (isTrue (.BoolOp .Or rest pos) F.env whole) id c2) :
    Ev S F (isTrue (.BoolOp .Or (x :: rest) pos) F.env whole) id (c1.bind fun b => if b then PT.pure true else c2) := fun m H k s E st hk =>
  isTrue_or (h1.use st hk fun b m1 H1 s1 st1 sm1 k1 => by
    cases b with
    | false => exact h2.use st1 k1 fun v m3 H3 s3 st3 sm3 k3 => ⟨m3, H3, st3, sm1.trans sm3, k3⟩
    | true => exact ⟨m1, H1, st1, sm1, k1⟩)
theorem it_compare1 {op : CmpOp} (hF : Fok S n F) (hl : Ev S F (eval l F.env) er cl) (hr : Ev S F (eval r F.env) er cr) (hm : behindInMarks op r = false := by with_unfolding_all rfl) :
    Ev S F (isTrue (.Compare l [op] [r] pos) F.env whole) id (cl.bind fun a => cr.bind fun b => (cmpPT op a b).bind truPT) :=
  fun m H k s E st h => wpAny_isTrue_Compare1 (hl.use st h fun a m1 H1 s1 st1 sm1 h1 => hr.use st1 h1 fun b m2 H2 s2 st2 sm2 h2 =>
    (ev_cmp hF op a b).use st2 h2 fun v m3 H3 s3 st3 sm3 h3 => (ev_truthy v).use st3 h3 fun t m4 H4 s4 st4 sm4 h4 => ⟨m4, H4, st4, ((sm1.trans sm2).trans sm3).trans sm4, h4⟩) hm
theorem it_compare2 {o1 o2 : CmpOp} {r2 : Expr} {c2 : PT V} (hF : Fok S n F) (hl : Ev S F (eval l F.env) er cl) (hr : Ev S F (eval r F.env) er cr) (h2 : Ev S F (eval r2 F.env) er c2) (hm : lastMarks [o1, o2] [r, r2] = false := by with_unfolding_all rfl) :
    Ev S F (isTrue (.Compare l [o1, o2] [r, r2] pos) F.env whole) id (cl.bind fun a => cr.bind fun b => (cmpPT o1 a b).bind fun v => (truPT v).bind fun t => if t then c2.bind fun d => (cmpPT o2 b d).bind truPT else PT.pure false) :=
  fun m H k s E st h => isTrue_chain (rs := []) (hl.use st h fun a m1 H1 s1 st1 sm1 h1 => test_link (hr.use st1 h1 fun b m2 H2 s2 st2 sm2 h2' =>
    (ev_cmp hF o1 a b).use st2 h2' fun v m3 H3 s3 st3 sm3 h3 => (ev_truthy v).use st3 h3 fun t m4 H4 s4 st4 sm4 h4 => by
      have sm := ((sm1.trans sm2).trans sm3).trans sm4
      cases t with
      | true => exact test_last (h2.use st4 h4 fun d m5 H5 s5 st5 sm5 h5 => (ev_cmp hF o2 b d).use st5 h5 fun v m6 H6 s6 st6 sm6 h6 => (ev_truthy v).use st6 h6 fun t m7 H7 s7 st7 sm7 h7 => ⟨m7, H7, st7, ((sm.trans sm5).trans sm6).trans sm7, h7⟩)
      | false => exact ⟨m4, H4, st4, sm, h4⟩)) hm
end
end Mine
end
section
open PySem PySem.W PySem.Calls PySem.Spec PyProof.Rows
set_option maxRecDepth 100000
set_option linter.unusedVariables false
namespace Mine
section
variable {h₀ h : Heap} {L D : Addr} {o o' : Obj}
theorem full_nodup : ((full h₀ L h).map (·.1)).Nodup := by
  have key : ∀ l : List Nat, l.Nodup → ((l.filterMap fun a => if a ≠ L ∧ h₀.get? a = none then (h.get? a).map fun o => (a, o) else none).map (·.1)).Nodup := by
    intro l hl
    induction l with
    | nil => exact List.nodup_nil
    | cons a r ih =>
      have hr := List.nodup_cons.mp hl
      rw [List.filterMap_cons]
      split
      · exact ih hr.2
      · rename_i b hb
        rw [List.map_cons]
        refine List.nodup_cons.mpr ⟨fun hm => ?_, ih hr.2⟩
        have hba : b.1 = a := by
          split at hb
          · cases q : h.get? a with
            | none => rw [q] at hb; cases hb
            | some o => rw [q] at hb; cases hb; rfl
          · cases hb
        obtain ⟨q, hq, e⟩ := List.mem_map.mp hm
        obtain ⟨c, hc, e2⟩ := List.mem_filterMap.mp hq
        have : q.1 = c := by
          split at e2
          · cases q' : h.get? c with
            | none => rw [q'] at e2; cases e2
            | some o => rw [q'] at e2; cases e2; rfl
          · cases e2
        rw [e, hba] at this
        exact hr.1 (this ▸ hc)
  exact key _ List.nodup_range
theorem split_of_mem : ∀ {l : List (Addr × Obj)}, (l.map (·.1)).Nodup → (D, o) ∈ l → ∃ pre post, l = pre ++ (D, o) :: post ∧ (∀ p ∈ pre, p.1 ≠ D) ∧ ∀ p ∈ post, p.1 ≠ D
  | [], _, hm => nomatch hm
  | q :: r, hn, hm => by
    rw [List.map_cons, List.nodup_cons] at hn
    rcases List.mem_cons.mp hm with e | hm
    · subst e
      exact ⟨[], r, rfl, (fun p hp => nomatch hp), fun p hp e => hn.1 (List.mem_map.mpr ⟨p, hp, e⟩)⟩
    · obtain ⟨pre, post, rfl, a, b⟩ := split_of_mem hn.2 hm
      refine ⟨q :: pre, post, rfl, fun p hp => ?_, b⟩
      rcases List.mem_cons.mp hp with rfl | hp
      · intro e
        exact hn.1 (List.mem_map.mpr ⟨(D, o), by simp, e.symm⟩)
      · exact a p hp
theorem upd_mk {post : List (Addr × Obj)} (hb : ∀ p ∈ post, p.1 ≠ D) : ∀ {pre : List (Addr × Obj)}, (∀ p ∈ pre, p.1 ≠ D) → W.Upd D o o' (pre ++ (D, o) :: post) (pre ++ (D, o') :: post)
  | [], _ => .head hb
  | q :: r, ha => .tail (ha q (.head _)) (upd_mk hb fun p hp => ha p (.tail _ hp))
end
section
variable {F : Fx} {m : MM} {H : HH} {s : Shared} {h' : Heap} {tk : Nat} {mc : Str → Option Value} {D : Addr} {o o' : O} {ob' : Obj}
theorem St.change (st : St F m H s) (hD : H D = some o) (fr' : ∃ mc, Fr F.h₀ F.L h' mc ∧ (F.env.locals = F.L → ∀ x, F.env.scope.names.lookup x = some .local → (mc x).map er = m x) ∧ (F.env.locals ≠ F.L → mc = F.mL))
    (keep : ∀ a ob, a ≠ D → a ≠ F.L → s.heap.get? a = some ob → h'.get? a = some ob) (hob : h'.get? D = some ob') (hi : Is o' ob') : St F m (H.set D o') { s with heap := h', toks := tk } := by
  obtain ⟨ob, e1, e2, e3, e4⟩ := st.he D o hD
  refine ⟨fr', fun hL => ?_, fun x ca hx => ?_, fun a ao ha => ?_, fun p hp => ?_⟩
  · obtain ⟨m2, hn, x1, x2, x3⟩ := st.own hL
    have hne : F.env.locals ≠ D := by intro e; rw [e, hD] at x3; cases x3
    obtain ⟨oc, es, ep, hoc, r⟩ := hn
    exact ⟨m2, ⟨oc, es, ep, keep _ _ hne hL hoc, r⟩, x1, x2, by unfold HH.set; rw [if_neg hne]; exact x3⟩
  · obtain ⟨oc, v, x1, x2, x3, x4, x5, x6, x7⟩ := st.ce x ca hx
    have hne : ca ≠ D := by intro e; rw [e, hD] at x7; cases x7
    exact ⟨oc, v, keep _ _ hne x4 x1, x2, x3, x4, x5, x6, by unfold HH.set; rw [if_neg hne]; exact x7⟩
  · unfold HH.set at ha
    by_cases e : a = D
    · rw [if_pos e] at ha
      cases ha
      subst e
      exact ⟨ob', hob, hi, e3, e4⟩
    · rw [if_neg e] at ha
      obtain ⟨oa, x1, x2, x3, x4⟩ := st.he a ao ha
      exact ⟨oa, keep _ _ e x3 x1, x2, x3, x4⟩
  · obtain ⟨y1, y2, y3, r⟩ := st.pr p hp
    have hne : p.1 ≠ D := by intro e; rw [e, hD] at y3; cases y3
    exact ⟨keep _ _ hne y2 y1, y2, by unfold HH.set; rw [if_neg hne]; exact y3, r⟩
theorem St.sameBut (st : St F m H s) (hD : H D = some o) (hs : Heap.SameBut D s.heap h') (hob : h'.get? D = some ob') (hi : Is o' ob') : St F m (H.set D o') { s with heap := h', toks := tk } := by
  obtain ⟨ob, e1, e2, e3, e4⟩ := st.he D o hD
  obtain ⟨mc, fr, x1, x2⟩ := st.fr
  refine st.change hD ⟨mc, ⟨fr.ns.sameBut hs (Ne.symm e3), fun b ob hb => ?_, fr.above⟩, x1, x2⟩ (fun a ob hne _ ha => by rw [hs.2 a hne]; exact ha) hob hi
  rw [hs.2 b (by rintro rfl; rw [e4] at hb; cases hb)]
  exact fr.keep b ob hb
theorem St.frameD (st : St F m H s) (hD : H D = some o) : ∃ mc ob pre post, Fr F.h₀ F.L s.heap mc ∧ s.heap.get? D = some ob ∧ Is o ob ∧ News F.h₀ F.L s.heap (pre ++ (D, ob) :: post) ∧ (∀ p ∈ pre, p.1 ≠ D) ∧ (∀ p ∈ post, p.1 ≠ D) ∧
    ∀ h' tk ob' o', Fr F.h₀ F.L h' mc → News F.h₀ F.L h' (pre ++ (D, ob') :: post) → Is o' ob' → St F m (H.set D o') { s with heap := h', toks := tk } := by
  obtain ⟨ob, e1, e2, e3, e4⟩ := st.he D o hD
  obtain ⟨mc, fr, x1, x2⟩ := st.fr
  obtain ⟨pre, post, hf, ha, hb⟩ := split_of_mem full_nodup (mem_full (p := (D, ob)).mpr ⟨e1, e3, e4⟩)
  refine ⟨mc, ob, pre, post, fr, e1, e2, hf ▸ full_news, ha, hb, fun h' tk ob' o' F' N' hi => ?_⟩
  refine st.change hD ⟨mc, F', x1, x2⟩ (fun a oa hne hL hget => ?_) (N' (D, ob') (by simp)).1 hi
  cases q : F.h₀.get? a with
  | some o2 =>
    have h1 := fr.keep a o2 q
    rw [hget] at h1
    cases h1
    exact F'.keep a oa q
  | none =>
    have hm : (a, oa) ∈ pre ++ (D, ob) :: post := hf ▸ mem_full.mpr ⟨hget, hL, q⟩
    rcases List.mem_append.mp hm with hm | hm
    · exact (N' (a, oa) (List.mem_append_left _ hm)).1
    · rcases List.mem_cons.mp hm with e | hm
      · cases e; exact absurd rfl hne
      · exact (N' (a, oa) (List.mem_append_right _ (.tail _ hm))).1
end
/-! ## statements -/
section
variable {S : Sy} {F : Fx} {n : Nat} {pos xp : Pos} {x : Str} {e : Expr} {c : PT V}
noncomputable def PT.setv (x : Str) (v : V) : PT Unit := fun m H k => k () (m.set x v) H
theorem ev_storeLocal (hF : Fok S n F) (hL : F.env.locals = F.L) (hk : F.env.scope.names.lookup x = some .local) (v : Value) : Ev S F (storeName F.env x v) id (PT.setv x (er v)) := by
  intro m H k s E st h
  obtain ⟨mc, fr, x1, x2⟩ := st.fr
  refine wpAny_storeName_local hk (hL ▸ fr.ns) (fun h' hn hs => ?_) hF.notMod
  rw [hL] at hn hs
  refine ⟨m.set x (er v), H, ⟨⟨_, fr.set hn hs, fun _ y hy => ?_, fun hne => absurd hL hne⟩, fun hne => absurd hL hne, fun y ca hy => ?_, fun a o ha => ?_, fun p hp => ?_⟩, ⟨h', _, rfl⟩, h⟩
  · unfold MM.set
    by_cases e : y = x
    · simp [e]
    · simp [e, x1 hL y hy]
  · obtain ⟨ob, w, e1, e2, e3, e4, r⟩ := st.ce y ca hy
    refine ⟨ob, w, (hs.2 ca e4).trans e1, e2, ?_, e4, r⟩
    unfold MM.set
    rw [if_neg (show ¬ y = x by rintro rfl; exact hF.ckind _ ca hy hk)]
    exact e3
  · obtain ⟨ob, e1, e2, e3, e4⟩ := st.he a o ha
    exact ⟨ob, (hs.2 a e3).trans e1, e2, e3, e4⟩
  · obtain ⟨y1, y2, r⟩ := st.pr p hp
    exact ⟨(hs.2 p.1 y2).trans y1, y2, r⟩
theorem ev_storeCell (hF : Fok S n F) (hL : F.env.locals = F.L) (hk : F.env.scope.names.lookup x = some .cell) (hc : (F.env.cells.lookup x).isSome = true) (v : Value) : Ev S F (storeName F.env x v) id (PT.setv x (er v)) := by
  intro m H k s E st h
  obtain ⟨ca, hca⟩ := Option.isSome_iff_exists.mp hc
  obtain ⟨ob, u, e1, e2, e3, e4, e5, e6, e7⟩ := st.ce x ca hca
  obtain ⟨mc, fr, x1, x2⟩ := st.fr
  refine wpAny_storeName_cell hF.kind hk hca ⟨ob, e1, e2⟩ fun h' hv hs => ?_
  obtain ⟨ob', o1, o2⟩ := hv
  refine ⟨m.set x (er v), H, ⟨⟨mc, ⟨fr.ns.sameBut hs (Ne.symm e4), fun b o hb => ?_, fr.above⟩, fun _ y hy => ?_, x2⟩, fun hne => absurd hL hne, fun y cb hy => ?_, fun a o ha => ?_, fun p hp => ?_⟩, ⟨h', _, rfl⟩, h⟩
  · rw [hs.2 b (by rintro rfl; rw [e6] at hb; cases hb)]
    exact fr.keep b o hb
  · unfold MM.set
    rw [if_neg (fun e => by rw [e, hk] at hy; cases hy)]
    exact x1 hL y hy
  · by_cases e : y = x
    · subst e
      rw [hca] at hy
      cases hy
      exact ⟨ob', some v, o1, o2, by simp [MM.set], e4, e5, e6, e7⟩
    · obtain ⟨oc, w, y1, y2, y3, y4, y5, y6, y7⟩ := st.ce y cb hy
      have hne : cb ≠ ca := fun q => e (hF.cinj y x cb hy (q ▸ hca))
      refine ⟨oc, w, (hs.2 cb hne).trans y1, y2, ?_, y4, y5, y6, y7⟩
      unfold MM.set
      rw [if_neg e]
      exact y3
  · obtain ⟨oa, y1, y2, y3, y4⟩ := st.he a o ha
    have hne : a ≠ ca := by rintro rfl; rw [e7] at ha; cases ha
    exact ⟨oa, (hs.2 a hne).trans y1, y2, y3, y4⟩
  · obtain ⟨y1, y2, y3, y4, y5⟩ := st.pr p hp
    have hne : p.1 ≠ ca := fun q => y5 x (q ▸ hca)
    exact ⟨(hs.2 p.1 hne).trans y1, y2, y3, y4, y5⟩
/-- how a name is stored -/
noncomputable def Stores (S : Sy) (F : Fx) (x : Str) : Prop := ∀ v, Ev S F (storeName F.env x v) id (PT.setv x (er v))
theorem ex_assignName (hst : Stores S F x) (he : Ev S F (eval e F.env) er c) (hs : swapsWith e (some (.Name x xp)) pos.line F.env = pure false := by rfl) :
    Ev S F (exec (.Assign [.Name x xp] e pos) F.env) erF (c.bind fun v => (PT.setv x v).bind fun _ => PT.pure .next) := fun m H k s E st h =>
  wpAny_Assign_Name (he.use st h fun v m1 H1 s1 st1 sm1 h1 => (hst v).use st1 h1 fun _ m2 H2 s2 st2 sm2 h2 => ⟨m2, H2, st2, sm1.trans sm2, h2⟩) hs
noncomputable def iopPT (op : Operator) (a b : V) : PT V := fun m H k => match op with
  | .Add => II a b fun i j => k (.int (i + j)) m H
  | .Sub => II a b fun i j => k (.int (i - j)) m H
  | .BitOr => II a b fun i j => k (.int (Builtin.bitOr i j)) m H
  | .RShift => II a b fun i j => 0 ≤ j ∧ k (.int (i.fdiv (2 ^ j.toNat))) m H
  | _ => False
theorem ev_iop (op : Operator) (a b : Value) : Ev S F (inplaceOp op a b) er (iopPT op (er a) (er b)) := by
  intro m H k s E st h
  cases op
  case Add => obtain ⟨i, j, t, u, rfl, rfl, q⟩ := ii_of h; exact iadd_int (fin_int st q)
  case Sub => obtain ⟨i, j, t, u, rfl, rfl, q⟩ := ii_of h; exact isub_int (fin_int st q)
  case BitOr => obtain ⟨i, j, t, u, rfl, rfl, q⟩ := ii_of h; exact ior_int (fin_int st q)
  case RShift => obtain ⟨i, j, t, u, rfl, rfl, q⟩ := ii_of h; exact irshift_int q.1 (fin_int st q.2)
  all_goals exact h.elim
theorem ev_loadLocal (hF : Fok S n F) (hL : F.env.locals = F.L) (hk : F.env.scope.names.lookup x = some .local) : Ev S F (loadName F.env x) er (PT.get x) := by
  intro m H k s E st ⟨v, hv, hkv⟩
  obtain ⟨mc, fr, hm, _⟩ := st.fr
  have h1 := hm hL x hk
  rw [hv] at h1
  cases hmx : mc x with
  | none => rw [hmx] at h1; cases h1
  | some u =>
    rw [hmx] at h1
    cases h1
    exact wpAny_loadName_local hF.kind hk (hL ▸ fr.ns) hmx ⟨m, H, st, .refl _, hkv⟩
theorem ex_augName {op : Operator} (hl : Ev S F (loadName F.env x) er (PT.get x)) (hst : Stores S F x) (he : Ev S F (eval e F.env) er c) :
    Ev S F (exec (.AugAssign (.Name x xp) op e pos) F.env) erF ((PT.get x).bind fun a => c.bind fun b => (iopPT op a b).bind fun v => (PT.setv x v).bind fun _ => PT.pure .next) := fun m H k s E st h =>
  wpAny_AugAssign_Name (hl.use st h fun a m1 H1 s1 st1 sm1 h1 => he.use st1 h1 fun b m2 H2 s2 st2 sm2 h2 => (ev_iop op a b).use st2 h2 fun v m3 H3 s3 st3 sm3 h3 =>
    (hst v).use st3 h3 fun _ m4 H4 s4 st4 sm4 h4 => ⟨m4, H4, st4, ((sm1.trans sm2).trans sm3).trans sm4, h4⟩)
theorem ex_return (he : Ev S F (eval e F.env) er c) : Ev S F (exec (.Return (some e) pos) F.env) erF (c.bind fun v => PT.pure (.ret v)) := fun m H k s E st h =>
  wpAny_Return_some (he.use st h fun v m1 H1 s1 st1 sm1 h1 => ⟨m1, H1, st1, sm1, h1⟩)
theorem ex_expr (he : Ev S F (eval e F.env) er c) (hi : interactive F.env = false := by rfl) (hs : swapsWith e none pos.line F.env = pure false := by rfl) :
    Ev S F (exec (.Expr e pos) F.env) erF (c.bind fun _ => PT.pure .next) := fun m H k s E st h =>
  wpAny_Expr_any (he.use st h fun v m1 H1 s1 st1 sm1 h1 => ⟨m1, H1, st1, sm1, h1⟩) hi hs
theorem ex_if {test : Expr} {body orelse : List Stmt} {ct : PT Bool} {cb ce : PT Fl} (ht : Ev S F (isTrue test F.env (eval test F.env)) id ct) (hb : Ev S F (execs body F.env) erF cb) (he : Ev S F (execs orelse F.env) erF ce) :
    Ev S F (exec (.If test body orelse pos) F.env) erF (ct.bind fun b => if b then cb else ce) := fun m H k s E st h =>
  wpAny_If (ht.use st h fun b m1 H1 s1 st1 sm1 h1 => by
    cases b with
    | true => exact hb.use st1 h1 fun v m2 H2 s2 st2 sm2 h2 => ⟨m2, H2, st2, sm1.trans sm2, h2⟩
    | false => exact he.use st1 h1 fun v m2 H2 s2 st2 sm2 h2 => ⟨m2, H2, st2, sm1.trans sm2, h2⟩)
theorem exs_nil : Ev S F (execs [] F.env) erF (PT.pure .next) := fun m H k s E st h => wpAny_execs_nil ⟨m, H, st, .refl _, h⟩
noncomputable def PT.thenS (a b : PT Fl) : PT Fl := a.bind fun f => match f with
  | .next => b
  | f => PT.pure f
theorem exs_cons {st₁ : Stmt} {rest : List Stmt} {c1 c2 : PT Fl} (h1 : Ev S F (exec st₁ F.env) erF c1) (h2 : Ev S F (execs rest F.env) erF c2) : Ev S F (execs (st₁ :: rest) F.env) erF (c1.thenS c2) := fun m H k s E st h =>
  wpAny_execs_cons (h1.use st h fun f m1 H1 s1 st1 sm1 k1 => by
    cases f with
    | next => exact h2.use st1 k1 fun v m2 H2 s2 st2 sm2 k2 => ⟨m2, H2, st2, sm1.trans sm2, k2⟩
    | brk => exact ⟨m1, H1, st1, sm1, k1⟩
    | cont => exact ⟨m1, H1, st1, sm1, k1⟩
    | ret v => exact ⟨m1, H1, st1, sm1, k1⟩)
theorem ex_pass : Ev S F (exec (.Pass pos) F.env) erF (PT.pure .next) := fun m H k s E st h => wpAny_Pass ⟨m, H, st, .refl _, h⟩
/-! ## while -/
noncomputable def whileN (t : PT Bool) (b : PT Fl) : Nat → PT Fl
  | 0 => fun _ _ _ => False
  | n + 1 => t.bind fun c => if c then b.bind fun f => (match f with
      | .next | .cont => whileN t b n
      | .brk => PT.pure .next
      | .ret v => PT.pure (.ret v)) else PT.pure .next
noncomputable def PT.while (t : PT Bool) (b : PT Fl) : PT Fl := fun m H k => ∃ n, whileN t b n m H k
theorem ex_while {test : Expr} {body : List Stmt} {t : PT Bool} {b : PT Fl} (ht : Ev S F (isTrue test F.env (eval test F.env)) id t) (hb : Ev S F (execs body F.env) erF b) :
    Ev S F (exec (.While test body [] pos) F.env) erF (PT.while t b) := by
  intro m H k s E st ⟨n, h⟩
  refine wpAny_While (codeAny_whileLoop (fun i s' => ∃ m' H', St F m' H' s' ∧ Same s s' ∧ whileN t b i m' H' k) ?_ n ⟨m, H, st, .refl _, h⟩)
  rintro i s' ⟨m', H', st', sm', hw⟩
  cases i with
  | zero => exact hw.elim
  | succ i =>
    refine ht.use st' hw fun c m1 H1 s1 st1 sm1 h1 => ?_
    cases c with
    | false => exact wpAny_execs_nil ⟨m1, H1, st1, sm'.trans sm1, h1⟩
    | true =>
      refine hb.use st1 h1 fun f m2 H2 s2 st2 sm2 h2 => ?_
      cases f with
      | next => exact ⟨i, Nat.lt_succ_self _, m2, H2, st2, (sm'.trans sm1).trans sm2, h2⟩
      | cont => exact ⟨i, Nat.lt_succ_self _, m2, H2, st2, (sm'.trans sm1).trans sm2, h2⟩
      | brk => exact ⟨m2, H2, st2, (sm'.trans sm1).trans sm2, h2⟩
      | ret v => exact ⟨m2, H2, st2, (sm'.trans sm1).trans sm2, h2⟩
end
end Mine
end
section
open PySem PySem.W PySem.Calls PySem.Spec PyProof.Rows
set_option maxRecDepth 100000
set_option linter.unusedVariables false
namespace Mine
/-! ## calls of the text's own defs -/
noncomputable abbrev SpecT := List V → HH → (V → HH → Prop) → Prop
/-- what is handled: nothing, or an exception object without a context, below the frame or protected in it -/
noncomputable def HandF (F : Fx) : Prop := HandOk F.A F.h₀ ∨ ∃ e oe ws, F.A.handled = some (.ref e) ∧ (e, oe) ∈ F.P ∧ oe.data = .fields ws ∧ ws[2]? = some .none
/-- a frame from which one may call -/
structure FokC (S : Sy) (n : Nat) (F : Fx) : Prop where
  frames : ∃ A₀ base outer fenv, Below A₀ base outer F.h₀ ∧ F.A.frames = some (fenv :: outer) ∧ fenv.frame = some F.L ∧ fenv.scope.kind = .function
  kin : S.K.In F.h₀
  top : Top S.p S.loose S.mean S.mg S.mb F.h₀
  hand : HandF F
  room : Room n F.A
theorem Fok.toC {S : Sy} {n : Nat} {F : Fx} (h : Fok S n F) : FokC S n F := ⟨h.frames, h.kin, h.top, .inl h.hand, h.room⟩
theorem FokC.mono {S : Sy} {n k : Nat} {F : Fx} (h : FokC S n F) (hk : k ≤ n) : FokC S k F := ⟨h.frames, h.kin, h.top, h.hand, h.room.mono hk⟩
noncomputable def Con (S : Sy) (n : Nat) (fa : Addr) (spec : SpecT) : Prop :=
  ∀ F, FokC S n F → ∀ m H vs k R s, St F m H s → spec (vs.map er) H k → (∀ v H' s', k (er v) H' → St F m H' s' → Same s s' → R (.ok (.ret v)) s') → codeAny S.M F.A (.call (.ref fa) ⟨vs, []⟩) R s
noncomputable def knownOf (H : HH) (l : List (Addr × Obj)) : List (Addr × Obj) := l.filter fun p => (H p.1).isSome
section
variable {S : Sy} {F : Fx} {n : Nat} {m : MM} {H : HH} {s : Shared}
theorem Fok.mono {k : Nat} (hF : Fok S n F) (hk : k ≤ n) : Fok S k F := ⟨hF.frames, hF.kin, hF.top, hF.hand, hF.room.mono hk, hF.kind, hF.glob, hF.bi, hF.cinj, hF.ckind⟩
theorem Con.mono {k : Nat} {fa : Addr} {spec : SpecT} (h : Con S n fa spec) (hk : n ≤ k) : Con S k fa spec := fun F hF => h F (hF.mono hk)
theorem Con.weak {fa : Addr} {spec spec' : SpecT} (h : Con S n fa spec) (hs : ∀ vs H k, spec' vs H k → spec vs H k) : Con S n fa spec' := fun F hF m H vs k R s st hk hR => h F hF m H vs k R s st (hs _ _ _ hk) hR
theorem St.kin (hF : Fok S n F) (st : St F m H s) : S.K.In s.heap := by
  obtain ⟨mc, fr, _⟩ := st.fr
  exact hF.kin.keeps fr.keep
theorem St.kinC (hF : FokC S n F) (st : St F m H s) : S.K.In s.heap := by
  obtain ⟨mc, fr, _⟩ := st.fr
  exact hF.kin.keeps fr.keep
/-- the heap as the callee sees it: what is known may turn, all else stays -/
theorem St.enter (hF : FokC S n F) (st : St F m H s) : ∃ mc g base outer fenv, Fr F.h₀ F.L g mc ∧ Below F.A base (fenv :: outer) g ∧ F.h₀.StaysIn g ∧ g.objs.size = s.heap.objs.size ∧ F.A.frames = some (fenv :: outer) ∧
    (∀ b o, g.get? b = some o → s.heap.get? b = some o) ∧ (∀ a o, H a = some o → g.get? a = none) ∧ HandOk F.A g ∧
    ∀ h' tk H', (∀ b o, g.get? b = some o → h'.get? b = some o) → (∀ a o, H' a = some o → ∃ ob, h'.get? a = some ob ∧ Is o ob ∧ g.get? a = none) → St F m H' { s with heap := h', toks := tk } := by
  obtain ⟨mc, fr, x1, x2⟩ := st.fr
  obtain ⟨A₀, base, outer, fenv, B, hA, hf, hke⟩ := hF.frames
  have N : News F.h₀ F.L s.heap (knownOf H (full F.h₀ F.L s.heap)) := fun p hp => full_news p (List.mem_filter.mp hp).1
  obtain ⟨FG, BG, stay, _⟩ := groundX (R := fun _ _ => True) B fr N hA hf hke
  have notIn : ∀ b, H b = none → b ∉ (knownOf H (full F.h₀ F.L s.heap)).map (·.1) := fun b hb hm => by
    obtain ⟨p, hp, rfl⟩ := List.mem_map.mp hm
    have := (List.mem_filter.mp hp).2
    rw [hb] at this
    cases this
  have keepG : ∀ b o, s.heap.get? b = some o → H b = none → (hideAll s.heap ((knownOf H (full F.h₀ F.L s.heap)).map (·.1))).get? b = some o := fun b o e hb => hideAll_get _ e (notIn b hb)
  refine ⟨mc, _, base, outer, fenv, FG, BG, stay, hideAll_size _ _, hA, fun b o e => of_hideAll _ e, fun a o ha => ?_, ?_, fun h' tk H' kp hk => ?_⟩
  · obtain ⟨ob, e1, e2, e3, e4⟩ := st.he a o ha
    exact hideAll_none _ (List.mem_map.mpr ⟨(a, ob), List.mem_filter.mpr ⟨mem_full.mpr ⟨e1, e3, e4⟩, by rw [ha]; rfl⟩, rfl⟩)
  · rcases hF.hand with (h | ⟨e, oe, ws, h1, h2, h3⟩) | ⟨e, oe, ws, h1, h2, h3⟩
    · exact .inl h
    · exact .inr ⟨e, oe, ws, h1, stay _ _ h2, h3⟩
    · obtain ⟨y1, y2, y3, _⟩ := st.pr (e, oe) h2
      exact .inr ⟨e, oe, ws, h1, keepG _ _ y1 y3, h3⟩
  · refine ⟨⟨mc, ⟨?_, fun b o e => kp b o (FG.keep b o e), fr.above⟩, x1, x2⟩, fun hL => ?_, fun x ca hx => ?_, fun a o ha => ?_, fun p hp => ?_⟩
    · obtain ⟨oL, es, ep, hL, r⟩ := FG.ns
      exact ⟨oL, es, ep, kp _ _ hL, r⟩
    · obtain ⟨m2, ⟨oc, es, ep, hoc, r⟩, y1, y2, y3⟩ := st.own hL
      have hc := keepG _ _ hoc y3
      refine ⟨m2, ⟨oc, es, ep, kp _ _ hc, r⟩, y1, y2, ?_⟩
      cases q : H' F.env.locals with
      | none => rfl
      | some o =>
        obtain ⟨_, _, _, z⟩ := hk _ _ q
        rw [hc] at z
        cases z
    · obtain ⟨oc, v, y1, y2, y3, y4, y5, y6, y7⟩ := st.ce x ca hx
      have hc := keepG _ _ y1 y7
      refine ⟨oc, v, kp _ _ hc, y2, y3, y4, y5, y6, ?_⟩
      cases q : H' ca with
      | none => rfl
      | some o =>
        obtain ⟨_, _, _, z⟩ := hk _ _ q
        rw [hc] at z
        cases z
    · obtain ⟨ob, e1, e2, e3⟩ := hk a o ha
      refine ⟨ob, e1, e2, fun e => ?_, ?_⟩
      · obtain ⟨oL, _, _, hL, _⟩ := FG.ns
        rw [e, hL] at e3
        cases e3
      · cases q : F.h₀.get? a with
        | none => rfl
        | some o' => rw [FG.keep a o' q] at e3; cases e3
    · obtain ⟨y1, y2, y3, r⟩ := st.pr p hp
      have hc := keepG _ _ y1 y3
      refine ⟨kp _ _ hc, y2, ?_, r⟩
      cases q : H' p.1 with
      | none => rfl
      | some o =>
        obtain ⟨_, _, _, z⟩ := hk _ _ q
        rw [hc] at z
        cases z
noncomputable def bindM (binds : List (Str × V)) : MM := fun x => binds.reverse.lookup x
theorem lookup_er (binds : List (Str × Value)) (x : Str) : (binds.lookup x).map er = (binds.map fun p => (p.1, er p.2)).lookup x := by
  induction binds with
  | nil => rfl
  | cons p r ih =>
    obtain ⟨y, v⟩ := p
    simp only [List.map_cons, List.lookup_cons]
    cases x == y with
    | true => rfl
    | false => exact ih
noncomputable abbrev frameX (A : Around) (env : Env) (g : Heap) (L : Addr) : Fx := ⟨A.deeper env, env, g, L, fun _ => none, []⟩
/-- what a call hands back: the flow's value -/
noncomputable def flV : Fl → V
  | .ret v => v
  | _ => .none
noncomputable def Drop (H' H : HH) : Prop := ∀ a o, H' a = some o → H a = some o
theorem Drop.refl (H : HH) : Drop H H := fun _ _ h => h
/-- the end of a def: the value, and of the heap what one wants to keep -/
noncomputable def endK (k : V → HH → Prop) : Fl → MM → HH → Prop := fun f _ H => ∃ H', Drop H' H ∧ k (flV f) H'
theorem Drop.none {H H' : HH} (hd : Drop H' H) {a : Addr} (h : H a = none) : H' a = none := by
  cases q : H' a with
  | none => rfl
  | some o => rw [hd _ _ q] at h; cases h
theorem St.drop {H' : HH} (st : St F m H s) (hd : Drop H' H) : St F m H' s := by
  refine ⟨st.fr, fun hL => ?_, fun x ca hx => ?_, fun a o ha => st.he a o (hd a o ha), fun p hp => ?_⟩
  · obtain ⟨m2, hn, e1, e2, e3⟩ := st.own hL
    exact ⟨m2, hn, e1, e2, hd.none e3⟩
  · obtain ⟨ob, v, e1, e2, e3, e4, e5, e6, e7⟩ := st.ce x ca hx
    exact ⟨ob, v, e1, e2, e3, e4, e5, e6, hd.none e7⟩
  · obtain ⟨y1, y2, y3, r⟩ := st.pr p hp
    exact ⟨y1, y2, hd.none y3, r⟩
theorem con_of_body {fa : Addr} {spec : SpecT} {c : PT Fl} {qual : Str} {name : Str} {params : Arguments} {body : List Stmt} {scope : Scope} {dV kV doc pm cdv ct oc : Value} {an od : Option Addr} {osl : Array (Option Value)}
    (ho : S.K.lookup fa = some ⟨oc, od, .func (fnOf name qual params body scope dV kV doc pm an cdv ct), osl⟩) (hcd : codeIn S.K cdv qual = true)
    (hbody : ∀ A h₀ L mL P, Fok S n ⟨A, envOf qual scope L fa cdv, h₀, L, mL, P⟩ → Ev S ⟨A, envOf qual scope L fa cdv, h₀, L, mL, P⟩ (execs body (envOf qual scope L fa cdv)) erF c)
    (hspec : ∀ vs H k, spec vs H k → vs.length = params.args.length ∧ c (bindM ((params.args.map (·.arg)).zip vs)) H (endK k))
    (hbind : ∀ vs : List Value, vs.length = params.args.length → bindArgs (fnOf name qual params body scope dV kV doc pm an cdv ct) ⟨vs, []⟩ = pure ((params.args.map (·.arg)).zip vs))
    (hloc : (params.args.all fun a => decide (scope.names.lookup a.arg = some .local)) = true)
    (hcell : ∀ x ∈ scope.names, x.2 ≠ .cell) (hco : scope.isCoroutine = false) (hgen : scope.isGenerator = false) (hk : scope.kind = .function) :
    Con S (n + 1) fa spec := by
  intro F hF m H vs k R s st hs hR
  obtain ⟨hlen, hc⟩ := hspec _ _ _ hs
  rw [List.length_map] at hlen
  obtain ⟨mc, g, base, outer, fenv, FG, BG, stay, hsz, hA, gh, gn, hnd, back⟩ := st.enter hF
  have hK := st.kinC hF
  refine codeAny_call_def (fd := fnOf name qual params body scope dV kV doc pm an cdv ct) (body := body) (binds := (params.args.map (·.arg)).zip vs) (by have h1 := hF.room.1; show F.A.depth < 1000; lia) (hK _ _ ho) rfl ?_ (codeRec_of hK hcd) rfl
    (.of_eq (hbind vs hlen)) hcell (fun y hy => ?_) (fun h₁ hns hk₁ => ?_) hco hgen hk
  · obtain ⟨_, fr, _⟩ := st.fr
    exact (Top.nolimit hF.top).keeps fr.keep
  · have hm : y.1 ∈ params.args.map (·.arg) := (List.of_mem_zip hy).1
    obtain ⟨a, ha, e⟩ := List.mem_map.mp hm
    have h1 := of_decide_eq_true (List.all_eq_true.mp hloc a ha)
    rw [← e]
    exact h1
  · have hF' : Fok S n (frameX F.A (envOf qual scope s.heap.objs.size fa cdv) g s.heap.objs.size) := by
      refine ⟨⟨F.A, base, fenv :: outer, envOf qual scope s.heap.objs.size fa cdv, BG, Around.frames_deeper hA, rfl, hk⟩, hF.kin.keeps stay, hF.top.keeps stay, hnd, ?_, hk, rfl, rfl, (fun x y ca hx => nomatch hx), fun x ca hx => nomatch hx⟩
      · have h1 := hF.room
        exact ⟨by have := h1.1; show F.A.depth + 1 + 4 * n ≤ 900; lia, by have := h1.2; show F.A.units + 3 + 40 * n ≤ 9000; lia⟩
    have st' : St (frameX F.A (envOf qual scope s.heap.objs.size fa cdv) g s.heap.objs.size) (bindM ((params.args.map (·.arg)).zip (vs.map er))) H { s with heap := h₁, toks := s.toks + ((params.args.map (·.arg)).zip vs).length } := by
      refine ⟨⟨_, ⟨hns, fun b o e => hk₁ b o (gh b o e), Nat.le_of_eq hsz⟩, fun _ x _ => ?_, fun hne => absurd rfl hne⟩, fun hne => absurd rfl hne, fun x ca hx => (nomatch hx), fun a o ha => ?_, fun p hp => (nomatch hp)⟩
      · show (List.lookup x _).map er = List.lookup x _
        rw [lookup_er, List.map_reverse]
        congr 2
        rw [List.zip_map_right]
        rfl
      · obtain ⟨ob, e1, e2, e3, e4⟩ := st.he a o ha
        exact ⟨ob, hk₁ a ob e1, e2, Nat.ne_of_lt (Heap.lt_size e1), gn a o ha⟩
    refine (hbody _ _ _ _ _ hF').use st' hc fun f m' H' s' st'' sm h => ?_
    obtain ⟨H₂, hd, hk₂⟩ := h
    have st₃ := st''.drop hd
    obtain ⟨h₂, t₂, rfl⟩ := sm
    obtain ⟨mc', fr', _⟩ := st''.fr
    refine hR _ H₂ _ ?_ (back h₂ t₂ H₂ fr'.keep fun a o ha => ?_) ⟨h₂, t₂, rfl⟩
    · cases f <;> exact hk₂
    · obtain ⟨ob, e1, e2, _, e4⟩ := st₃.he a o ha
      exact ⟨ob, e1, e2, e4⟩
end
end Mine
end
section
open PySem PySem.W PySem.Calls PySem.Spec PyProof.Rows
set_option maxRecDepth 100000
set_option linter.unusedVariables false
namespace Mine
section
variable {S : Sy} {F : Fx} {n : Nat} {pos xp : Pos} {x : Str} {e a : Expr} {rest : List Expr} {c : PT V} {cs : PT (List V)}
/-! ## lists of arguments -/
noncomputable def EvL (S : Sy) (F : Fx) (es : List Expr) (pos : Pos) (cs : PT (List V)) : Prop := Ev S F (spliced (backTo pos (starEach es F.env))) (List.map er) cs
theorem evl_nil : EvL S F [] pos (PT.pure []) := fun m H k s E st h => spliced_none ⟨m, H, st, .refl _, h⟩
theorem evl_cons (h1 : Ev S F (eval e F.env) er c) (h2 : EvL S F rest pos cs) (he : starEach (e :: rest) F.env = (false, eval e F.env) :: starEach rest F.env := by rfl) :
    EvL S F (e :: rest) pos (c.bind fun v => cs.bind fun vs => PT.pure (v :: vs)) := fun m H k s E st h =>
  spliced_more (h1.use st h fun v m1 H1 s1 st1 sm1 k1 => h2.use st1 k1 fun vs m2 H2 s2 st2 sm2 k2 => ⟨m2, H2, st2, sm1.trans sm2, k2⟩) he
noncomputable def PT.spec (sp : SpecT) (vs : List V) : PT V := fun m H k => sp vs H fun r H' => k r m H'
theorem ev_ofCon {fa : Addr} {sp : SpecT} (hF : Fok S n F) (hc : Con S n fa sp) (vs : List Value) : Ev S F (call (.ref fa) vs []) er (PT.spec sp (vs.map er)) := fun m H k s E st h =>
  wpAny_call (hc F hF.toC m H vs _ _ s st h fun v H' s' hk st' sm => ⟨m, H', st', sm, hk⟩)
theorem ev_callDef {k : Nat} {fa : Addr} {sp : SpecT} (hF : Fok S n F) (hk : F.env.scope.names.lookup x = some .globalImplicit) (hg : nsIn S.K mainGlobals x = some (some (.ref fa))) (hkp : keepIn S.K (.ref fa) = true)
    (hc : Con S k fa sp) (hkn : k ≤ n) (hargs : EvL S F (a :: rest) pos cs) (hd : (x == ("__debug__" : Str)) = false := by decide)
    (he : starEach (a :: rest) F.env = (false, eval a F.env) :: starEach rest F.env := by rfl) (hplain : (backTo pos (starEach rest F.env)).any (·.1) = false := by rfl) :
    Ev S F (eval (.Call (.Name x xp) (a :: rest) [] pos) F.env) er (cs.bind (PT.spec sp)) := fun m H k' s E st h =>
  Call_ ((ev_global hF hk hg hd).use (P := fun v m1 H1 => v = er (.ref fa) ∧ m1 = m ∧ H1 = H) st ⟨rfl, rfl, rfl⟩ fun v m1 H1 s1 st1 sm1 ⟨e1, e2, e3⟩ => by
    subst e2 e3
    obtain rfl := er_ref e1
    exact callWith_K hF.kin hkp (hargs.use st1 h fun vs m2 H2 s2 st2 sm2 h2 => ⟨st2.kin hF, (ev_ofCon (hF.mono hkn) hc vs).use st2 h2 fun v m3 H3 s3 st3 sm3 h3 => ⟨m3, H3, st3, (sm1.trans sm2).trans sm3, h3⟩⟩) he hplain) (by rfl)
theorem ev_builtinName (hF : Fok S n F) {v : Value} (hk : F.env.scope.names.lookup x = some .globalImplicit) (hg : nsIn S.K mainGlobals x = some none) (hv : bootBuiltins x = some v) (hn : x ≠ "__name__" := by decide) (hd : (x == ("__debug__" : Str)) = false := by decide)
    {m : MM} {H : HH} {s : Shared} {Q : Value → Shared → Prop} {E : Value → Shared → Prop} (st : St F m H s) (h : Q v s) : wpAny S.M F.A (eval (.Name x xp) F.env) Q E s := by
  obtain ⟨mc, fr, _⟩ := st.fr
  have T := topRead_of hF.top
  refine Name_function_global hF.kind hk (loadGlobal_builtin (env := F.env) (mg := S.mg) (mb := S.mb) ?_ (mg_none_of hF.kin T.g hg) ?_ ((T.builtins x hn).trans hv) h) hd
  · rw [hF.glob]; exact T.g.keeps fr.keep
  · rw [hF.bi]; exact T.b.keeps fr.keep
/-- a builtin's meaning on any arguments -/
noncomputable def Bi (S : Sy) (F : Fx) (f : Value) (b : List V → PT V) : Prop := ∀ vs, Ev S F (call f vs []) er (b (vs.map er))
theorem ev_callB {id : String} {b : List V → PT V} (hF : Fok S n F) (hk : F.env.scope.names.lookup x = some .globalImplicit) (hg : nsIn S.K mainGlobals x = some none) (hv : bootBuiltins x = some (.builtin id))
    (hb : Bi S F (.builtin id) b) (hargs : EvL S F (a :: rest) pos cs) (hn : x ≠ "__name__" := by decide) (hd : (x == ("__debug__" : Str)) = false := by decide)
    (he : starEach (a :: rest) F.env = (false, eval a F.env) :: starEach rest F.env := by rfl) (hplain : (backTo pos (starEach rest F.env)).any (·.1) = false := by rfl) :
    Ev S F (eval (.Call (.Name x xp) (a :: rest) [] pos) F.env) er (cs.bind b) := fun m H k' s E st h =>
  Call_ (ev_builtinName hF hk hg hv hn hd st (callWith_method1 (first := []) (hargs.use st h fun vs m2 H2 s2 st2 sm2 h2 => (hb vs).use st2 h2 fun v m3 H3 s3 st3 sm3 h3 => ⟨m3, H3, st3, sm2.trans sm3, h3⟩) he hplain)) (by rfl)
theorem ev_callT {T : String} {b : List V → PT V} (hF : Fok S n F) (hk : F.env.scope.names.lookup x = some .globalImplicit) (hg : nsIn S.K mainGlobals x = some none) (hv : bootBuiltins x = some (.type T))
    (hb : Bi S F (.type T) b) (hargs : EvL S F (a :: rest) pos cs) (hn : x ≠ "__name__" := by decide) (hd : (x == ("__debug__" : Str)) = false := by decide)
    (he : starEach (a :: rest) F.env = (false, eval a F.env) :: starEach rest F.env := by rfl) (hplain : (backTo pos (starEach rest F.env)).any (·.1) = false := by rfl) :
    Ev S F (eval (.Call (.Name x xp) (a :: rest) [] pos) F.env) er (cs.bind b) := fun m H k' s E st h =>
  Call_ (ev_builtinName hF hk hg hv hn hd st (PySem.Pv.callWith_type1 (hargs.use st h fun vs m2 H2 s2 st2 sm2 h2 => (hb vs).use st2 h2 fun v m3 H3 s3 st3 sm3 h3 => ⟨m3, H3, st3, sm2.trans sm3, h3⟩) he hplain)) (by rfl)
noncomputable def lenPT (vs : List V) : PT V := fun m H k => match vs with
  | [.ref a] => ∃ xs, H a = some (.list xs) ∧ xs.length ≤ 1000000 ∧ k (.int xs.length) m H
  | _ => False
theorem map1 {vs : List Value} {v : V} (h : vs.map er = [v]) : ∃ u, vs = [u] ∧ er u = v := by
  obtain ⟨u, r, rfl, e, h⟩ := List.map_eq_cons_iff.mp h
  exact ⟨u, congrArg _ (List.map_eq_nil_iff.mp h), e⟩
theorem map2 {vs : List Value} {v w : V} (h : vs.map er = [v, w]) : ∃ u z, vs = [u, z] ∧ er u = v ∧ er z = w := by
  obtain ⟨u, r, rfl, e, h⟩ := List.map_eq_cons_iff.mp h
  obtain ⟨z, rfl, e2⟩ := map1 h
  exact ⟨u, z, rfl, e, e2⟩
theorem bi_len : Bi S F (.builtin "len") lenPT := by
  intro vs m H k s E st h
  unfold lenPT at h
  split at h
  case _ e =>
    obtain ⟨u, rfl, e1⟩ := map1 e
    obtain rfl := er_ref e1
    obtain ⟨xs, ha, hl, hk⟩ := h
    obtain ⟨its, ei, li⟩ := st.list ha
    have hsz : its.size = xs.length := by rw [← ei]; simp
    refine len_list li (by lia) ⟨m, H, st.toks _, ⟨s.heap, _, rfl⟩, ?_⟩
    rw [hsz]; exact hk
  case _ => exact h.elim
/-! ## items -/
noncomputable def subPT (o i : V) : PT V := fun m H k => match o, i with
  | .ref a, .int j => ∃ xs v, H a = some (.list xs) ∧ j < 2 ^ 62 ∧ -(2 ^ 62) ≤ j ∧ ((0 ≤ j ∧ xs[j.toNat]? = some v) ∨ (j < 0 ∧ -(xs.length : Int) ≤ j ∧ xs[(j + xs.length).toNat]? = some v)) ∧ k v m H
  | _, _ => False
theorem getItem_list {m : MM} {H : HH} {s : Shared} {a : Addr} {xs : List V} {j : Int} {t : Tok} {v : V} {A : Around} {Q E : Value → Shared → Prop} (st : St F m H s) (ha : H a = some (.list xs)) (h1 : j < 2 ^ 62) (h2 : -(2 ^ 62) ≤ j)
    (hv : (0 ≤ j ∧ xs[j.toNat]? = some v) ∨ (j < 0 ∧ -(xs.length : Int) ≤ j ∧ xs[(j + xs.length).toNat]? = some v)) (h : ∀ u, er u = v → Q u s) : wpAny S.M A (getItem (.ref a) (.int j t)) Q E s := by
  obtain ⟨its, ei, li⟩ := st.list ha
  subst ei
  rcases hv with ⟨h0, hv⟩ | ⟨h0, h3, hv⟩
  · rw [List.getElem?_map] at hv
    obtain ⟨u, hu, e⟩ := Option.map_eq_some_iff.mp hv
    exact wpAny_getItem_list li h0 (by lia) (by rw [← Array.getElem?_toList]; exact hu) (h u e)
  · rw [List.getElem?_map] at hv
    obtain ⟨u, hu, e⟩ := Option.map_eq_some_iff.mp hv
    have hl : ((its.toList.map er).length : Int) = its.size := by simp
    rw [hl] at hu h3
    exact wpAny_getItem_list_neg li h0 h3 (by lia) (by rw [← Array.getElem?_toList]; exact hu) (h u e)
theorem ev_sub {o i : Expr} {co ci : PT V} (ho : Ev S F (eval o F.env) er co) (hi : Ev S F (eval i F.env) er ci)
    (hs : ∀ l k u, subscripted i false (.ref l) (.int k u) = operate [.ref l, .int k u] (getItem (.ref l) (.int k u)) := by intro _ _ _; rfl) :
    Ev S F (eval (.Subscript o i pos) F.env) er (co.bind fun a => ci.bind fun j => subPT a j) := fun m H k s E st h =>
  Subscript_ (ho.use st h fun a m1 H1 s1 st1 sm1 h1 => hi.use st1 h1 fun j m2 H2 s2 st2 sm2 h2 => by
    replace h2 : subPT (er a) (er j) m2 H2 k := h2
    unfold subPT at h2
    split at h2
    case _ e1 e2 =>
      obtain rfl := er_ref e1
      obtain ⟨t, rfl⟩ := er_int e2
      obtain ⟨xs, v, ha, b1, b2, hv, hk⟩ := h2
      obtain ⟨its, ei, li⟩ := st2.list ha
      exact tail_any li.typeIs slot_list_getitem.lookup (getItem_list st2 ha b1 b2 hv fun u e => ⟨m2, H2, st2, sm1.trans sm2, by rw [e]; exact hk⟩) (hs _ _ _)
    case _ => exact h2.elim)
/-! ## list methods -/
noncomputable def appendPT (a v : V) : PT V := fun m H k => match a with
  | .ref a => ∃ xs, H a = some (.list xs) ∧ xs.length ≤ 10000 ∧ k .none m (H.set a (.list (xs ++ [v])))
  | _ => False
theorem call_append {m : MM} {H : HH} {s : Shared} {a : Addr} {xs : List V} {v : Value} {A : Around} {Q E : Value → Shared → Prop} (st : St F m H s) (ha : H a = some (.list xs)) (hz : xs.length ≤ 10000)
    (h : ∀ h', St F m (H.set a (.list (xs ++ [er v]))) { s with heap := h' } → Q .none { s with heap := h' }) : wpAny S.M A (call (.builtin "list.append") [.ref a, v]) Q E s := by
  obtain ⟨ob, e1, ⟨its, nn, e2, e3⟩, _⟩ := st.he a _ ha
  subst e2 e3
  refine append_at e1 (fun h' hs ho => h h' (st.sameBut ha hs ho ⟨its.push v, nn + 1, rfl, by simp⟩)) (size_line_le (by simp at hz; lia))
theorem method_list {m : MM} {H : HH} {s : Shared} {a : Addr} {xs : List V} {name : Str} {id : String} {pl : Sem Bool} {A : Around} {Q : Value × List Value → Shared → Prop} {E : Value → Shared → Prop} (st : St F m H s) (ha : H a = some (.list xs))
    (slot : Slot "list" name id) (hty : typeOf (.builtin id) = pure (.type "method_descriptor")) (h : Q (.builtin id, [.ref a]) s) : wpAny S.M A (getMethod (.ref a) name pl) Q E s := by
  obtain ⟨ob, e1, ⟨its, nn, e2, e3⟩, _⟩ := st.he a _ ha
  subst e2
  exact getMethod_builtin ⟨_, e1, rfl⟩ PySem.F.plainAttrs_list slot hty (fun b e => by cases e; exact ⟨_, e1, rfl⟩) h
noncomputable abbrev MethForm (o : Expr) (name : Str) (apos pos : Pos) (args : List Expr) (env : Env) (pl : Sem Bool) : Prop :=
  eval (.Call (.Attribute o name apos) args [] pos) env = (do
      let ov ← eval o env
      standAt apos.atName
      let (f, first) ← holding [ov] (getMethod ov name pl)
      callWith pos f first (backTo pos (starEach args env)) [])
theorem ev_append {o : Expr} {co : PT V} {apos : Pos} {pl : Sem Bool} (ho : Ev S F (eval o F.env) er co) (hargs : Ev S F (eval e F.env) er c)
    (hm : MethForm o (Str.ofString "append") apos pos [e] F.env pl := by rfl)
    (he : starEach (e :: []) F.env = (false, eval e F.env) :: starEach [] F.env := by rfl) :
    Ev S F (eval (.Call (.Attribute o (Str.ofString "append") apos) [e] [] pos) F.env) er (co.bind fun a => (fun m H k => ∃ b xs, a = .ref b ∧ H b = some (.list xs) ∧ c m H fun v m1 H1 => appendPT a v m1 H1 k)) := fun m H k s E st h =>
  MethodCall_ (pl := pl) (ho.use st h fun ov m1 H1 s1 st1 sm1 ⟨b, xs, e1, hb, h1⟩ => by
    obtain rfl := er_ref e1
    refine method_list st1 hb PySem.F.slot_list_append PySem.F.type_list_append ?_
    refine callWith_method1 (spliced_more (hargs.use st1 h1 fun v m2 H2 s2 st2 sm2 h2 => spliced_none ?_) he) he rfl
    unfold appendPT at h2
    obtain ⟨ys, hy, hz, hk⟩ := h2
    exact call_append st2 hy hz fun h' st' => ⟨m2, _, st', (sm1.trans sm2).trans .of, hk⟩) hm
noncomputable def popPT (a : V) : PT V := fun m H k => match a with
  | .ref a => ∃ xs v, H a = some (.list (xs ++ [v])) ∧ xs.length ≤ 10000 ∧ k v m (H.set a (.list xs))
  | _ => False
theorem ev_pop {o : Expr} {co : PT V} {apos : Pos} {pl : Sem Bool} (ho : Ev S F (eval o F.env) er co) (hm : MethForm o (Str.ofString "pop") apos pos [] F.env pl := by rfl) :
    Ev S F (eval (.Call (.Attribute o (Str.ofString "pop") apos) [] [] pos) F.env) er (co.bind popPT) := fun m H k s E st h =>
  MethodCall_ (pl := pl) (ho.use st h fun ov m1 H1 s1 st1 sm1 h1 => by
    unfold popPT at h1
    split at h1
    case _ a e1 =>
      obtain rfl := er_ref e1
      obtain ⟨xs, v, hb, hz, hk⟩ := h1
      refine method_list st1 hb PySem.F.slot_list_pop PySem.F.type_list_pop ?_
      refine callWith_method0 ?_
      obtain ⟨mc, ob, pre, post, fr, e2, ⟨its, nn, e3, e4⟩, N, ha, hb', back⟩ := st1.frameD hb
      subst e3
      have hne : its.toList ≠ [] := by intro q; rw [q] at e4; simp at e4
      have hl : its.toList = its.toList.dropLast ++ [its.toList.getLast hne] := (List.dropLast_concat_getLast hne).symm
      rw [hl, List.map_append, List.map_cons, List.map_nil] at e4
      obtain ⟨x1, x2⟩ := List.append_inj' e4 rfl
      have x3 : er (its.toList.getLast hne) = v := by simpa using x2
      refine kl_pop (p := its.toList.dropLast) (y := its.toList.getLast hne) fr N ?_ (upd_mk hb' ha) ?_ fun h' F' N' => ?_
      · have q := kpa_last (its.toList.getLast hne) its.toList.dropLast
        rw [← hl] at q
        exact q
      · refine size_line_le ?_
        have := congrArg List.length x1
        simp at this
        simp
        lia
      · exact ⟨m1, _, back h' s1.toks _ (.list xs) F' N' ⟨_, _, rfl, by simpa using x1⟩, sm1.trans .of, by rw [x3]; exact hk⟩
    case _ => exact h1.elim) hm
noncomputable def bitlenPT (a : V) : PT V := fun m H k => match a with
  | .int i => k (.int (Builtin.Int.intBits i)) m H
  | _ => False
theorem ev_bitlen {o : Expr} {co : PT V} {apos : Pos} {pl : Sem Bool} (ho : Ev S F (eval o F.env) er co) (hm : MethForm o (Str.ofString "bit_length") apos pos [] F.env pl := by rfl) :
    Ev S F (eval (.Call (.Attribute o (Str.ofString "bit_length") apos) [] [] pos) F.env) er (co.bind bitlenPT) := fun m H k s E st h =>
  MethodCall_ (pl := pl) (ho.use st h fun ov m1 H1 s1 st1 sm1 h1 => by
    unfold bitlenPT at h1
    split at h1
    case _ a e1 =>
      obtain ⟨t, rfl⟩ := er_int e1
      exact getMethod_int_bit_length (callWith_method0 (call_int_bit_length ⟨m1, H1, st1.tok1, sm1.trans .tok1, h1⟩))
    case _ => exact h1.elim) hm
end
end Mine
end
section
open PySem PySem.W PySem.Calls PySem.Spec PyProof.Rows
set_option maxRecDepth 100000
set_option linter.unusedVariables false
namespace Mine
theorem entry_unchain : entryFor table "proto.unchain" = some Builtin.«proto.unchain» := entryFor_of_tree (by kernel_rfl)
section
variable {prog : Program} {w : World} {A : Around} {α : Type} {E : Value → Shared → Prop} {s : Shared} {Q : α → Shared → Prop}
/-- an exception raised while another one is handled: it takes the other as its context -/
theorem raiseNew_ok {h₀ : Heap} {a : Addr} {ob : Obj} {ws : Array Value} (hh : HandOk A h₀) (hk : ∀ b o, h₀.get? b = some o → s.heap.get? b = some o) (h0 : h₀.get? a = none) (ha : s.heap.get? a = some ob) (hd : ob.data = .fields ws) (hw : 2 < ws.size) (hsz : ws.size ≤ 20)
    (h : ∀ h' ob', (∀ b o, b ≠ a → s.heap.get? b = some o → h'.get? b = some o) → h'.get? a = some ob' → ob'.cls = ob.cls → E (.ref a) { s with heap := h' }) :
    wpAny (model prog w) A (raiseNew (.ref a) : Sem α) Q E s := by
  unfold raiseNew
  refine wpAny_bind (wpAny_handled ?_)
  rcases hh with hn | ⟨e, oe, wse, h1, h2, h3, h4⟩
  · rw [hn]
    exact wpAny_bind (wpAny_pure (wpAny_throw (h _ ob (fun _ _ _ x => x) ha rfl)))
  · rw [h1]
    have hne : e ≠ a := by rintro rfl; rw [h0] at h2; cases h2
    show wpAny _ _ (if (Value.ref e != Value.ref a) = true then _ else _) _ _ s
    rw [if_pos (by simpa using hne)]
    refine wpAny_bind (wpAny_holding (wpAny_runValue (codeAny_builtin entry_unchain ?_)))
    show wpAny _ _ (field (.ref e) 2 >>= _) _ _ s
    refine wpAny_bind (wpAny_field (hk _ _ h2) h3 h4 ?_)
    show wpAny _ _ (if (Value.none == Value.none) = true then _ else _) _ _ s
    rw [if_pos (show (Value.none == Value.none) = true from rfl)]
    show wpAny _ _ (ret .none) _ _ s
    refine wpAny_pure ?_
    refine wpAny_bind ?_
    unfold updateField
    refine wpAny_bind (wpAny_load ha ?_)
    rw [hd]
    dsimp only
    rw [if_pos hw]
    refine wpAny_update ha (wpAny_throw ?_)
    have hd' : (ob.mapFields (·.setIfInBounds 2 (.ref e))).data = .fields (ws.setIfInBounds 2 (.ref e)) := Obj.data_mapFields hd _
    refine h _ _ (fun b o hb hbo => ?_) (Heap.get?_update_self _ ha (Obj.isFreed_of_fields hd')) (Obj.cls_mapFields ..)
    rw [Heap.get?_update_ne _ _ _ _ hb]
    exact hbo
end
end Mine
end
section
open PySem PySem.W PySem.Calls PySem.Spec PyProof.Rows
set_option maxRecDepth 100000
set_option linter.unusedVariables false
namespace Mine
/-! ## ends of iterators, also under a handler -/
section
variable {prog : Program} {w : World} {A : Around} {α : Type} {E : Value → Shared → Prop} {s : Shared} {h₀ : Heap}
theorem newStop {Q : α → Shared → Prop} (hh : HandOk A h₀) (hk : ∀ b o, h₀.get? b = some o → s.heap.get? b = some o)
    (h : ∀ h' a ob, (∀ b o, s.heap.get? b = some o → h'.get? b = some o) → s.heap.get? a = none → h'.get? a = some ob → ob.cls = .type "StopIteration" → E (.ref a) { s with heap := h' }) :
    wpAny (model prog w) A (newExc (.type "StopIteration") [] >>= fun e => (raiseNew e : Sem α)) Q E s := by
  refine wpAny_bind ?_
  simp only [newExc, newTuple]
  refine wpAny_bind (wpAny_newObj_type ?_ (by size_fits))
  refine wpAny_bind (m := firstArgMember _ _) (wpAny_of_eq (a := Value.none) (by first | rfl | (simp only [firstArgMember]; rfl)) ?_)
  refine wpAny_newObj_type ?_ (by size_fits)
  have hn : ∀ b o, s.heap.get? b = some o → b ≠ (s.heap.push { cls := .type "tuple", data := .seq ([] : List Value).toArray }).objs.size := fun b o hb e => by
    have := Heap.lt_size hb
    rw [e, Heap.size_push] at this
    exact absurd this (Nat.not_lt.mpr (Nat.le_succ _))
  have hnone : s.heap.get? (s.heap.push { cls := .type "tuple", data := .seq ([] : List Value).toArray }).objs.size = none := by
    cases q : s.heap.get? (s.heap.push { cls := .type "tuple", data := .seq ([] : List Value).toArray }).objs.size with
    | none => rfl
    | some o => exact absurd rfl (hn _ o q)
  refine raiseNew_ok (h₀ := h₀) hh (fun b o hb => Heap.get?_push_of_some _ (Heap.get?_push_of_some _ (hk b o hb))) ?_ (Heap.get?_push_size _ rfl) rfl (by simp [ownMembersOf]) (by simp [ownMembersOf]) fun h' ob' kp hob hc => ?_
  · cases q : h₀.get? (s.heap.push { cls := .type "tuple", data := .seq ([] : List Value).toArray }).objs.size with
    | none => rfl
    | some o => rw [hk _ _ q] at hnone; cases hnone
  · exact h h' _ ob' (fun b o hb => kp b o (hn b o hb) (Heap.get?_push_of_some _ (Heap.get?_push_of_some _ hb))) hnone hob hc
theorem list_end {it l : Addr} {i : Nat} {items} {Q : Option Value → Shared → Prop} (hh : HandOk A h₀) (hk : ∀ b o, h₀.get? b = some o → b ≠ it ∧ s.heap.get? b = some o)
    (hit : s.heap.IsListIter it l i) (hl : s.heap.IsList l items) (hx : items[i]? = none)
    (hQ : ∀ h', Heap.ExtBut it s.heap h' → Q none { s with heap := h' }) : wpAny (model prog w) A (pyNext (.ref it)) Q E s := by
  obtain ⟨o, ho, hc, hd⟩ := id hit
  obtain ⟨ol, hol, _, nl, hdl⟩ := hl
  unfold pyNext
  refine wpAny_bind (wpAny_attempt (wpAny_callSpecial?_slot (name := Str.ofString "__next__") hit.typeIs slot_listiter_next
    (wpAny_call_entry slot_listiter_next hit.typeIs entry_listiter_next ?_ (args_listiter_next _))))
  show wpAny _ _ (field (.ref it) 0 >>= _) _ _ s
  refine wpAny_bind (wpAny_field ho hd (x := .ref l) rfl ?_)
  show wpAny _ _ (if (Value.ref l == Value.none) = true then _ else _) _ _ s
  rw [if_neg (show ¬ ((Value.ref l == Value.none) = true) from Bool.false_ne_true)]
  show wpAny _ _ (field (.ref it) 1 >>= _) _ _ s
  refine wpAny_bind (wpAny_field ho hd (x := .int i 0) rfl ?_)
  show wpAny _ _ (seqItems? (.ref l) >>= _) _ _ s
  refine wpAny_bind (wpAny_seqItems hol hdl ?_)
  simp only [Int.toNat_natCast, hx]
  refine wpAny_bind (wpAny_rule (wpAny_bind (wpAny_setField ho hd (by simp) ?_)))
  show wpAny _ _ (newExc (.type "StopIteration") [] >>= fun e => raiseNew e) _ _ _
  refine newStop (h₀ := h₀) hh (fun b o hb => ?_) fun h' a ob kp _ hob hcl => ?_
  · rw [Heap.get?_update_ne _ _ _ _ (hk b o hb).1]; exact (hk b o hb).2
  · refine wpAny_bind (wpAny_isInstance (T := "StopIteration") (b := true) ⟨_, hob, hcl⟩ isSubtype_stop ?_)
    refine wpAny_pure (hQ _ fun b o hb hbo => kp b o ?_)
    rw [Heap.get?_update_ne _ _ _ _ hb]; exact hbo
theorem tuple_end {it t : Addr} {i : Nat} {items} {Q : Option Value → Shared → Prop} (hh : HandOk A h₀) (hk : ∀ b o, h₀.get? b = some o → b ≠ it ∧ s.heap.get? b = some o)
    (hit : s.heap.IsTupleIter it t i) (ht : s.heap.IsTuple t items) (hx : items[i]? = none)
    (hQ : ∀ h', Heap.ExtBut it s.heap h' → Q none { s with heap := h' }) : wpAny (model prog w) A (pyNext (.ref it)) Q E s := by
  obtain ⟨o, ho, hc, hd⟩ := id hit
  obtain ⟨ol, hol, _, nl, hdl⟩ := ht
  unfold pyNext
  refine wpAny_bind (wpAny_attempt (wpAny_callSpecial?_slot (name := Str.ofString "__next__") hit.typeIs PySem.F.slot_tuple_iterator_next
    (wpAny_call_entry PySem.F.slot_tuple_iterator_next hit.typeIs PySem.F.entry_tuple_iterator_next ?_ (PySem.F.args_tuple_iterator_next_1 _))))
  show wpAny _ _ (field (.ref it) 0 >>= _) _ _ s
  refine wpAny_bind (wpAny_field ho hd (x := .ref t) rfl ?_)
  show wpAny _ _ (if (Value.ref t == Value.none) = true then _ else _) _ _ s
  rw [if_neg (show ¬ ((Value.ref t == Value.none) = true) from Bool.false_ne_true)]
  show wpAny _ _ (field (.ref it) 1 >>= _) _ _ s
  refine wpAny_bind (wpAny_field ho hd (x := .int i 0) rfl ?_)
  show wpAny _ _ (seqItems? (.ref t) >>= _) _ _ s
  refine wpAny_bind (wpAny_seqItems hol hdl ?_)
  simp only [Int.toNat_natCast, hx]
  refine wpAny_bind (wpAny_rule (wpAny_bind (wpAny_setField ho hd (by simp) ?_)))
  show wpAny _ _ (newExc (.type "StopIteration") [] >>= fun e => raiseNew e) _ _ _
  refine newStop (h₀ := h₀) hh (fun b o hb => ?_) fun h' a ob kp _ hob hcl => ?_
  · rw [Heap.get?_update_ne _ _ _ _ (hk b o hb).1]; exact (hk b o hb).2
  · refine wpAny_bind (wpAny_isInstance (T := "StopIteration") (b := true) ⟨_, hob, hcl⟩ isSubtype_stop ?_)
    refine wpAny_pure (hQ _ fun b o hb hbo => kp b o ?_)
    rw [Heap.get?_update_ne _ _ _ _ hb]; exact hbo
theorem range_end {it : Addr} {x left step : Int} {Q : Option Value → Shared → Prop} (hh : HandOk A h₀) (hk : ∀ b o, h₀.get? b = some o → s.heap.get? b = some o) (hit : IsRangeIter s.heap it x left step) (hleft : left ≤ 0)
    (hQ : ∀ h', Heap.ExtBut it s.heap h' → Q none { s with heap := h' }) : wpAny (model prog w) A (pyNext (.ref it)) Q E s := by
  have hT : s.TypeIs (.ref it) "range_iterator" := ⟨_, hit, rfl⟩
  unfold pyNext
  refine wpAny_bind (wpAny_attempt (wpAny_callSpecial?_slot (name := Str.ofString "__next__") hT PySem.F.slot_range_iterator_next
    (wpAny_call_entry PySem.F.slot_range_iterator_next hT PySem.F.entry_range_iterator_next ?_ (PySem.F.args_range_iterator_next_1 _))))
  show wpAny _ _ (field (.ref it) 0 >>= _) _ _ s
  refine wpAny_bind (wpAny_field hit rfl (x := rawInt x) rfl ?_)
  show wpAny _ _ (field (.ref it) 1 >>= _) _ _ s
  refine wpAny_bind (wpAny_field hit rfl (x := rawInt left) rfl ?_)
  show wpAny _ _ (field (.ref it) 2 >>= _) _ _ s
  refine wpAny_bind (wpAny_field hit rfl (x := rawInt step) rfl ?_)
  show wpAny _ _ (if left ≤ 0 then _ else _) _ _ s
  rw [if_pos hleft]
  refine wpAny_bind (wpAny_rule ?_)
  refine wpAny_bind ?_
  show wpAny _ _ (newExc (.type "StopIteration") [] >>= fun e => raiseNew e) _ _ _
  refine newStop (h₀ := h₀) hh hk fun h' a ob kp _ hob hcl => ?_
  refine wpAny_bind (wpAny_isInstance (T := "StopIteration") (b := true) ⟨_, hob, hcl⟩ isSubtype_stop ?_)
  exact wpAny_pure (hQ _ fun b o _ hbo => kp b o hbo)
theorem rev_end {it l : Addr} {Q : Option Value → Shared → Prop} (hh : HandOk A h₀) (hk : ∀ b o, h₀.get? b = some o → s.heap.get? b = some o) (hit : s.heap.IsRevIter it l (-1))
    (hQ : ∀ h', Heap.ExtBut it s.heap h' → Q none { s with heap := h' }) : wpAny (model prog w) A (pyNext (.ref it)) Q E s := by
  obtain ⟨o, ho, hc, hd⟩ := id hit
  unfold pyNext
  refine wpAny_bind (wpAny_attempt (wpAny_callSpecial?_slot (name := Str.ofString "__next__") hit.typeIs F.slot_lri_next
    (wpAny_call_entry F.slot_lri_next hit.typeIs F.entry_lri_next ?_ (F.args_lri_next_1 _))))
  unfold Builtin.«list_reverseiterator.__next__»
  refine wpAny_bind (wpAny_of_eq (a := (Value.ref it, [])) rfl ?_)
  try dsimp only
  refine wpAny_bind (wpAny_field ho hd (x := rawInt (-1)) rfl ?_)
  show wpAny _ _ (if (-1 : Int) < 0 then _ else _) _ _ s
  rw [if_pos (by decide)]
  refine wpAny_bind (wpAny_rule ?_)
  first
  | show wpAny _ _ (newExc (.type "StopIteration") [] >>= fun e => raiseNew e) _ _ _
  | (refine wpAny_bind ?_; show wpAny _ _ (newExc (.type "StopIteration") [] >>= fun e => raiseNew e) _ _ _)
  refine newStop (h₀ := h₀) hh hk fun h' a ob kp _ hob hcl => ?_
  refine wpAny_bind (wpAny_isInstance (T := "StopIteration") (b := true) ⟨_, hob, hcl⟩ isSubtype_stop ?_)
  exact wpAny_pure (hQ _ fun b o _ hbo => kp b o hbo)
end
end Mine
end
section
open PySem PySem.W PySem.Calls PySem.Spec PyProof.Rows
set_option maxRecDepth 100000
set_option linter.unusedVariables false
namespace Mine
noncomputable def Fx.withP (F : Fx) (p : Addr × Obj) : Fx := ⟨F.A, F.env, F.h₀, F.L, F.mL, p :: F.P⟩
theorem Fok.withP {S : Sy} {n : Nat} {F : Fx} (hF : Fok S n F) (p : Addr × Obj) : Fok S n (F.withP p) := ⟨hF.frames, hF.kin, hF.top, hF.hand, hF.room, hF.kind, hF.glob, hF.bi, hF.cinj, hF.ckind⟩
/-- an address that is no part of what a state knows -/
structure Off (F : Fx) (H : HH) (I : Addr) : Prop where
  L : I ≠ F.L
  h : H I = none
  loc : I ≠ F.env.locals
  cell : ∀ x, F.env.cells.lookup x ≠ some I
  p : ∀ p ∈ F.P, p.1 ≠ I
  h0 : F.h₀.get? I = none
section
variable {F : Fx} {m : MM} {H : HH} {s : Shared} {h' : Heap} {tk : Nat} {I : Addr} {ob : Obj}
theorem St.ext (st : St F m H s) (o : Off F H I) (kp : ∀ b ob, b ≠ I → s.heap.get? b = some ob → h'.get? b = some ob) : St F m H { s with heap := h', toks := tk } := by
  obtain ⟨mc, fr, x1, x2⟩ := st.fr
  refine ⟨⟨mc, ⟨?_, fun b ob hb => ?_, fr.above⟩, x1, x2⟩, fun hL => ?_, fun x ca hx => ?_, fun a oa ha => ?_, fun p hp => ?_⟩
  · obtain ⟨oL, es, ep, hL, r⟩ := fr.ns
    exact ⟨oL, es, ep, kp _ _ (Ne.symm o.L) hL, r⟩
  · exact kp _ _ (by rintro rfl; rw [o.h0] at hb; cases hb) (fr.keep b ob hb)
  · obtain ⟨m2, ⟨oc, es, ep, hoc, r⟩, y⟩ := st.own hL
    exact ⟨m2, ⟨oc, es, ep, kp _ _ (Ne.symm o.loc) hoc, r⟩, y⟩
  · obtain ⟨ob, v, y1, y⟩ := st.ce x ca hx
    exact ⟨ob, v, kp _ _ (by rintro rfl; exact o.cell x hx) y1, y⟩
  · obtain ⟨ob, y1, y⟩ := st.he a oa ha
    exact ⟨ob, kp _ _ (by rintro rfl; rw [o.h] at ha; cases ha) y1, y⟩
  · obtain ⟨y1, y⟩ := st.pr p hp
    exact ⟨kp _ _ (o.p p hp) y1, y⟩
theorem St.protect (st : St F m H s) (o : Off F H I) (hI : s.heap.get? I = some ob) : St (F.withP (I, ob)) m H s :=
  ⟨st.fr, st.own, st.ce, st.he, fun p hp => by
    rcases List.mem_cons.mp hp with rfl | hp
    · exact ⟨hI, o.L, o.h, o.loc, o.cell⟩
    · exact st.pr p hp⟩
theorem St.unprotect {p : Addr × Obj} (st : St (F.withP p) m H s) : St F m H s := ⟨st.fr, st.own, st.ce, st.he, fun q hq => st.pr q (.tail _ hq)⟩
theorem St.offOf (st : St F m H s) (hI : s.heap.get? I = none) (hL : I ≠ F.L) (h0 : F.h₀.get? I = none) : Off F H I := by
  obtain ⟨a, b, c, d⟩ := st.fresh hI
  exact ⟨hL, a, c, b, d, h0⟩
theorem St.offNew (st : St F m H s) : Off F H s.heap.objs.size := by
  obtain ⟨mc, fr, _⟩ := st.fr
  refine st.offOf size_none (Nat.ne_of_gt fr.ns.lt) ?_
  cases q : F.h₀.get? s.heap.objs.size with
  | none => rfl
  | some o => exact absurd (Heap.lt_size (fr.keep _ _ q)) (Nat.lt_irrefl _)
theorem Off.of {H' : HH} (o : Off F H I) (st : St (F.withP (I, ob)) m H' s) : Off F H' I := ⟨o.L, (st.pr (I, ob) (.head _)).2.2.1, o.loc, o.cell, o.p, o.h0⟩
theorem St.keep0 (st : St F m H s) : ∀ b o, F.h₀.get? b = some o → s.heap.get? b = some o := by
  obtain ⟨mc, fr, _⟩ := st.fr
  exact fr.keep
end
/-- how an iterator at I hands out its items -/
structure Iter (S : Sy) (F : Fx) (I : Addr) (items : List V) (g : HH → Prop) (W : Nat → Obj → Prop) : Prop where
  item : ∀ i m H s ob v Q E, St F m H s → Off F H I → s.heap.get? I = some ob → W i ob → g H → items[i]? = some v →
    (∀ u h' tk ob', er u = v → h'.get? I = some ob' → W (i + 1) ob' → (∀ b o, b ≠ I → s.heap.get? b = some o → h'.get? b = some o) → Q (some u) { s with heap := h', toks := tk }) → wpAny S.M F.A (pyNext (.ref I)) Q E s
  done : ∀ m H s ob Q E, St F m H s → Off F H I → s.heap.get? I = some ob → W items.length ob → g H →
    (∀ h' tk, (∀ b o, b ≠ I → s.heap.get? b = some o → h'.get? b = some o) → Q none { s with heap := h', toks := tk }) → wpAny S.M F.A (pyNext (.ref I)) Q E s
inductive ForInv (F : Fx) (s₀ : Shared) (I : Addr) (W : Nat → Obj → Prop) (N : Nat) (G : Nat → MM → HH → Prop) (j : Nat) (s' : Shared) : Prop
  | mk (i : Nat) (m' : MM) (H' : HH) (ob' : Obj) (st : St F m' H' s') (off : Off F H' I) (hI : s'.heap.get? I = some ob') (hW : W i ob') (sm : Same s₀ s') (hi : i ≤ N) (hj : j = N - i) (hg : G i m' H') : ForInv F s₀ I W N G j s'
inductive EnumInv (F : Fx) (s₀ : Shared) (e it l : Addr) (N : Nat) (G : Nat → MM → HH → Prop) (j : Nat) (s' : Shared) : Prop
  | mk (i : Nat) (m' : MM) (H' : HH) (old : Value) (st : St F m' H' s') (oe : Off F H' e) (oi : Off F H' it) (he : IsEnum s'.heap e it ((i : Nat) : Int) old) (hit : s'.heap.IsListIter it l i) (sm : Same s₀ s') (hi : i ≤ N) (hj : j = N - i) (hg : G i m' H') : EnumInv F s₀ e it l N G j s'
inductive AccInv (M : MM → Prop) (G : List V → MM → HH → Prop) (i : Nat) (m' : MM) (H' : HH) : Prop
  | mk (acc : List V) (hm : M m') (ha : acc.length ≤ i) (hg : G acc m' H') : AccInv M G i m' H'
noncomputable def forGo (g : HH → Prop) (b : V → PT Fl) : List V → PT Fl
  | [] => fun m H k => g H ∧ k .next m H
  | v :: r => fun m H k => g H ∧ b v m H fun f m' H' => match f with
    | .next | .cont => forGo g b r m' H' k
    | .brk => k .next m' H'
    | .ret u => k (.ret u) m' H'
section
variable {S : Sy} {F : Fx} {n : Nat} {x : Str} {xp pos : Pos} {body : List Stmt} {b : PT Fl} {I : Addr} {items : List V} {g : HH → Prop} {W : Nat → Obj → Prop}
theorem for_core {k : Fl → MM → HH → Prop} {s s₀ : Shared} {m : MM} {H : HH} {ob : Obj} {E : Value → Shared → Prop} (hF : Fok S n F) (it : Iter S F I items g W) (hst : ∀ p, Stores S (F.withP p) x) (hb : ∀ p, Ev S (F.withP p) (execs body F.env) erF b)
    (st : St F m H s) (off : Off F H I) (hI : s.heap.get? I = some ob) (hW : W 0 ob) (sm : Same s₀ s) (h : forGo g (fun v => (PT.setv x v).bind fun _ => b) items m H k) :
    codeAny S.M F.A (.forLoop (.Name x xp) (.ref I) body [] F.env) (fun r s' => match r with | .ok f => EvQ F erF s₀ k f s' | .error e => cameBackBy S.M F.A F.env E e s') s := by
  refine codeAny_forLoop (ForInv F s₀ I W items.length fun i m' H' => forGo g (fun v => (PT.setv x v).bind fun _ => b) (items.drop i) m' H' k) ?_ items.length
    ⟨0, m, H, ob, st, off, hI, hW, sm, Nat.zero_le _, rfl, h⟩
  rintro j s' ⟨i, m', H', ob', st', off', hI', hW', sm', hi, rfl, hg⟩
  rcases Nat.lt_or_ge i items.length with hlt | hge
  · have e : items.drop i = items[i] :: items.drop (i + 1) := List.drop_eq_getElem_cons hlt
    rw [e] at hg
    obtain ⟨hgH, hgo⟩ := hg
    refine it.item i m' H' s' ob' _ _ _ st' off' hI' hW' hgH (List.getElem?_eq_getElem hlt) fun u h₁ tk ob₁ hu hI₁ hW₁ kp => ?_
    have st₁ : St (F.withP (I, ob₁)) m' H' { s' with heap := h₁, toks := tk } := (st'.ext off' kp).protect off' hI₁
    rw [← hu] at hgo
    refine wpAny_assign_Name ((hst (I, ob₁) u).use (P := fun _ m₂ H₂ => b m₂ H₂ fun f m'' H'' => match f with
        | .next | .cont => forGo g (fun v => (PT.setv x v).bind fun _ => b) (items.drop (i + 1)) m'' H'' k
        | .brk => k .next m'' H''
        | .ret u => k (.ret u) m'' H'') st₁ hgo fun _ m₂ H₂ s₂ st₂ sm₂ h₂ => ?_)
    · refine (hb (I, ob₁)).use st₂ h₂ fun f m₃ H₃ s₃ st₃ sm₃ h₃ => ?_
      have smA : Same s₀ s₃ := ((sm'.trans .of).trans sm₂).trans sm₃
      cases f with
      | next => exact ⟨items.length - (i + 1), by omega, i + 1, m₃, H₃, ob₁, st₃.unprotect, off'.of st₃, (st₃.pr (I, ob₁) (.head _)).1, hW₁, smA, hlt, rfl, h₃⟩
      | cont => exact ⟨items.length - (i + 1), by omega, i + 1, m₃, H₃, ob₁, st₃.unprotect, off'.of st₃, (st₃.pr (I, ob₁) (.head _)).1, hW₁, smA, hlt, rfl, h₃⟩
      | brk => exact ⟨m₃, H₃, st₃.unprotect, smA, h₃⟩
      | ret v => exact ⟨m₃, H₃, st₃.unprotect, smA, h₃⟩
  · have e : items.drop i = [] := List.drop_eq_nil_of_le hge
    rw [e] at hg
    have hii : i = items.length := Nat.le_antisymm hi hge
    subst hii
    refine it.done m' H' s' ob' _ _ st' off' hI' hW' hg.1 fun h₁ tk kp => wpAny_execs_nil ?_
    exact ⟨m', H', st'.ext off' kp, sm'.trans .of, hg.2⟩
/-! ### lists -/
theorem iter_list (hF : Fok S n F) {a : Addr} {xs : List V} (hne : a ≠ I) : Iter S F I xs (fun H => H a = some (.list xs)) (fun i ob => ob.cls = .type "list_iterator" ∧ ob.data = .fields #[.ref a, .int i 0]) where
  item := fun i m H s ob v Q E st off hI hW hg hv hQ => by
    obtain ⟨its, ei, li⟩ := st.list hg
    subst ei
    rw [List.getElem?_map] at hv
    obtain ⟨u, hu, e⟩ := Option.map_eq_some_iff.mp hv
    rw [Array.getElem?_toList] at hu
    refine wpAny_pyNext_list_item ⟨ob, hI, hW.1, hW.2⟩ li hu fun h' hit hs => ?_
    obtain ⟨ob', x1, x2, x3⟩ := hit
    exact hQ u h' s.toks ob' e x1 ⟨x2, x3⟩ fun b o hb hbo => (hs.2 b hb).trans hbo
  done := fun m H s ob Q E st off hI hW hg hQ => by
    obtain ⟨its, ei, li⟩ := st.list hg
    refine list_end hF.hand (fun b o hb => ⟨(by rintro rfl; rw [off.h0] at hb; cases hb), st.keep0 b o hb⟩) ⟨ob, hI, hW.1, hW.2⟩ li ?_ fun h' he => hQ h' s.toks he
    rw [← ei]
    simp
noncomputable def forListPT (x : Str) (b : PT Fl) (v : V) : PT Fl := fun m H k => match v with
  | .ref a => ∃ xs, H a = some (.list xs) ∧ forGo (fun H => H a = some (.list xs)) (fun v => (PT.setv x v).bind fun _ => b) xs m H k
  | _ => False
theorem ex_forList {e : Expr} {c : PT V} (hF : Fok S n F) (hst : ∀ p, Stores S (F.withP p) x) (he : Ev S F (eval e F.env) er c) (hb : ∀ p, Ev S (F.withP p) (execs body F.env) erF b)
    (hs : ∀ x, foldedSetIterable e F.env x = pure x := by intro _; rfl) : Ev S F (exec (.For (.Name x xp) e body [] pos) F.env) erF (c.bind (forListPT x b)) := fun m H k s E st h =>
  wpAny_For (he.use st h fun v m1 H1 s1 st1 sm1 h1 => by
    unfold forListPT at h1
    split at h1
    case _ a e1 =>
      obtain rfl := er_ref e1
      obtain ⟨xs, ha, hgo⟩ := h1
      obtain ⟨its, ei, li⟩ := st1.list ha
      refine wpAny_pyIter_list li ?_
      have off := st1.offNew
      have st2 : St F m1 H1 { s1 with heap := s1.heap.push { cls := .type "list_iterator", data := .fields #[.ref a, .int 0 0] } } := st1.ext (tk := s1.toks) off fun b o _ hb => Heap.get?_push_of_some _ hb
      have hne : a ≠ s1.heap.objs.size := by
        obtain ⟨o, ho, _⟩ := li
        exact Nat.ne_of_lt (Heap.lt_size ho)
      exact for_core hF (iter_list hF hne) hst hb st2 off (Heap.get?_push_size _ rfl) ⟨rfl, rfl⟩ (sm1.trans .of) hgo
    case _ => exact h1.elim) hs
/-! ### ranges -/
noncomputable def rangeVs (a : Int) (c : Int) (n : Nat) : List V := (List.range n).map fun i : Nat => V.int (a + i * c)
theorem iter_range (hF : Fok S n F) (a c : Int) (N : Nat) : Iter S F I (rangeVs a c N) (fun _ => True) (fun i ob => ob = { cls := .type "range_iterator", dict := none, data := .fields #[rawInt (a + i * c), rawInt ((N : Int) - i), rawInt c], slots := #[] }) where
  item := fun i m H s ob v Q E st off hI hW hg hv hQ => by
    subst hW
    have hlt : i < N := by
      have := (List.getElem?_eq_some_iff.mp hv).1
      simpa [rangeVs] using this
    have ev : v = V.int (a + i * c) := by
      unfold rangeVs at hv
      simp [hlt] at hv
      exact hv.symm
    refine wpAny_pyNext_range_item hI (by omega) fun h' hit hs => ?_
    refine hQ _ h' _ _ ev.symm hit ?_ fun b o hb hbo => (hs.2 b hb).trans hbo
    have e1 : a + ((i + 1 : Nat) : Int) * c = a + (i : Int) * c + c := by push_cast; rw [Int.add_mul, Int.one_mul, Int.add_assoc]
    have e2 : (N : Int) - ((i + 1 : Nat) : Int) = (N : Int) - (i : Int) - 1 := by push_cast; omega
    rw [e1, e2]
  done := fun m H s ob Q E st off hI hW hg hQ => by
    subst hW
    have el : (rangeVs a c N).length = N := by simp [rangeVs]
    exact range_end hF.hand st.keep0 hI (by rw [el]; omega) fun h' he => hQ h' s.toks he
end
end Mine
end
section
open PySem PySem.W PySem.Calls PySem.Spec PyProof.Rows
set_option maxRecDepth 100000
set_option linter.unusedVariables false
namespace Mine
theorem map3 {vs : List Value} {v w z : V} (h : vs.map er = [v, w, z]) : ∃ a b c, vs = [a, b, c] ∧ er a = v ∧ er b = w ∧ er c = z := by
  obtain ⟨u, r, rfl, e, h⟩ := List.map_eq_cons_iff.mp h
  obtain ⟨b, c, rfl, e2, e3⟩ := map2 h
  exact ⟨u, b, c, rfl, e, e2, e3⟩
noncomputable def okI (i : Int) : Prop := -(2 ^ 40) ≤ i ∧ i ≤ 2 ^ 40
noncomputable def forRangePT (x : Str) (b : PT Fl) (args : List V) : PT Fl := fun m H k => match args with
  | [.int e] => okI e ∧ forGo (fun _ => True) (fun v => (PT.setv x v).bind fun _ => b) (rangeVs 0 1 e.toNat) m H k
  | [.int a, .int e] => okI a ∧ okI e ∧ forGo (fun _ => True) (fun v => (PT.setv x v).bind fun _ => b) (rangeVs a 1 (e - a).toNat) m H k
  | [.int a, .int e, .int c] => c = -1 ∧ okI a ∧ okI e ∧ forGo (fun _ => True) (fun v => (PT.setv x v).bind fun _ => b) (rangeVs a (-1) (a - e).toNat) m H k
  | _ => False
section
variable {S : Sy} {F : Fx} {n : Nat} {x y : Str} {xp yp pos cp : Pos} {body : List Stmt} {b : PT Fl} {a : Expr} {rest : List Expr} {cs : PT (List V)}
theorem range_go {k : Fl → MM → HH → Prop} {s s₀ : Shared} {m : MM} {H : HH} {E : Value → Shared → Prop} {u v c : Int} {t1 t2 t3 : Tok} {N tk : Nat} (hF : Fok S n F) (hst : ∀ p, Stores S (F.withP p) x) (hb : ∀ p, Ev S (F.withP p) (execs body F.env) erF b)
    (st : St F m H s) (sm : Same s₀ s) (hsm : Builtin.Range.small u v c = true) (hN : Builtin.Range.rangeSize u v c = (N : Int))
    (h : forGo (fun _ => True) (fun v => (PT.setv x v).bind fun _ => b) (rangeVs u c N) m H k) :
    wpAny S.M F.A (pyIter (.ref s.heap.objs.size)) (fun it s₂ => codeAny S.M F.A (.forLoop (.Name x xp) it body [] F.env) (fun r s' => match r with | .ok f => EvQ F erF s₀ k f s' | .error e => cameBackBy S.M F.A F.env E e s') s₂) E
      { s with heap := s.heap.push { cls := .type "range", data := .fields #[.int u t1, .int v t2, .int c t3] }, toks := tk } := by
  refine wpAny_pyIter_range (IsRange.new ..) hsm ?_
  have st1 : St F m H { s with heap := s.heap.push { cls := .type "range", data := .fields #[.int u t1, .int v t2, .int c t3] }, toks := tk } := st.ext st.offNew fun b o _ hb => Heap.get?_push_of_some _ hb
  have off := st1.offNew
  have st2 := st1.ext (h' := (s.heap.push { cls := .type "range", data := .fields #[.int u t1, .int v t2, .int c t3] }).push { cls := .type "range_iterator", data := .fields #[rawInt u, rawInt (Builtin.Range.rangeSize u v c), rawInt c] }) (tk := tk) off fun b o _ hb => Heap.get?_push_of_some _ hb
  refine for_core hF (iter_range hF u c N) hst hb st2 off (Heap.get?_push_size _ rfl) ?_ (sm.trans ⟨_, _, rfl⟩) h
  rw [hN]
  simp
theorem ex_forRange (hF : Fok S n F) (hst : ∀ p, Stores S (F.withP p) x) (hk : F.env.scope.names.lookup y = some .globalImplicit) (hg : nsIn S.K mainGlobals y = some none) (hv : bootBuiltins y = some (.type "range"))
    (hargs : EvL S F (a :: rest) cp cs) (hb : ∀ p, Ev S (F.withP p) (execs body F.env) erF b)
    (hn : y ≠ "__name__" := by decide) (hd : (y == ("__debug__" : Str)) = false := by decide)
    (he : starEach (a :: rest) F.env = (false, eval a F.env) :: starEach rest F.env := by rfl) (hplain : (backTo cp (starEach rest F.env)).any (·.1) = false := by rfl)
    (hs : ∀ x, foldedSetIterable (.Call (.Name y yp) (a :: rest) [] cp) F.env x = pure x := by intro _; rfl) :
    Ev S F (exec (.For (.Name x xp) (.Call (.Name y yp) (a :: rest) [] cp) body [] pos) F.env) erF (cs.bind (forRangePT x b)) := fun m H k s E st h =>
  wpAny_For (Call_ (ev_builtinName hF hk hg hv hn hd st (PySem.Pv.callWith_type1 (hargs.use st h fun vs m1 H1 s1 st1 sm1 h1 => by
    unfold forRangePT at h1
    split at h1
    case _ e e1 =>
      obtain ⟨w, rfl, q1⟩ := map1 e1
      obtain ⟨t, rfl⟩ := er_int q1
      obtain ⟨⟨b1, b2⟩, h1⟩ := h1
      exact call_range_1 (range_go hF hst hb st1 sm1 (small_one (by lia) (by lia) (by lia) (by lia)) (by rw [rangeSize_nat]; simp) h1)
    case _ u e e1 =>
      obtain ⟨w, z, rfl, q1, q2⟩ := map2 e1
      obtain ⟨t, rfl⟩ := er_int q1
      obtain ⟨t, rfl⟩ := er_int q2
      obtain ⟨⟨b1, b2⟩, ⟨b3, b4⟩, h1⟩ := h1
      exact call_range_2 (range_go hF hst hb st1 sm1 (small_one (by lia) (by lia) (by lia) (by lia)) (rangeSize_nat _ _) h1)
    case _ u e c e1 =>
      obtain ⟨w, z, q, rfl, q1, q2, q3⟩ := map3 e1
      obtain ⟨t, rfl⟩ := er_int q1
      obtain ⟨t, rfl⟩ := er_int q2
      obtain ⟨t, rfl⟩ := er_int q3
      obtain ⟨rfl, ⟨b1, b2⟩, ⟨b3, b4⟩, h1⟩ := h1
      exact call_range_3 (by decide) (range_go (tk := s1.toks) hF hst hb st1 sm1 (small_down (by lia) (by lia) (by lia) (by lia)) (rangeSize_downNat _ _) h1) (.inl (PyProof.noPylong_small (by decide)))
    case _ => exact h1.elim) he hplain)) (by rfl)) hs
/-! ### reversed -/
theorem iter_rev {I : Addr} (hF : Fok S n F) {l : Addr} {xs : List V} (hne : l ≠ I) : Iter S F I xs.reverse (fun H => H l = some (.list xs)) (fun i ob => ob.cls = .type "list_reverseiterator" ∧ ob.data = .fields #[.ref l, rawInt ((xs.length : Int) - 1 - i)]) where
  item := fun i m H s ob v Q E st off hI hW hg hv hQ => by
    obtain ⟨its, ei, li⟩ := st.list hg
    subst ei
    have hlt : i < its.size := by
      have := (List.getElem?_eq_some_iff.mp hv).1
      simpa using this
    have hlen : (its.toList.map er).length = its.size := by simp
    rw [List.getElem?_reverse (by simpa using hlt), hlen, List.getElem?_map] at hv
    obtain ⟨u, hu, e⟩ := Option.map_eq_some_iff.mp hv
    rw [Array.getElem?_toList] at hu
    have e1 : (((its.toList.map er).length : Int) - 1 - (i : Int)) = ((its.size - 1 - i : Nat) : Int) := by rw [hlen]; lia
    rw [e1] at hW
    refine wpAny_pyNext_rev_item (i := its.size - 1 - i) ⟨ob, hI, hW.1, hW.2⟩ li hu fun h' hit hs => ?_
    obtain ⟨ob', x1, x2, x3⟩ := hit
    have e2 : ((its.size - 1 - i : Nat) : Int) - 1 = (((its.toList.map er).length : Int) - 1 - ((i + 1 : Nat) : Int)) := by rw [hlen]; lia
    rw [e2] at x3
    exact hQ u h' s.toks ob' e x1 ⟨x2, x3⟩ fun b o hb hbo => (hs.2 b hb).trans hbo
  done := fun m H s ob Q E st off hI hW hg hQ => by
    have e1 : ((xs.length : Int) - 1 - (xs.reverse.length : Int)) = -1 := by rw [List.length_reverse]; lia
    rw [e1] at hW
    exact rev_end hF.hand st.keep0 ⟨ob, hI, hW.1, hW.2⟩ fun h' he => hQ h' s.toks he
noncomputable def forRevPT (x : Str) (b : PT Fl) (args : List V) : PT Fl := fun m H k => match args with
  | [.ref a] => ∃ xs, H a = some (.list xs) ∧ forGo (fun H => H a = some (.list xs)) (fun v => (PT.setv x v).bind fun _ => b) xs.reverse m H k
  | _ => False
theorem ex_forRev (hF : Fok S n F) (hst : ∀ p, Stores S (F.withP p) x) (hk : F.env.scope.names.lookup y = some .globalImplicit) (hg : nsIn S.K mainGlobals y = some none) (hv : bootBuiltins y = some (.type "reversed"))
    (hargs : EvL S F (a :: rest) cp cs) (hb : ∀ p, Ev S (F.withP p) (execs body F.env) erF b)
    (hn : y ≠ "__name__" := by decide) (hd : (y == ("__debug__" : Str)) = false := by decide)
    (he : starEach (a :: rest) F.env = (false, eval a F.env) :: starEach rest F.env := by rfl) (hplain : (backTo cp (starEach rest F.env)).any (·.1) = false := by rfl)
    (hs : ∀ x, foldedSetIterable (.Call (.Name y yp) (a :: rest) [] cp) F.env x = pure x := by intro _; rfl) :
    Ev S F (exec (.For (.Name x xp) (.Call (.Name y yp) (a :: rest) [] cp) body [] pos) F.env) erF (cs.bind (forRevPT x b)) := fun m H k s E st h =>
  wpAny_For (Call_ (ev_builtinName hF hk hg hv hn hd st (PySem.Pv.callWith_type1 (hargs.use st h fun vs m1 H1 s1 st1 sm1 h1 => by
    unfold forRevPT at h1
    split at h1
    case _ l e1 =>
      obtain ⟨w, rfl, q1⟩ := map1 e1
      obtain rfl := er_ref q1
      obtain ⟨xs, hl, h1⟩ := h1
      obtain ⟨its, ei, li⟩ := st1.list hl
      refine call_reversed_list li ?_
      have off := st1.offNew
      have st2 : St F m1 H1 { s1 with heap := s1.heap.push (revObj l ((its.size : Int) - 1)) } := st1.ext (tk := s1.toks) off fun b o _ hb => Heap.get?_push_of_some _ hb
      have hne : l ≠ s1.heap.objs.size := by
        obtain ⟨o, ho, _⟩ := li
        exact Nat.ne_of_lt (Heap.lt_size ho)
      have hlen : (its.size : Int) = xs.length := by rw [← ei]; simp
      refine wpAny_pyIter_revIter (l := l) (i := (its.size : Int) - 1) ⟨_, Heap.get?_push_size _ rfl, rfl, rfl⟩ ?_
      refine for_core hF (iter_rev hF hne) hst hb st2 off (Heap.get?_push_size _ rfl) ⟨rfl, ?_⟩ (sm1.trans .of) h1
      rw [hlen]
      simp [revObj]
    case _ => exact h1.elim) he hplain)) (by rfl)) hs
end
end Mine
end
section
open PySem PySem.W PySem.Calls PySem.Spec PyProof.Rows
set_option maxRecDepth 100000
set_option linter.unusedVariables false
namespace Mine
section
variable {S : Sy} {F : Fx} {n : Nat} {x : Str} {xp pos cp tpos : Pos} {e o i : Expr} {c co ci : PT V} {es : List Expr} {cs : PT (List V)} {kk : Nat}
/-! ## displays -/
theorem ev_tuple (h : EvL S F es pos cs) : Ev S F (eval (.Tuple es kk pos) F.env) er (cs.bind PT.newTup) := fun m H k s E st hk =>
  Tuple_ (h.use st hk fun vs m1 H1 s1 st1 sm1 h1 => ev_newTup.use st1 h1 fun v m2 H2 s2 st2 sm2 h2 => ⟨m2, H2, st2, sm1.trans sm2, h2⟩)
theorem ev_list (h : EvL S F es pos cs) : Ev S F (eval (.List es pos) F.env) er (cs.bind PT.newList) := fun m H k s E st hk =>
  List_ (h.use st hk fun vs m1 H1 s1 st1 sm1 h1 => ev_newList.use st1 h1 fun v m2 H2 s2 st2 sm2 h2 => ⟨m2, H2, st2, sm1.trans sm2, h2⟩)
/-! ## unpacking -/
noncomputable def unpackPT (v : V) (N : Nat) : PT (List V) := fun m H k => match v with
  | .ref t => ∃ xs, H t = some (.tup xs) ∧ xs.length = N ∧ k xs m H
  | _ => False
theorem ev_unpack (hF : Fok S n F) (v : Value) (N : Nat) : Ev S F (unpackItems v N none) (List.map er) (unpackPT (er v) N) := by
  intro m H k s E st h
  unfold unpackPT at h
  split at h
  case _ t e1 =>
    obtain rfl := er_ref e1
    obtain ⟨xs, ht, hN, hk⟩ := h
    obtain ⟨items, ei, it⟩ := st.tup ht
    have hNs : N = items.size := by rw [← hN, ← ei]; simp
    have hlt : t ≠ s.heap.objs.size := by obtain ⟨o, ho, _⟩ := it; exact Nat.ne_of_lt (Heap.lt_size ho)
    have off := st.offNew
    unfold unpackItems
    refine wpAny_bind ?_
    unfold notIterableAtAll
    refine wpAny_bind (wpAny_specialOf it.typeIs slot_tuple_iter.lookup ?_)
    refine wpAny_pure ?_
    simp only [Bool.false_eq_true, if_false]
    refine wpAny_bind (wpAny_holding (iter_tuple it ?_))
    refine wpAny_bind (wpAny_holding (draw_tuple hlt N 0 _ _ ⟨_, Heap.get?_push_size _ rfl, rfl, rfl⟩ (it.push _) (by lia) fun h₁ hit₁ hs₁ => ?_))
    have hall : List.take N (List.drop 0 items.toList) = items.toList := by
      rw [List.drop_zero]; exact List.take_of_length_le (by simp [hNs])
    rw [hall]
    rw [if_neg (by simp [hNs])]
    have ht₁ : IsTup h₁ t items := (it.push _).extBut hs₁.extBut hlt
    have kp1 : ∀ b o, b ≠ s.heap.objs.size → s.heap.get? b = some o → h₁.get? b = some o := fun b o hb e => hs₁.extBut b o hb (Heap.get?_push_of_some _ e)
    have st1 : St F m H { s with heap := h₁ } := st.ext (tk := s.toks) off kp1
    refine wpAny_bind (wpAny_holding (tuple_end (h₀ := F.h₀) hF.hand (fun b o hb => ⟨?_, ?_⟩) hit₁ ht₁ (by simp [hNs]) fun h₂ he₂ => ?_))
    · rintro rfl; rw [off.h0] at hb; cases hb
    · exact st1.keep0 b o hb
    · simp only [Option.isSome_none, Bool.false_eq_true, if_false]
      refine wpAny_pure ⟨m, H, st.ext (h' := h₂) (tk := s.toks) off fun b o hb e => he₂ b o hb (kp1 b o hb e), .of, ?_⟩
      show k (items.toList.map er) m H
      rw [ei]; exact hk
  case _ => exact h.elim
/-! ## targets -/
noncomputable def As (S : Sy) (F : Fx) (t : Value → Sem Unit) (c : V → PT Unit) : Prop := ∀ v, Ev S F (t v) id (c (er v))
theorem as_name (hst : Stores S F x) : As S F (fun v => assign (.Name x xp) F.env v) (PT.setv x) := fun v m H k s E st h => wpAny_assign_Name (hst v m H k s E st h)
theorem as_bind (hst : Stores S F x) : As S F (fun v => bindName F.env x v) (PT.setv x) := fun v m H k s E st h => wpAny_bindName (hst v m H k s E st h)
noncomputable def setItemPT (o i v : V) : PT Unit := fun m H k => match o, i with
  | .ref a, .int j => ∃ xs, H a = some (.list xs) ∧ 0 ≤ j ∧ j < xs.length ∧ xs.length ≤ 1000000 ∧ k () m (H.set a (.list (xs.set j.toNat v)))
  | _, _ => False
theorem ev_setItem (o i v : Value) : Ev S F (setItem o i v) id (setItemPT (er o) (er i) (er v)) := by
  intro m H k s E st h
  unfold setItemPT at h
  split at h
  case _ a j e1 e2 =>
    obtain rfl := er_ref e1
    obtain ⟨t, rfl⟩ := er_int e2
    obtain ⟨xs, ha, h0, h1, h2, hk⟩ := h
    obtain ⟨ob, y1, ⟨its, nn, y2, y3⟩, y4, y5⟩ := st.he a _ ha
    subst y2
    have hlen : xs.length = its.size := by rw [← y3]; simp
    refine ki_setAt y1 h0 (by lia) (by lia) ?_
    refine ⟨m, _, st.sameBut (tk := s.toks) (o' := .list (xs.set j.toNat (er v))) ha (Heap.SameBut.update ..) (Heap.get?_update_self _ y1 (by rfl)) ⟨its.setIfInBounds j.toNat v, _, rfl, ?_⟩, .of, hk⟩
    rw [← y3]
    simp
  case _ => exact h.elim
theorem as_sub (ho : Ev S F (eval o F.env) er co) (hi : Ev S F (eval i F.env) er ci) :
    As S F (fun v => assign (.Subscript o i pos) F.env v) (fun v => co.bind fun a => ci.bind fun j => setItemPT a j v) := fun v m H k s E st h => by
  show wpAny _ _ (assign (.Subscript o i pos) F.env v) _ _ _
  rw [assign_Subscript]
  exact wpAny_bind (wpAny_holding (ho.use st h fun a m1 H1 s1 st1 sm1 h1 => wpAny_bind (wpAny_holding (hi.use st1 h1 fun j m2 H2 s2 st2 sm2 h2 => wpAny_bind (wpAny_standAt (wpAny_bind (wpAny_holding
    ((ev_setItem a j v).use st2 h2 fun _ m3 H3 s3 st3 sm3 h3 => wpAny_release' ⟨m3, H3, st3, (sm1.trans sm2).trans sm3, h3⟩))))))))
theorem ex_assignSub (ho : Ev S F (eval o F.env) er co) (hi : Ev S F (eval i F.env) er ci) (he : Ev S F (eval e F.env) er c) (hs : swapsWith e (some (.Subscript o i tpos)) pos.line F.env = pure false := by rfl) :
    Ev S F (exec (.Assign [.Subscript o i tpos] e pos) F.env) erF (c.bind fun v => co.bind fun a => ci.bind fun j => (setItemPT a j v).bind fun _ => PT.pure .next) := fun m H k s E st h =>
  wpAny_Assign_Subscript (he.use st h fun v m0 H0 s0 st0 sm0 h0 => ho.use st0 h0 fun a m1 H1 s1 st1 sm1 h1 => hi.use st1 h1 fun j m2 H2 s2 st2 sm2 h2 =>
    (ev_setItem a j v).use st2 h2 fun _ m3 H3 s3 st3 sm3 h3 => ⟨m3, H3, st3, ((sm0.trans sm1).trans sm2).trans sm3, h3⟩) hs
/-! ## assignment to several targets -/
noncomputable def PT.assignL : List (V → PT Unit) → List V → PT Unit
  | c :: cs, v :: vs => (c v).bind fun _ => PT.assignL cs vs
  | _, _ => PT.pure ()
inductive AsL (S : Sy) (F : Fx) : List (Value → Sem Unit) → List (V → PT Unit) → Prop
  | nil : AsL S F [] []
  | cons {t c ts cs} : As S F t c → AsL S F ts cs → AsL S F (t :: ts) (c :: cs)
theorem ev_assignL {ts : List (Value → Sem Unit)} {cs : List (V → PT Unit)} (h : AsL S F ts cs) : ∀ vs : List Value, Ev S F (assignInOrder ts vs) id (PT.assignL cs (vs.map er)) := by
  induction h with
  | nil =>
    intro vs m H k s E st hk
    exact wpAny_pure ⟨m, H, st, .refl _, hk⟩
  | @cons t c ts cs h1 h2 ih =>
    intro vs m H k s E st hk
    cases vs with
    | nil => exact wpAny_pure ⟨m, H, st, .refl _, hk⟩
    | cons v vs =>
      show wpAny _ _ (do holding vs (t v); assignInOrder ts vs) _ _ _
      exact wpAny_bind (wpAny_holding ((h1 v).use st hk fun _ m1 H1 s1 st1 sm1 k1 => (ih vs).use st1 k1 fun _ m2 H2 s2 st2 sm2 k2 => ⟨m2, H2, st2, sm1.trans sm2, k2⟩))
theorem ex_assignTup {ts : List Expr} {cts : List (V → PT Unit)} (hF : Fok S n F) (he : Ev S F (eval e F.env) er c) (hts : AsL S F ((assignEach ts F.env).map (·.2)) cts)
    (hstar : (assignEach ts F.env).findIdx? (·.1) = none := by rfl)
    (hs : swapsWithSole [.Tuple ts kk tpos] e pos.line F.env = pure false := by rfl) (hw : swappedStores [.Tuple ts kk tpos] e F.env = pure none := by rfl) :
    Ev S F (exec (.Assign [.Tuple ts kk tpos] e pos) F.env) erF (c.bind fun v => (unpackPT v (assignEach ts F.env).length).bind fun vs => (PT.assignL cts vs).bind fun _ => PT.pure .next) := fun m H k s E st h =>
  Assign_Tuple (he.use st h fun v m1 H1 s1 st1 sm1 h1 => by
    have e1 : assign (.Tuple ts kk tpos) F.env v = (do standAt tpos; unpack v (assignEach ts F.env)) := rfl
    rw [e1]
    refine wpAny_bind (wpAny_standAt ?_)
    unfold unpack
    rw [hstar]
    exact wpAny_bind (wpAny_holding ((ev_unpack hF v _).use st1 h1 fun vs m2 H2 s2 st2 sm2 h2 => (ev_assignL hts vs).use st2 h2 fun _ m3 H3 s3 st3 sm3 h3 => ⟨m3, H3, st3, (sm1.trans sm2).trans sm3, h3⟩))) hs hw
theorem ex_assignSwap {ts : List Expr} {names : List Str} {cts : List (V → PT Unit)} (hF : Fok S n F) (he : Ev S F (eval e F.env) er c) (hts : AsL S F (names.reverse.map fun n => bindName F.env n) cts)
    (hs : swapsWithSole [.Tuple ts kk tpos] e pos.line F.env = pure false := by rfl) (hw : swappedStores [.Tuple ts kk tpos] e F.env = pure (some names) := by rfl) :
    Ev S F (exec (.Assign [.Tuple ts kk tpos] e pos) F.env) erF (c.bind fun v => (unpackPT v names.length).bind fun vs => (PT.assignL cts vs.reverse).bind fun _ => PT.pure .next) := fun m H k s E st h =>
  Assign_Tuple_swapped (he.use st h fun v m1 H1 s1 st1 sm1 h1 => (ev_unpack hF v _).use st1 h1 fun vs m2 H2 s2 st2 sm2 h2 => by
    have h2' : (PT.assignL cts (vs.map er).reverse).bind (fun _ => PT.pure .next) m2 H2 k := h2
    rw [← List.map_reverse] at h2'
    exact (ev_assignL hts vs.reverse).use st2 h2' fun _ m3 H3 s3 st3 sm3 h3 => ⟨m3, H3, st3, (sm1.trans sm2).trans sm3, h3⟩) hs hw
/-- `o[i] op= e` -/
theorem ex_augSub {op : Operator} (ho : Ev S F (eval o F.env) er co) (hi : Ev S F (eval i F.env) er ci) (he : Ev S F (eval e F.env) er c)
    (hax : ∀ {Q : Flow → Shared → Prop} {E : Value → Shared → Prop} {s : Shared}, wpAny S.M F.A (eval o F.env) (fun ov s₁ => wpAny S.M F.A (eval i F.env) (fun iv s₂ => wpAny S.M F.A (getItem ov iv) (fun old s₃ =>
      wpAny S.M F.A (eval e F.env) (fun v s₄ => wpAny S.M F.A (inplaceOp op old v) (fun new s₅ => wpAny S.M F.A (setItem ov iv new) (fun _ => Q .next) E s₅) E s₄) E s₃) E s₂) E s₁) E s → wpAny S.M F.A (exec (.AugAssign (.Subscript o i tpos) op e pos) F.env) Q E s) :
    Ev S F (exec (.AugAssign (.Subscript o i tpos) op e pos) F.env) erF (co.bind fun a => ci.bind fun j => (subPT a j).bind fun old => c.bind fun v => (iopPT op old v).bind fun new => (setItemPT a j new).bind fun _ => PT.pure .next) := fun m H k s E st h =>
  hax (ho.use st h fun a m1 H1 s1 st1 sm1 h1 => hi.use st1 h1 fun j m2 H2 s2 st2 sm2 h2 => by
    replace h2 : subPT (er a) (er j) m2 H2 _ := h2
    unfold subPT at h2
    split at h2
    case _ e1 e2 =>
      have q1 := er_ref e1
      obtain ⟨t, q2⟩ := er_int e2
      obtain ⟨xs, v, ha, b1, b2, hv, hk⟩ := h2
      have hk' : ((c.bind fun v' => (iopPT op v v').bind fun new => (setItemPT (er a) (er j) new).bind fun _ => PT.pure .next) m2 H2 k) := hk
      subst q1 q2
      exact getItem_list st2 ha b1 b2 hv fun u eu => he.use st2 hk' fun w m3 H3 s3 st3 sm3 h3 => by
        rw [← eu] at h3
        exact (ev_iop op u w).use st3 h3 fun nw m4 H4 s4 st4 sm4 h4 => (ev_setItem _ _ nw).use st4 h4 fun _ m5 H5 s5 st5 sm5 h5 => ⟨m5, H5, st5, ((((sm1.trans sm2).trans sm3).trans sm4).trans sm5), h5⟩
    case _ => exact h2.elim)
end
end Mine
end
section
open PySem PySem.W PySem.Calls PySem.Spec PyProof.Rows
set_option maxRecDepth 100000
set_option linter.unusedVariables false
namespace Mine
theorem pick_take (its : Array Value) {y : Int} (h : 0 ≤ y) : slicePick its none (some y) none = (its.toList.take y.toNat).toArray := by
  have e : sliceBounds none (some y) none its.size = (((0 : Nat) : Int), ((min y.toNat its.size : Nat) : Int), 1) := by
    simp only [sliceBounds, Option.getD_none, show (1 : Int) > 0 by decide, if_true, if_neg (show ¬ (y < 0) by omega)]
    congr 1
    congr 1
    omega
  rw [kmk_pick_nat _ e]
  simp only [List.drop_zero, Nat.sub_zero]
  have := kmk_take_min its.toList y.toNat
  rw [Array.length_toList] at this
  rw [this]
theorem pick_drop (its : Array Value) {x : Int} (h : 0 ≤ x) : slicePick its (some x) none none = (its.toList.drop x.toNat).toArray := by
  have e : sliceBounds (some x) none none its.size = (((min x.toNat its.size : Nat) : Int), ((its.size : Nat) : Int), 1) := by
    simp only [sliceBounds, Option.getD_none, show (1 : Int) > 0 by decide, if_true, if_neg (show ¬ (x < 0) by omega)]
    congr 1
    omega
  rw [kmk_pick_nat _ e]
  have := kmk_drop_min its.toList x.toNat
  rw [Array.length_toList] at this
  rw [this, List.take_of_length_le (by rw [List.length_drop, Array.length_toList]; omega)]
theorem pick_all (its : Array Value) : slicePick its none none none = its := by
  have e : sliceBounds none none none its.size = (((0 : Nat) : Int), ((its.size : Nat) : Int), 1) := by
    simp only [sliceBounds, Option.getD_none, show (1 : Int) > 0 by decide, if_true]
    rfl
  rw [kmk_pick_nat _ e]
  simp only [List.drop_zero, Nat.sub_zero]
  rw [List.take_of_length_le (by simp)]
section
variable {S : Sy} {F : Fx} {n : Nat} {x : Str} {xp pos sp : Pos} {e o : Expr} {lo up sep : Option Expr} {c co cl cu cs : PT V}
noncomputable def EvO (S : Sy) (F : Fx) (e : Option Expr) (c : PT V) : Prop := Ev S F (evalPart e F.env) er c
theorem evo_none : EvO S F none (PT.pure .none) := fun m H k s E st h => wpAny_pure ⟨m, H, st, .refl _, h⟩
theorem evo_some (h : Ev S F (eval e F.env) er c) : EvO S F (some e) c := h
noncomputable def sliceVs (xs : List V) (l u s : V) : Option (List V) := match l, u, s with
  | .none, .none, .none => some xs
  | .none, .int y, .none => if 0 ≤ y then some (xs.take y.toNat) else none
  | .int y, .none, .none => if 0 ≤ y then some (xs.drop y.toNat) else none
  | .none, .none, .int y => if y = -1 then some xs.reverse else none
  | _, _, _ => none
noncomputable def slicePT (a l u s : V) : PT V := fun m H k => match a with
  | .ref a => ∃ xs ys, H a = some (.list xs) ∧ sliceVs xs l u s = some ys ∧ xs.length ≤ 10000 ∧ (PT.newList ys) m H k
  | _ => False
theorem ev_slice (ho : Ev S F (eval o F.env) er co) (hl : EvO S F lo cl) (hu : EvO S F up cu) (hs : EvO S F sep cs)
    (hsub : ∀ l k, subscripted (.Slice lo up sep sp) false (.ref l) (.ref k) = operate (match sep with | none => [.ref k, .ref l] | some _ => [.ref l, .ref k]) (getItem (.ref l) (.ref k)) := by intro _ _; rfl) :
    Ev S F (eval (.Subscript o (.Slice lo up sep sp) pos) F.env) er (co.bind fun a => cl.bind fun l => cu.bind fun u => cs.bind fun t => slicePT a l u t) := fun m H k s E st h =>
  Subscript_ (ho.use st h fun a m1 H1 s1 st1 sm1 h1 => wpAny_Slice (hl.use st1 h1 fun l m2 H2 s2 st2 sm2 h2 => hu.use st2 h2 fun u m3 H3 s3 st3 sm3 h3 => hs.use st3 h3 fun t m4 H4 s4 st4 sm4 h4 => by
    replace h4 : slicePT (er a) (er l) (er u) (er t) m4 H4 k := h4
    unfold slicePT at h4
    split at h4
    case _ b e1 =>
      obtain rfl := er_ref e1
      obtain ⟨xs, ys, hb, hsl, hz, hz2, hk⟩ := h4
      obtain ⟨its, ei, li⟩ := st4.list hb
      subst ei
      have hzs : its.size ≤ 10000 := by simpa using hz
      have fin : ∀ lo' hi' st' zs, IsPart l lo' → IsPart u hi' → IsPart t st' → st' ≠ some 0 → slicePick its lo' hi' st' = List.toArray zs → zs.map er = ys →
          wpAny S.M F.A (subscriptTail o (.Slice lo up sep sp) (.ref b) (.ref s4.heap.objs.size)) (EvQ F er s k) E { s4 with heap := s4.heap.push { cls := .type "slice", data := .fields #[l, u, t] } } := by
        intro lo' hi' st' zs p1 p2 p3 h0 hp hzs'
        have l2 : ({ s4 with heap := s4.heap.push { cls := .type "slice", data := .fields #[l, u, t] } } : Shared).heap.IsList b its := li.push _
        refine tail_any l2.typeIs slot_list_getitem.lookup (wpAny_getItem_list_slice l2 (Heap.IsSliceOf.new ..) p1 p2 p3 h0 ?_ (size_line_le (by omega))) (hsub _ _)
        have st5 : St F m4 H4 { s4 with heap := s4.heap.push { cls := .type "slice", data := .fields #[l, u, t] } } := st4.ext (tk := s4.toks) st4.offNew fun b o _ hb => Heap.get?_push_of_some _ hb
        have off := st5.offNew
        have st6 := st5.ext (h' := (s4.heap.push { cls := .type "slice", data := .fields #[l, u, t] }).push { cls := .type "list", data := .seq (slicePick its lo' hi' st') }) (tk := s4.toks) off fun b o _ hb => Heap.get?_push_of_some _ hb
        refine ⟨m4, H4.set _ (.list ys), st6.know (Heap.get?_push_size _ rfl) ⟨_, 0, rfl, ?_⟩ off.L off.h0 off.cell off.loc off.p, (((sm1.trans sm2).trans sm3).trans sm4).trans .of, hk _ off.h⟩
        rw [hp, ← hzs']
      unfold sliceVs at hsl
      split at hsl
      case _ a1 a2 a3 =>
        obtain rfl := er_none a1; obtain rfl := er_none a2; obtain rfl := er_none a3
        exact fin none none none its.toList .none .none .none (by simp) (by rw [pick_all]) (by simpa using hsl)
      case _ y a1 a2 a3 =>
        obtain rfl := er_none a1; obtain ⟨_, rfl⟩ := er_int a2; obtain rfl := er_none a3
        split at hsl
        case isTrue hy => exact fin none (some y) none (its.toList.take y.toNat) .none (.int _ _) .none (by simp) (pick_take _ hy) (by simpa [List.map_take] using hsl)
        case isFalse => cases hsl
      case _ y a1 a2 a3 =>
        obtain ⟨_, rfl⟩ := er_int a1; obtain rfl := er_none a2; obtain rfl := er_none a3
        split at hsl
        case isTrue hy => exact fin (some y) none none (its.toList.drop y.toNat) (.int _ _) .none .none (by simp) (pick_drop _ hy) (by simpa [List.map_drop] using hsl)
        case isFalse => cases hsl
      case _ y a1 a2 a3 =>
        obtain rfl := er_none a1; obtain rfl := er_none a2; obtain ⟨_, rfl⟩ := er_int a3
        split at hsl
        case isTrue hy => subst hy; exact fin none none (some (-1)) its.toList.reverse .none .none (.int _ _) (by simp) (krv_pick its) (by simpa using hsl)
        case isFalse => cases hsl
      case _ => cases hsl
    case _ => exact h4.elim))
end
end Mine
end
section
open PySem PySem.W PySem.Calls PySem.Spec PyProof.Rows
set_option maxRecDepth 100000
set_option linter.unusedVariables false
namespace Mine
theorem ofString_inj (a b : String) : (Str.ofString a = Str.ofString b) = (a = b) := by
  refine propext ⟨fun h => ?_, fun h => by rw [h]⟩
  rw [Str.ofString_eq_toList, Str.ofString_eq_toList] at h
  have h1 : a.toList.map Char.toNat = b.toList.map Char.toNat := by
    have h2 := congrArg Str.cps h
    have h3 := congrArg Array.toList h2
    simpa using h3
  have inj : ∀ l1 l2 : List Char, l1.map Char.toNat = l2.map Char.toNat → l1 = l2 := by
    intro l1
    induction l1 with
    | nil => intro l2 h; cases l2 with
      | nil => rfl
      | cons c r => simp at h
    | cons c r ih => intro l2 h; cases l2 with
      | nil => simp at h
      | cons d t =>
        simp only [List.map_cons, List.cons.injEq] at h
        have hc : c = d := Char.ext (UInt32.toNat_inj.mp h.1)
        rw [hc, ih t h.2]
  have := inj _ _ h1
  exact String.ext this
noncomputable def setAll (m : MM) : List (Str × V) → MM
  | [] => m
  | p :: r => setAll (m.set p.1 p.2) r
theorem setAll_snoc (p : Str × V) : ∀ (l : List (Str × V)) (m : MM), setAll m (l ++ [p]) = (setAll m l).set p.1 p.2
  | [], m => rfl
  | q :: r, m => setAll_snoc p r _
theorem bindM_setAll (l : List (Str × V)) : bindM l = setAll (fun _ => none) l := by
  have key : ∀ l : List (Str × V), bindM l.reverse = setAll (fun _ => none) l.reverse := by
    intro l
    induction l with
    | nil => rfl
    | cons p r ih =>
      rw [List.reverse_cons, setAll_snoc, ← ih]
      funext x
      unfold bindM MM.set
      rw [List.reverse_append, List.reverse_singleton, List.singleton_append, List.lookup_cons]
      by_cases h : x = p.1
      · simp [h]
      · have e : (x == p.1) = false := by simpa using h
        rw [e, if_neg h]
  have := key l.reverse
  rwa [List.reverse_reverse] at this
theorem set_self (m : MM) (x : Str) (v : V) : m.set x v x = some v := by simp [MM.set]
theorem set_ne (m : MM) (x y : String) (v : V) (h : ¬ y = x) : m.set (Str.ofString x) v (Str.ofString y) = m (Str.ofString y) := by
  unfold MM.set
  rw [if_neg]
  rw [ofString_inj]
  exact h
theorem hset_self (H : HH) (a : Addr) (o : O) : H.set a o a = some o := by simp [HH.set]
theorem hset_ne (H : HH) (a b : Addr) (o : O) (h : ¬ b = a) : H.set a o b = H b := by simp [HH.set, h]
theorem ne_of_fresh {H : HH} {a b : Addr} {o : O} (h : H a = none) (hb : H b = some o) : ¬ b = a := by rintro rfl; rw [h] at hb; cases hb
theorem ne_of_fresh' {H : HH} {a b : Addr} {o : O} (h : H a = none) (hb : H b = some o) : ¬ a = b := fun e => ne_of_fresh h hb e.symm
theorem drop_set {H : HH} {a : Addr} {o : O} (h : H a = none) : Drop H (H.set a o) := fun b ob hb => by
  rw [hset_ne _ _ _ _ (ne_of_fresh h hb)]; exact hb
theorem drop_trans {H1 H2 H3 : HH} (a : Drop H1 H2) (b : Drop H2 H3) : Drop H1 H3 := fun x o h => b x o (a x o h)
theorem drop_both {H H' : HH} {a : Addr} {o : O} (h : Drop H H') : Drop (H.set a o) (H'.set a o) := fun b ob hb => by
  unfold HH.set at *
  by_cases e : b = a
  · rw [if_pos e] at *; exact hb
  · rw [if_neg e] at *; exact h b ob hb
theorem drop_to {H H' : HH} {a : Addr} {o : O} (h : Drop H H') (ha : H' a = some o) : Drop (H.set a o) H' := fun b ob hb => by
  unfold HH.set at hb
  by_cases e : b = a
  · rw [if_pos e] at hb; cases hb; rw [e]; exact ha
  · rw [if_neg e] at hb; exact h b ob hb
end Mine
end
section
open PySem PySem.W PySem.Calls PySem.Spec PyProof.Rows
set_option maxRecDepth 100000
set_option linter.unusedVariables false
namespace Mine
/-! ## instances -/
noncomputable def Ours (C : Addr) : Prop := C = 126 ∨ C = 154 ∨ C = 182
structure AttrOk (K : Frag) (C : Addr) (name : Str) : Prop where
  pg : plainGet K C name = true
  hd : hasDictIn K C = true
  fi : findIn K (.ref C) name = some none
  ss : findIn K (.ref C) "__setattr__" = some (some (.builtin "object.__setattr__"))
  po : plainOver K C = true
  tk : takerIn K C name = some none
noncomputable def AttrsOk (K : Frag) (name : Str) : Prop := ∀ C, Ours C → AttrOk K C name
noncomputable def putA (x : Str) (v : V) : List (Str × V) → List (Str × V)
  | [] => [(x, v)]
  | p :: r => if p.1 = x then (p.1, v) :: r else p :: putA x v r
noncomputable def okV : V → Prop
  | .oth _ => False
  | _ => True
theorem handed_okV {v : Value} (h : okV (er v)) : handedIn v = true := by
  cases v <;> first | rfl | exact h.elim
theorem isStr_iff {tk : Tok} (x y : Str) : (Value.str y tk).isStr x = decide (y = x) := by
  show (y == x) = decide (y = x)
  by_cases h : y = x
  · simp [h]
  · simp [h]
theorem keyed_get {x : Str} {v : V} : ∀ {de : List DictEntry} {es : List (Str × V)}, keyed de es → es.lookup x = some v → ∃ u, getL x de = some (some u) ∧ er u = v
  | [], [], _, h => by cases h
  | e :: r, (y, u) :: t, ⟨⟨tk, hk⟩, hv, hr⟩, h => by
    unfold getL
    rw [List.find?_cons, hk, isStr_iff]
    rw [List.lookup_cons] at h
    by_cases e1 : y = x
    · have e2 : (x == y) = true := by simp [e1]
      rw [e2] at h
      simp only [e1, decide_true]
      exact ⟨e.val, rfl, by rw [hv]; simpa using h⟩
    · have e2 : (x == y) = false := by simp; exact fun q => e1 q.symm
      rw [e2] at h
      simp only [e1, decide_false]
      obtain ⟨w, h1, h2⟩ := keyed_get hr h
      refine ⟨w, ?_, h2⟩
      unfold getL at h1
      revert h1
      cases List.find? (fun e => e.key.isStr x) r with
      | some z => intro h1; simpa using h1
      | none =>
        intro h1
        exfalso
        revert h1
        dsimp only
        split <;> intro h1 <;> cases h1
  | [], _ :: _, h, _ => h.elim
  | _ :: _, [], h, _ => by cases h
theorem keyed_noRef : ∀ {de : List DictEntry} {es : List (Str × V)}, keyed de es → de.any (·.refKey) = false
  | [], [], _ => rfl
  | e :: r, (y, u) :: t, ⟨⟨tk, hk⟩, hv, hr⟩ => by
    rw [List.any_cons, keyed_noRef hr]
    unfold DictEntry.refKey
    rw [hk]
    rfl
  | [], _ :: _, h => h.elim
  | _ :: _, [], h => by cases h
theorem keyed_none {x : Str} : ∀ {de : List DictEntry} {es : List (Str × V)}, keyed de es → es.lookup x = none → getL x de = some none := by
  intro de es h hl
  have key : ∀ {de : List DictEntry} {es : List (Str × V)}, keyed de es → es.lookup x = none → de.find? (·.key.isStr x) = none := by
    intro de
    induction de with
    | nil => intro es _ _; rfl
    | cons e r ih =>
      intro es h hl
      cases es with
      | nil => cases h
      | cons p t =>
        obtain ⟨y, u⟩ := p
        obtain ⟨⟨tk, hk⟩, hv, hr⟩ := h
        rw [List.lookup_cons] at hl
        rw [List.find?_cons, hk, isStr_iff]
        by_cases e1 : y = x
        · have e2 : (x == y) = true := by simp [e1]
          rw [e2] at hl
          cases hl
        · have e2 : (x == y) = false := by simp; exact fun q => e1 q.symm
          rw [e2] at hl
          simp only [e1, decide_false]
          exact ih hr hl
  unfold getL
  rw [key h hl, keyed_noRef h]
  rfl
theorem keyed_put {x : Str} {hsh : Int} {tk : Tok} {u : Value} : ∀ {de : List DictEntry} {es : List (Str × V)}, keyed de es → keyed (putL x hsh (.str x tk) u de) (putA x (er u) es)
  | [], [], _ => ⟨⟨tk, rfl⟩, rfl, trivial⟩
  | e :: r, (y, w) :: t, ⟨⟨tk', hk⟩, hv, hr⟩ => by
    unfold putL putA
    rw [hk, isStr_iff]
    by_cases e1 : y = x
    · simp only [e1, decide_true, if_true]
      exact ⟨⟨tk', by rw [← e1]⟩, rfl, hr⟩
    · simp only [e1, decide_false, if_false]
      exact ⟨⟨tk', hk⟩, hv, keyed_put hr⟩
  | [], _ :: _, h => h.elim
  | _ :: _, [], h => by cases h
theorem keyed_len : ∀ {de : List DictEntry} {es : List (Str × V)}, keyed de es → de.length = es.length
  | [], [], _ => rfl
  | e :: r, (y, w) :: t, ⟨_, _, hr⟩ => by simp [keyed_len hr]
  | [], _ :: _, h => h.elim
  | _ :: _, [], h => by cases h
theorem putA_len (x : Str) (v : V) : ∀ es : List (Str × V), (putA x v es).length ≤ es.length + 1
  | [] => by simp [putA]
  | p :: r => by
    unfold putA
    have := putA_len x v r
    split <;> simp <;> lia
section
variable {S : Sy} {F : Fx} {n : Nat} {m : MM} {H : HH} {s : Shared}
theorem St.inst {x C dx : Addr} {es : List (Str × V)} (st : St F m H s) (hx : H x = some (.inst C dx)) (hd : H dx = some (.dict es)) : ∃ de k, InstAt s.heap x (instObj C dx) C (some (dictOf de k)) ∧ keyed de es ∧ s.heap.get? dx = some (dictOf de k) := by
  obtain ⟨ob, e1, e2, _⟩ := st.he x _ hx
  obtain ⟨od, d1, ⟨de, k, d2, d3⟩, _⟩ := st.he dx _ hd
  have e2' : ob = instObj C dx := e2
  subst e2' d2
  exact ⟨de, k, ⟨e1, rfl, rfl, d1⟩, d3, d1⟩
noncomputable def attrPT (name : Str) (o : V) : PT V := fun m H k => match o with
  | .ref x => ∃ C dx es v, Ours C ∧ H x = some (.inst C dx) ∧ H dx = some (.dict es) ∧ es.lookup name = some v ∧ okV v ∧ k v m H
  | _ => False
theorem ev_getAttr (hF : Fok S n F) {name : Str} {b : Bool} (ha : AttrsOk S.K name) (o : Value) : Ev S F (getAttr o name b) er (attrPT name (er o)) := by
  intro m H k s E st h
  unfold attrPT at h
  split at h
  case _ x e1 =>
    obtain rfl := er_ref e1
    obtain ⟨C, dx, es, v, hC, hx, hd, hl, hv, hk⟩ := h
    obtain ⟨de, kk, I, kd, _⟩ := st.inst hx hd
    obtain ⟨u, g1, g2⟩ := keyed_get kd hl
    obtain ⟨mc, fr, _⟩ := st.fr
    have A := ha C hC
    exact get_own fr hF.kin I A.pg A.hd A.fi rfl g1 (handed_okV (by rw [g2]; exact hv)) ⟨m, H, st.tok1, .tok1, by rw [g2]; exact hk⟩
  case _ => exact h.elim
noncomputable def setAttrPT (name : Str) (o v : V) : PT Unit := fun m H k => match o with
  | .ref x => ∃ C dx es, Ours C ∧ H x = some (.inst C dx) ∧ H dx = some (.dict es) ∧ es.length ≤ 100 ∧ k () m (H.set dx (.dict (putA name v es)))
  | _ => False
theorem ev_setAttr (hF : Fok S n F) {name : Str} (ha : AttrsOk S.K name) (o v : Value) : Ev S F (setAttr o name v) id (setAttrPT name (er o) (er v)) := by
  intro m H k s E st h
  unfold setAttrPT at h
  split at h
  case _ x e1 =>
    obtain rfl := er_ref e1
    obtain ⟨C, dx, es, hC, hx, hd, hz, hk⟩ := h
    obtain ⟨de, kk, I, kd, gd⟩ := st.inst hx hd
    obtain ⟨mc, ob, pre, post, fr, e2, e3, N, h1, h2, back⟩ := st.frameD hd
    rw [gd] at e2
    cases e2
    have A := ha C hC
    have hl : (getL name de).isSome = true := by
      cases q : es.lookup name with
      | none => rw [keyed_none kd q]; rfl
      | some v => obtain ⟨u, g1, _⟩ := keyed_get kd q; rw [g1]; rfl
    have kp := keyed_put (x := name) (hsh := PyData.keyHash S.w.params name) (tk := s.toks + 1) (u := v) kd
    refine set_dict fr hF.kin N I rfl A.ss A.po A.tk A.hd hl rfl (upd_mk h2 h1) ?_ fun h' F' N' => ?_
    · have := putA_len name (er v) es
      have := keyed_len kp
      lia
    · exact ⟨m, _, back h' _ _ (.dict (putA name (er v) es)) F' N' ⟨_, _, rfl, kp⟩, .of, hk⟩
  case _ => exact h.elim
variable {o e : Expr} {c co : PT V} {pos tpos apos : Pos} {name : Str}
theorem ev_attr (hF : Fok S n F) (ha : AttrsOk S.K name) (ho : Ev S F (eval o F.env) er co)
    (he : eval (.Attribute o name pos) F.env = (do
      let v ← eval o F.env
      standAt pos.atName
      let r ← holding [v] (getAttr v name true)
      letTemporaryGo o v r
      pure r) := by with_unfolding_all rfl) : Ev S F (eval (.Attribute o name pos) F.env) er (co.bind (attrPT name)) := fun m H k s E st h =>
  Attribute_any_ (ho.use st h fun v m1 H1 s1 st1 sm1 h1 => (ev_getAttr hF ha v).use st1 h1 fun u m2 H2 s2 st2 sm2 h2 => ⟨m2, H2, st2, sm1.trans sm2, h2⟩) he
theorem ex_assignAttr (hF : Fok S n F) (ha : AttrsOk S.K name) (ho : Ev S F (eval o F.env) er co) (he : Ev S F (eval e F.env) er c) (hs : swapsWith e (some (.Attribute o name tpos)) pos.line F.env = pure false := by rfl) :
    Ev S F (exec (.Assign [.Attribute o name tpos] e pos) F.env) erF (c.bind fun v => co.bind fun a => (setAttrPT name a v).bind fun _ => PT.pure .next) := fun m H k s E st h =>
  plainObj_wpAny_Assign_Attribute (he.use st h fun v m1 H1 s1 st1 sm1 h1 => ho.use st1 h1 fun a m2 H2 s2 st2 sm2 h2 => (ev_setAttr hF ha a v).use st2 h2 fun _ m3 H3 s3 st3 sm3 h3 => ⟨m3, H3, st3, (sm1.trans sm2).trans sm3, h3⟩) hs
theorem ex_augAttr {op : Operator} (hF : Fok S n F) (ha : AttrsOk S.K name) (ho : Ev S F (eval o F.env) er co) (he : Ev S F (eval e F.env) er c) :
    Ev S F (exec (.AugAssign (.Attribute o name tpos) op e pos) F.env) erF (co.bind fun a => (attrPT name a).bind fun old => c.bind fun v => (iopPT op old v).bind fun new => (setAttrPT name a new).bind fun _ => PT.pure .next) := fun m H k s E st h =>
  wpAny_AugAssign_AttributeAny (ho.use st h fun a m1 H1 s1 st1 sm1 h1 => (ev_getAttr hF ha a).use st1 h1 fun old m2 H2 s2 st2 sm2 h2 => he.use st2 h2 fun v m3 H3 s3 st3 sm3 h3 => (ev_iop op old v).use st3 h3 fun new m4 H4 s4 st4 sm4 h4 =>
    (ev_setAttr hF ha a new).use st4 h4 fun _ m5 H5 s5 st5 sm5 h5 => ⟨m5, H5, st5, (((sm1.trans sm2).trans sm3).trans sm4).trans sm5, h5⟩)
/-! ### methods -/
structure MethOk (K : Frag) (C : Addr) (name : Str) (f : Addr) : Prop where
  pg : plainGet K C name = true
  fi : findIn K (.ref C) name = some (some (.ref f))
  fn : isFn K (.ref f) = true
  kp : keepIn K (.ref f) = true
noncomputable def methPT (C : Addr) (name : Str) (sp : SpecT) (a : V) : PT V := fun m H k => ∃ x dx es, a = .ref x ∧ H x = some (.inst C dx) ∧ H dx = some (.dict es) ∧ es.lookup name = none ∧ PT.spec sp [a] m H k
theorem ev_meth0 {C f : Addr} {k : Nat} {sp : SpecT} {pl : Sem Bool} (hF : Fok S n F) (hm : MethOk S.K C name f) (hc : Con S k f sp) (hkn : k ≤ n) (ho : Ev S F (eval o F.env) er co)
    (hmf : MethForm o name apos pos [] F.env pl := by rfl) : Ev S F (eval (.Call (.Attribute o name apos) [] [] pos) F.env) er (co.bind (methPT C name sp)) := fun m H k' s E st h =>
  MethodCall_ (pl := pl) (ho.use st h fun ov m1 H1 s1 st1 sm1 ⟨x, dx, es, e1, hx, hd, hl, h1⟩ => by
    obtain rfl := er_ref e1
    obtain ⟨de, kk, I, kd, _⟩ := st1.inst hx hd
    obtain ⟨mc, fr, _⟩ := st1.fr
    refine method_inst fr hF.kin I hm.pg hm.fi hm.fn (keyed_none kd hl) ?_
    refine callWith_K0 (st1.kin hF) hm.kp ?_
    exact (ev_ofCon (hF.mono hkn) hc [.ref x]).use st1 h1 fun v m2 H2 s2 st2 sm2 h2 => ⟨m2, H2, st2, sm1.trans sm2, h2⟩) hmf
/-- a function held in the object's own dict -/
noncomputable def heldPT (name : Str) (f : Addr) (cs : PT (List V)) (sp : SpecT) (a : V) : PT V := fun m H k => ∃ x C dx es, a = .ref x ∧ Ours C ∧ H x = some (.inst C dx) ∧ H dx = some (.dict es) ∧ es.lookup name = some (.ref f) ∧ (cs.bind (PT.spec sp)) m H k
theorem ev_held {f : Addr} {k : Nat} {sp : SpecT} {pl : Sem Bool} {a : Expr} {rest : List Expr} {cs : PT (List V)} (hF : Fok S n F) (ha : AttrsOk S.K name) (hkp : keepIn S.K (.ref f) = true) (hc : Con S k f sp) (hkn : k ≤ n) (ho : Ev S F (eval o F.env) er co)
    (hargs : EvL S F (a :: rest) pos cs) (hmf : MethForm o name apos pos (a :: rest) F.env pl := by rfl)
    (he : starEach (a :: rest) F.env = (false, eval a F.env) :: starEach rest F.env := by rfl) (hplain : (backTo pos (starEach rest F.env)).any (·.1) = false := by rfl) :
    Ev S F (eval (.Call (.Attribute o name apos) (a :: rest) [] pos) F.env) er (co.bind (heldPT name f cs sp)) := fun m H k' s E st h =>
  MethodCall_ (pl := pl) (ho.use st h fun ov m1 H1 s1 st1 sm1 ⟨x, C, dx, es, e1, hC, hx, hd, hl, h1⟩ => by
    obtain rfl := er_ref e1
    obtain ⟨de, kk, I, kd, _⟩ := st1.inst hx hd
    obtain ⟨mc, fr, _⟩ := st1.fr
    have A := ha C hC
    obtain ⟨u, g1, g2⟩ := keyed_get kd hl
    obtain rfl := er_ref g2
    refine kmu_own fr hF.kin I A.pg A.fi (get_own fr hF.kin I A.pg A.hd A.fi rfl g1 rfl ?_)
    exact callWith_K hF.kin hkp (hargs.use st1.tok1 h1 fun vs m2 H2 s2 st2 sm2 h2 => ⟨st2.kin hF, (ev_ofCon (hF.mono hkn) hc vs).use st2 h2 fun v m3 H3 s3 st3 sm3 h3 => ⟨m3, H3, st3, ((sm1.trans .tok1).trans sm2).trans sm3, h3⟩⟩) he hplain) hmf
/-! ### instances made -/
noncomputable def specMake (C : Addr) (sp : SpecT) : SpecT := fun vs H k => ∀ x dx, H x = none → H dx = none → x ≠ dx → sp (.ref x :: vs) ((H.set dx (.dict [])).set x (.inst C dx)) (fun r H' => r = .none ∧ k (.ref x) H')
theorem con_class {C fI : Addr} {sp : SpecT} (hm : makesIn S.K C = true) (hi : findIn S.K (.ref C) "__init__" = some (some (.ref fI))) (hf : isFn S.K (.ref fI) = true) (hc : Con S n fI sp) : Con S (n + 1) C (specMake C sp) := by
  intro F hF m H vs k R s st h hR
  obtain ⟨mc, fr, nx⟩ := st.frame
  refine make_K fr full_news (st.kinC hF) hm hi (beq_iff_eq.mp hf) fun x dx h' F' N' l1 l2 => ?_
  have nd := N' (dx, emptyDict) (.tail _ (.head _))
  have nx' := N' (x, instObj C dx) (.head _)
  have st1 : St F m H { s with heap := h' } := nx h' s.toks F' fun p hp => N' p (.tail _ (.tail _ hp))
  have hdn := none_of_lt fr l1 nd.2.1 nd.2.2
  have hxn : s.heap.get? x = none := none_of_lt fr (fun p hp => Nat.lt_trans (l1 p hp) l2) nx'.2.1 nx'.2.2
  obtain ⟨d1, d2, d3, d4⟩ := st.fresh hdn
  obtain ⟨x1, x2, x3, x4⟩ := st.fresh hxn
  have hne : x ≠ dx := Nat.ne_of_gt l2
  have st2 := st1.know (o := .dict []) nd.1 ⟨[], 0, rfl, trivial⟩ nd.2.1 nd.2.2 d2 d3 d4
  have st3 := st2.know (o := .inst C dx) nx'.1 rfl nx'.2.1 nx'.2.2 x2 x3 x4
  have hF' : FokC S n ⟨F.A.under (.builtin "type.__call__" ⟨.ref C :: vs, []⟩), F.env, F.h₀, F.L, F.mL, F.P⟩ := by
    refine ⟨hF.frames, hF.kin, hF.top, hF.hand, ⟨?_, ?_⟩⟩
    · have := hF.room.1
      show F.A.depth + 1 + 4 * n ≤ 900
      lia
    · have := hF.room.2
      show F.A.units + 1 + 40 * n ≤ 9000
      lia
  have st4 : St ⟨F.A.under (.builtin "type.__call__" ⟨.ref C :: vs, []⟩), F.env, F.h₀, F.L, F.mL, F.P⟩ m ((H.set dx (.dict [])).set x (.inst C dx)) { s with heap := h' } := ⟨st3.fr, st3.own, st3.ce, st3.he, st3.pr⟩
  refine hc _ hF' m _ (.ref x :: vs) _ _ _ st4 (h x dx x1 d1 hne) fun v H' s' ⟨hv, hk⟩ st5 sm => ?_
  obtain rfl := er_none hv
  exact ⟨rfl, hR _ H' s' hk ⟨st5.fr, st5.own, st5.ce, st5.he, st5.pr⟩ (Same.trans .of sm)⟩
end
end Mine
end
section
open PySem PySem.W PySem.Calls PySem.Spec PyProof.Rows
set_option maxRecDepth 100000
set_option linter.unusedVariables false
namespace Mine
theorem while_ind {t : PT Bool} {b : PT Fl} {k : Fl → MM → HH → Prop} (Inv : Nat → MM → HH → Prop)
    (hstep : ∀ n m H, Inv n m H → ∀ K : Fl → MM → HH → Prop, (∀ m' H' j, j < n → Inv j m' H' → K .next m' H') → (∀ m' H', k .next m' H' → K .brk m' H') → (∀ v m' H', k (.ret v) m' H' → K (.ret v) m' H') →
      t m H (fun c m1 H1 => if c = true then b m1 H1 K else k .next m1 H1)) :
    ∀ n m H, Inv n m H → PT.while t b m H k := by
  have key : ∀ N n, n < N → ∀ m H, Inv n m H → whileN t b N m H k := by
    intro N
    induction N with
    | zero => intro n hn; exact absurd hn (Nat.not_lt_zero _)
    | succ N ih =>
      intro n hn m H hi
      have h := hstep n m H hi (fun f m H => (match f with
        | .next | .cont => whileN t b N
        | .brk => PT.pure .next
        | .ret v => PT.pure (.ret v)) m H k) (fun m' H' j hj hi' => ih j (by lia) m' H' hi') (fun _ _ x => x) (fun _ _ _ x => x)
      show t m H _
      have e : (fun (c : Bool) m1 H1 => if c = true then b m1 H1 (fun f m H => (match f with
        | .next | .cont => whileN t b N
        | .brk => PT.pure .next
        | .ret v => PT.pure (.ret v)) m H k) else k .next m1 H1) = fun c m1 H1 => (if c = true then b.bind (fun f => match f with
        | .next | .cont => whileN t b N
        | .brk => PT.pure .next
        | .ret v => PT.pure (.ret v)) else PT.pure .next) m1 H1 k := by
        funext c m1 H1
        cases c <;> rfl
      rw [e] at h
      exact h
  intro n m H hi
  exact ⟨n + 1, key (n + 1) n (Nat.lt_succ_self _) m H hi⟩
theorem forGo_ind {g : HH → Prop} {b : V → PT Fl} {k : Fl → MM → HH → Prop} {xs : List V} (Inv : Nat → MM → HH → Prop) (hg : ∀ i m H, Inv i m H → g H)
    (hstep : ∀ i v m H, xs[i]? = some v → Inv i m H → ∀ K : Fl → MM → HH → Prop, (∀ m' H', Inv (i + 1) m' H' → K .next m' H') → (∀ m' H', k .next m' H' → K .brk m' H') → (∀ u m' H', k (.ret u) m' H' → K (.ret u) m' H') → b v m H K)
    (hend : ∀ m H, Inv xs.length m H → k .next m H) {m : MM} {H : HH} (h : Inv 0 m H) : forGo g b xs m H k := by
  have key : ∀ (r : List V) i, xs.drop i = r → i ≤ xs.length → ∀ m H, Inv i m H → forGo g b r m H k := by
    intro r
    induction r with
    | nil =>
      intro i hr hi m H h
      have : i = xs.length := Nat.le_antisymm hi (List.drop_eq_nil_iff.mp hr)
      subst this
      exact ⟨hg _ m H h, hend m H h⟩
    | cons v r ih =>
      intro i hr hi m H h
      have hlt : i < xs.length := by
        rcases Nat.lt_or_ge i xs.length with h | h
        · exact h
        · rw [List.drop_eq_nil_of_le h] at hr; cases hr
      rw [List.drop_eq_getElem_cons hlt, List.cons.injEq] at hr
      refine ⟨hg _ m H h, hstep i v m H (by rw [List.getElem?_eq_getElem hlt, hr.1]) h _ (fun m' H' h' => ih (i + 1) hr.2 hlt m' H' h') (fun _ _ x => x) (fun _ _ _ x => x)⟩
  exact key xs 0 (by simp) (Nat.zero_le _) m H h
theorem rangeVs_get {a c : Int} {n i : Nat} {v : V} (h : (rangeVs a c n)[i]? = some v) : i < n ∧ v = .int (a + i * c) := by
  have hlt : i < n := by
    have := (List.getElem?_eq_some_iff.mp h).1
    simpa [rangeVs] using this
  unfold rangeVs at h
  simp [hlt] at h
  exact ⟨hlt, h.symm⟩
theorem rangeVs_len {a c : Int} {n : Nat} : (rangeVs a c n).length = n := by simp [rangeVs]
/-- ints as a list object -/
noncomputable abbrev LI (xs : List Int) : O := .list (xs.map V.int)
theorem li_get {xs : List Int} {i : Nat} {z : Int} (h : xs[i]? = some z) : (xs.map V.int)[i]? = some (.int z) := by rw [List.getElem?_map, h]; rfl
end Mine
namespace Mine
theorem while_to {t : PT Bool} {b : PT Fl} {k : Fl → MM → HH → Prop} (Inv : Nat → MM → HH → Prop) (Post : MM → HH → Prop)
    (hstep : ∀ n m H, Inv n m H → ∀ K : Fl → MM → HH → Prop, (∀ j, j < n → ∀ m' H', Inv j m' H' → K .next m' H') → (∀ m' H', Post m' H' → K .brk m' H') → (∀ v m' H', k (.ret v) m' H' → K (.ret v) m' H') →
      t m H (fun c m1 H1 => if c = true then b m1 H1 K else (Post m1 H1 → k .next m1 H1) → k .next m1 H1))
    (hend : ∀ m H, Post m H → k .next m H) : ∀ n m H, Inv n m H → PT.while t b m H k := by
  refine while_ind Inv fun n m H hi K h1 h2 h3 => ?_
  have := hstep n m H hi K (fun j hj m' H' q => h1 m' H' j hj q) (fun m' H' q => h2 m' H' (hend _ _ q)) h3
  have e : (fun (c : Bool) m1 H1 => if c = true then b m1 H1 K else k .next m1 H1) = (fun (c : Bool) m1 H1 => if c = true then b m1 H1 K else (Post m1 H1 → k .next m1 H1) → k .next m1 H1) := by
    funext c m1 H1
    cases c
    · exact propext ⟨fun h _ => h, fun h => h (hend m1 H1)⟩
    · rfl
  rw [e]; exact this
end Mine
end
section
open PySem PySem.W PySem.Calls PySem.Spec PyProof.Rows
set_option maxRecDepth 100000
set_option linter.unusedVariables false
namespace Mine
noncomputable def tab (f : Nat → Int) (n : Nat) : List Int := (List.range n).map f
theorem tab_len (f : Nat → Int) (n : Nat) : (tab f n).length = n := by simp [tab]
theorem tab_get {f : Nat → Int} {n i : Nat} (h : i < n) : (tab f n)[i]? = some (f i) := by simp [tab, h]
theorem tab_succ (f : Nat → Int) (n : Nat) : tab f (n + 1) = tab f n ++ [f n] := by simp [tab, List.range_succ]
theorem tab_congr {f g : Nat → Int} {n : Nat} (h : ∀ i, i < n → f i = g i) : tab f n = tab g n := by
  unfold tab
  exact List.map_congr_left fun i hi => h i (List.mem_range.mp hi)
theorem tab_eq {f : Nat → Int} {n : Nat} {xs : List Int} (hl : xs.length = n) (h : ∀ i, i < n → xs[i]? = some (f i)) : xs = tab f n := by
  refine List.ext_getElem? fun i => ?_
  rcases Nat.lt_or_ge i n with q | q
  · rw [h i q, tab_get q]
  · rw [List.getElem?_eq_none (by lia), List.getElem?_eq_none (by rw [tab_len]; exact q)]
theorem tab_take (f : Nat → Int) {n k : Nat} (h : k ≤ n) : (tab f n).take k = tab f k := by
  refine tab_eq (by simp [tab_len, h]) fun i hi => ?_
  rw [List.getElem?_take_of_lt hi, tab_get (by lia)]
noncomputable def dg (w x i : Nat) : Nat := x / 2 ^ (w * i) % 2 ^ w
noncomputable def fd (w x n : Nat) : List Int := tab (fun i => ((dg w x i : Nat) : Int)) n
noncomputable def nl (w x : Nat) : Nat := if x = 0 then 0 else Nat.log2 x / w + 1
noncomputable def dig (w x : Nat) : List Int := fd w x (nl w x)
section
variable {w x y n i : Nat}
theorem pow_pos2 (n : Nat) : 0 < 2 ^ n := Nat.pow_pos (by decide)
theorem nl_lt (hw : 0 < w) : x < 2 ^ (w * nl w x) := by
  unfold nl
  split
  · rename_i h; rw [h]; exact pow_pos2 _
  · rename_i h
    refine Nat.lt_of_lt_of_le (Nat.lt_log2_self (n := x)) (Nat.pow_le_pow_right (by decide) ?_)
    have := Nat.div_add_mod x.log2 w
    have := Nat.mod_lt x.log2 hw
    rw [Nat.mul_add]
    lia
theorem le_of_nl (h : n < nl w x) : 2 ^ (w * n) ≤ x := by
  unfold nl at h
  split at h
  · exact absurd h (Nat.not_lt_zero _)
  · rename_i h0
    refine Nat.le_trans (Nat.pow_le_pow_right (by decide) ?_) (Nat.log2_self_le h0)
    exact Nat.le_trans (Nat.mul_le_mul_left w (Nat.le_of_lt_succ h)) (Nat.mul_div_le ..)
theorem nl_le (hw : 0 < w) (h : x < 2 ^ (w * n)) : nl w x ≤ n := by
  rcases Nat.lt_or_ge n (nl w x) with q | q
  · exact absurd (le_of_nl q) (by lia)
  · exact q
theorem lt_of_nl (hw : 0 < w) (h : nl w x ≤ n) : x < 2 ^ (w * n) :=
  Nat.lt_of_lt_of_le (nl_lt hw) (Nat.pow_le_pow_right (by decide) (Nat.mul_le_mul_left w h))
theorem nl_mono (hw : 0 < w) (h : x ≤ y) : nl w x ≤ nl w y := nl_le hw (Nat.lt_of_le_of_lt h (nl_lt hw))
theorem nl_zero : nl w 0 = 0 := rfl
theorem nl_pos (h : x ≠ 0) : 0 < nl w x := by unfold nl; rw [if_neg h]; exact Nat.succ_pos _
theorem nl_eq (hw : 0 < w) (h1 : x < 2 ^ (w * n)) (h2 : ∀ k, n = k + 1 → 2 ^ (w * k) ≤ x) : nl w x = n := by
  refine Nat.le_antisymm (nl_le hw h1) ?_
  cases n with
  | zero => exact Nat.zero_le _
  | succ k =>
    rcases Nat.lt_or_ge k (nl w x) with q | q
    · exact q
    · exact absurd (lt_of_nl hw q) (Nat.not_lt.mpr (h2 k rfl))
theorem nl_bound (hw : 2 ≤ w) {b : Nat} (h : x < 2 ^ (2 * b)) : nl w x ≤ b := nl_le (by lia) (Nat.lt_of_lt_of_le h (Nat.pow_le_pow_right (by decide) (Nat.mul_le_mul_right b hw)))
theorem fd_len : (fd w x n).length = n := tab_len _ _
theorem fd_get (h : i < n) : (fd w x n)[i]? = some ((dg w x i : Nat) : Int) := tab_get h
theorem fd_succ : fd w x (n + 1) = fd w x n ++ [((dg w x n : Nat) : Int)] := tab_succ _ _
theorem fd_take {k : Nat} (h : k ≤ n) : (fd w x n).take k = fd w x k := tab_take _ h
theorem fd_zero : fd w x 0 = [] := rfl
theorem dig_len : (dig w x).length = nl w x := fd_len
theorem dig_get (h : i < nl w x) : (dig w x)[i]? = some ((dg w x i : Nat) : Int) := fd_get h
theorem dig_nil : dig w 0 = [] := rfl
theorem dg_lt : dg w x i < 2 ^ w := Nat.mod_lt _ (pow_pos2 _)
theorem div_succ : x / 2 ^ (w * (i + 1)) = x / 2 ^ (w * i) / 2 ^ w := by rw [Nat.mul_add, Nat.mul_one, Nat.pow_add, Nat.div_div_eq_div_mul]
theorem div_split : x / 2 ^ (w * i) = 2 ^ w * (x / 2 ^ (w * (i + 1))) + dg w x i := by
  rw [div_succ]; unfold dg; rw [Nat.div_add_mod]
theorem top_ne (hw : 0 < w) (h : n + 1 = nl w x) : dg w x n ≠ 0 := by
  have h1 := le_of_nl (w := w) (x := x) (n := n) (by lia)
  have h2 : x < 2 ^ (w * (n + 1)) := by rw [h]; exact nl_lt hw
  have h3 : x / 2 ^ (w * n) < 2 ^ w := by
    rw [Nat.div_lt_iff_lt_mul (pow_pos2 _), ← Nat.pow_add]
    have : w + w * n = w * (n + 1) := by rw [Nat.mul_add]; lia
    rw [this]; exact h2
  unfold dg
  rw [Nat.mod_eq_of_lt h3]
  have := (Nat.le_div_iff_mul_le (pow_pos2 (w * n))).mpr (by rw [Nat.one_mul]; exact h1)
  lia
theorem top_zero (h2 : x < 2 ^ (w * (n + 1))) (h : dg w x n = 0) : x < 2 ^ (w * n) := by
  have h3 : x / 2 ^ (w * n) < 2 ^ w := by
    rw [Nat.div_lt_iff_lt_mul (pow_pos2 _), ← Nat.pow_add]
    have : w + w * n = w * (n + 1) := by rw [Nat.mul_add]; lia
    rw [this]; exact h2
  unfold dg at h
  rw [Nat.mod_eq_of_lt h3] at h
  exact (Nat.div_eq_zero_iff.mp h).resolve_left (Nat.ne_of_gt (pow_pos2 _))
theorem fd_dig (h : nl w x = n) : fd w x n = dig w x := by rw [← h]; rfl
theorem div_zero_of (h : x < 2 ^ (w * n)) : x / 2 ^ (w * n) = 0 := Nat.div_eq_of_lt h
end
end Mine
end
section
open PySem PySem.W PySem.Calls PySem.Spec PyProof.Rows
set_option maxRecDepth 100000
set_option linter.unusedVariables false
namespace Mine
/-! ## steps through a transformer -/
noncomputable def thenK (b : PT Fl) (k : Fl → MM → HH → Prop) : Fl → MM → HH → Prop
  | .next, m, H => b m H k
  | f, m, H => k f m H
section
variable {α β : Type} {m : MM} {H : HH} {x : Str} {v u : V}
theorem i_bind {c : PT α} {f : α → PT β} {k : β → MM → HH → Prop} (h : c m H (fun a m1 H1 => f a m1 H1 k)) : PT.bind c f m H k := h
theorem i_pure {k : α → MM → HH → Prop} {a : α} (h : k a m H) : PT.pure a m H k := h
theorem i_get {k : V → MM → HH → Prop} (hx : m x = some v) (h : k v m H) : PT.get x m H k := ⟨v, hx, h⟩
theorem i_setv {k : Unit → MM → HH → Prop} (h : k () (m.set x v) H) : PT.setv x v m H k := h
theorem i_thenS {a b : PT Fl} {k : Fl → MM → HH → Prop} (h : a m H (thenK b k)) : PT.thenS a b m H k := by
  have e : (fun f m1 H1 => (match f with
    | .next => b
    | f => PT.pure f) m1 H1 k) = thenK b k := by
    funext f m1 H1
    cases f <;> rfl
  have h' : a m H (fun f m1 H1 => (match f with
    | .next => b
    | f => PT.pure f) m1 H1 k) := by rw [e]; exact h
  exact h'
theorem i_next {b : PT Fl} {k : Fl → MM → HH → Prop} (h : b m H k) : thenK b k .next m H := h
theorem i_ret {b : PT Fl} {k : Fl → MM → HH → Prop} (h : k (.ret v) m H) : thenK b k (.ret v) m H := h
theorem lk_self : (m.set x v) x = some v := set_self m x v
theorem lk_ne {a b : String} (h : ¬ b = a) (hb : m (Str.ofString b) = some v) : (m.set (Str.ofString a) u) (Str.ofString b) = some v := by rw [set_ne _ _ _ _ h]; exact hb
variable {k : V → MM → HH → Prop} {i j : Int}
theorem i_add (h : k (.int (i + j)) m H) : binPT .Add (.int i) (.int j) m H k := .inl (ii_to h)
theorem i_subt (h : k (.int (i - j)) m H) : binPT .Sub (.int i) (.int j) m H k := ii_to h
theorem i_and (h : k (.int (Builtin.bitAnd i j)) m H) : binPT .BitAnd (.int i) (.int j) m H k := ii_to h
theorem i_or (h : k (.int (Builtin.bitOr i j)) m H) : binPT .BitOr (.int i) (.int j) m H k := ii_to h
theorem i_mul (h0 : small i) (h : k (.int (i * j)) m H) : binPT .Mult (.int i) (.int j) m H k := .inl (ii_to ⟨h0, h⟩)
theorem i_fdiv (h0 : 0 < j) (h1 : j < 1000000000) (h : k (.int (i.fdiv j)) m H) : binPT .FloorDiv (.int i) (.int j) m H k := ii_to ⟨h0, h1, h⟩
theorem i_mod (h0 : 0 < j) (h : k (.int (i.fmod j)) m H) : binPT .Mod (.int i) (.int j) m H k := ii_to ⟨h0, h⟩
theorem i_shl {n : Nat} (e : j = n) (h0 : n ≤ 1000000) (h1 : small i) (h : k (.int (i * 2 ^ n)) m H) : binPT .LShift (.int i) (.int j) m H k := by
  subst e; exact ii_to ⟨Int.natCast_nonneg n, Int.ofNat_le.mpr h0, h1, h⟩
theorem i_shr {n : Nat} (e : j = n) (h : k (.int (i.fdiv (2 ^ n))) m H) : binPT .RShift (.int i) (.int j) m H k := by
  subst e; exact ii_to ⟨Int.natCast_nonneg n, h⟩
theorem i_pow {n : Nat} (e : j = n) (h0 : n ≤ 1000000) (h1 : small i) (h : k (.int (i ^ n)) m H) : binPT .Pow (.int i) (.int j) m H k := by
  subst e; exact ii_to ⟨Int.natCast_nonneg n, Int.ofNat_le.mpr h0, h1, h⟩
theorem i_addl {a b : Addr} {xs ys : List V} (ha : H a = some (.list xs)) (hb : H b = some (.list ys)) (h : PT.newList (xs ++ ys) m H k) : binPT .Add (.ref a) (.ref b) m H k := .inr (rr_to ⟨xs, ys, ha, hb, h⟩)
theorem i_mull {a : Addr} {xs : List V} {n : Nat} (e : j = n) (ha : H a = some (.list xs)) (hn : xs.length * n ≤ 256) (hx : xs.length ≠ 0 ∨ n ≤ 256) (h : PT.newList (List.replicate n xs).flatten m H k) : binPT .Mult (.ref a) (.int j) m H k := by
  subst e
  refine .inr ⟨_, _, rfl, rfl, xs, ha, by lia, ?_, by simpa using hn, h⟩
  rcases hx with h | h
  · have h1 : n ≤ xs.length * n := Nat.le_mul_of_pos_left n (by lia)
    lia
  · lia
theorem i_newl {xs : List V} (hl : xs.length ≤ 10000) (h : ∀ r, H r = none → k (.ref r) m (H.set r (.list xs))) : PT.newList xs m H k := ⟨hl, h⟩
theorem i_newt {xs : List V} (hl : xs.length ≤ 10000) (h : ∀ r, H r = none → k (.ref r) m (H.set r (.tup xs))) : PT.newTup xs m H k := ⟨hl, h⟩
theorem i_lt (h : k (.bool (decide (i < j))) m H) : cmpPT .Lt (.int i) (.int j) m H k := ii_to h
theorem i_gt (h : k (.bool (decide (j < i))) m H) : cmpPT .Gt (.int i) (.int j) m H k := ii_to h
theorem i_le (h : k (.bool (decide (i ≤ j))) m H) : cmpPT .LtE (.int i) (.int j) m H k := ii_to h
theorem i_ge (h : k (.bool (decide (j ≤ i))) m H) : cmpPT .GtE (.int i) (.int j) m H k := ii_to h
theorem i_eq (h : k (.bool (decide (i = j))) m H) : cmpPT .Eq (.int i) (.int j) m H k := .inl (ii_to h)
theorem i_ne (h : k (.bool (!decide (i = j))) m H) : cmpPT .NotEq (.int i) (.int j) m H k := .inl (ii_to h)
theorem i_eql {a b : Addr} {xs ys : List Int} (ha : H a = some (LI xs)) (hb : H b = some (LI ys)) (h : k (.bool (decide (xs = ys))) m H) : cmpPT .Eq (.ref a) (.ref b) m H k := .inr (rr_to ⟨xs, ys, .inl ⟨ha, hb⟩, h⟩)
theorem i_nel {a b : Addr} {xs ys : List Int} (ha : H a = some (LI xs)) (hb : H b = some (LI ys)) (h : k (.bool (!decide (xs = ys))) m H) : cmpPT .NotEq (.ref a) (.ref b) m H k := .inr (rr_to ⟨xs, ys, .inl ⟨ha, hb⟩, h⟩)
theorem i_eqt {a b : Addr} {xs ys : List Int} (ha : H a = some (.tup (xs.map V.int))) (hb : H b = some (.tup (ys.map V.int))) (h : k (.bool (decide (xs = ys))) m H) : cmpPT .Eq (.ref a) (.ref b) m H k := .inr (rr_to ⟨xs, ys, .inr ⟨ha, hb⟩, h⟩)
theorem i_net {a b : Addr} {xs ys : List Int} (ha : H a = some (.tup (xs.map V.int))) (hb : H b = some (.tup (ys.map V.int))) (h : k (.bool (!decide (xs = ys))) m H) : cmpPT .NotEq (.ref a) (.ref b) m H k := .inr (rr_to ⟨xs, ys, .inr ⟨ha, hb⟩, h⟩)
theorem i_tru {k : Bool → MM → HH → Prop} {b : Bool} (h : k b m H) : truPT (.bool b) m H k := h
theorem i_neg (h : k (.int (-i)) m H) : negPT (.int i) m H k := h
theorem i_iadd (h : k (.int (i + j)) m H) : iopPT .Add (.int i) (.int j) m H k := ii_to h
theorem i_isub (h : k (.int (i - j)) m H) : iopPT .Sub (.int i) (.int j) m H k := ii_to h
theorem i_ior (h : k (.int (Builtin.bitOr i j)) m H) : iopPT .BitOr (.int i) (.int j) m H k := ii_to h
theorem i_ishr {n : Nat} (e : j = n) (h : k (.int (i.fdiv (2 ^ n))) m H) : iopPT .RShift (.int i) (.int j) m H k := by
  subst e; exact ii_to ⟨Int.natCast_nonneg n, h⟩
theorem i_len {a : Addr} {xs : List V} (ha : H a = some (.list xs)) (hl : xs.length ≤ 1000000) (h : k (.int xs.length) m H) : lenPT [.ref a] m H k := ⟨xs, ha, hl, h⟩
theorem i_lenI {a : Addr} {xs : List Int} {n : Nat} (ha : H a = some (LI xs)) (e : xs.length = n) (hl : n ≤ 1000000) (h : k (.int n) m H) : lenPT [.ref a] m H k := ⟨_, ha, by simpa [e] using hl, by simpa [e] using h⟩
theorem i_sub {a : Addr} {xs : List V} {n : Nat} (ha : H a = some (.list xs)) (e : j = n) (hn : n ≤ 1000000) (hv : xs[n]? = some v) (h : k v m H) : subPT (.ref a) (.int j) m H k := by
  subst e; exact ⟨xs, v, ha, by lia, by lia, .inl ⟨by lia, by simpa using hv⟩, h⟩
theorem i_subL {a : Addr} {xs : List V} {n : Nat} (ha : H a = some (.list xs)) (e : j = -1) (hl : xs.length = n + 1) (hn : n ≤ 1000000) (hv : xs[n]? = some v) (h : k v m H) : subPT (.ref a) (.int j) m H k := by
  subst e
  refine ⟨xs, v, ha, by lia, by lia, .inr ⟨by lia, by lia, ?_⟩, h⟩
  rw [hl]
  have : ((-1 : Int) + ((n + 1 : Nat) : Int)).toNat = n := by lia
  rw [this]; exact hv
theorem i_append {a : Addr} {xs : List V} (ha : H a = some (.list xs)) (hl : xs.length ≤ 10000) (h : k .none m (H.set a (.list (xs ++ [v])))) : appendPT (.ref a) v m H k := ⟨xs, ha, hl, h⟩
theorem i_pop {a : Addr} {xs : List V} (ha : H a = some (.list (xs ++ [v]))) (hl : xs.length ≤ 10000) (h : k v m (H.set a (.list xs))) : popPT (.ref a) m H k := ⟨xs, v, ha, hl, h⟩
theorem i_bitlen (h : k (.int (Builtin.Int.intBits i)) m H) : bitlenPT (.int i) m H k := h
theorem i_unpack {k : List V → MM → HH → Prop} {t : Addr} {xs : List V} {N : Nat} (ht : H t = some (.tup xs)) (hN : xs.length = N) (h : k xs m H) : unpackPT (.ref t) N m H k := ⟨xs, ht, hN, h⟩
theorem i_asCons {k : Unit → MM → HH → Prop} {c : V → PT Unit} {cs : List (V → PT Unit)} {vs : List V} (h : c v m H (fun _ m1 H1 => PT.assignL cs vs m1 H1 k)) : PT.assignL (c :: cs) (v :: vs) m H k := h
theorem i_asNil {k : Unit → MM → HH → Prop} {vs : List V} (h : k () m H) : PT.assignL [] vs m H k := h
theorem i_setItem {k : Unit → MM → HH → Prop} {a : Addr} {xs : List V} {n : Nat} (ha : H a = some (.list xs)) (e : j = n) (hn : n < xs.length) (hl : xs.length ≤ 1000000) (h : k () m (H.set a (.list (xs.set n v)))) : setItemPT (.ref a) (.int j) v m H k := by
  subst e; exact ⟨xs, ha, by lia, by lia, hl, by simpa using h⟩
theorem i_slice {a : Addr} {xs ys : List V} {l s : V} (ha : H a = some (.list xs)) (hs : sliceVs xs l u s = some ys) (hl : xs.length ≤ 10000) (h : ∀ r, H r = none → k (.ref r) m (H.set r (.list ys))) : slicePT (.ref a) l u s m H k := by
  refine ⟨xs, ys, ha, hs, hl, ?_, h⟩
  unfold sliceVs at hs
  split at hs
  · cases hs; exact hl
  · split at hs
    · cases hs; simp; lia
    · cases hs
  · split at hs
    · cases hs; simp; lia
    · cases hs
  · split at hs
    · cases hs; simp; lia
    · cases hs
  · cases hs
theorem i_spec {sp : SpecT} {vs : List V} (h : sp vs H fun r H' => k r m H') : PT.spec sp vs m H k := h
section
variable {γ : Type} {k : γ → MM → HH → Prop} {cb ce : PT γ} {P : Prop} {dP : Decidable P} {A B : Prop}
theorem i_iteT (h : cb m H k) : (if true = true then cb else ce) m H k := h
theorem i_iteF (h : ce m H k) : (if false = true then cb else ce) m H k := h
theorem i_iteD (h : P → cb m H k) (h' : ¬ P → ce m H k) : (if decide P = true then cb else ce) m H k := by
  by_cases e : P
  · simp only [e, decide_true, if_true]; exact h e
  · simp only [e, decide_false, Bool.false_eq_true, if_false]; exact h' e
theorem i_iteN (h : ¬ P → cb m H k) (h' : P → ce m H k) : (if (!decide P) = true then cb else ce) m H k := by
  by_cases e : P
  · simp only [e, decide_true, Bool.not_true, Bool.false_eq_true, if_false]; exact h' e
  · simp only [e, decide_false, Bool.not_false, if_true]; exact h e
theorem i_pT (h : A) : if true = true then A else B := h
theorem i_pF (h : B) : if false = true then A else B := h
theorem i_pD (h : P → A) (h' : ¬ P → B) : if decide P = true then A else B := by
  by_cases e : P
  · simp only [e, decide_true, if_true]; exact h e
  · simp only [e, decide_false, Bool.false_eq_true, if_false]; exact h' e
theorem i_pN (h : ¬ P → A) (h' : P → B) : if (!decide P) = true then A else B := by
  by_cases e : P
  · simp only [e, decide_true, Bool.not_true, Bool.false_eq_true, if_false]; exact h' e
  · simp only [e, decide_false, Bool.not_false, if_true]; exact h e
end
/-- the end of a def that hands out a new list -/
theorem i_endL {k : V → HH → Prop} {H0 : HH} {r : Addr} {o : O} (hk : ∀ r, H0 r = none → k (.ref r) (H0.set r o)) (h0 : H0 r = none) (hd : Drop (H0.set r o) H) : endK k (.ret (.ref r)) m H := ⟨_, hd, hk r h0⟩
theorem i_endV {k : V → HH → Prop} {H0 : HH} (hk : k v H0) (hd : Drop H0 H) : endK k (.ret v) m H := ⟨_, hd, hk⟩
theorem i_endN {k : V → HH → Prop} {H0 : HH} (hk : k .none H0) (hd : Drop H0 H) : endK k .next m H := ⟨_, hd, hk⟩
end
end Mine
namespace Mine
theorem ex_dead {S : Sy} {F : Fx} {α β : Type} {t : Sem α} {g : α → β} : Ev S F t g (fun _ _ _ => False) := fun _ _ _ _ _ _ h => h.elim
end Mine
end
section
open PySem PySem.W PySem.Calls PySem.Spec PyProof.Rows
set_option maxRecDepth 100000
set_option linter.unusedVariables false
namespace Mine
theorem cast_pow (n : Nat) : ((2 ^ n : Nat) : Int) = (2 : Int) ^ n := by push_cast; rfl
theorem mask_cast (w : Nat) : (1 * 2 ^ w - 1 : Int) = ((2 ^ w - 1 : Nat) : Int) := by
  have := pow_pos2 w
  rw [Int.one_mul, ← cast_pow]
  lia
theorem and_nat (a b : Nat) : Builtin.bitAnd (a : Int) (b : Int) = ((a &&& b : Nat) : Int) := by
  rw [bitAnd_pp (by lia) (by lia), Int.toNat_natCast, Int.toNat_natCast]
theorem and_mask (c w : Nat) : Builtin.bitAnd (c : Int) (1 * 2 ^ w - 1) = ((c % 2 ^ w : Nat) : Int) := by
  rw [mask_cast, and_nat, Nat.and_two_pow_sub_one_eq_mod]
theorem or_sum {c x s : Nat} (h : c < 2 ^ s) : Builtin.bitOr (c : Int) ((x : Int) * 2 ^ s) = ((c + x * 2 ^ s : Nat) : Int) := by
  have e : ((x : Int) * 2 ^ s) = ((x * 2 ^ s : Nat) : Int) := by rw [Int.natCast_mul, cast_pow]
  rw [e, bitOr_and, and_nat]
  have h1 := nat_or_add_and (x * 2 ^ s) c
  have h2 : x * 2 ^ s + c = x * 2 ^ s ||| c := by
    rw [Nat.mul_comm]; exact Nat.two_pow_add_eq_or_of_lt h x
  have h3 : c &&& x * 2 ^ s = x * 2 ^ s &&& c := Nat.and_comm _ _
  rw [h3]
  lia
theorem shr_nat (c w : Nat) : (c : Int).fdiv (2 ^ w) = ((c / 2 ^ w : Nat) : Int) := by
  rw [← cast_pow, Int.ofNat_fdiv]
theorem fdiv_nat (a b : Nat) : (a : Int).fdiv (b : Int) = ((a / b : Nat) : Int) := (Int.ofNat_fdiv a b).symm
theorem fmod_nat (a b : Nat) : (a : Int).fmod (b : Int) = ((a % b : Nat) : Int) := by rw [Int.fmod_eq_emod_of_nonneg _ (by lia)]; rfl
theorem fmod_pow (a w : Nat) : (a : Int).fmod (1 * 2 ^ w) = ((a % 2 ^ w : Nat) : Int) := by rw [Int.one_mul, ← cast_pow, fmod_nat]
theorem small_of {a : Nat} (h : a < 2 ^ 62) : small (a : Int) := ⟨by lia, by lia⟩
theorem pow_le2 {a b : Nat} (h : a ≤ b) : 2 ^ a ≤ 2 ^ b := Nat.pow_le_pow_right (by decide) h
theorem pow_lt_of {x a b : Nat} (h : x < 2 ^ a) (h' : a ≤ b) : x < 2 ^ b := Nat.lt_of_lt_of_le h (pow_le2 h')
theorem carry_step {s t Z B : Nat} (hB : 0 < B) (h : s + B * t = Z) : s % B = Z % B ∧ s / B + t = Z / B := by
  subst h
  exact ⟨(Nat.add_mul_mod_self_left s B t).symm, by rw [Nat.add_mul_div_left _ _ hB]⟩
section
variable {w x y z n i : Nat}
theorem add_step {c : Nat} (h : c + x / 2 ^ (w * i) + y / 2 ^ (w * i) = z / 2 ^ (w * i)) :
    (c + dg w x i + dg w y i) % 2 ^ w = dg w z i ∧ (c + dg w x i + dg w y i) / 2 ^ w + x / 2 ^ (w * (i + 1)) + y / 2 ^ (w * (i + 1)) = z / 2 ^ (w * (i + 1)) := by
  have e1 := div_split (w := w) (x := x) (i := i)
  have e2 := div_split (w := w) (x := y) (i := i)
  have := carry_step (s := c + dg w x i + dg w y i) (t := x / 2 ^ (w * (i + 1)) + y / 2 ^ (w * (i + 1))) (Z := z / 2 ^ (w * i)) (pow_pos2 w) (by rw [Nat.mul_add]; lia)
  rw [div_succ (x := z)]
  exact ⟨this.1, by lia⟩
theorem shl_step {c f : Nat} (h : c + 2 ^ f * (x / 2 ^ (w * i)) = z / 2 ^ (w * i)) (hc : c < 2 ^ f) :
    (c + dg w x i * 2 ^ f) % 2 ^ w = dg w z i ∧ (c + dg w x i * 2 ^ f) / 2 ^ w + 2 ^ f * (x / 2 ^ (w * (i + 1))) = z / 2 ^ (w * (i + 1)) ∧ (c + dg w x i * 2 ^ f) / 2 ^ w < 2 ^ f := by
  have e1 := div_split (w := w) (x := x) (i := i)
  have := carry_step (s := c + dg w x i * 2 ^ f) (t := 2 ^ f * (x / 2 ^ (w * (i + 1)))) (Z := z / 2 ^ (w * i)) (pow_pos2 w) (by
    have e2 : 2 ^ f * (x / 2 ^ (w * i)) = 2 ^ f * (2 ^ w * (x / 2 ^ (w * (i + 1)))) + 2 ^ f * dg w x i := by rw [← Nat.mul_add, ← e1]
    rw [← h, e2, Nat.mul_left_comm (2 ^ w), Nat.mul_comm (dg w x i)]; lia)
  rw [div_succ (x := z)]
  refine ⟨this.1, this.2, ?_⟩
  rw [Nat.div_lt_iff_lt_mul (pow_pos2 w)]
  have h1 : dg w x i + 1 ≤ 2 ^ w := dg_lt
  have h2 := Nat.mul_le_mul_left (2 ^ f) h1
  rw [Nat.mul_add, Nat.mul_one] at h2
  rw [Nat.mul_comm (dg w x i)]
  lia
theorem sub_step {b : Nat} (hb : b ≤ 1) (h : z / 2 ^ (w * i) + y / 2 ^ (w * i) + b = x / 2 ^ (w * i)) :
    ∃ b', b' ≤ 1 ∧ z / 2 ^ (w * (i + 1)) + y / 2 ^ (w * (i + 1)) + b' = x / 2 ^ (w * (i + 1)) ∧ dg w x i + 2 ^ w * b' = dg w z i + dg w y i + b := by
  have e1 := div_split (w := w) (x := x) (i := i)
  have e2 := div_split (w := w) (x := y) (i := i)
  have e3 := div_split (w := w) (x := z) (i := i)
  have l1 : dg w x i < 2 ^ w := dg_lt
  have l2 : dg w y i < 2 ^ w := dg_lt
  have l3 : dg w z i < 2 ^ w := dg_lt
  have hs : (dg w z i + dg w y i + b) + 2 ^ w * (z / 2 ^ (w * (i + 1)) + y / 2 ^ (w * (i + 1))) = 2 ^ w * (x / 2 ^ (w * (i + 1))) + dg w x i := by rw [Nat.mul_add]; lia
  have hc := carry_step (pow_pos2 w) hs
  rw [Nat.mul_add_mod, Nat.mod_eq_of_lt l1, Nat.mul_add_div (pow_pos2 w), Nat.div_eq_of_lt l1] at hc
  refine ⟨(dg w z i + dg w y i + b) / 2 ^ w, ?_, by lia, ?_⟩
  · have : (dg w z i + dg w y i + b) / 2 ^ w < 2 := by
      rw [Nat.div_lt_iff_lt_mul (pow_pos2 w)]; lia
    lia
  · have := Nat.div_add_mod (dg w z i + dg w y i + b) (2 ^ w)
    rw [hc.1] at this
    lia
theorem dg_big (h : x < 2 ^ (w * n)) : dg w x n = 0 := by unfold dg; rw [div_zero_of h]; exact Nat.zero_mod _
theorem dg_out (hw : 0 < w) (h : nl w x ≤ n) : dg w x n = 0 := dg_big (lt_of_nl hw h)
theorem div_out (hw : 0 < w) (h : nl w x ≤ n) : x / 2 ^ (w * n) = 0 := div_zero_of (lt_of_nl hw h)
theorem lt_one (h : x / 2 ^ (w * n) < 2 ^ w) : x < 2 ^ (w * (n + 1)) := by
  rw [Nat.mul_add, Nat.mul_one, Nat.pow_add, Nat.mul_comm]
  exact (Nat.div_lt_iff_lt_mul (pow_pos2 _)).mp h
theorem ge_pow (h : x / 2 ^ (w * n) ≠ 0) : 2 ^ (w * n) ≤ x := by
  rcases Nat.lt_or_ge x (2 ^ (w * n)) with q | q
  · exact absurd (Nat.div_eq_of_lt q) h
  · exact q
theorem dg_last (h : x / 2 ^ (w * n) < 2 ^ w) : dg w x n = x / 2 ^ (w * n) := Nat.mod_eq_of_lt h
theorem shr_limb {f : Nat} (hf : f < w) : (dg w x i / 2 ^ f + dg w x (i + 1) * 2 ^ (w - f)) % 2 ^ w = x / 2 ^ (w * i) / 2 ^ f % 2 ^ w := by
  have e1 := div_split (w := w) (x := x) (i := i)
  have e2 := div_split (w := w) (x := x) (i := i + 1)
  have ew : 2 ^ w = 2 ^ f * 2 ^ (w - f) := by rw [← Nat.pow_add]; congr 1; lia
  have e3 : x / 2 ^ (w * i) / 2 ^ f = 2 ^ (w - f) * (x / 2 ^ (w * (i + 1))) + dg w x i / 2 ^ f := by
    rw [e1]
    conv => lhs; rw [ew, Nat.mul_assoc, Nat.mul_add_div (pow_pos2 f)]
  have e4 : x / 2 ^ (w * i) / 2 ^ f = (dg w x i / 2 ^ f + dg w x (i + 1) * 2 ^ (w - f)) + 2 ^ w * (2 ^ (w - f) * (x / 2 ^ (w * (i + 1 + 1)))) := by
    rw [e3, e2, Nat.mul_add, Nat.mul_left_comm (2 ^ w), Nat.mul_comm (dg w x (i + 1))]; lia
  rw [e4, Nat.add_mul_mod_self_left]
theorem dg_shr {s f : Nat} : x / 2 ^ (w * (s + i)) / 2 ^ f % 2 ^ w = dg w (x / 2 ^ (w * s + f)) i := by
  unfold dg
  rw [Nat.div_div_eq_div_mul, Nat.div_div_eq_div_mul, ← Nat.pow_add, ← Nat.pow_add]
  congr 3
  rw [Nat.mul_add]; lia
theorem dg_shl {s : Nat} (h : s ≤ i) : dg w (x * 2 ^ (w * s)) i = dg w x (i - s) := by
  unfold dg
  congr 1
  have : w * i = w * s + w * (i - s) := by rw [← Nat.mul_add]; congr 1; lia
  rw [this, Nat.pow_add, ← Nat.div_div_eq_div_mul, Nat.mul_div_cancel _ (pow_pos2 _)]
theorem dg_shl0 {s : Nat} (h : i < s) : dg w (x * 2 ^ (w * s)) i = 0 := by
  unfold dg
  have : w * s = w * i + (w + w * (s - i - 1)) := by
    have e : s = i + (1 + (s - i - 1)) := by lia
    conv => lhs; rw [e, Nat.mul_add, Nat.mul_add, Nat.mul_one]
  rw [this, Nat.pow_add, Nat.mul_left_comm, Nat.mul_div_cancel_left _ (pow_pos2 _), Nat.pow_add, Nat.mul_left_comm, Nat.mul_mod_right]
theorem mod_div {a b : Nat} : x % 2 ^ (a + b) / 2 ^ a = x / 2 ^ a % 2 ^ b := by
  rw [Nat.pow_add, Nat.mod_mul_right_div_self]
theorem dg_low {m : Nat} (h : w * (i + 1) ≤ m) : dg w (x % 2 ^ m) i = dg w x i := by
  unfold dg
  have e : m = w * i + (w + (m - w * (i + 1))) := by rw [Nat.mul_add] at *; lia
  rw [e, mod_div, Nat.pow_add, Nat.mod_mul_right_mod]
theorem dg_lowf {s f : Nat} (hf : f < w) : dg w (x % 2 ^ (w * s + f)) s = dg w x s % 2 ^ f := by
  unfold dg
  rw [mod_div, Nat.mod_eq_of_lt (a := x / 2 ^ (w * s) % 2 ^ f) (Nat.lt_of_lt_of_le (Nat.mod_lt _ (pow_pos2 f)) (pow_le2 (by lia)))]
  have e : w = f + (w - f) := by lia
  have e2 : (2 : Nat) ^ w = 2 ^ f * 2 ^ (w - f) := by rw [← Nat.pow_add]; congr 1
  rw [e2, Nat.mod_mul_right_mod]
theorem lt_of_div_lt (h : x / n < y / n) : x < y := by
  rcases Nat.lt_or_ge x y with q | q
  · exact q
  · exact absurd (Nat.div_le_div_right (c := n) q) (by lia)
theorem lt_of_nl_lt (hw : 0 < w) (h : nl w x < nl w y) : x < y := by
  rcases Nat.lt_or_ge x y with q | q
  · exact q
  · exact absurd (nl_mono hw q) (by lia)
end
end Mine
end
section
open PySem PySem.W PySem.Calls PySem.Spec PyProof.Rows
set_option maxRecDepth 100000
set_option linter.unusedVariables false
namespace Mine
theorem i_thenTo {a b : PT Fl} {m : MM} {H : HH} {k : Fl → MM → HH → Prop} (Post : MM → HH → Prop)
    (h1 : ∀ K : Fl → MM → HH → Prop, (∀ m' H', Post m' H' → K .next m' H') → (∀ v m' H', k (.ret v) m' H' → K (.ret v) m' H') → a m H K)
    (h2 : ∀ m' H', Post m' H' → b m' H' k) : PT.thenS a b m H k :=
  i_thenS (h1 _ (fun m' H' h => h2 m' H' h) (fun _ _ _ h => h))
theorem fresh_get {H : HH} {a r : Addr} {o o' : O} (hr : H r = none) (ha : H a = some o) : (H.set r o') a = some o := by
  rw [hset_ne _ _ _ _ (ne_of_fresh hr ha)]; exact ha
theorem hself {H : HH} {a : Addr} {o : O} : (H.set a o) a = some o := hset_self ..
theorem drop_step {H H' : HH} {r : Addr} {o o' : O} (hd : Drop (H.set r o) H') : Drop (H.set r o') (H'.set r o') := fun b ob hb => by
  unfold HH.set at *
  by_cases e : b = r
  · rw [if_pos e] at *; exact hb
  · rw [if_neg e] at *; exact hd b ob (by show (if b = r then some o else H b) = some ob; rw [if_neg e]; exact hb)
theorem drop_new {H H' : HH} {r : Addr} {o : O} (hr : H' r = none) (hd : Drop H H') : Drop H (H'.set r o) := fun b ob hb => fresh_get hr (hd b ob hb)
theorem none_of {H : HH} {r a : Addr} {o : O} (h : (H.set a o) r = none) : H r = none := by
  unfold HH.set at h
  split at h
  · cases h
  · exact h
theorem none_drop {H H' : HH} (hd : Drop H H') {r : Addr} (h : H' r = none) : H r = none := hd.none h
theorem dget {H H' : HH} {a r : Addr} {o o' : O} (hd : Drop (H.set r o') H') (hr : H r = none) (ha : H a = some o) : H' a = some o := hd _ _ (fresh_get hr ha)
theorem dself {H H' : HH} {r : Addr} {o' : O} (hd : Drop (H.set r o') H') : H' r = some o' := hd _ _ hself
theorem drop_get {H H' : HH} {a : Addr} {o : O} (hd : Drop H H') (ha : H a = some o) : H' a = some o := hd _ _ ha
theorem li_app {xs : List Int} {z : Int} : xs.map V.int ++ [V.int z] = (xs ++ [z]).map V.int := by simp
end Mine
namespace Mine
theorem lk_hop {m : MM} {u : V} {o : Option V} {a b : String} (h : (b == a) = false) (hb : m (Str.ofString b) = o) : (m.set (Str.ofString a) u) (Str.ofString b) = o := (set_ne _ _ _ _ (beq_eq_false_iff_ne.mp h)).trans hb
theorem i_bget {β : Type} {x : Str} {v : V} {f : V → PT β} {m : MM} {H : HH} {k : β → MM → HH → Prop} (hx : m x = some v) (h : f v m H k) : PT.bind (PT.get x) f m H k := ⟨v, hx, h⟩
theorem i_bpure {α β : Type} {a : α} {f : α → PT β} {m : MM} {H : HH} {k : β → MM → HH → Prop} (h : f a m H k) : PT.bind (PT.pure a) f m H k := h
theorem i_bsetv {β : Type} {x : Str} {v : V} {f : Unit → PT β} {m : MM} {H : HH} {k : β → MM → HH → Prop} (h : f () (m.set x v) H k) : PT.bind (PT.setv x v) f m H k := h
theorem i_setn {x : Str} {v : V} {b : PT Fl} {m : MM} {H : HH} {k : Fl → MM → HH → Prop} (h : b (m.set x v) H k) : PT.bind (PT.setv x v) (fun _ => PT.pure .next) m H (thenK b k) := h
theorem lk_skip {m : MM} {u : V} {a b : String} (h : ¬ b = a) : (m.set (Str.ofString a) u) (Str.ofString b) = m (Str.ofString b) := set_ne _ _ _ _ h
end Mine
namespace Mine
section
variable {x : Str} {b : PT Fl} {m : MM} {H : HH} {k : Fl → MM → HH → Prop} {i j : Int}
/-- for x in range(n) -/
theorem for1 {n : Nat} (Inv : Nat → MM → HH → Prop) (e : i = n) (hn : n ≤ 1000000) (h0 : Inv 0 m H)
    (hstep : ∀ t m H, t < n → Inv t m H → ∀ K : Fl → MM → HH → Prop, (∀ m' H', Inv (t + 1) m' H' → K .next m' H') → (∀ u m' H', k (.ret u) m' H' → K (.ret u) m' H') → b (m.set x (.int (t : Nat))) H K)
    (hend : ∀ m H, Inv n m H → k .next m H) : forRangePT x b [.int i] m H k := by
  subst e
  refine ⟨⟨by lia, by lia⟩, ?_⟩
  refine forGo_ind Inv (fun _ _ _ _ => trivial) (fun t v m H hv hi K kn _ kr => ?_) (fun m H h => ?_) h0
  · obtain ⟨ht, rfl⟩ := rangeVs_get hv
    have e : (0 + (t : Int) * 1) = ((t : Nat) : Int) := by lia
    rw [e]
    exact hstep t m H (by simpa using ht) hi K kn kr
  · rw [rangeVs_len] at h
    exact hend m H (by simpa using h)
/-- for x in range(lo, lo + n) -/
theorem for2 {lo n : Nat} (Inv : Nat → MM → HH → Prop) (e : i = lo) (e2 : (j - i).toNat = n) (hn : lo + n ≤ 1000000) (hj : j ≤ 1000000) (hj0 : 0 ≤ j) (h0 : Inv 0 m H)
    (hstep : ∀ t m H, t < n → Inv t m H → ∀ K : Fl → MM → HH → Prop, (∀ m' H', Inv (t + 1) m' H' → K .next m' H') → (∀ u m' H', k (.ret u) m' H' → K (.ret u) m' H') → b (m.set x (.int ((lo + t : Nat) : Int))) H K)
    (hend : ∀ m H, Inv n m H → k .next m H) : forRangePT x b [.int i, .int j] m H k := by
  subst e
  refine ⟨⟨by lia, by lia⟩, ⟨by lia, by lia⟩, ?_⟩
  rw [e2]
  refine forGo_ind Inv (fun _ _ _ _ => trivial) (fun t v m H hv hi K kn _ kr => ?_) (fun m H h => ?_) h0
  · obtain ⟨ht, rfl⟩ := rangeVs_get hv
    have e : ((lo : Int) + (t : Int) * 1) = ((lo + t : Nat) : Int) := by lia
    rw [e]
    exact hstep t m H (by simpa using ht) hi K kn kr
  · rw [rangeVs_len] at h
    exact hend m H h
/-- for x in range(i, j, -1) -/
theorem for3 {n : Nat} (Inv : Nat → MM → HH → Prop) (e2 : (i - j).toNat = n) (hi1 : -1000000 ≤ i) (hi2 : i ≤ 1000000) (hj1 : -1000000 ≤ j) (hj2 : j ≤ 1000000) (h0 : Inv 0 m H)
    (hstep : ∀ t m H, t < n → Inv t m H → ∀ K : Fl → MM → HH → Prop, (∀ m' H', Inv (t + 1) m' H' → K .next m' H') → (∀ u m' H', k (.ret u) m' H' → K (.ret u) m' H') → b (m.set x (.int (i - (t : Nat)))) H K)
    (hend : ∀ m H, Inv n m H → k .next m H) : forRangePT x b [.int i, .int j, .int (-1)] m H k := by
  refine ⟨rfl, ⟨by lia, by lia⟩, ⟨by lia, by lia⟩, ?_⟩
  rw [e2]
  refine forGo_ind Inv (fun _ _ _ _ => trivial) (fun t v m H hv hi K kn _ kr => ?_) (fun m H h => ?_) h0
  · obtain ⟨ht, rfl⟩ := rangeVs_get hv
    have e : (i + (t : Int) * (-1)) = i - (t : Nat) := by lia
    rw [e]
    exact hstep t m H ht hi K kn kr
  · rw [rangeVs_len] at h
    exact hend m H h
/-- for x in a list that stands -/
theorem forL {a : Addr} {xs : List V} (Inv : Nat → MM → HH → Prop) (ha : H a = some (.list xs)) (hg : ∀ i m H, Inv i m H → H a = some (.list xs)) (h0 : Inv 0 m H)
    (hstep : ∀ t v m H, xs[t]? = some v → Inv t m H → ∀ K : Fl → MM → HH → Prop, (∀ m' H', Inv (t + 1) m' H' → K .next m' H') → (∀ u m' H', k (.ret u) m' H' → K (.ret u) m' H') → b (m.set x v) H K)
    (hend : ∀ m H, Inv xs.length m H → k .next m H) : forListPT x b (.ref a) m H k :=
  ⟨xs, ha, forGo_ind Inv hg (fun t v m H hv hi K kn _ kr => hstep t v m H hv hi K kn kr) hend h0⟩
theorem forR {a : Addr} {xs : List V} (Inv : Nat → MM → HH → Prop) (ha : H a = some (.list xs)) (hg : ∀ i m H, Inv i m H → H a = some (.list xs)) (h0 : Inv 0 m H)
    (hstep : ∀ t v m H, t < xs.length → xs[xs.length - 1 - t]? = some v → Inv t m H → ∀ K : Fl → MM → HH → Prop, (∀ m' H', Inv (t + 1) m' H' → K .next m' H') → (∀ u m' H', k (.ret u) m' H' → K (.ret u) m' H') → b (m.set x v) H K)
    (hend : ∀ m H, Inv xs.length m H → k .next m H) : forRevPT x b [.ref a] m H k :=
  ⟨xs, ha, forGo_ind Inv hg (fun t v m H hv hi K kn _ kr => by
    have hlt : t < xs.length := by
      have := (List.getElem?_eq_some_iff.mp hv).1
      simpa using this
    rw [List.getElem?_reverse hlt] at hv
    exact hstep t v m H hlt hv hi K kn kr) (fun m H h => hend m H (by simpa using h)) h0⟩
end
end Mine
namespace Mine
theorem lk_int {o : Option V} {i j : Int} (h : o = some (.int i)) (e : i = j) : o = some (.int j) := by rw [h, e]
end Mine
namespace Mine
theorem i_getX {x : Str} {m : MM} {H : HH} {k : V → MM → HH → Prop} (h : ∃ v, m x = some v ∧ k v m H) : PT.get x m H k := h
end Mine
namespace Mine
section
variable {γ : Type} {m : MM} {H : HH} {k : γ → MM → HH → Prop} {cb ce : PT γ} {P : Prop} {dP : Decidable P} {A B : Prop}
theorem i_iteNT (h : ce m H k) : (if (!true) = true then cb else ce) m H k := h
theorem i_iteNF (h : cb m H k) : (if (!false) = true then cb else ce) m H k := h
theorem i_iteNN (h : P → cb m H k) (h' : ¬ P → ce m H k) : (if (!(!decide P)) = true then cb else ce) m H k := by
  rw [Bool.not_not]; exact i_iteD h h'
theorem i_pNT (h : B) : if (!true) = true then A else B := h
theorem i_pNF (h : A) : if (!false) = true then A else B := h
theorem i_pNN (h : P → A) (h' : ¬ P → B) : if (!(!decide P)) = true then A else B := by
  rw [Bool.not_not]; exact i_pD h h'
end
theorem dig_one {w : Nat} (hw : 0 < w) : dig w 1 = [1] := by
  have e : nl w 1 = 1 := nl_eq hw (by rw [Nat.mul_one]; exact pow_le2 (a := 1) hw) fun k hk => by
    obtain rfl : k = 0 := by lia
    simp
  unfold dig
  rw [e]
  show [((dg w 1 0 : Nat) : Int)] = [1]
  have : dg w 1 0 = 1 := by
    unfold dg
    rw [Nat.mul_zero, Nat.pow_zero, Nat.div_one, Nat.mod_eq_of_lt]
    exact Nat.lt_of_lt_of_le (by decide) (pow_le2 (a := 1) hw)
  rw [this]; rfl
theorem LI_one {w : Nat} (hw : 0 < w) : (O.list [V.int 1]) = LI (dig w 1) := by rw [dig_one hw]; rfl
theorem LI_nil {w : Nat} : (O.list []) = LI (dig w 0) := rfl
theorem tab_set {f : Nat → Int} {n i : Nat} {z : Int} : (tab f n).set i z = tab (fun k => if k = i then z else f k) n := by
  refine tab_eq (by simp [tab_len]) fun j hj => ?_
  rw [List.getElem?_set]
  by_cases e : i = j
  · subst e; simp [tab_len, hj]
  · rw [if_neg e, tab_get hj, if_neg (Ne.symm e)]
theorem lis_set {xs : List Int} {i : Nat} {z : Int} : (xs.map V.int).set i (V.int z) = (xs.set i z).map V.int := List.map_set.symm
end Mine
namespace Mine
theorem nlb {w x b c : Nat} (hw : 2 ≤ w) (h : x < 2 ^ b) (hb : b ≤ 2 * c) : nl w x ≤ c := nl_bound hw (pow_lt_of h hb)
theorem nl_one {w : Nat} (hw : 0 < w) : nl w 1 = 1 := by
  have h := congrArg List.length (dig_one hw)
  rw [dig_len] at h; exact h
theorem two_pow_lt {n : Nat} : 2 ^ n < 2 ^ (n + 1) := by have := pow_pos2 n; rw [Nat.pow_succ]; lia
end Mine
namespace Mine
theorem hset2 {H : HH} {a : Addr} {o o' : O} : (H.set a o).set a o' = H.set a o' := by
  funext b
  unfold HH.set
  by_cases e : b = a
  · rw [if_pos e, if_pos e]
  · rw [if_neg e, if_neg e, if_neg e]
theorem ne_inst {H : HH} {x dx C : Addr} {es : List (Str × V)} (hx : H x = some (.inst C dx)) (hd : H dx = some (.dict es)) : x ≠ dx := by
  rintro rfl; rw [hx] at hd; cases hd
theorem ne_list {H : HH} {x dx : Addr} {xs : List V} {es : List (Str × V)} (hx : H x = some (.list xs)) (hd : H dx = some (.dict es)) : x ≠ dx := by
  rintro rfl; rw [hx] at hd; cases hd
theorem hne {H : HH} {a b : Addr} {o o' : O} (hn : a ≠ b) (ha : H a = some o) : (H.set b o') a = some o := by
  rw [hset_ne _ _ _ _ hn]; exact ha
section
variable {m : MM} {H : HH} {x C dx : Addr} {es es' : List (Str × V)} {name : Str} {v : V}
theorem i_attr {k : V → MM → HH → Prop} (hC : Ours C) (hx : H x = some (.inst C dx)) (hd : H dx = some (.dict es)) (hl : es.lookup name = some v) (hv : okV v) (h : k v m H) : attrPT name (.ref x) m H k :=
  ⟨C, dx, es, v, hC, hx, hd, hl, hv, h⟩
theorem i_setAttr {k : Unit → MM → HH → Prop} (hC : Ours C) (hx : H x = some (.inst C dx)) (hd : H dx = some (.dict es)) (hz : es.length ≤ 100) (e : putA name v es = es') (h : k () m (H.set dx (.dict es'))) : setAttrPT name (.ref x) v m H k := by
  subst e; exact ⟨C, dx, es, hC, hx, hd, hz, h⟩
theorem i_meth {k : V → MM → HH → Prop} {sp : SpecT} (hx : H x = some (.inst C dx)) (hd : H dx = some (.dict es)) (hl : es.lookup name = none) (h : sp [.ref x] H fun r H' => k r m H') : methPT C name sp (.ref x) m H k :=
  ⟨x, dx, es, rfl, hx, hd, hl, h⟩
theorem oT : Ours 182 := .inr (.inr rfl)
theorem oL : Ours 154 := .inr (.inl rfl)
theorem oC : Ours 126 := .inl rfl
end
end Mine
namespace Mine
/-- an old entry that is set again under a fresh one -/
theorem drop_swap {H H' : HH} {r d : Addr} {o o1 o2 : O} (hn : d ≠ r) (h : Drop (((H.set d o1).set r o).set d o2) H') : Drop ((H.set r o).set d o2) H' := by
  intro b ob hb
  refine h b ob ?_
  unfold HH.set at *
  by_cases e : b = d
  · rw [if_pos e] at *; exact hb
  · rw [if_neg e] at *
    by_cases e2 : b = r
    · rw [if_pos e2] at *; exact hb
    · rw [if_neg e2] at *; rw [if_neg e]; exact hb
end Mine
namespace Mine
theorem none_set {H : HH} {r d : Addr} {o o' : O} (hr : H r = none) (hd : H d = some o) : (H.set d o') r = none := by
  rw [hset_ne _ _ _ _ (fun e => by rw [e, hd] at hr; cases hr)]; exact hr
end Mine
namespace Mine
section
variable {S : Sy} {F : Fx} {n : Nat} {pos tpos : Pos} {e : Expr} {es : List Expr} {kk : Nat} {c : PT V} {ct : V → PT Unit} {cts : List (V → PT Unit)}
noncomputable def AsTs (S : Sy) (F : Fx) (ts : List Expr) (cts : List (V → PT Unit)) : Prop := AsL S F ((assignEach ts F.env).map (·.2)) cts
theorem ast_nil : AsTs S F [] [] := .nil
theorem ast_cons (h1 : As S F (fun v => assign e F.env v) ct) (h2 : AsTs S F es cts) (he : assignEach (e :: es) F.env = (false, fun v => assign e F.env v) :: assignEach es F.env := by rfl) : AsTs S F (e :: es) (ct :: cts) := by
  unfold AsTs
  rw [he]
  exact .cons h1 h2
theorem ex_assignTs {ts : List Expr} (hF : Fok S n F) (he : Ev S F (eval e F.env) er c) (hts : AsTs S F ts cts)
    (hstar : (assignEach ts F.env).findIdx? (·.1) = none := by rfl) (hN : (assignEach ts F.env).length = cts.length := by rfl)
    (hs : swapsWithSole [.Tuple ts kk tpos] e pos.line F.env = pure false := by rfl) (hw : swappedStores [.Tuple ts kk tpos] e F.env = pure none := by rfl) :
    Ev S F (exec (.Assign [.Tuple ts kk tpos] e pos) F.env) erF (c.bind fun v => (unpackPT v cts.length).bind fun vs => (PT.assignL cts vs).bind fun _ => PT.pure .next) := by
  have h := ex_assignTup hF he hts hstar hs hw
  rw [hN] at h
  exact h
end
end Mine
end
section
open PySem PySem.W PySem.Calls PySem.Spec PyProof.Rows
set_option maxRecDepth 100000
set_option linter.unusedVariables false
namespace Mine
/-! ## walks under a handler -/
noncomputable def HandAt (A : Around) (h : Heap) (I : Addr) : Prop :=
  A.handled = none ∨ ∃ e oe ws, A.handled = some (.ref e) ∧ e ≠ I ∧ h.get? e = some oe ∧ oe.data = .fields ws ∧ ws[2]? = some .none
noncomputable def handL (A : Around) : List Addr := match A.handled with
  | some (.ref e) => [e]
  | _ => []
theorem HandAt.frame {A : Around} {h h' : Heap} {I : Addr} (hh : HandAt A h I) (hk : ∀ b ∈ handL A, ∀ o, h.get? b = some o → h'.get? b = some o) : HandAt A h' I := by
  rcases hh with h1 | ⟨e, oe, ws, h1, h2, h3, h4, h5⟩
  · exact .inl h1
  · exact .inr ⟨e, oe, ws, h1, h2, hk e (by unfold handL; rw [h1]; exact .head _) _ h3, h4, h5⟩
theorem HandAt.ok {A : Around} {h : Heap} {I : Addr} (hh : HandAt A h I) : ∃ g, HandOk A g ∧ ∀ b o, g.get? b = some o → b ≠ I ∧ h.get? b = some o := by
  rcases hh with h1 | ⟨e, oe, ws, h1, h2, h3, h4, h5⟩
  · refine ⟨hideAll h (List.range h.objs.size), .inl h1, fun b o hb => ?_⟩
    have hlt := Heap.lt_size hb
    rw [hideAll_size] at hlt
    rw [hideAll_none _ (List.mem_range.mpr hlt)] at hb
    cases hb
  · refine ⟨hideAll h ((List.range h.objs.size).filter (· ≠ e)), .inr ⟨e, oe, ws, h1, hideAll_get _ h3 (by simp), h4, h5⟩, fun b o hb => ?_⟩
    have hlt := Heap.lt_size hb
    rw [hideAll_size] at hlt
    by_cases he : b = e
    · subst he; exact ⟨h2, of_hideAll _ hb⟩
    · rw [hideAll_none _ (List.mem_filter.mpr ⟨List.mem_range.mpr hlt, by simpa using he⟩)] at hb
      cases hb
theorem HandOk.at_ {A : Around} {h₀ h : Heap} {I : Addr} (hh : HandOk A h₀) (hk : ∀ b o, h₀.get? b = some o → h.get? b = some o) (hI : h₀.get? I = none) : HandAt A h I := by
  rcases hh with h1 | ⟨e, oe, ws, h1, h2, h3, h4⟩
  · exact .inl h1
  · exact .inr ⟨e, oe, ws, h1, (fun q => by rw [q, hI] at h2; cases h2), hk _ _ h2, h3, h4⟩
theorem HandOk.lt {A : Around} {h₀ h : Heap} (hh : HandOk A h₀) (hk : ∀ b o, h₀.get? b = some o → h.get? b = some o) : ∀ b ∈ handL A, b < h.objs.size := by
  intro b hb
  rcases hh with h1 | ⟨e, oe, ws, h1, h2, h3, h4⟩
  · unfold handL at hb; rw [h1] at hb; cases hb
  · unfold handL at hb; rw [h1] at hb
    rcases List.mem_cons.mp hb with rfl | hb
    · exact Heap.lt_size (hk _ _ h2)
    · cases hb
section
variable {prog : Program} {w : World} {A : Around}
theorem Walks_tuple (I ax : Addr) (hne : ax ≠ I) (items : Array Value) :
    Walks prog w A I ([I, ax] ++ handL A) [I] items.size (fun i v => items[i]? = some v) (fun i h => h.IsTupleIter I ax i ∧ h.IsTuple ax items ∧ HandAt A h I) where
  sub := fun b hb => by simp at hb; simp [hb]
  frame := fun _ _ _ st hk => ⟨st.1.at fun o e => hk I (by simp) o e, st.2.1.at fun o e => hk ax (by simp) o e, st.2.2.frame fun b hb o e => hk b (List.mem_append_right _ hb) o e⟩
  item := fun i s Q E hi st hQ => by
    refine wpAny_pyNext_tuple_item st.1 st.2.1 (x := items[i]) (by simp [hi]) fun h' hit' hs' => ?_
    refine hQ _ h' s.toks (by simp [hi]) ⟨hit', st.2.1.extBut hs'.extBut hne, ?_⟩ fun b o hb e => hs'.extBut b o (fun h => hb (by simp [h])) e
    rcases st.2.2 with h1 | ⟨e, oe, ws, h1, h2, h3, h4, h5⟩
    · exact .inl h1
    · exact .inr ⟨e, oe, ws, h1, h2, hs'.extBut _ _ h2 h3, h4, h5⟩
  done := fun s Q E st hQ => by
    obtain ⟨g, g1, g2⟩ := st.2.2.ok
    exact tuple_end g1 g2 st.1 st.2.1 (by simp) fun h' he' => hQ h' s.toks fun b o hb e => he' b o (fun h => hb (by simp [h])) e
  self := fun _ _ _ _ st hQ => wpAny_pyIter_tupleiter st.1 hQ
theorem Walks_list (I ax : Addr) (hne : ax ≠ I) (items : Array Value) :
    Walks prog w A I ([I, ax] ++ handL A) [I] items.size (fun i v => items[i]? = some v) (fun i h => h.IsListIter I ax i ∧ h.IsList ax items ∧ HandAt A h I) where
  sub := fun b hb => by simp at hb; simp [hb]
  frame := fun _ _ _ st hk => ⟨st.1.at fun o e => hk I (by simp) o e, st.2.1.at fun o e => hk ax (by simp) o e, st.2.2.frame fun b hb o e => hk b (List.mem_append_right _ hb) o e⟩
  item := fun i s Q E hi st hQ => by
    refine wpAny_pyNext_list_item st.1 st.2.1 (x := items[i]) (by simp [hi]) fun h' hit' hs' => ?_
    refine hQ _ h' s.toks (by simp [hi]) ⟨hit', st.2.1.extBut hs'.extBut hne, ?_⟩ fun b o hb e => hs'.extBut b o (fun h => hb (by simp [h])) e
    rcases st.2.2 with h1 | ⟨e, oe, ws, h1, h2, h3, h4, h5⟩
    · exact .inl h1
    · exact .inr ⟨e, oe, ws, h1, h2, hs'.extBut _ _ h2 h3, h4, h5⟩
  done := fun s Q E st hQ => by
    obtain ⟨g, g1, g2⟩ := st.2.2.ok
    exact list_end g1 g2 st.1 st.2.1 (by simp) fun h' he' => hQ h' s.toks fun b o hb e => he' b o (fun h => hb (by simp [h])) e
  self := fun _ _ _ _ st hQ => wpAny_pyIter_listiter st.1 hQ
variable {E : Value → Shared → Prop} {s : Shared}
theorem max2 {h₀ : Heap} {a b : Int} {t u : Tok} {Q : Value → Shared → Prop} (hh : HandOk A h₀) (hk0 : ∀ b o, h₀.get? b = some o → s.heap.get? b = some o)
    (h : ∀ h' tk, (∀ c o, s.heap.get? c = some o → h'.get? c = some o) → Q (if b > a then .int b u else .int a t) { s with heap := h', toks := tk }) :
    wpAny (model prog w) A (call (.builtin "max") [.int a t, .int b u]) Q E s := by
  have hT : (s.heap.push { cls := .type "tuple", data := .seq #[.int a t, .int b u] }).IsTuple s.heap.objs.size (intItems #[(a, t), (b, u)]) := ⟨_, Heap.get?_push_size _ rfl, rfl, 0, by simp [intItems]⟩
  have hk1 : ∀ c o, s.heap.get? c = some o → ((s.heap.push { cls := .type "tuple", data := .seq #[.int a t, .int b u] }).push { cls := .type "tuple_iterator", data := .fields #[.ref s.heap.objs.size, .int 0 0] }).get? c = some o := fun c o e => Heap.get?_push_of_some _ (Heap.get?_push_of_some _ e)
  refine call_max_two (wpAny_pyIter_tuple hT ?_)
  have hsz : (s.heap.push { cls := .type "tuple", data := .seq #[.int a t, .int b u] }).objs.size = s.heap.objs.size + 1 := Heap.size_push ..
  have hI0 : h₀.get? (s.heap.push { cls := .type "tuple", data := .seq #[.int a t, .int b u] }).objs.size = none := by
    cases q : h₀.get? (s.heap.push { cls := .type "tuple", data := .seq #[.int a t, .int b u] }).objs.size with
    | none => rfl
    | some o => have := Heap.lt_size (hk0 _ _ q); rw [hsz] at this; exact absurd (Nat.lt_of_succ_lt this) (Nat.lt_irrefl _)
  refine ⟨_, [_, s.heap.objs.size] ++ handL A.in1, [_], _, _, _, _, rfl, Walks_tuple _ s.heap.objs.size (by rw [hsz]; exact Nat.ne_of_lt (Nat.lt_succ_self _)) (intItems #[(a, t), (b, u)]),
    ⟨⟨_, Heap.get?_push_size _ rfl, rfl, rfl⟩, hT.push _, HandOk.at_ (A := A.in1) hh (fun b o hb => hk1 b o (hk0 b o hb)) hI0⟩, fun c hc => ?_, by simp [intItems], CmpOf.ints_gt (numAt #[(a, t), (b, u)]) (fun _ _ => intItems_at), fun v h' tk hP hk => ?_⟩
  · show c < ((s.heap.push _).push _).objs.size
    rw [Heap.size_push, hsz]
    rcases List.mem_append.mp hc with hc | hc
    · rcases List.mem_cons.mp hc with rfl | hc
      · rw [hsz]; exact Nat.lt_succ_self _
      · rcases List.mem_cons.mp hc with rfl | hc
        · exact Nat.lt_succ_of_lt (Nat.lt_succ_self _)
        · cases hc
    · exact Nat.lt_succ_of_lt (Nat.lt_succ_of_lt (HandOk.lt (A := A.in1) hh hk0 c hc))
  · have hold : ∀ c o, s.heap.get? c = some o → h'.get? c = some o := fun c o e => by
      refine hk c o (fun hm => ?_) (Heap.get?_push_of_some _ (Heap.get?_push_of_some _ e))
      rcases List.mem_cons.mp hm with e1 | hm
      · have := Heap.lt_size e; rw [e1, hsz] at this; exact Nat.lt_irrefl _ (Nat.lt_of_succ_lt this)
      · cases hm
    have := h h' tk hold
    have hv : v = if b > a then Value.int b u else Value.int a t := by
      have hP' : (intItems #[(a, t), (b, u)])[argBest (fun i j => decide (numAt #[(a, t), (b, u)] i > numAt #[(a, t), (b, u)] j)) 1]? = some v := by
        have hsz2 : (intItems #[(a, t), (b, u)]).size - 1 = 1 := by simp [intItems]
        rw [← hsz2]; exact hP
      by_cases hba : b > a
      · have e : argBest (fun i j => decide (numAt #[(a, t), (b, u)] i > numAt #[(a, t), (b, u)] j)) 1 = 1 := by simp [argBest, numAt, hba]
        rw [e] at hP'
        simpa [intItems, hba] using hP'.symm
      · have e : argBest (fun i j => decide (numAt #[(a, t), (b, u)] i > numAt #[(a, t), (b, u)] j)) 1 = 0 := by simp [argBest, numAt, hba]
        rw [e] at hP'
        simpa [intItems, hba] using hP'.symm
    rw [hv]; exact this
theorem min2 {h₀ : Heap} {a b : Int} {t u : Tok} {Q : Value → Shared → Prop} (hh : HandOk A h₀) (hk0 : ∀ b o, h₀.get? b = some o → s.heap.get? b = some o)
    (h : ∀ h' tk, (∀ c o, s.heap.get? c = some o → h'.get? c = some o) → Q (if b < a then .int b u else .int a t) { s with heap := h', toks := tk }) :
    wpAny (model prog w) A (call (.builtin "min") [.int a t, .int b u]) Q E s := by
  have hT : (s.heap.push { cls := .type "tuple", data := .seq #[.int a t, .int b u] }).IsTuple s.heap.objs.size (intItems #[(a, t), (b, u)]) := ⟨_, Heap.get?_push_size _ rfl, rfl, 0, by simp [intItems]⟩
  have hk1 : ∀ c o, s.heap.get? c = some o → ((s.heap.push { cls := .type "tuple", data := .seq #[.int a t, .int b u] }).push { cls := .type "tuple_iterator", data := .fields #[.ref s.heap.objs.size, .int 0 0] }).get? c = some o := fun c o e => Heap.get?_push_of_some _ (Heap.get?_push_of_some _ e)
  refine call_min_two (wpAny_pyIter_tuple hT ?_)
  have hsz : (s.heap.push { cls := .type "tuple", data := .seq #[.int a t, .int b u] }).objs.size = s.heap.objs.size + 1 := Heap.size_push ..
  have hI0 : h₀.get? (s.heap.push { cls := .type "tuple", data := .seq #[.int a t, .int b u] }).objs.size = none := by
    cases q : h₀.get? (s.heap.push { cls := .type "tuple", data := .seq #[.int a t, .int b u] }).objs.size with
    | none => rfl
    | some o => have := Heap.lt_size (hk0 _ _ q); rw [hsz] at this; exact absurd (Nat.lt_of_succ_lt this) (Nat.lt_irrefl _)
  refine ⟨_, [_, s.heap.objs.size] ++ handL A.in1, [_], _, _, _, _, rfl, Walks_tuple _ s.heap.objs.size (by rw [hsz]; exact Nat.ne_of_lt (Nat.lt_succ_self _)) (intItems #[(a, t), (b, u)]),
    ⟨⟨_, Heap.get?_push_size _ rfl, rfl, rfl⟩, hT.push _, HandOk.at_ (A := A.in1) hh (fun b o hb => hk1 b o (hk0 b o hb)) hI0⟩, fun c hc => ?_, by simp [intItems], CmpOf.ints_lt (numAt #[(a, t), (b, u)]) (fun _ _ => intItems_at), fun v h' tk hP hk => ?_⟩
  · show c < ((s.heap.push _).push _).objs.size
    rw [Heap.size_push, hsz]
    rcases List.mem_append.mp hc with hc | hc
    · rcases List.mem_cons.mp hc with rfl | hc
      · rw [hsz]; exact Nat.lt_succ_self _
      · rcases List.mem_cons.mp hc with rfl | hc
        · exact Nat.lt_succ_of_lt (Nat.lt_succ_self _)
        · cases hc
    · exact Nat.lt_succ_of_lt (Nat.lt_succ_of_lt (HandOk.lt (A := A.in1) hh hk0 c hc))
  · have hold : ∀ c o, s.heap.get? c = some o → h'.get? c = some o := fun c o e => by
      refine hk c o (fun hm => ?_) (Heap.get?_push_of_some _ (Heap.get?_push_of_some _ e))
      rcases List.mem_cons.mp hm with e1 | hm
      · have := Heap.lt_size e; rw [e1, hsz] at this; exact Nat.lt_irrefl _ (Nat.lt_of_succ_lt this)
      · cases hm
    have := h h' tk hold
    have hv : v = if b < a then Value.int b u else Value.int a t := by
      have hP' : (intItems #[(a, t), (b, u)])[argBest (fun i j => decide (numAt #[(a, t), (b, u)] i < numAt #[(a, t), (b, u)] j)) 1]? = some v := by
        have hsz2 : (intItems #[(a, t), (b, u)]).size - 1 = 1 := by simp [intItems]
        rw [← hsz2]; exact hP
      by_cases hba : b < a
      · have e : argBest (fun i j => decide (numAt #[(a, t), (b, u)] i < numAt #[(a, t), (b, u)] j)) 1 = 1 := by simp [argBest, numAt, hba]
        rw [e] at hP'
        simpa [intItems, hba] using hP'.symm
      · have e : argBest (fun i j => decide (numAt #[(a, t), (b, u)] i < numAt #[(a, t), (b, u)] j)) 1 = 0 := by simp [argBest, numAt, hba]
        rw [e] at hP'
        simpa [intItems, hba] using hP'.symm
    rw [hv]; exact this
end
section
variable {S : Sy} {F : Fx} {n : Nat}
noncomputable def minPT (vs : List V) : PT V := fun m H k => match vs with
  | [.int a, .int b] => k (.int (if b < a then b else a)) m H
  | _ => False
noncomputable def maxPT (vs : List V) : PT V := fun m H k => match vs with
  | [.int a, .int b] => k (.int (if a < b then b else a)) m H
  | _ => False
theorem St.grow {m : MM} {H : HH} {s : Shared} {h' : Heap} {tk : Nat} (st : St F m H s) (hk : ∀ b o, s.heap.get? b = some o → h'.get? b = some o) : St F m H { s with heap := h', toks := tk } :=
  st.ext st.offNew fun b ob _ hb => hk b ob hb
theorem bi_min (hF : Fok S n F) : Bi S F (.builtin "min") minPT := by
  intro vs m H k s E st h
  unfold minPT at h
  split at h
  case _ e =>
    obtain ⟨u, v, rfl, e1, e2⟩ := map2 e
    obtain ⟨t1, rfl⟩ := er_int e1
    obtain ⟨t2, rfl⟩ := er_int e2
    refine min2 hF.hand st.keep0 fun h' tk hk => ⟨m, H, st.grow hk, .of, ?_⟩
    split at h
    · rename_i q; rw [if_pos q]; exact h
    · rename_i q; rw [if_neg q]; exact h
  case _ => exact h.elim
theorem bi_max (hF : Fok S n F) : Bi S F (.builtin "max") maxPT := by
  intro vs m H k s E st h
  unfold maxPT at h
  split at h
  case _ e =>
    obtain ⟨u, v, rfl, e1, e2⟩ := map2 e
    obtain ⟨t1, rfl⟩ := er_int e1
    obtain ⟨t2, rfl⟩ := er_int e2
    refine max2 hF.hand st.keep0 fun h' tk hk => ⟨m, H, st.grow hk, .of, ?_⟩
    split at h
    · rename_i q; rw [if_pos (show _ > _ from q)]; exact h
    · rename_i q; rw [if_neg (show ¬ _ > _ from q)]; exact h
  case _ => exact h.elim
noncomputable def absPT (vs : List V) : PT V := fun m H k => match vs with
  | [.int a] => k (.int a.natAbs) m H
  | _ => False
theorem bi_abs : Bi S F (.builtin "abs") absPT := by
  intro vs m H k s E st h
  unfold absPT at h
  split at h
  case _ e =>
    obtain ⟨u, rfl, e1⟩ := map1 e
    obtain ⟨t1, rfl⟩ := er_int e1
    refine call_abs_int fun u tk => ⟨m, H, st.toks _, ⟨s.heap, _, rfl⟩, ?_⟩
    rename_i a
    have e : (if a < 0 then -a else a) = (a.natAbs : Int) := by split <;> lia
    rw [e]; exact h
  case _ => exact h.elim
noncomputable def listPT (vs : List V) : PT V := fun m H k => match vs with
  | [.ref a] => ∃ xs, (H a = some (.list xs) ∨ H a = some (.tup xs)) ∧ PT.newList xs m H k
  | _ => False
theorem bi_list : Bi S F (.type "list") listPT := by
  intro vs m H k s E st h
  unfold listPT at h
  split at h
  case _ e =>
    obtain ⟨u, rfl, e1⟩ := map1 e
    obtain rfl := er_ref e1
    obtain ⟨xs, ha, hsz, hk⟩ := h
    obtain ⟨mc, fr, nx⟩ := st.frame
    rename_i a
    obtain ⟨T, o, its, nn, hT, ho, hc, hd, ei⟩ : ∃ (T : String) (o : Obj) (its : Array Value) (nn : Nat), (T = "list" ∨ T = "tuple") ∧ s.heap.get? a = some o ∧ o.cls = .type T ∧ o.data = .seq its nn ∧ its.toList.map er = xs := by
      rcases ha with ha | ha
      · obtain ⟨its, ei, o, ho, hc, nn, hd⟩ := st.list ha
        exact ⟨_, o, its, nn, .inl rfl, ho, hc, hd, ei⟩
      · obtain ⟨its, ei, o, ho, hc, nn, hd⟩ := st.tup ha
        exact ⟨_, o, its, nn, .inr rfl, ho, hc, hd, ei⟩
    subst ei
    have hsz2 : its.size ≤ 10000 := by simpa using hsz
    refine call_list_seq (hsz := size_line_le (by lia)) a hT ho hc hd fun h' c' hkk hn => ?_
    have st' : St F m H { s with heap := h' } := st.grow (tk := s.toks) hkk
    obtain ⟨f1, f2, f3, f4⟩ := st.fresh (r := s.heap.objs.size) size_none
    have hL : s.heap.objs.size ≠ F.L := by
      intro e
      obtain ⟨ob, _, _, hob, _⟩ := fr.ns
      rw [← e, size_none] at hob
      cases hob
    have h0 : F.h₀.get? s.heap.objs.size = none := by
      cases q : F.h₀.get? s.heap.objs.size with
      | none => rfl
      | some o => have := fr.keep _ _ q; rw [size_none] at this; cases this
    refine ⟨m, _, st'.know (o := .list (its.toList.map er)) hn ⟨its, c', rfl, rfl⟩ hL h0 f2 f3 f4, .of, hk _ f1⟩
  case _ => exact h.elim
end
end Mine
namespace Mine
section
variable {m : MM} {H : HH} {k : V → MM → HH → Prop} {i j : Int}
theorem i_min (h : k (.int (if j < i then j else i)) m H) : minPT [.int i, .int j] m H k := h
theorem i_max (h : k (.int (if i < j then j else i)) m H) : maxPT [.int i, .int j] m H k := h
end
end Mine
end
section
open PySem PySem.W PySem.Calls PySem.Spec PyProof.Rows
set_option maxRecDepth 100000
set_option linter.unusedVariables false
namespace Mine
/-! ## comprehensions -/
inductive ClSub (cells : List (Str × Addr)) (names : List (Str × NameKind)) : List (Str × Addr) → Prop
  | nil : ClSub cells names []
  | cons {x : Str} {ca : Addr} {r : List (Str × Addr)} : cells.lookup x = some ca → names.lookup x = some .free → ClSub cells names r → ClSub cells names ((x, ca) :: r)
theorem ClSub.get {cells : List (Str × Addr)} {names : List (Str × NameKind)} {l : List (Str × Addr)} (h : ClSub cells names l) : ∀ x ca, l.lookup x = some ca → cells.lookup x = some ca ∧ names.lookup x = some .free := by
  induction h with
  | nil => intro x ca h; cases h
  | @cons y cb r h1 h2 _ ih =>
    intro x ca h
    rw [List.lookup_cons] at h
    by_cases e : x = y
    · subst e; simp at h; subst h; exact ⟨h1, h2⟩
    · have e2 : (x == y) = false := by simpa using e
      rw [e2] at h; exact ih x ca h
theorem lookup_mapk {f : Str → NameKind → NameKind} {x : Str} : ∀ {names : List (Str × NameKind)}, (names.map fun (n, k) => (n, f n k)).lookup x = (names.lookup x).map (f x)
  | [] => rfl
  | (n, k) :: r => by
    have ih := @lookup_mapk f x r
    rw [List.map_cons, List.lookup_cons, List.lookup_cons]
    by_cases e : x = n
    · subst e; simp
    · have e2 : (x == n) = false := by simpa using e
      rw [e2]; exact ih
theorem relabel_lookup {scope : Scope} {env : Env} {x : Str} : (relabel scope env).names.lookup x = (scope.names.lookup x).map fun k => if (k == NameKind.free && env.scope.kind == .function && env.kindOf x == some .cell) = true then .cell else k := by
  have e : (relabel scope env).names = scope.names.map fun (n, k) => (n, (fun n k => if (k == NameKind.free && env.scope.kind == .function && env.kindOf n == some .cell) = true then NameKind.cell else k) n k) := by
    unfold relabel
    dsimp only
    refine List.map_congr_left fun p _ => ?_
    obtain ⟨n, k⟩ := p
    dsimp only
    split <;> rfl
  rw [e]
  exact lookup_mapk (f := fun n k => if (k == NameKind.free && env.scope.kind == .function && env.kindOf n == some .cell) = true then .cell else k)
theorem relabel_local {scope : Scope} {env : Env} {x : Str} (h : (relabel scope env).names.lookup x = some .local) : scope.names.lookup x = some .local := by
  rw [relabel_lookup] at h
  cases q : scope.names.lookup x with
  | none => rw [q] at h; cases h
  | some k =>
    rw [q] at h
    simp only [Option.map_some, Option.some.injEq] at h
    split at h
    · cases h
    · rw [h]
noncomputable abbrev compFx (F : Fx) (scope : Scope) (cl : List (Str × Addr)) (C : Addr) (mc : Str → Option Value) (P : List (Addr × Obj)) : Fx := ⟨F.A, compEnvC scope cl C F.env, F.h₀, F.L, mc, P⟩
noncomputable def mIn (scope : Scope) (m : MM) : MM := fun y => if scope.names.lookup y = some .local then none else m y
section
variable {S : Sy} {F : Fx} {n : Nat} {scope : Scope} {cl : List (Str × Addr)} {C : Addr} {mc : Str → Option Value} {P : List (Addr × Obj)} {m : MM} {H : HH} {s : Shared}
theorem comp_fok (hF : Fok S n F) (hk : scope.kind = .function) (hsub : ClSub F.env.cells scope.names cl) : Fok S n (compFx F scope cl C mc P) :=
  ⟨hF.frames, hF.kin, hF.top, hF.hand, hF.room, hk, hF.glob, hF.bi, fun x y ca hx hy => hF.cinj x y ca (hsub.get x ca hx).1 (hsub.get y ca hy).1, fun x ca hx h => by
    have h1 := (hsub.get x ca hx).2
    have h2 := relabel_local h
    rw [h1] at h2; cases h2⟩
open Classical in
noncomputable def restCells (F : Fx) (cl : List (Str × Addr)) (h : Heap) : List (Addr × Obj) :=
  (List.range h.objs.size).filterMap fun a => if (∃ x, F.env.cells.lookup x = some a) ∧ (∀ x, cl.lookup x ≠ some a) then (h.get? a).map fun o => (a, o) else none
theorem mem_rest {p : Addr × Obj} {h : Heap} : p ∈ restCells F cl h ↔ h.get? p.1 = some p.2 ∧ (∃ x, F.env.cells.lookup x = some p.1) ∧ ∀ x, cl.lookup x ≠ some p.1 := by
  unfold restCells
  simp only [List.mem_filterMap, List.mem_range]
  constructor
  · rintro ⟨b, hb, e⟩
    split at e
    · rename_i hc
      cases q : h.get? b with
      | none => rw [q] at e; cases e
      | some ob =>
        rw [q] at e
        cases e
        exact ⟨q, hc.1, hc.2⟩
    · cases e
  · rintro ⟨e1, e2⟩
    refine ⟨p.1, Heap.lt_size e1, ?_⟩
    rw [if_pos e2, e1]
    rfl
/-- into a comprehension's own frame and back -/
theorem comp_enter (hF : Fok S n F) (hL : F.env.locals = F.L) (hk : scope.kind = .function) (hsub : ClSub F.env.cells scope.names cl) (st : St F m H s) {h₁ : Heap} {tk : Nat} {ob : Obj}
    (hns : h₁.Ns s.heap.objs.size (fun _ => none)) (hsb : Heap.SameBut s.heap.objs.size (s.heap.push ob) h₁) :
    ∃ mc P', St (compFx F scope cl s.heap.objs.size mc P') (mIn scope m) H { s with heap := h₁, toks := tk } ∧ s.heap.objs.size ≠ F.L ∧
      (∀ I H, Off F H I → I ≠ s.heap.objs.size → Off (compFx F scope cl s.heap.objs.size mc P') H I) ∧
      ∀ m' H' s', St (compFx F scope cl s.heap.objs.size mc P') m' H' s' → (∀ x ca, cl.lookup x = some ca → m' x = m x) → St F m H' s' ∧ Off F H' s.heap.objs.size ∧ ∃ mC, s'.heap.Ns s.heap.objs.size mC := by
  obtain ⟨mc, fr, x1, x2⟩ := st.fr
  have off := st.offNew
  have kp : ∀ b o, s.heap.get? b = some o → h₁.get? b = some o := fun b o hb => hsb.extBut b o (Nat.ne_of_lt (Heap.lt_size hb)) (Heap.get?_push_of_some _ hb)
  have nC : ∀ a o, s.heap.get? a = some o → a ≠ s.heap.objs.size := fun a o h => Nat.ne_of_lt (Heap.lt_size h)
  have hCL : s.heap.objs.size ≠ F.L := off.L
  refine ⟨mc, restCells F cl s.heap ++ F.P, ⟨⟨mc, ⟨?_, fun b o hb => kp b o (fr.keep b o hb), fr.above⟩, fun h => absurd h hCL, fun _ => rfl⟩, fun _ => ⟨_, hns, fun x hx => ?_, off.h0, off.h⟩, fun x ca hx => ?_, fun a o ha => ?_, fun p hp => ?_⟩, hCL, fun I H' o hIC => ⟨o.L, o.h, hIC, fun x hx => o.cell x (hsub.get x _ hx).1, fun p hp => ?_, o.h0⟩, ?_⟩
  · obtain ⟨oL, es, ep, hoL, r⟩ := fr.ns
    exact ⟨oL, es, ep, kp _ _ hoL, r⟩
  · show none = mIn scope m x
    unfold mIn
    rw [if_pos (relabel_local hx)]
  · obtain ⟨h1, h2⟩ := hsub.get x ca hx
    obtain ⟨oc, v, y1, y2, y3, y4, y5, y6, y7⟩ := st.ce x ca h1
    refine ⟨oc, v, kp _ _ y1, y2, ?_, y4, nC _ _ y1, y6, y7⟩
    unfold mIn
    rw [h2, if_neg (by intro h; cases h)]
    exact y3
  · obtain ⟨oa, y1, y2⟩ := st.he a o ha
    exact ⟨oa, kp _ _ y1, y2⟩
  · rcases List.mem_append.mp hp with hp | hp
    · obtain ⟨z1, ⟨x, z2⟩, z3⟩ := mem_rest.mp hp
      obtain ⟨oc, v, y1, y2, y3, y4, y5, y6, y7⟩ := st.ce x _ z2
      exact ⟨kp _ _ z1, y4, y7, nC _ _ z1, z3⟩
    · obtain ⟨y1, y2, y3, y4, y5⟩ := st.pr p hp
      exact ⟨kp _ _ y1, y2, y3, nC _ _ y1, fun x hx => y5 x (hsub.get x _ hx).1⟩
  · rcases List.mem_append.mp hp with hp | hp
    · obtain ⟨z1, ⟨x, z2⟩, z3⟩ := mem_rest.mp hp
      rintro rfl
      exact o.cell x z2
    · exact o.p p hp
  · intro m' H' s' st' hm
    obtain ⟨mc', fr', _, w2⟩ := st'.fr
    obtain rfl := w2 hCL
    obtain ⟨mC, c1, c2, c3, c4⟩ := st'.own hCL
    refine ⟨⟨⟨_, fr', x1, x2⟩, fun h => absurd hL h, fun x ca hx => ?_, st'.he, fun p hp => ?_⟩, ⟨hCL, c4, off.loc, off.cell, off.p, off.h0⟩, mC, c1⟩
    · obtain ⟨oc, v, y1, y2, y3, y4, y5, y6, y7⟩ := st.ce x ca hx
      by_cases hin : ∃ y, cl.lookup y = some ca
      · obtain ⟨y, hy⟩ := hin
        have e := hF.cinj x y ca hx (hsub.get y ca hy).1
        subst e
        obtain ⟨oc', v', t1, t2, t3, t4, t5, t6, t7⟩ := st'.ce x ca hy
        exact ⟨oc', v', t1, t2, by rw [t3]; exact hm x ca hy, t4, y5, t6, t7⟩
      · have hp : (ca, oc) ∈ restCells F cl s.heap := mem_rest.mpr ⟨y1, ⟨x, hx⟩, fun y hy => hin ⟨y, hy⟩⟩
        obtain ⟨t1, t2, t3, _⟩ := st'.pr _ (List.mem_append_left _ hp)
        exact ⟨oc, v, t1, y2, y3, y4, y5, y6, t3⟩
    · obtain ⟨t1, t2, t3, _⟩ := st'.pr p (List.mem_append_right _ hp)
      obtain ⟨_, _, _, y4, y5⟩ := st.pr p hp
      exact ⟨t1, t2, t3, y4, y5⟩
theorem ev_storeOwn (hF : Fok S n F) (hL : F.env.locals ≠ F.L) {x : Str} (hk : F.env.scope.names.lookup x = some .local) (v : Value) : Ev S F (storeName F.env x v) id (PT.setv x (er v)) := by
  intro m H k s E st h
  obtain ⟨mc, hn, hm, h0, hH⟩ := st.own hL
  obtain ⟨mF, fr, x1, x2⟩ := st.fr
  refine wpAny_storeName_local hk hn (fun h' hn' hs => ?_) hF.notMod
  refine ⟨m.set x (er v), H, ⟨⟨mF, ⟨?_, fun b ob hb => ?_, fr.above⟩, fun h => absurd h hL, x2⟩, fun _ => ⟨_, hn', fun y hy => ?_, h0, hH⟩, fun y ca hy => ?_, fun a o ha => ?_, fun p hp => ?_⟩, ⟨h', _, rfl⟩, h⟩
  · exact fr.ns.sameBut hs (Ne.symm hL)
  · rw [hs.2 b (by rintro rfl; rw [h0] at hb; cases hb)]
    exact fr.keep b ob hb
  · unfold MM.set
    by_cases e : y = x
    · simp [e]
    · simp [e, hm y hy]
  · obtain ⟨ob, w, e1, e2, e3, e4, e5, e6, e7⟩ := st.ce y ca hy
    refine ⟨ob, w, (hs.2 ca e5).trans e1, e2, ?_, e4, e5, e6, e7⟩
    unfold MM.set
    rw [if_neg (show ¬ y = x by rintro rfl; exact hF.ckind _ ca hy hk)]
    exact e3
  · obtain ⟨ob, e1, e2, e3, e4⟩ := st.he a o ha
    exact ⟨ob, (hs.2 a (by rintro rfl; rw [hH] at ha; cases ha)).trans e1, e2, e3, e4⟩
  · obtain ⟨y1, y2, y3, y4, y5⟩ := st.pr p hp
    exact ⟨(hs.2 p.1 y4).trans y1, y2, y3, y4, y5⟩
noncomputable def TestsEv (S : Sy) (F : Fx) (ifs : List Expr) (ct : PT Bool) : Prop :=
  Ev S F (forIn ifs true fun c r => if r = true then do let ok ← isTrue c F.env (eval c F.env); pure (ForInStep.yield ok) else pure (ForInStep.yield r)) id ct
theorem te_nil : TestsEv S F [] (PT.pure true) := fun m H k s E st h => by
  rw [List.forIn_nil]
  exact wpAny_pure ⟨m, H, st, .refl _, h⟩
theorem te_one {c : Expr} {ct : PT Bool} (h : Ev S F (isTrue c F.env (eval c F.env)) id ct) : TestsEv S F [c] ct := fun m H k s E st hk => by
  rw [List.forIn_cons]
  refine wpAny_bind ?_
  show wpAny _ _ (if true = true then _ else _) _ _ _
  rw [if_pos rfl]
  refine wpAny_bind (h.use st hk fun b m1 H1 s1 st1 sm1 h1 => wpAny_pure ?_)
  dsimp only
  rw [List.forIn_nil]
  exact wpAny_pure ⟨m1, H1, st1, sm1, h1⟩
noncomputable def compGo (g : HH → Prop) (x : Str) (ct : PT Bool) (ce : PT V) (D : Addr) (k : HH → Prop) : List V → List V → MM → HH → Prop
  | [], _, _, H => g H ∧ k H
  | v :: r, acc, m, H => g H ∧ ct (m.set x v) H (fun b m1 H1 => m1 = m.set x v ∧ H1 D = some (.list acc) ∧ (if b = true then ce m1 H1 (fun u m2 H2 => m2 = m.set x v ∧ H2 D = some (.list acc) ∧ compGo g x ct ce D k r (acc ++ [u]) (m.set x v) (H2.set D (.list (acc ++ [u]))))
      else compGo g x ct ce D k r acc (m.set x v) H1))
theorem comp_loop {elt iter : Expr} {x : Str} {px pos : Pos} {ifs : List Expr} {scope' : Scope} {ct : PT Bool} {ce : PT V} {I D : Addr} {items : List V} {g : HH → Prop} {W : Nat → Obj → Prop} {ob : Obj} {k : HH → Prop} {R : Result → Shared → Prop}
    (hF : Fok S n F) (hL : F.env.locals ≠ F.L) (hx : F.env.scope.names.lookup x = some .local) (it : Iter S F I items g W) (ht : ∀ p, TestsEv S (F.withP p) ifs ct) (he : ∀ p, Ev S (F.withP p) (eval elt F.env) er ce)
    (st : St F m H s) (off : Off F H I) (hI : s.heap.get? I = some ob) (hW : W 0 ob) (hz : items.length ≤ 10000) (h : compGo g x ct ce D k items [] m H)
    (hR : ∀ m' H' s', St F m' H' s' → (∀ y, y ≠ x → m' y = m y) → Same s s' → k H' → R (.ok .next) s') :
    codeAny S.M F.A (.compLoop (.ListComp elt [⟨.Name x px, iter, ifs, 0⟩] scope' pos) 0 (.ref I) (.ref D) F.env) R s := by
  refine codeAny_compLoop_tests (ForInv F s I W items.length fun i => AccInv (fun m' => ∀ y, y ≠ x → m' y = m y) (fun acc m' H' => compGo g x ct ce D k (items.drop i) acc m' H') i) ?_ items.length
    ⟨0, m, H, ob, st, off, hI, hW, .refl _, Nat.zero_le _, rfl, [], fun _ _ => rfl, Nat.zero_le _, h⟩
  rintro j s' ⟨i, m', H', ob', st', off', hI', hW', sm', hi, rfl, acc, hm', hacc, hg⟩
  rcases Nat.lt_or_ge i items.length with hlt | hge
  · have e : items.drop i = items[i] :: items.drop (i + 1) := List.drop_eq_getElem_cons hlt
    rw [e] at hg
    obtain ⟨hgH, hgo⟩ := hg
    refine it.item i m' H' s' ob' _ _ _ st' off' hI' hW' hgH (List.getElem?_eq_getElem hlt) fun u h₁ tk ob₁ hu hI₁ hW₁ kp => ?_
    have st₁ : St (F.withP (I, ob₁)) m' H' { s' with heap := h₁, toks := tk } := (st'.ext off' kp).protect off' hI₁
    rw [← hu] at hgo
    refine wpAny_assign_Name ((ev_storeOwn (hF.withP (I, ob₁)) hL hx u).use (P := fun _ m₂ H₂ => m₂ = m'.set x (er u) ∧ H₂ = H') st₁ ⟨rfl, rfl⟩ fun _ m₂ H₂ s₂ st₂ sm₂ h₂ => ?_)
    obtain ⟨rfl, rfl⟩ := h₂
    have hmx : ∀ y, y ≠ x → (m'.set x (er u)) y = m y := fun y hy => by
      unfold MM.set; rw [if_neg hy]; exact hm' y hy
    refine (ht (I, ob₁)).use st₂ hgo fun b m₃ H₃ s₃ st₃ sm₃ h₃ => ?_
    obtain ⟨rfl, hD₃, h₃⟩ := h₃
    cases b with
    | false =>
      simp only [id, Bool.false_eq_true, if_false] at h₃ ⊢
      exact ⟨items.length - (i + 1), by lia, i + 1, _, H₃, ob₁, st₃.unprotect, off'.of st₃, (st₃.pr (I, ob₁) (.head _)).1, hW₁, ((sm'.trans .of).trans sm₂).trans sm₃, hlt, rfl, acc, hmx, Nat.le_succ_of_le hacc, h₃⟩
    | true =>
      simp only [id, if_true] at h₃ ⊢
      refine (he (I, ob₁)).use st₃ h₃ fun w m₄ H₄ s₄ st₄ sm₄ h₄ => ?_
      obtain ⟨rfl, hD₄, h₄⟩ := h₄
      refine call_append st₄ hD₄ (by lia) fun h' st₅ => ?_
      exact ⟨items.length - (i + 1), by lia, i + 1, _, _, ob₁, st₅.unprotect, off'.of st₅, (st₅.pr (I, ob₁) (.head _)).1, hW₁, ((((sm'.trans .of).trans sm₂).trans sm₃).trans sm₄).trans ⟨h', _, rfl⟩, hlt, rfl, acc ++ [er w], hmx, by rw [List.length_append]; exact Nat.succ_le_succ hacc, h₄⟩
  · have e : items.drop i = [] := List.drop_eq_nil_of_le hge
    rw [e] at hg
    have hii : i = items.length := Nat.le_antisymm hi hge
    subst hii
    refine it.done m' H' s' ob' _ _ st' off' hI' hW' hg.1 fun h₁ tk kp => ?_
    exact hR m' H' _ (st'.ext off' kp) hm' (sm'.trans .of) hg.2
end
end Mine
end
section
open PySem PySem.W PySem.Calls PySem.Spec PyProof.Rows
set_option maxRecDepth 100000
set_option linter.unusedVariables false
namespace Mine
section
variable {S : Sy} {F : Fx} {n : Nat} {I : Addr} {m : MM} {H : HH} {s : Shared}
theorem iter_tup (hF : Fok S n F) {a : Addr} {xs : List V} (hne : a ≠ I) : Iter S F I xs (fun H => H a = some (.tup xs)) (fun i ob => ob.cls = .type "tuple_iterator" ∧ ob.data = .fields #[.ref a, .int i 0]) where
  item := fun i m H s ob v Q E st off hI hW hg hv hQ => by
    obtain ⟨its, ei, li⟩ := st.tup hg
    subst ei
    rw [List.getElem?_map] at hv
    obtain ⟨u, hu, e⟩ := Option.map_eq_some_iff.mp hv
    rw [Array.getElem?_toList] at hu
    refine wpAny_pyNext_tuple_item ⟨ob, hI, hW.1, hW.2⟩ li hu fun h' hit hs => ?_
    obtain ⟨ob', x1, x2, x3⟩ := hit
    exact hQ u h' s.toks ob' e x1 ⟨x2, x3⟩ fun b o hb hbo => (hs.2 b hb).trans hbo
  done := fun m H s ob Q E st off hI hW hg hQ => by
    obtain ⟨its, ei, li⟩ := st.tup hg
    refine tuple_end hF.hand (fun b o hb => ⟨(by rintro rfl; rw [off.h0] at hb; cases hb), st.keep0 b o hb⟩) ⟨ob, hI, hW.1, hW.2⟩ li ?_ fun h' he => hQ h' s.toks he
    rw [← ei]
    simp
noncomputable def seqO (b : Bool) (xs : List V) : O := if b = true then .tup xs else .list xs
noncomputable def compPT (scope : Scope) (x : Str) (ct : PT Bool) (ce : PT V) (v : V) : PT V := fun m H k => match v with
  | .ref a => ∃ b xs, H a = some (seqO b xs) ∧ xs.length ≤ 10000 ∧ ∀ D, H D = none → compGo (fun H => H a = some (seqO b xs)) x ct ce D (fun H' => k (.ref D) m H') xs [] (mIn scope m) (H.set D (.list []))
  | _ => False
/-- the loop of a comprehension over a list or a tuple, from the iterable on -/
theorem comp_core {elt iter : Expr} {x : Str} {px pos : Pos} {ifs : List Expr} {scope : Scope} {cl : List (Str × Addr)} {ct : PT Bool} {ce : PT V} {k : V → MM → HH → Prop} {E : Value → Shared → Prop} {QQ : Value → Addr → Result → Shared → Prop} {xv : Value}
    (hF : Fok S n F) (hL : F.env.locals = F.L) (hk : scope.kind = .function) (hsub : ClSub F.env.cells scope.names cl) (hcell : ∀ y ∈ scope.names, y.2 ≠ .cell) (hx : scope.names.lookup x = some .local)
    (ht : ∀ C mc P, Fok S n (compFx F scope cl C mc P) → TestsEv S (compFx F scope cl C mc P) ifs ct)
    (he : ∀ C mc P, Fok S n (compFx F scope cl C mc P) → Ev S (compFx F scope cl C mc P) (eval elt (compEnvC scope cl C F.env)) er ce)
    (st : St F m H s) (h : compPT scope x ct ce (er xv) m H k)
    (hQ : ∀ D C H' s', St F m H' s' → Off F H' C → (∃ mC, s'.heap.Ns C mC) → Same s s' → k (.ref D) m H' → QQ (.ref D) C (.ok .next) s') :
    wpAny S.M F.A (pyIter xv) (fun it s₂ => wpAny S.M F.A (newList []) (fun acc s₃ =>
      wpAny S.M F.A (newFunctionEnv scope F.env.globals cl [] F.env.qual none .none (some F.env)) (fun cenv s₄ =>
        codeAny S.M F.A (.compStart (.ListComp elt [⟨.Name x px, iter, ifs, 0⟩] scope pos) 0 it acc { cenv with scope := relabel scope F.env }) (QQ acc cenv.locals) s₄) E s₃) E s₂) E s := by
  unfold compPT at h
  split at h
  case _ a e1 =>
    obtain rfl := er_ref e1
    obtain ⟨bb, xs, ha, hz, hgo⟩ := h
    -- after the iterator is made
    have main : ∀ (s₂ : Shared) (ob : Obj) (W : Nat → Obj → Prop), s₂.heap.get? s.heap.objs.size = some ob → W 0 ob → St F m H s₂ → Off F H s.heap.objs.size → Same s s₂ →
        (∀ F', Fok S n F' → Iter S F' s.heap.objs.size xs (fun H => H a = some (seqO bb xs)) W) →
        (∀ (t : Shared) ob' Q, t.heap.get? s.heap.objs.size = some ob' → W 0 ob' → Q (.ref s.heap.objs.size) t → ∀ E', wpAny S.M F.A (pyIter (.ref s.heap.objs.size)) Q E' t) →
        wpAny S.M F.A (newList []) (fun acc s₃ =>
          wpAny S.M F.A (newFunctionEnv scope F.env.globals cl [] F.env.qual none .none (some F.env)) (fun cenv s₄ =>
          codeAny S.M F.A (.compStart (.ListComp elt [⟨.Name x px, iter, ifs, 0⟩] scope pos) 0 (.ref s.heap.objs.size) acc { cenv with scope := relabel scope F.env }) (QQ acc cenv.locals) s₄) E s₃) E s₂ := by
      intro s₂ ob W hI hW st₂ off sm it hself_
      have stp := st₂.protect off hI
      refine (ev_newList (S := S) (F := F.withP (s.heap.objs.size, ob)) (vs := [])).use (P := fun v m1 H1 => ∃ D, v = .ref D ∧ m1 = m ∧ H D = none ∧ H1 = H.set D (.list [])) stp ⟨by simp, fun r hr => ⟨r, rfl, rfl, hr, rfl⟩⟩ fun acc m1 H1 s₃ st₃ sm₃ ⟨D, eD, em, hD, eH⟩ => ?_
      subst em eH
      obtain rfl := er_ref eD
      refine wpAny_newFunctionEnv hcell (by intro y hy; simp at hy) (fun h₁ hns hsb => ?_) hk
      obtain ⟨mc, P', st₄, hCL, offC, back⟩ := comp_enter (tk := s₃.toks + ([] : List (Str × Value)).length) hF hL hk hsub st₃.unprotect hns hsb
      have hI₃ : s₃.heap.get? s.heap.objs.size = some ob := (st₃.pr (s.heap.objs.size, ob) (.head _)).1
      have hIC : s.heap.objs.size ≠ s₃.heap.objs.size := Nat.ne_of_lt (Heap.lt_size hI₃)
      have hI₄ : h₁.get? s.heap.objs.size = some ob := hsb.extBut _ _ hIC (Heap.get?_push_of_some _ hI₃)
      have off₃ : Off F (H.set D (.list [])) s.heap.objs.size := off.of (ob := ob) st₃
      have hF' : Fok S n (compFx F scope cl s₃.heap.objs.size mc P') := comp_fok hF hk hsub
      have hxl : (relabel scope F.env).names.lookup x = some .local := by
        rw [relabel_lookup, hx]; rfl
      have loop : codeAny S.M F.A (.compLoop (.ListComp elt [⟨.Name x px, iter, ifs, 0⟩] scope pos) 0 (.ref s.heap.objs.size) (.ref D) (compEnvC scope cl s₃.heap.objs.size F.env))
          (QQ (.ref D) s₃.heap.objs.size) { s₃ with heap := h₁, toks := s₃.toks + ([] : List (Str × Value)).length } := by
        refine comp_loop (F := compFx F scope cl s₃.heap.objs.size mc P') hF' hCL hxl (it _ hF') (fun p => ht _ _ _ (hF'.withP p)) (fun p => he _ _ _ (hF'.withP p)) st₄ (offC _ _ off₃ hIC) hI₄ hW hz (hgo D hD) fun m' H' s' st' hm sm' hk' => ?_
        obtain ⟨b1, b2, b3⟩ := back m' H' s' st' fun y ca hy => by
          have hyl := (hsub.get y ca hy).2
          have hyx : y ≠ x := by rintro rfl; rw [hx] at hyl; cases hyl
          rw [hm y hyx]
          unfold mIn
          rw [hyl, if_neg (by intro h; cases h)]
        exact hQ D _ H' s' b1 b2 b3 (((sm.trans sm₃).trans ⟨h₁, _, rfl⟩).trans sm') hk'
      exact codeAny_compStart_list loop (hself_ _ ob _ hI₄ hW loop _)
    have off := st.offNew
    cases bb with
    | false =>
      obtain ⟨its, ei, li⟩ := st.list ha
      have hne : a ≠ s.heap.objs.size := by
        obtain ⟨o, ho, _⟩ := li
        exact Nat.ne_of_lt (Heap.lt_size ho)
      refine wpAny_pyIter_list li ?_
      exact main _ _ (fun i ob => ob.cls = .type "list_iterator" ∧ ob.data = .fields #[.ref a, .int i 0]) (Heap.get?_push_size _ rfl) ⟨rfl, rfl⟩ (st.ext (tk := s.toks) off fun b o _ hb => Heap.get?_push_of_some _ hb) off .of
        (fun F' hF' => iter_list hF' hne) (fun t ob' Q g1 g2 hQ' E' => wpAny_pyIter_listiter ⟨ob', g1, g2.1, g2.2⟩ hQ')
    | true =>
      obtain ⟨its, ei, li⟩ := st.tup ha
      have hne : a ≠ s.heap.objs.size := by
        obtain ⟨o, ho, _⟩ := li
        exact Nat.ne_of_lt (Heap.lt_size ho)
      refine wpAny_pyIter_tuple li ?_
      exact main _ _ (fun i ob => ob.cls = .type "tuple_iterator" ∧ ob.data = .fields #[.ref a, .int i 0]) (Heap.get?_push_size _ rfl) ⟨rfl, rfl⟩ (st.ext (tk := s.toks) off fun b o _ hb => Heap.get?_push_of_some _ hb) off .of
        (fun F' hF' => iter_tup hF' hne) (fun t ob' Q g1 g2 hQ' E' => wpAny_pyIter_tupleiter ⟨ob', g1, g2.1, g2.2⟩ hQ')
  case _ => exact h.elim
theorem ev_comp {elt iter : Expr} {x : Str} {px pos : Pos} {ifs : List Expr} {scope : Scope} {cl : List (Str × Addr)} {c : PT V} {ct : PT Bool} {ce : PT V}
    (hF : Fok S n F) (hL : F.env.locals = F.L) (hi : Ev S F (eval iter F.env) er c) (hsub : ClSub F.env.cells scope.names cl)
    (ht : ∀ C mc P, Fok S n (compFx F scope cl C mc P) → TestsEv S (compFx F scope cl C mc P) ifs ct)
    (he : ∀ C mc P, Fok S n (compFx F scope cl C mc P) → Ev S (compFx F scope cl C mc P) (eval elt (compEnvC scope cl C F.env)) er ce)
    (hclos : closureFor scope F.env = pure cl := by rfl) (hk : scope.kind = .function := by rfl) (hcell : ∀ y ∈ scope.names, y.2 ≠ .cell := by decide) (hx : scope.names.lookup x = some .local := by rfl)
    (hnames : ∀ y ∈ scope.names, y.2 = .local → scope.names.lookup y.1 = some .local := by decide)
    (hs : ∀ x, foldedSetIterable iter F.env x = pure x := by intro _; rfl) :
    Ev S F (eval (.ListComp elt [⟨.Name x px, iter, ifs, 0⟩] scope pos) F.env) er (c.bind (compPT scope x ct ce)) := fun m H k s E st h => by
  rw [eval_ListComp]
  refine wpAny_comprehension_free (use := none) rfl hs hclos hk hnames (hi.use st h fun xv m1 H1 s1 st1 sm1 h1 => ?_)
  refine comp_core (E := E) (QQ := fun acc C => compPost S.M F.A E none (EvQ F er s k) acc C) hF hL hk hsub hcell hx ht he st1 h1 fun D C H' s' st' off' ⟨mC, hC⟩ sm' hk' => ?_
  exact ⟨mC, hC, fun h' hs' => ⟨m1, H', st'.ext (tk := s'.toks) off' fun b o hb hbo => (hs'.2 b hb).trans hbo, (sm1.trans sm').trans .of, hk'⟩⟩
theorem ex_assignComp {elt iter : Expr} {x y : Str} {px py pos spos : Pos} {ifs : List Expr} {scope : Scope} {cl : List (Str × Addr)} {c : PT V} {ct : PT Bool} {ce : PT V}
    (hF : Fok S n F) (hL : F.env.locals = F.L) (hst : ∀ p, Stores S (F.withP p) y) (hi : Ev S F (eval iter F.env) er c) (hsub : ClSub F.env.cells scope.names cl)
    (ht : ∀ C mc P, Fok S n (compFx F scope cl C mc P) → TestsEv S (compFx F scope cl C mc P) ifs ct)
    (he : ∀ C mc P, Fok S n (compFx F scope cl C mc P) → Ev S (compFx F scope cl C mc P) (eval elt (compEnvC scope cl C F.env)) er ce)
    (hsw : swapsWith (.ListComp elt [⟨.Name x px, iter, ifs, 0⟩] scope pos) (some (.Name y py)) spos.line F.env = pure true := by rfl)
    (hclos : closureFor scope F.env = pure cl := by rfl) (hk : scope.kind = .function := by rfl) (hcell : ∀ y ∈ scope.names, y.2 ≠ .cell := by decide) (hx : scope.names.lookup x = some .local := by rfl)
    (hnames : ∀ y ∈ scope.names, y.2 = .local → scope.names.lookup y.1 = some .local := by decide)
    (hs : ∀ x, foldedSetIterable iter F.env x = pure x := by intro _; rfl) :
    Ev S F (exec (.Assign [.Name y py] (.ListComp elt [⟨.Name x px, iter, ifs, 0⟩] scope pos) spos) F.env) erF ((c.bind (compPT scope x ct ce)).bind fun v => (PT.setv y v).bind fun _ => PT.pure .next) := fun m H k s E st h => by
  rw [exec_Assign_Name_used _ _ _ _ hsw]
  refine wpAny_bind (wpAny_standAt (wpAny_bind ?_))
  show wpAny _ F.A (do let _ ← comprehension (.ListComp elt [⟨.Name x px, iter, ifs, 0⟩] scope pos) scope F.env _ (newList []) false (eval iter F.env) (some (assign (.Name y py) F.env))) _ _ s
  refine wpAny_bind (wpAny_mono (wpAny_comprehension_free (use := some (assign (.Name y py) F.env)) (Q := fun _ s' => EvQ F erF s k .next s') rfl hs hclos hk hnames
    (hi.use st h fun xv m1 H1 s1 st1 sm1 h1 => ?_)) (fun _ s' hq => wpAny_pure (wpAny_pure hq)) fun _ _ e => e)
  refine comp_core (E := E) (QQ := fun acc C => compPost S.M F.A E (some (assign (.Name y py) F.env)) (fun _ s' => EvQ F erF s k .next s') acc C) hF hL hk hsub hcell hx ht he st1 h1 fun D C H' s' st' off' ⟨mC, hC⟩ sm' hk' => ?_
  obtain ⟨oC, es, ep, hoC, r⟩ := hC
  show wpAny _ F.A (assign (.Name y py) F.env (.ref D)) _ _ _
  refine wpAny_assign_Name ((hst (C, oC) (.ref D)).use (P := fun _ m2 H2 => m2 = m1.set y (.ref D) ∧ H2 = H') (st'.protect off' hoC) ⟨rfl, rfl⟩ fun _ m2 H2 s2 st2 sm2 ⟨e1, e2⟩ => ?_)
  subst e1 e2
  have hC2 := (st2.pr (C, oC) (.head _)).1
  refine ⟨mC, ⟨oC, es, ep, hC2, r⟩, fun h' hs' => ⟨_, H2, st2.unprotect.ext (tk := s2.toks) (off'.of st2) fun b o hb hbo => (hs'.2 b hb).trans hbo, ((sm1.trans sm').trans sm2).trans .of, hk'⟩⟩
end
end Mine
end
section
open PySem PySem.W PySem.Calls PySem.Spec PyProof.Rows
set_option maxRecDepth 100000
set_option linter.unusedVariables false
namespace Mine
/-! ## defs with cells -/
theorem bindL_get {kindOf : Str → Option NameKind} {x : Str} (hx : kindOf x = some .local) : ∀ (binds : List (Str × Value)) (m0 : Str → Option Value), bindL kindOf binds m0 x = match binds.reverse.lookup x with | some v => some v | none => m0 x
  | [], m0 => rfl
  | (n, v) :: r, m0 => by
    unfold bindL
    rw [bindL_get hx r, List.reverse_cons, List.lookup_append]
    cases q : List.lookup x r.reverse with
    | some u => simp
    | none =>
      simp only [Option.none_or, List.lookup_cons, List.lookup_nil]
      by_cases e : x = n
      · subst e; rw [hx]; simp
      · have e2 : (x == n) = false := by simpa using e
        rw [e2]
        split
        · simp [e]
        · rfl
theorem bindC_get {kindOf : Str → Option NameKind} {x : Str} (hx : kindOf x ≠ some .local) : ∀ (binds : List (Str × Value)) (m0 : Str → Option Value), bindC kindOf binds m0 x = match binds.reverse.lookup x with | some v => some v | none => m0 x
  | [], m0 => rfl
  | (n, v) :: r, m0 => by
    unfold bindC
    rw [bindC_get hx r, List.reverse_cons, List.lookup_append]
    cases q : List.lookup x r.reverse with
    | some u => simp
    | none =>
      simp only [Option.none_or, List.lookup_cons, List.lookup_nil]
      by_cases e : x = n
      · subst e; rw [if_neg hx]; simp
      · have e2 : (x == n) = false := by simpa using e
        rw [e2]
        split
        · rfl
        · simp [e]
theorem lookup_some_mem {α : Type} {x : Str} {v : α} : ∀ {l : List (Str × α)}, l.lookup x = some v → (x, v) ∈ l
  | [], h => by cases h
  | (y, u) :: r, h => by
    rw [List.lookup_cons] at h
    by_cases e : x = y
    · subst e; simp at h; subst h; exact .head _
    · have e2 : (x == y) = false := by simpa using e
      rw [e2] at h
      exact .tail _ (lookup_some_mem h)
theorem lookup_isSome {α : Type} {x : Str} : ∀ {l : List (Str × α)}, x ∈ l.map (·.1) → (l.lookup x).isSome = true
  | [], h => by cases h
  | (y, u) :: r, h => by
    rw [List.lookup_cons]
    by_cases e : x = y
    · subst e; simp
    · have e2 : (x == y) = false := by simpa using e
      rw [e2]
      rcases List.mem_cons.mp h with h | h
      · exact absurd h e
      · exact lookup_isSome h
theorem apart_inj {cs : List (Str × Addr)} (h : cs.Pairwise fun x y => x.2 ≠ y.2) {x y : Str} {ca : Addr} (hx : (x, ca) ∈ cs) (hy : (y, ca) ∈ cs) : x = y := by
  induction cs with
  | nil => cases hx
  | cons p r ih =>
    rw [List.pairwise_cons] at h
    rcases List.mem_cons.mp hx with e1 | hx
    · rcases List.mem_cons.mp hy with e2 | hy
      · rw [← e1] at e2; cases e2; rfl
      · exact absurd (by rw [← e1]) (h.1 _ hy)
    · rcases List.mem_cons.mp hy with e2 | hy
      · exact absurd (by rw [← e2]) (h.1 _ hx)
      · exact ih h.2 hx hy
section
variable {S : Sy} {F : Fx} {n : Nat} {m : MM} {H : HH} {s : Shared}
theorem con_of_bodyC {fa : Addr} {spec : SpecT} {c : PT Fl} {qual : Str} {name : Str} {params : Arguments} {body : List Stmt} {scope : Scope} {dV kV doc pm cdv ct oc : Value} {an od : Option Addr} {osl : Array (Option Value)}
    (ho : S.K.lookup fa = some ⟨oc, od, .func (fnOf name qual params body scope dV kV doc pm an cdv ct), osl⟩) (hcd : codeIn S.K cdv qual = true)
    (hbody : ∀ A h₀ L mL P, Fok S n ⟨A, envOfC qual scope L fa cdv, h₀, L, mL, P⟩ → Ev S ⟨A, envOfC qual scope L fa cdv, h₀, L, mL, P⟩ (execs body (envOfC qual scope L fa cdv)) erF c)
    (hspec : ∀ vs H k, spec vs H k → vs.length = params.args.length ∧ c (bindM ((params.args.map (·.arg)).zip vs)) H (endK k))
    (hbind : ∀ vs : List Value, vs.length = params.args.length → bindArgs (fnOf name qual params body scope dV kV doc pm an cdv ct) ⟨vs, []⟩ = pure ((params.args.map (·.arg)).zip vs))
    (hloc : (params.args.all fun a => decide (scope.names.lookup a.arg = some .local) || (decide (scope.names.lookup a.arg = some .cell) && ((cellsFrom 0 scope.names []).map (·.1)).contains a.arg)) = true)
    (hcn : ((cellsFrom 0 scope.names []).all fun p => decide (scope.names.lookup p.1 = some .cell)) = true) (hco : scope.isCoroutine = false) (hgen : scope.isGenerator = false) (hk : scope.kind = .function) :
    Con S (n + 1) fa spec := by
  intro F hF m H vs k R s st hs hR
  obtain ⟨hlen, hc⟩ := hspec _ _ _ hs
  rw [List.length_map] at hlen
  obtain ⟨mc, g, base, outer, fenv, FG, BG, stay, hsz, hA, gh, gn, hnd, back⟩ := st.enter hF
  have hK := st.kinC hF
  have hnames : ∀ L, (cellsFrom (L + 1) scope.names []).map (·.1) = (cellsFrom 0 scope.names []).map (·.1) := fun L => (cellsFrom_names scope.names 0 (L + 1) [] [] rfl).symm
  have hkd : ∀ L x ca, (x, ca) ∈ cellsFrom (L + 1) scope.names [] → scope.names.lookup x = some .cell := fun L x ca hx => by
    have h1 : x ∈ (cellsFrom (L + 1) scope.names []).map (·.1) := List.mem_map.mpr ⟨(x, ca), hx, rfl⟩
    rw [hnames] at h1
    obtain ⟨p, hp, e⟩ := List.mem_map.mp h1
    have h2 := of_decide_eq_true (List.all_eq_true.mp hcn p hp)
    rw [e] at h2
    exact h2
  refine codeAny_call_function (fd := fnOf name qual params body scope dV kV doc pm an cdv ct) (by have h1 := hF.room.1; show F.A.depth < 1000; lia) (hK _ _ ho) rfl hco hgen rfl (codeRec_of hK hcd)
    (wpAny_of_eq (hbind vs hlen) ?_)
  refine wpAny_newFunctionEnv_cells hk (fun y hy => ?_) fun env' he s' x => ?_
  · have hm : y.1 ∈ params.args.map (·.arg) := (List.of_mem_zip hy).1
    obtain ⟨a, ha, e⟩ := List.mem_map.mp hm
    have h1 := List.all_eq_true.mp hloc a ha
    rw [e] at h1
    rcases Bool.or_eq_true _ _ ▸ h1 with h1 | h1
    · exact .inl (of_decide_eq_true h1)
    · rw [Bool.and_eq_true] at h1
      refine .inr ⟨of_decide_eq_true h1.1, lookup_isSome ?_⟩
      rw [hnames]
      simpa using h1.2
  subst he
  obtain ⟨mcF, frF, _⟩ := st.fr
  refine ⟨((Top.nolimit hF.top).keeps frF.keep).keeps x.toInCall.keep, codeAny_func ?_⟩
  obtain ⟨h₁, tk, rfl, _⟩ := x.done
  have hk₁ := x.toInCall.keep
  have hF' : Fok S n ⟨F.A.deeper (envOfC qual scope s.heap.objs.size fa cdv), envOfC qual scope s.heap.objs.size fa cdv, g, s.heap.objs.size, fun _ => none, []⟩ := by
    refine ⟨⟨F.A, base, fenv :: outer, envOfC qual scope s.heap.objs.size fa cdv, BG, Around.frames_deeper hA, rfl, hk⟩, hF.kin.keeps stay, hF.top.keeps stay, hnd, ?_, hk, rfl, rfl, (fun y z ca hy hz => apart_inj x.apart (lookup_some_mem hy) (lookup_some_mem hz)), fun y ca hy h => ?_⟩
    · have h1 := hF.room
      exact ⟨by have := h1.1; show F.A.depth + 1 + 4 * n ≤ 900; lia, by have := h1.2; show F.A.units + 3 + 40 * n ≤ 9000; lia⟩
    · have h1 := hkd _ _ _ (lookup_some_mem hy)
      have h2 : scope.names.lookup y = some .local := h
      rw [h1] at h2; cases h2
  have hbm : ∀ y, (List.lookup y ((params.args.map (·.arg)).zip vs).reverse).map er = bindM ((params.args.map (·.arg)).zip (vs.map er)) y := fun y => by
    unfold bindM
    rw [lookup_er, List.map_reverse]
    congr 2
    rw [List.zip_map_right]
    rfl
  have st' : St ⟨F.A.deeper (envOfC qual scope s.heap.objs.size fa cdv), envOfC qual scope s.heap.objs.size fa cdv, g, s.heap.objs.size, fun _ => none, []⟩ (bindM ((params.args.map (·.arg)).zip (vs.map er))) H { s with heap := h₁, toks := tk } := by
    refine ⟨⟨_, ⟨x.toInCall.ns, fun b o e => hk₁ b o (gh b o e), Nat.le_of_eq hsz⟩, fun _ y hy => ?_, fun hne => absurd rfl hne⟩, fun hne => absurd rfl hne, fun y ca hy => ?_, fun a o ha => ?_, fun p hp => (nomatch hp)⟩
    · rw [← hbm]
      have hy' : scope.names.lookup y = some .local := hy
      refine Eq.trans (congrArg (Option.map er) (bindL_get (x := y) ?_ _ _)) ?_
      · exact hy'
      cases List.lookup y ((params.args.map (·.arg)).zip vs).reverse <;> rfl
    · obtain ⟨oc, hoc, hdc⟩ := x.cell y ca hy
      have hky := hkd _ _ _ (lookup_some_mem hy)
      have hab : s.heap.objs.size < ca := x.above y ca (lookup_some_mem hy)
      have hn : s.heap.get? ca = none := by
        cases q : s.heap.get? ca with
        | none => rfl
        | some o => exact absurd (Nat.lt_trans hab (Heap.lt_size q)) (Nat.lt_irrefl _)
      refine ⟨oc, _, hoc, hdc, ?_, Nat.ne_of_gt hab, Nat.ne_of_gt hab, ?_, (st.fresh hn).1⟩
      · rw [← hbm]
        refine Eq.trans (congrArg (Option.map er) (bindC_get (x := y) ?_ _ _)) ?_
        · show scope.names.lookup y ≠ some .local
          rw [hky]; intro h; cases h
        cases List.lookup y ((params.args.map (·.arg)).zip vs).reverse <;> rfl
      · show g.get? ca = none
        cases q : g.get? ca with
        | none => rfl
        | some o => rw [gh _ _ q] at hn; cases hn
    · obtain ⟨ob, e1, e2, e3, e4⟩ := st.he a o ha
      exact ⟨ob, hk₁ a ob e1, e2, Nat.ne_of_lt (Heap.lt_size e1), gn a o ha⟩
  refine (hbody _ _ _ _ _ hF').use st' hc fun f m' H' s' st'' sm h => ?_
  obtain ⟨H₂, hd, hk₂⟩ := h
  have st₃ := st''.drop hd
  obtain ⟨h₂, t₂, rfl⟩ := sm
  obtain ⟨mc', fr', _⟩ := st''.fr
  refine hR _ H₂ _ ?_ (back h₂ t₂ H₂ fr'.keep fun a o ha => ?_) ⟨h₂, t₂, rfl⟩
  · cases f <;> exact hk₂
  · obtain ⟨ob, e1, e2, _, e4⟩ := st₃.he a o ha
    exact ⟨ob, e1, e2, e4⟩
end
end Mine
namespace Mine
theorem compGo_ind {g : HH → Prop} {x : Str} {ct : PT Bool} {ce : PT V} {D : Addr} {k : HH → Prop} {items : List V} {M0 : MM} (Inv : Nat → List V → HH → Prop)
    (hg : ∀ i acc H, Inv i acc H → g H)
    (hstep : ∀ (i : Nat) (v : V) (m : MM) (H : HH) (acc : List V), items[i]? = some v → Inv i acc H → (∀ y, y ≠ x → m y = M0 y) → ∀ (K1 : V → MM → HH → Prop) (K2 : HH → Prop),
      (∀ u H2, H2 D = some (.list acc) → Inv (i + 1) (acc ++ [u]) (H2.set D (.list (acc ++ [u]))) → K1 u (m.set x v) H2) → (∀ H2, Inv (i + 1) acc H2 → K2 H2) →
      ct (m.set x v) H (fun b m1 H1 => m1 = m.set x v ∧ H1 D = some (.list acc) ∧ (if b = true then ce m1 H1 K1 else K2 H1)))
    (hend : ∀ acc H, Inv items.length acc H → k H) {H : HH} (h0 : Inv 0 [] H) : compGo g x ct ce D k items [] M0 H := by
  have key : ∀ (r : List V) i acc m H, items.drop i = r → i ≤ items.length → (∀ y, y ≠ x → m y = M0 y) → Inv i acc H → compGo g x ct ce D k r acc m H := by
    intro r
    induction r with
    | nil =>
      intro i acc m H hr hi hm h
      have : i = items.length := Nat.le_antisymm hi (List.drop_eq_nil_iff.mp hr)
      subst this
      exact ⟨hg _ _ H h, hend _ H h⟩
    | cons v r ih =>
      intro i acc m H hr hi hm h
      have hlt : i < items.length := by
        rcases Nat.lt_or_ge i items.length with h | h
        · exact h
        · rw [List.drop_eq_nil_of_le h] at hr; cases hr
      rw [List.drop_eq_getElem_cons hlt, List.cons.injEq] at hr
      have hm' : ∀ y, y ≠ x → (m.set x v) y = M0 y := fun y hy => by
        unfold MM.set; rw [if_neg hy]; exact hm y hy
      exact ⟨hg _ _ H h, hstep i v m H acc (by rw [List.getElem?_eq_getElem hlt, hr.1]) h hm
        (fun u m2 H2 => m2 = m.set x v ∧ H2 D = some (.list acc) ∧ compGo g x ct ce D k r (acc ++ [u]) (m.set x v) (H2.set D (.list (acc ++ [u])))) (fun H1 => compGo g x ct ce D k r acc (m.set x v) H1)
        (fun u H2 hD hi2 => ⟨rfl, hD, ih (i + 1) _ _ _ hr.2 hlt hm' hi2⟩) (fun H2 hi2 => ih (i + 1) _ _ _ hr.2 hlt hm' hi2)⟩
  exact key items 0 [] M0 H (by simp) (Nat.zero_le _) (fun _ _ => rfl) h0
theorem i_comp {scope : Scope} {x : Str} {ct : PT Bool} {ce : PT V} {m : MM} {H : HH} {k : V → MM → HH → Prop} {a : Addr} {xs : List V} (ha : H a = some (.list xs)) (hz : xs.length ≤ 10000)
    (h : ∀ D, H D = none → compGo (fun H => H a = some (.list xs)) x ct ce D (fun H' => k (.ref D) m H') xs [] (mIn scope m) (H.set D (.list []))) : compPT scope x ct ce (.ref a) m H k := ⟨false, xs, ha, hz, h⟩
theorem i_compT {scope : Scope} {x : Str} {ct : PT Bool} {ce : PT V} {m : MM} {H : HH} {k : V → MM → HH → Prop} {a : Addr} {xs : List V} (ha : H a = some (.tup xs)) (hz : xs.length ≤ 10000)
    (h : ∀ D, H D = none → compGo (fun H => H a = some (.tup xs)) x ct ce D (fun H' => k (.ref D) m H') xs [] (mIn scope m) (H.set D (.list []))) : compPT scope x ct ce (.ref a) m H k := ⟨true, xs, ha, hz, h⟩
theorem mIn_ne {scope : Scope} {m : MM} {y : Str} {o : Option V} (h : scope.names.lookup y ≠ some .local) (hm : m y = o) : mIn scope m y = o := by unfold mIn; rw [if_neg h]; exact hm
/-- int to int -/
theorem comp_ints {g : HH → Prop} {x : Str} {ce : PT V} {D : Addr} {k : HH → Prop} {H0 : HH} {M0 : MM} {xs : List Int} (f : Int → Int) (hg : ∀ H, Drop H0 H → g H) (hD : H0 D = none)
    (hce : ∀ (m : MM) (H : HH) (z : Int) (K : V → MM → HH → Prop), z ∈ xs → (∀ y, y ≠ x → m y = M0 y) → m x = some (.int z) → Drop H0 H → K (.int (f z)) m H → ce m H K)
    (hend : ∀ H, Drop (H0.set D (LI (xs.map f))) H → k H) : compGo g x (PT.pure true) ce D k (xs.map V.int) [] M0 (H0.set D (.list [])) := by
  refine compGo_ind (fun i acc H => acc = ((xs.take i).map f).map V.int ∧ Drop (H0.set D (.list acc)) H) (fun i acc H h => hg H (drop_trans (drop_set hD) h.2)) ?_ ?_ ⟨rfl, Drop.refl _⟩
  · rintro i v m H acc hv ⟨rfl, hd⟩ hm K1 K2 k1 k2
    rw [List.getElem?_map] at hv
    obtain ⟨z, hz, rfl⟩ := Option.map_eq_some_iff.mp hv
    refine ⟨rfl, dself hd, ?_⟩
    rw [if_pos rfl]
    refine hce _ _ z _ (List.mem_of_getElem? hz) (fun y hy => ?_) (set_self m x _) (drop_trans (drop_set hD) hd) (k1 _ _ (dself hd) ⟨?_, drop_step hd⟩)
    · unfold MM.set; rw [if_neg hy]; exact hm y hy
    · have hlt := (List.getElem?_eq_some_iff.mp hz).1
      rw [List.take_succ_eq_append_getElem hlt, List.map_append, List.map_append, (List.getElem?_eq_some_iff.mp hz).2]
      rfl
  · rintro acc H ⟨rfl, hd⟩
    rw [List.length_map, List.take_length] at hd
    exact hend H hd
/-- rows of limbs, one for each item -/
theorem comp_rows {g : HH → Prop} {x : Str} {ce : PT V} {D : Addr} {k : HH → Prop} {H0 : HH} {M0 : MM} {w : Nat} {xs : List V} (zs : List Nat) (hl : zs.length = xs.length) (hg : ∀ H, Drop H0 H → g H) (hD : H0 D = none)
    (hce : ∀ (m : MM) (H : HH) (i : Nat) (v : V) (z : Nat) (K : V → MM → HH → Prop), xs[i]? = some v → zs[i]? = some z → (∀ y, y ≠ x → m y = M0 y) → m x = some v → Drop H0 H → (∀ r, H r = none → K (.ref r) m (H.set r (LI (dig w z)))) → ce m H K)
    (hend : ∀ (H : HH) (rs : List Addr), rs.length = zs.length → (∀ (i : Nat) (r : Addr) (z : Nat), rs[i]? = some r → zs[i]? = some z → H r = some (LI (dig w z))) → Drop (H0.set D (.list (rs.map V.ref))) H → k H) : compGo g x (PT.pure true) ce D k xs [] M0 (H0.set D (.list [])) := by
  refine compGo_ind (fun i acc H => ∃ rs : List Addr, acc = rs.map V.ref ∧ rs.length = i ∧ (∀ (j : Nat) (r : Addr) (z : Nat), rs[j]? = some r → zs[j]? = some z → H r = some (LI (dig w z)) ∧ r ≠ D) ∧ Drop (H0.set D (.list acc)) H) (fun i acc H h => by obtain ⟨rs, _, _, _, hd⟩ := h; exact hg H (drop_trans (drop_set hD) hd)) ?_ ?_ ⟨[], rfl, rfl, fun j r z h => (by simp at h), Drop.refl _⟩
  · rintro i v m H acc hv ⟨rs, rfl, hi, hr, hd⟩ hm K1 K2 k1 k2
    have hlt := (List.getElem?_eq_some_iff.mp hv).1
    refine ⟨rfl, dself hd, ?_⟩
    rw [if_pos rfl]
    refine hce _ _ i v _ _ hv (List.getElem?_eq_getElem (by lia)) (fun y hy => ?_) (set_self m x _) (drop_trans (drop_set hD) hd) fun r hfr => k1 _ _ (fresh_get hfr (dself hd)) ⟨rs ++ [r], by simp, by simp [hi], fun j r' z h1 h2 => ?_, ?_⟩
    · unfold MM.set; rw [if_neg hy]; exact hm y hy
    · have hrD : r ≠ D := by rintro rfl; rw [dself hd] at hfr; cases hfr
      rcases Nat.lt_or_ge j rs.length with q | q
      · rw [List.getElem?_append_left q] at h1
        obtain ⟨g1, g2⟩ := hr j r' z h1 h2
        exact ⟨hne g2 (fresh_get hfr g1), g2⟩
      · rw [List.getElem?_append_right q] at h1
        have hj : j - rs.length = 0 := by
          rcases Nat.eq_zero_or_pos (j - rs.length) with h | h
          · exact h
          · rw [List.getElem?_eq_none (by simp; lia)] at h1; cases h1
        rw [hj] at h1
        simp at h1
        subst h1
        have hji : j = i := by lia
        subst hji
        rw [List.getElem?_eq_getElem (by lia)] at h2
        cases h2
        exact ⟨hne hrD hself, hrD⟩
    · exact drop_step (drop_new hfr hd)
  · rintro acc H ⟨rs, rfl, hi, hr, hd⟩
    exact hend H rs (by lia) (fun i r z a b => (hr i r z a b).1) hd
/-- ints that pass a test -/
theorem comp_filter {g : HH → Prop} {x : Str} {ct : PT Bool} {ce : PT V} {D : Addr} {k : HH → Prop} {H0 : HH} {M0 : MM} {xs : List Int} (p : Int → Bool) (hg : ∀ H, Drop H0 H → g H) (hD : H0 D = none)
    (hct : ∀ (m : MM) (H : HH) (z : Int) (K : Bool → MM → HH → Prop), (∀ y, y ≠ x → m y = M0 y) → m x = some (.int z) → K (p z) m H → ct m H K)
    (hce : ∀ (m : MM) (H : HH) (z : Int) (K : V → MM → HH → Prop), m x = some (.int z) → K (.int z) m H → ce m H K)
    (hend : ∀ H, Drop (H0.set D (LI (xs.filter p))) H → k H) : compGo g x ct ce D k (xs.map V.int) [] M0 (H0.set D (.list [])) := by
  refine compGo_ind (fun i acc H => acc = ((xs.take i).filter p).map V.int ∧ Drop (H0.set D (.list acc)) H) (fun i acc H h => hg H (drop_trans (drop_set hD) h.2)) ?_ ?_ ⟨rfl, Drop.refl _⟩
  · rintro i v m H acc hv ⟨rfl, hd⟩ hm K1 K2 k1 k2
    rw [List.getElem?_map] at hv
    obtain ⟨z, hz, rfl⟩ := Option.map_eq_some_iff.mp hv
    have hlt := (List.getElem?_eq_some_iff.mp hz).1
    have e1 : xs.take (i + 1) = xs.take i ++ [z] := by rw [List.take_succ_eq_append_getElem hlt, (List.getElem?_eq_some_iff.mp hz).2]
    refine hct _ _ z _ (fun y hy => ?_) (set_self m x _) ⟨rfl, dself hd, ?_⟩
    · unfold MM.set; rw [if_neg hy]; exact hm y hy
    cases hp : p z with
    | true =>
      rw [if_pos rfl]
      refine hce _ _ z _ (set_self m x _) (k1 _ _ (dself hd) ⟨?_, drop_step hd⟩)
      rw [e1, List.filter_append, List.map_append]
      simp [hp]
    | false =>
      rw [if_neg (by decide)]
      refine k2 _ ⟨?_, hd⟩
      rw [e1, List.filter_append]
      simp [hp]
  · rintro acc H ⟨rfl, hd⟩
    rw [List.length_map, List.take_length] at hd
    exact hend H hd
end Mine
end
section
open PySem PySem.W PySem.Calls PySem.Spec PyProof.Rows
set_option maxRecDepth 100000
set_option linter.unusedVariables false
namespace Mine
/-! ## enumerate -/
section
variable {prog : Program} {w : World} {A : Around} {E : Value → Shared → Prop} {s : Shared} {h₀ : Heap}
theorem nextOf_endH {it l : Addr} {i : Nat} {items : Array Value} {Q : Value → Shared → Prop} (hh : HandOk A h₀) (hk : ∀ b o, h₀.get? b = some o → b ≠ it ∧ s.heap.get? b = some o)
    (hit : s.heap.IsListIter it l i) (hl : s.heap.IsList l items) (hx : items[i]? = none)
    (hE : ∀ h' e, Heap.ExtBut it s.heap h' → (∃ o, h'.get? e = some o ∧ o.cls = .type "StopIteration") → E (.ref e) { s with heap := h' }) :
    wpAny (model prog w) A (Builtin.SmallTypes.nextOf (.ref it)) Q E s := by
  obtain ⟨o, ho, hc, hd⟩ := id hit
  obtain ⟨ol, hol, _, nl, hdl⟩ := hl
  unfold Builtin.SmallTypes.nextOf
  refine wpAny_bind (wpAny_callSpecial?_slot (name := Str.ofString "__next__") hit.typeIs slot_listiter_next
    (wpAny_call_entry slot_listiter_next hit.typeIs entry_listiter_next ?_ (args_listiter_next _)))
  show wpAny _ _ (field (.ref it) 0 >>= _) _ _ s
  refine wpAny_bind (wpAny_field ho hd (x := .ref l) rfl ?_)
  show wpAny _ _ (if (Value.ref l == Value.none) = true then _ else _) _ _ s
  rw [if_neg (show ¬ ((Value.ref l == Value.none) = true) from Bool.false_ne_true)]
  show wpAny _ _ (field (.ref it) 1 >>= _) _ _ s
  refine wpAny_bind (wpAny_field ho hd (x := .int i 0) rfl ?_)
  show wpAny _ _ (seqItems? (.ref l) >>= _) _ _ s
  refine wpAny_bind (wpAny_seqItems hol hdl ?_)
  simp only [Int.toNat_natCast, hx]
  refine wpAny_bind (wpAny_rule (wpAny_bind (wpAny_setField ho hd (by simp) ?_)))
  show wpAny _ _ (newExc (.type "StopIteration") [] >>= fun e => raiseNew e) _ _ _
  refine newStop (h₀ := h₀) hh (fun b o hb => ?_) fun h' a ob kp _ hob hcl => ?_
  · rw [Heap.get?_update_ne _ _ _ _ (hk b o hb).1]; exact (hk b o hb).2
  · refine hE h' a (fun b o hb hbo => kp b o ?_) ⟨ob, hob, hcl⟩
    rw [Heap.get?_update_ne _ _ _ _ hb]; exact hbo
theorem enum_end {e it l : Addr} {i : Nat} {items : Array Value} {old : Value} {Q : Option Value → Shared → Prop} (hh : HandOk A h₀) (hk : ∀ b o, h₀.get? b = some o → b ≠ it ∧ s.heap.get? b = some o)
    (he : IsEnum s.heap e it i old) (hit : s.heap.IsListIter it l i) (hl : s.heap.IsList l items) (hx : items[i]? = none)
    (hQ : ∀ h', Heap.ExtBut it s.heap h' → Q none { s with heap := h' }) : wpAny (model prog w) A (pyNext (.ref e)) Q E s := by
  have hT : s.TypeIs (.ref e) "enumerate" := ⟨_, he, rfl⟩
  unfold pyNext
  refine wpAny_bind (wpAny_attempt (wpAny_callSpecial?_slot (name := Str.ofString "__next__") hT PySem.F.slot_enumerate_next
    (wpAny_call_entry PySem.F.slot_enumerate_next hT PySem.F.entry_enumerate_next ?_ (PySem.F.args_enumerate_next_1 _))))
  show wpAny _ _ (field (.ref e) 2 >>= _) _ _ _
  refine wpAny_bind (wpAny_field he rfl (x := .ref it) rfl ?_)
  refine wpAny_bind (nextOf_endH (h₀ := h₀) hh hk hit hl hx fun h' x he' hx' => ?_)
  obtain ⟨o, ho, hc⟩ := hx'
  refine wpAny_bind (wpAny_isInstance (T := "StopIteration") (b := true) ⟨o, ho, hc⟩ isSubtype_stop ?_)
  exact wpAny_pure (hQ _ he')
end
section
variable {S : Sy} {F : Fx} {n : Nat} {m : MM} {H : HH} {s : Shared} {h' : Heap} {tk : Nat} {I J : Addr}
theorem St.ext2 (st : St F m H s) (o : Off F H I) (o2 : Off F H J) (kp : ∀ b ob, b ≠ I → b ≠ J → s.heap.get? b = some ob → h'.get? b = some ob) : St F m H { s with heap := h', toks := tk } := by
  obtain ⟨mc, fr, x1, x2⟩ := st.fr
  refine ⟨⟨mc, ⟨?_, fun b ob hb => ?_, fr.above⟩, x1, x2⟩, fun hL => ?_, fun x ca hx => ?_, fun a oa ha => ?_, fun p hp => ?_⟩
  · obtain ⟨oL, es, ep, hL, r⟩ := fr.ns
    exact ⟨oL, es, ep, kp _ _ (Ne.symm o.L) (Ne.symm o2.L) hL, r⟩
  · exact kp _ _ (by rintro rfl; rw [o.h0] at hb; cases hb) (by rintro rfl; rw [o2.h0] at hb; cases hb) (fr.keep b ob hb)
  · obtain ⟨m2, ⟨oc, es, ep, hoc, r⟩, y⟩ := st.own hL
    exact ⟨m2, ⟨oc, es, ep, kp _ _ (Ne.symm o.loc) (Ne.symm o2.loc) hoc, r⟩, y⟩
  · obtain ⟨ob, v, y1, y⟩ := st.ce x ca hx
    exact ⟨ob, v, kp _ _ (by rintro rfl; exact o.cell x hx) (by rintro rfl; exact o2.cell x hx) y1, y⟩
  · obtain ⟨ob, y1, y⟩ := st.he a oa ha
    exact ⟨ob, kp _ _ (by rintro rfl; rw [o.h] at ha; cases ha) (by rintro rfl; rw [o2.h] at ha; cases ha) y1, y⟩
  · obtain ⟨y1, y⟩ := st.pr p hp
    exact ⟨kp _ _ (o.p p hp) (o2.p p hp) y1, y⟩
theorem Off.withP {p : Addr × Obj} (o : Off F H I) (h : p.1 ≠ I) : Off (F.withP p) H I := ⟨o.L, o.h, o.loc, o.cell, fun q hq => by
  rcases List.mem_cons.mp hq with rfl | hq
  · exact h
  · exact o.p q hq, o.h0⟩
/-- one turn of a loop over an enumerated list: the item, taken apart -/
theorem enum_item {e it l : Addr} {i : Nat} {xs : List V} {v : V} {old : Value} {ts : List Expr} {kk : Nat} {tpos : Pos} {cts : List (V → PT Unit)} {E : Value → Shared → Prop} {QA : Unit → Shared → Prop} {QN : Shared → Prop} {KK : MM → HH → Prop}
    (hF : Fok S n F) (st : St F m H s) (oe : Off F H e) (oi : Off F H it) (hei : e ≠ it) (he : IsEnum s.heap e it i old) (hit : s.heap.IsListIter it l i) (hl : H l = some (.list xs)) (hv : xs[i]? = some v)
    (hts : ∀ p q, AsTs S ((F.withP p).withP q) ts cts) (hstar : (assignEach ts F.env).findIdx? (·.1) = none) (hN : (assignEach ts F.env).length = 2)
    (h : PT.assignL cts [.int i, v] m H (fun _ m2 H2 => KK m2 H2))
    (hQ : ∀ m2 H2 s2 ob1 ob2 u, St ((F.withP (it, ob1)).withP (e, ob2)) m2 H2 s2 → IsEnum s2.heap e it ((i + 1 : Nat) : Int) u → s2.heap.IsListIter it l (i + 1) → Same s s2 → KK m2 H2 → QA () s2) :
    wpAny S.M F.A (pyNext (.ref e)) (fun r s₁ => match r with
      | none => QN s₁
      | some v => wpAny S.M F.A (letOwnedTupleGo (.Tuple ts kk tpos) (.ref e) v) (fun _ s₂ => wpAny S.M F.A (assign (.Tuple ts kk tpos) F.env v) QA E s₂) E s₁) E s := by
  obtain ⟨its, ei, li⟩ := st.list hl
  subst ei
  rw [List.getElem?_map] at hv
  obtain ⟨u, hu, eu⟩ := Option.map_eq_some_iff.mp hv
  rw [Array.getElem?_toList] at hu
  subst eu
  refine wpAny_pyNext_enum_item he hit li hu hei fun h₁ heo hit₁ ht₁ hz₁ hk₁ => ?_
  refine wpAny_letOwnedTupleGo_enum heo fun h₂ he₂ hs₂ => ?_
  dsimp only at hs₂
  have helt : e < s.heap.objs.size := Heap.lt_size he
  have hilt : it < s.heap.objs.size := by obtain ⟨_, y, _⟩ := id hit; exact Heap.lt_size y
  have hTe : s.heap.objs.size ≠ e := Nat.ne_of_gt helt
  have hTi : s.heap.objs.size ≠ it := Nat.ne_of_gt hilt
  have st₂ : St F m H { s with heap := h₂, toks := s.toks + 1 } := st.ext2 oe oi fun b ob hbe hbi hb => (hs₂.2 b hbe).trans (hk₁ b ob hbe hbi hb)
  obtain ⟨oi2, hoi1, ci2, di2⟩ := hit₁
  have hoi2 := (hs₂.2 _ (Ne.symm hei)).trans hoi1
  have stp := (st₂.protect oi hoi2).protect (oe.withP (Ne.symm hei)) he₂
  have hT₂ : h₂.get? s.heap.objs.size = some { cls := .type "tuple", data := .seq #[.int i s.toks, u] } := (hs₂.2 _ hTe).trans ht₁
  obtain ⟨f1, f2, f3, f4⟩ := st.fresh (r := s.heap.objs.size) size_none
  have offT := st.offNew
  have stT := stp.know (r := s.heap.objs.size) (o := .tup [.int i, er u]) hT₂ ⟨#[.int i s.toks, u], 0, rfl, rfl⟩ offT.L offT.h0 f2 f3 (fun p hp => by
    rcases List.mem_cons.mp hp with rfl | hp
    · exact Ne.symm hTe
    · rcases List.mem_cons.mp hp with rfl | hp
      · exact Ne.symm hTi
      · exact f4 p hp)
  have hFp := (hF.withP (it, oi2)).withP (e, { cls := .type "enumerate", dict := none, data := .fields #[.none, .bool false, .ref it, rawInt ((i : Int) + 1), .none, u], slots := #[] })
  have e1 : assign (.Tuple ts kk tpos) F.env (.ref s.heap.objs.size) = (do standAt tpos; unpack (.ref s.heap.objs.size) (assignEach ts F.env)) := rfl
  rw [e1]
  refine wpAny_bind (wpAny_standAt ?_)
  unfold unpack
  rw [hstar]
  refine wpAny_bind (wpAny_holding ((ev_unpack hFp (.ref s.heap.objs.size) _).use (P := fun vs m2 H2 => vs = [.int i, er u] ∧ m2 = m ∧ H2 = H.set s.heap.objs.size (.tup [.int i, er u])) stT ?_ fun vs m2 H2 s2 st2 sm2 h2 => ?_))
  · refine ⟨_, hself, ?_, rfl, rfl, rfl⟩
    rw [hN]; rfl
  obtain ⟨evs, rfl, rfl⟩ := h2
  have st3 := st2.drop (drop_set (o := .tup [.int i, er u]) f1)
  rw [← evs] at h
  refine (ev_assignL (hts (it, oi2) _) vs).use st3 h fun _ m3 H3 s3 st4 sm4 h4 => ?_
  refine hQ m3 H3 s3 oi2 _ u st4 ?_ ?_ ((Same.of.trans sm2).trans sm4) h4
  · exact (st4.pr (e, _) (.head _)).1
  · exact ⟨oi2, (st4.pr (it, oi2) (.tail _ (.head _))).1, ci2, di2⟩
end
end Mine
end
section
open PySem PySem.W PySem.Calls PySem.Spec PyProof.Rows
set_option maxRecDepth 100000
set_option linter.unusedVariables false
namespace Mine
noncomputable def enumGo (g : HH → Prop) (cts : List (V → PT Unit)) (b : PT Fl) : Nat → List V → PT Fl
  | _, [] => fun m H k => g H ∧ k .next m H
  | i, v :: r => fun m H k => g H ∧ PT.assignL cts [.int (i : Nat), v] m H (fun _ m2 H2 => b m2 H2 fun f m' H' => match f with
      | .next | .cont => enumGo g cts b (i + 1) r m' H' k
      | .brk => k .next m' H'
      | .ret u => k (.ret u) m' H')
noncomputable def forEnumPT (cts : List (V → PT Unit)) (b : PT Fl) (args : List V) : PT Fl := fun m H k => match args with
  | [.ref a] => ∃ xs, H a = some (.list xs) ∧ enumGo (fun H => H a = some (.list xs)) cts b 0 xs m H k
  | _ => False
section
variable {S : Sy} {F : Fx} {n : Nat} {m : MM} {H : HH} {s : Shared}
theorem St.offNew2 (st : St F m H s) : Off F H (s.heap.objs.size + 1) := by
  obtain ⟨mc, fr, _⟩ := st.fr
  have hn : s.heap.get? (s.heap.objs.size + 1) = none := by
    cases q : s.heap.get? (s.heap.objs.size + 1) with
    | none => rfl
    | some o => exact absurd (Nat.lt_of_succ_lt (Heap.lt_size q)) (Nat.lt_irrefl _)
  refine st.offOf hn (Nat.ne_of_gt (Nat.lt_succ_of_lt fr.ns.lt)) ?_
  cases q : F.h₀.get? (s.heap.objs.size + 1) with
  | none => rfl
  | some o => rw [fr.keep _ _ q] at hn; cases hn
theorem for_enum {k : Fl → MM → HH → Prop} {s₀ : Shared} {e it l : Addr} {xs : List V} {ts : List Expr} {kk : Nat} {tpos : Pos} {cts : List (V → PT Unit)} {body : List Stmt} {b : PT Fl} {E : Value → Shared → Prop}
    (hF : Fok S n F) (hts : ∀ p q, AsTs S ((F.withP p).withP q) ts cts) (hstar : (assignEach ts F.env).findIdx? (·.1) = none) (hN : (assignEach ts F.env).length = 2) (hb : ∀ p q, Ev S ((F.withP p).withP q) (execs body F.env) erF b)
    (st : St F m H s) (oe : Off F H e) (oi : Off F H it) (hei : e ≠ it) (he : IsEnum s.heap e it ((0 : Nat) : Int) .none) (hit : s.heap.IsListIter it l 0) (sm : Same s₀ s) (h : enumGo (fun H => H l = some (.list xs)) cts b 0 xs m H k) :
    codeAny S.M F.A (.forLoop (.Tuple ts kk tpos) (.ref e) body [] F.env) (fun r s' => match r with | .ok f => EvQ F erF s₀ k f s' | .error e => cameBackBy S.M F.A F.env E e s') s := by
  refine codeAny_forLoop_any (EnumInv F s₀ e it l xs.length fun i m' H' => enumGo (fun H => H l = some (.list xs)) cts b i (xs.drop i) m' H' k) ?_ xs.length
    ⟨0, m, H, .none, st, oe, oi, he, hit, sm, Nat.zero_le _, rfl, h⟩
  rintro j s' ⟨i, m', H', old, st', oe', oi', he', hit', sm', hi, rfl, hg⟩
  rcases Nat.lt_or_ge i xs.length with hlt | hge
  · have e1 : xs.drop i = xs[i] :: xs.drop (i + 1) := List.drop_eq_getElem_cons hlt
    rw [e1] at hg
    obtain ⟨hgH, hgo⟩ := hg
    refine enum_item (xs := xs) hF st' oe' oi' hei he' hit' hgH (List.getElem?_eq_getElem hlt) hts hstar hN hgo fun m2 H2 s2 ob1 ob2 u st2 he2 hit2 sm2 hK => ?_
    refine (hb (it, ob1) (e, ob2)).use st2 hK fun f m3 H3 s3 st3 sm3 h3 => ?_
    have hp1 := st3.pr (e, ob2) (.head _)
    have hp2 := st3.pr (it, ob1) (.tail _ (.head _))
    have he3 : IsEnum s3.heap e it ((i + 1 : Nat) : Int) u := by
      have t1 : s2.heap.get? e = some ob2 := (st2.pr (e, ob2) (.head _)).1
      have q := Option.some.inj (t1.symm.trans he2)
      exact hp1.1.trans (congrArg some q)
    have hit3 : s3.heap.IsListIter it l (i + 1) := by
      obtain ⟨o, ho, r⟩ := hit2
      have := (st2.pr (it, ob1) (.tail _ (.head _))).1
      rw [show s2.heap.get? it = some ob1 from this] at ho
      cases ho
      exact ⟨_, hp2.1, r⟩
    have oe3 : Off F H3 e := ⟨oe'.L, hp1.2.2.1, oe'.loc, oe'.cell, oe'.p, oe'.h0⟩
    have oi3 : Off F H3 it := ⟨oi'.L, hp2.2.2.1, oi'.loc, oi'.cell, oi'.p, oi'.h0⟩
    have smA : Same s₀ s3 := (sm'.trans sm2).trans sm3
    cases f with
    | next => exact ⟨xs.length - (i + 1), by omega, i + 1, m3, H3, u, st3.unprotect.unprotect, oe3, oi3, he3, hit3, smA, hlt, rfl, h3⟩
    | cont => exact ⟨xs.length - (i + 1), by omega, i + 1, m3, H3, u, st3.unprotect.unprotect, oe3, oi3, he3, hit3, smA, hlt, rfl, h3⟩
    | brk => exact ⟨m3, H3, st3.unprotect.unprotect, smA, h3⟩
    | ret v => exact ⟨m3, H3, st3.unprotect.unprotect, smA, h3⟩
  · have e1 : xs.drop i = [] := List.drop_eq_nil_of_le hge
    rw [e1] at hg
    have hii : i = xs.length := Nat.le_antisymm hi hge
    subst hii
    obtain ⟨its, ei, li⟩ := st'.list hg.1
    have hx : its[xs.length]? = none := by rw [← ei]; simp
    refine enum_end (h₀ := F.h₀) hF.hand (fun b o hb => ⟨(by rintro rfl; rw [oi'.h0] at hb; cases hb), st'.keep0 b o hb⟩) he' hit' li hx fun h₁ kp => wpAny_execs_nil ?_
    exact ⟨m', H', st'.ext (tk := s'.toks) oi' kp, sm'.trans .of, hg.2⟩
variable {y : Str} {yp pos cp tpos : Pos} {body : List Stmt} {b : PT Fl} {a : Expr} {cs : PT (List V)} {ts : List Expr} {kk : Nat} {cts : List (V → PT Unit)}
theorem ex_forEnum (hF : Fok S n F) (hts : ∀ p q, AsTs S ((F.withP p).withP q) ts cts) (hk : F.env.scope.names.lookup y = some .globalImplicit) (hg : nsIn S.K mainGlobals y = some none) (hv : bootBuiltins y = some (.type "enumerate"))
    (hargs : EvL S F [a] cp cs) (hb : ∀ p q, Ev S ((F.withP p).withP q) (execs body F.env) erF b)
    (hstar : (assignEach ts F.env).findIdx? (·.1) = none := by rfl) (hN : (assignEach ts F.env).length = 2 := by rfl)
    (hn : y ≠ "__name__" := by decide) (hd : (y == ("__debug__" : Str)) = false := by decide)
    (he : starEach (a :: []) F.env = (false, eval a F.env) :: starEach [] F.env := by rfl) (hplain : (backTo cp (starEach [] F.env)).any (·.1) = false := by rfl)
    (hs : ∀ x, foldedSetIterable (.Call (.Name y yp) [a] [] cp) F.env x = pure x := by intro _; rfl) :
    Ev S F (exec (.For (.Tuple ts kk tpos) (.Call (.Name y yp) [a] [] cp) body [] pos) F.env) erF (cs.bind (forEnumPT cts b)) := fun m H k s E st h =>
  wpAny_For (Call_ (ev_builtinName hF hk hg hv hn hd st (PySem.Pv.callWith_type1 (hargs.use st h fun vs m1 H1 s1 st1 sm1 h1 => by
    unfold forEnumPT at h1
    split at h1
    case _ l e1 =>
      obtain ⟨w, rfl, q1⟩ := map1 e1
      obtain rfl := er_ref q1
      obtain ⟨xs, hl, h1⟩ := h1
      obtain ⟨its, ei, li⟩ := st1.list hl
      refine call_enumerate_list li fun h' he' hit' hsz kp => ?_
      have st2 : St F m1 H1 { s1 with heap := h' } := st1.ext (tk := s1.toks) st1.offNew fun b o _ hb => kp b o hb
      refine wpAny_pyIter_enum he' ?_
      exact for_enum hF hts hstar hN hb st2 st1.offNew2 st1.offNew (Nat.succ_ne_self _) he' hit' (sm1.trans .of) h1
    case _ => exact h1.elim) he hplain)) (by rfl)) hs
/-! ### a comprehension over an enumerated list -/
noncomputable def compGoE (g : HH → Prop) (x1 x2 : Str) (ce : PT V) (D : Addr) (k : HH → Prop) : Nat → List V → List V → MM → HH → Prop
  | _, [], _, _, H => g H ∧ k H
  | i, v :: r, acc, m, H => g H ∧ ce ((m.set x1 (.int (i : Nat))).set x2 v) H (fun u m2 H2 => m2 = (m.set x1 (.int (i : Nat))).set x2 v ∧ H2 D = some (.list acc) ∧ compGoE g x1 x2 ce D k (i + 1) r (acc ++ [u]) ((m.set x1 (.int (i : Nat))).set x2 v) (H2.set D (.list (acc ++ [u]))))
noncomputable def compEPT (scope : Scope) (x1 x2 : Str) (ce : PT V) (args : List V) : PT V := fun m H k => match args with
  | [.ref a] => ∃ xs, H a = some (.list xs) ∧ xs.length ≤ 10000 ∧ ∀ D, H D = none → compGoE (fun H => H a = some (.list xs)) x1 x2 ce D (fun H' => k (.ref D) m H') 0 xs [] (mIn scope m) (H.set D (.list []))
  | _ => False
theorem compE_loop {elt iter : Expr} {x1 x2 : Str} {p1 p2 tp pos : Pos} {kk : Nat} {scope' : Scope} {ce : PT V} {e it l D : Addr} {xs : List V} {k : HH → Prop} {R : Result → Shared → Prop}
    (hF : Fok S n F) (hL : F.env.locals ≠ F.L) (hx1 : F.env.scope.names.lookup x1 = some .local) (hx2 : F.env.scope.names.lookup x2 = some .local) (hce : ∀ p q, Ev S ((F.withP p).withP q) (eval elt F.env) er ce)
    (st : St F m H s) (oe : Off F H e) (oi : Off F H it) (hei : e ≠ it) (he : IsEnum s.heap e it ((0 : Nat) : Int) .none) (hit : s.heap.IsListIter it l 0) (hz : xs.length ≤ 10000) (h : compGoE (fun H => H l = some (.list xs)) x1 x2 ce D k 0 xs [] m H)
    (hR : ∀ m' H' s', St F m' H' s' → (∀ y, y ≠ x1 → y ≠ x2 → m' y = m y) → Same s s' → k H' → R (.ok .next) s') :
    codeAny S.M F.A (.compLoop (.ListComp elt [⟨.Tuple [.Name x1 p1, .Name x2 p2] kk tp, iter, [], 0⟩] scope' pos) 0 (.ref e) (.ref D) F.env) R s := by
  refine LCp.codeAny_compLoop_pair (EnumInv F s e it l xs.length fun i => AccInv (fun m' => ∀ y, y ≠ x1 → y ≠ x2 → m' y = m y) (fun acc m' H' => compGoE (fun H => H l = some (.list xs)) x1 x2 ce D k i (xs.drop i) acc m' H') i) ?_ xs.length
    ⟨0, m, H, .none, st, oe, oi, he, hit, .refl _, Nat.zero_le _, rfl, [], fun _ _ _ => rfl, Nat.zero_le _, h⟩
  rintro j s' ⟨i, m', H', old, st', oe', oi', he', hit', sm', hi, rfl, acc, hm', hacc, hg⟩
  rcases Nat.lt_or_ge i xs.length with hlt | hge
  · have e1 : xs.drop i = xs[i] :: xs.drop (i + 1) := List.drop_eq_getElem_cons hlt
    rw [e1] at hg
    obtain ⟨hgH, hgo⟩ := hg
    refine enum_item (xs := xs) (cts := [PT.setv x1, PT.setv x2]) (KK := fun m2 H2 => m2 = (m'.set x1 (.int (i : Nat))).set x2 xs[i] ∧ H2 = H') hF st' oe' oi' hei he' hit' hgH (List.getElem?_eq_getElem hlt)
      (fun p q => ast_cons (as_name (ev_storeOwn ((hF.withP p).withP q) hL hx1)) (ast_cons (as_name (ev_storeOwn ((hF.withP p).withP q) hL hx2)) ast_nil)) rfl rfl ⟨rfl, rfl⟩ fun m2 H2 s2 ob1 ob2 u st2 he2 hit2 sm2 hK => ?_
    obtain ⟨rfl, rfl⟩ := hK
    have hmx : ∀ y, y ≠ x1 → y ≠ x2 → ((m'.set x1 (.int (i : Nat))).set x2 xs[i]) y = m y := fun y h1 h2 => by
      unfold MM.set; rw [if_neg h2, if_neg h1]; exact hm' y h1 h2
    refine (hce (it, ob1) (e, ob2)).use st2 hgo fun w m4 H4 s4 st4 sm4 h4 => ?_
    obtain ⟨rfl, hD4, h4⟩ := h4
    refine call_append st4 hD4 (by omega) fun h' st5 => ?_
    have hp1 := st5.pr (e, ob2) (.head _)
    have hp2 := st5.pr (it, ob1) (.tail _ (.head _))
    have he3 : IsEnum h' e it ((i + 1 : Nat) : Int) u := by
      have t1 : s2.heap.get? e = some ob2 := (st2.pr (e, ob2) (.head _)).1
      have q := Option.some.inj (t1.symm.trans he2)
      exact hp1.1.trans (congrArg some q)
    have hit3 : h'.IsListIter it l (i + 1) := by
      obtain ⟨o, ho, r⟩ := hit2
      have := (st2.pr (it, ob1) (.tail _ (.head _))).1
      rw [show s2.heap.get? it = some ob1 from this] at ho
      cases ho
      exact ⟨_, hp2.1, r⟩
    exact ⟨xs.length - (i + 1), by omega, i + 1, _, _, u, st5.unprotect.unprotect, ⟨oe'.L, hp1.2.2.1, oe'.loc, oe'.cell, oe'.p, oe'.h0⟩, ⟨oi'.L, hp2.2.2.1, oi'.loc, oi'.cell, oi'.p, oi'.h0⟩, he3, hit3, ((sm'.trans sm2).trans sm4).trans ⟨h', _, rfl⟩, hlt, rfl, acc ++ [er w], hmx, by rw [List.length_append]; exact Nat.succ_le_succ hacc, h4⟩
  · have e1 : xs.drop i = [] := List.drop_eq_nil_of_le hge
    rw [e1] at hg
    have hii : i = xs.length := Nat.le_antisymm hi hge
    subst hii
    obtain ⟨its, ei, li⟩ := st'.list hg.1
    have hx : its[xs.length]? = none := by rw [← ei]; simp
    refine enum_end (h₀ := F.h₀) hF.hand (fun b o hb => ⟨(by rintro rfl; rw [oi'.h0] at hb; cases hb), st'.keep0 b o hb⟩) he' hit' li hx fun h₁ kp => ?_
    exact hR m' H' _ (st'.ext (tk := s'.toks) oi' kp) hm' (sm'.trans .of) hg.2
end
end Mine
end
section
open PySem PySem.W PySem.Calls PySem.Spec PyProof.Rows
set_option maxRecDepth 100000
set_option linter.unusedVariables false
namespace Mine
section
variable {S : Sy} {F : Fx} {n : Nat} {m : MM} {H : HH} {s : Shared}
theorem ev_compE {elt a : Expr} {x1 x2 y : Str} {p1 p2 tp yp cp pos : Pos} {kk : Nat} {scope : Scope} {cl : List (Str × Addr)} {cs : PT (List V)} {ce : PT V}
    (hF : Fok S n F) (hL : F.env.locals = F.L) (hky : F.env.scope.names.lookup y = some .globalImplicit) (hg : nsIn S.K mainGlobals y = some none) (hv : bootBuiltins y = some (.type "enumerate"))
    (hargs : EvL S F [a] cp cs) (hsub : ClSub F.env.cells scope.names cl)
    (he : ∀ C mc P, Fok S n (compFx F scope cl C mc P) → Ev S (compFx F scope cl C mc P) (eval elt (compEnvC scope cl C F.env)) er ce)
    (hn : y ≠ "__name__" := by decide) (hd : (y == ("__debug__" : Str)) = false := by decide)
    (hea : starEach (a :: []) F.env = (false, eval a F.env) :: starEach [] F.env := by rfl) (hplain : (backTo cp (starEach [] F.env)).any (·.1) = false := by rfl)
    (hclos : closureFor scope F.env = pure cl := by rfl) (hk : scope.kind = .function := by rfl) (hcell : ∀ y ∈ scope.names, y.2 ≠ .cell := by decide) (hx1 : scope.names.lookup x1 = some .local := by rfl) (hx2 : scope.names.lookup x2 = some .local := by rfl)
    (hnames : ∀ y ∈ scope.names, y.2 = .local → scope.names.lookup y.1 = some .local := by decide)
    (hs : ∀ x, foldedSetIterable (.Call (.Name y yp) [a] [] cp) F.env x = pure x := by intro _; rfl) :
    Ev S F (eval (.ListComp elt [⟨.Tuple [.Name x1 p1, .Name x2 p2] kk tp, .Call (.Name y yp) [a] [] cp, [], 0⟩] scope pos) F.env) er (cs.bind (compEPT scope x1 x2 ce)) := fun m H k s E st h => by
  rw [eval_ListComp]
  refine wpAny_comprehension_free (use := none) rfl hs hclos hk hnames (Call_ (ev_builtinName hF hky hg hv hn hd st (PySem.Pv.callWith_type1 (hargs.use st h fun vs m1 H1 s1 st1 sm1 h1 => ?_) hea hplain)) (by rfl))
  unfold compEPT at h1
  split at h1
  case _ l e1 =>
    obtain ⟨w, rfl, q1⟩ := map1 e1
    obtain rfl := er_ref q1
    obtain ⟨xs, hl, hz, hgo⟩ := h1
    obtain ⟨its, ei, li⟩ := st1.list hl
    refine call_enumerate_list li fun h' he' hit' hsz kp => ?_
    have st2 : St F m1 H1 { s1 with heap := h' } := st1.ext (tk := s1.toks) st1.offNew fun b o _ hb => kp b o hb
    have oe := st1.offNew2
    have oi := st1.offNew
    refine wpAny_pyIter_enum he' ?_
    obtain ⟨ob1, hob1, c1, d1⟩ := hit'
    have stp := (st2.protect oi hob1).protect (oe.withP (Ne.symm (Nat.succ_ne_self _))) he'
    refine (ev_newList (S := S) (F := (F.withP (s1.heap.objs.size, ob1)).withP (s1.heap.objs.size + 1, { cls := .type "enumerate", data := .fields #[.none, .bool false, .ref s1.heap.objs.size, rawInt 0, .none, .none] })) (vs := [])).use (P := fun v m1' H1' => ∃ D, v = .ref D ∧ m1' = m1 ∧ H1 D = none ∧ H1' = H1.set D (.list [])) stp ⟨by simp, fun r hr => ⟨r, rfl, rfl, hr, rfl⟩⟩ fun acc m1' H1' s₃ st₃ sm₃ ⟨D, eD, em, hD, eH⟩ => ?_
    subst em eH
    obtain rfl := er_ref eD
    refine wpAny_newFunctionEnv hcell (by intro y hy; simp at hy) (fun h₁ hns hsb => ?_) hk
    have hpe := st₃.pr (s1.heap.objs.size + 1, _) (.head _)
    have hpi := st₃.pr (s1.heap.objs.size, ob1) (.tail _ (.head _))
    obtain ⟨mc, P', st₄, hCL, offC, back⟩ := comp_enter (tk := s₃.toks + ([] : List (Str × Value)).length) hF hL hk hsub st₃.unprotect.unprotect hns hsb
    have hF' : Fok S n (compFx F scope cl s₃.heap.objs.size mc P') := comp_fok hF hk hsub
    have hl1 : (relabel scope F.env).names.lookup x1 = some .local := by rw [relabel_lookup, hx1]; rfl
    have hl2 : (relabel scope F.env).names.lookup x2 = some .local := by rw [relabel_lookup, hx2]; rfl
    have eC : s1.heap.objs.size + 1 ≠ s₃.heap.objs.size := Nat.ne_of_lt (Heap.lt_size hpe.1)
    have iC : s1.heap.objs.size ≠ s₃.heap.objs.size := Nat.ne_of_lt (Heap.lt_size hpi.1)
    have he4 : IsEnum h₁ (s1.heap.objs.size + 1) s1.heap.objs.size 0 .none := hsb.extBut _ _ eC (Heap.get?_push_of_some _ hpe.1)
    have hit4 : h₁.IsListIter s1.heap.objs.size l 0 := ⟨ob1, hsb.extBut _ _ iC (Heap.get?_push_of_some _ hpi.1), c1, d1⟩
    have oe3 : Off F (H1.set D (.list [])) (s1.heap.objs.size + 1) := ⟨oe.L, hpe.2.2.1, oe.loc, oe.cell, oe.p, oe.h0⟩
    have oi3 : Off F (H1.set D (.list [])) s1.heap.objs.size := ⟨oi.L, hpi.2.2.1, oi.loc, oi.cell, oi.p, oi.h0⟩
    have loop : codeAny S.M F.A (.compLoop (.ListComp elt [⟨.Tuple [.Name x1 p1, .Name x2 p2] kk tp, .Call (.Name y yp) [a] [] cp, [], 0⟩] scope pos) 0 (.ref (s1.heap.objs.size + 1)) (.ref D) (compEnvC scope cl s₃.heap.objs.size F.env))
        (compPost S.M F.A E none (EvQ F er s k) (.ref D) s₃.heap.objs.size) { s₃ with heap := h₁, toks := s₃.toks + ([] : List (Str × Value)).length } := by
      refine compE_loop (F := compFx F scope cl s₃.heap.objs.size mc P') hF' hCL hl1 hl2 (fun p q => he _ _ _ ((hF'.withP p).withP q)) st₄ (offC _ _ oe3 eC) (offC _ _ oi3 iC) (Nat.succ_ne_self _) he4 hit4 hz (hgo D hD) fun m' H' s' st' hm sm' hk' => ?_
      obtain ⟨b1, b2, mC, hC⟩ := back m' H' s' st' fun z ca hy => by
        have hyl := (hsub.get z ca hy).2
        have hy1 : z ≠ x1 := by rintro rfl; rw [hx1] at hyl; cases hyl
        have hy2 : z ≠ x2 := by rintro rfl; rw [hx2] at hyl; cases hyl
        rw [hm z hy1 hy2]
        unfold mIn
        rw [hyl, if_neg (by intro h; cases h)]
      exact ⟨mC, hC, fun h' hs' => ⟨_, H', b1.ext (tk := s'.toks) b2 fun b o hb hbo => (hs'.2 b hb).trans hbo, ((((sm1.trans .of).trans sm₃).trans ⟨h₁, _, rfl⟩).trans sm').trans .of, hk'⟩⟩
    exact codeAny_compStart_list loop (wpAny_pyIter_enum he4 loop)
  case _ => exact h1.elim
/-! ## sums, tuples -/
theorem preSum_take {xs : List Int} : ∀ j, j ≤ xs.length → preSum (fun i => (xs[i]?).getD 0) j = (xs.take j).sum
  | 0, _ => by simp [preSum]
  | j + 1, h => by
    show preSum _ j + _ = _
    rw [preSum_take j (by lia), List.take_succ_eq_append_getElem (by lia), List.sum_append]
    dsimp only
    rw [List.getElem?_eq_getElem (by lia)]
    simp
noncomputable def sumPT (vs : List V) : PT V := fun m H k => match vs with
  | [.ref a] => ∃ xs : List Nat, H a = some (.list ((xs.map Int.ofNat).map V.int)) ∧ xs.sum < 2 ^ 40 ∧ k (.int xs.sum) m H
  | _ => False
theorem sum_take_le (xs : List Nat) (j : Nat) : (xs.take j).sum ≤ xs.sum := by
  have h1 := congrArg List.sum (List.take_append_drop j xs)
  rw [List.sum_append] at h1
  lia
theorem sum_cast : ∀ xs : List Nat, (xs.map Int.ofNat).sum = ((xs.sum : Nat) : Int)
  | [] => rfl
  | x :: r => by rw [List.map_cons, List.sum_cons, List.sum_cons, sum_cast r]; push_cast; rfl
theorem inLong_of {i : Int} (h0 : 0 ≤ i) (h1 : i < 2 ^ 40) : InLong i := by
  constructor <;> lia
theorem bi_sum (hF : Fok S n F) : Bi S F (.builtin "sum") sumPT := by
  intro vs m H k s E st h
  unfold sumPT at h
  split at h
  case _ l e =>
    obtain ⟨u, rfl, e1⟩ := map1 e
    obtain rfl := er_ref e1
    obtain ⟨xs, ha, hb, hk⟩ := h
    obtain ⟨its, ei, li⟩ := st.list ha
    have hlen : its.size = xs.length := by have := congrArg List.length ei; simpa using this
    have off := st.offNew
    have hlt : l ≠ s.heap.objs.size := by obtain ⟨o, ho, _⟩ := li; exact Nat.ne_of_lt (Heap.lt_size ho)
    refine call_sum_walk (wpAny_pyIter_list li ?_)
    have hk1 : ∀ b o, s.heap.get? b = some o → (s.heap.push { cls := .type "list_iterator", data := .fields #[.ref l, .int 0 0] }).get? b = some o := fun b o hb => Heap.get?_push_of_some _ hb
    have hI0 : F.h₀.get? s.heap.objs.size = none := off.h0
    refine ⟨_, _, _, _, _, _, fun i => ((xs.map Int.ofNat)[i]?).getD 0, rfl, Walks_list (A := F.A.in1) _ l hlt its, ⟨⟨_, Heap.get?_push_size _ rfl, rfl, rfl⟩, li.push _, HandOk.at_ (A := F.A.in1) hF.hand (fun b o hb => hk1 b o (st.keep0 b o hb)) hI0⟩, fun c hc => ?_, fun i v hv => ?_, fun j hj => ?_, fun h' tk t' hkk => ?_⟩
    · show c < (s.heap.push _).objs.size
      rw [Heap.size_push]
      rcases List.mem_append.mp hc with hc | hc
      · rcases List.mem_cons.mp hc with rfl | hc
        · exact Nat.lt_succ_self _
        · rcases List.mem_cons.mp hc with rfl | hc
          · obtain ⟨o, ho, _⟩ := li
            exact Nat.lt_succ_of_lt (Heap.lt_size ho)
          · cases hc
      · exact Nat.lt_succ_of_lt (HandOk.lt (A := F.A.in1) hF.hand st.keep0 c hc)
    · have h1 : (its.toList.map er)[i]? = some (er v) := by rw [List.getElem?_map, Array.getElem?_toList, hv]; rfl
      rw [ei, List.getElem?_map] at h1
      obtain ⟨z, hz, e2⟩ := Option.map_eq_some_iff.mp h1
      obtain ⟨t, rfl⟩ := er_int e2.symm
      exact ⟨t, by dsimp only; rw [hz]; rfl⟩
    · have hj' : j < xs.length := by lia
      have e2 : preSum (fun i => ((xs.map Int.ofNat)[i]?).getD 0) (j + 1) = (((xs.take (j + 1)).sum : Nat) : Int) := by
        rw [preSum_take _ (by simp; lia), ← List.map_take, sum_cast]
      have h2 := sum_take_le xs (j + 1)
      have e3 : (xs.take (j + 1)).sum = (xs.take j).sum + xs[j] := by rw [List.take_succ_eq_append_getElem hj', List.sum_append]; simp
      refine ⟨?_, by rw [e2]; exact inLong_of (by lia) (by lia)⟩
      have e4 : ((xs.map Int.ofNat)[j]?).getD 0 = (xs[j] : Int) := by rw [List.getElem?_map, List.getElem?_eq_getElem hj']; rfl
      dsimp only
      rw [e4]
      exact inLong_of (by lia) (by lia)
    · refine ⟨m, H, st.ext off fun b o hbI hb => hkk b o (by simp [hbI]) (hk1 b o hb), .of, ?_⟩
      have e2 : preSum (fun i => ((xs.map Int.ofNat)[i]?).getD 0) its.size = ((xs.sum : Nat) : Int) := by
        rw [preSum_take _ (by simp; lia), hlen, List.take_of_length_le (by simp), sum_cast]
      rw [e2]
      exact hk
  case _ => exact h.elim
noncomputable def tuplePT (vs : List V) : PT V := fun m H k => match vs with
  | [.ref a] => ∃ xs, H a = some (.list xs) ∧ PT.newTup xs m H k
  | _ => False
theorem bi_tuple : Bi S F (.type "tuple") tuplePT := by
  intro vs m H k s E st h
  unfold tuplePT at h
  split at h
  case _ a e =>
    obtain ⟨u, rfl, e1⟩ := map1 e
    obtain rfl := er_ref e1
    obtain ⟨xs, ha, hsz, hk⟩ := h
    obtain ⟨its, ei, li⟩ := st.list ha
    subst ei
    have hsz2 : its.size ≤ 10000 := by simpa using hsz
    refine call_tuple_list li (fun h' hkk => ?_) (size_line_le (by lia))
    have st' : St F m H { s with heap := h' } := st.grow (tk := s.toks) hkk
    obtain ⟨mc, fr, nx⟩ := st'.frame
    have off := st'.offNew
    obtain ⟨f1, f2, f3, f4⟩ := st'.fresh (r := h'.objs.size) size_none
    have st'' : St F m H { s with heap := h'.push { cls := .type "tuple", data := .seq its } } := st'.grow (tk := s.toks) fun b o hb => Heap.get?_push_of_some _ hb
    exact ⟨m, _, st''.know (o := .tup (its.toList.map er)) (Heap.get?_push_size _ rfl) ⟨its, 0, rfl, rfl⟩ off.L off.h0 f2 f3 f4, .of, hk _ f1⟩
  case _ => exact h.elim
end
end Mine
namespace Mine
theorem enumGo_ind {g : HH → Prop} {cts : List (V → PT Unit)} {b : PT Fl} {k : Fl → MM → HH → Prop} {xs : List V} (Inv : Nat → MM → HH → Prop) (hg : ∀ i m H, Inv i m H → g H)
    (hstep : ∀ (i : Nat) (v : V) (m : MM) (H : HH), xs[i]? = some v → Inv i m H → ∀ K : Fl → MM → HH → Prop, (∀ m' H', Inv (i + 1) m' H' → K .next m' H') → (∀ u m' H', k (.ret u) m' H' → K (.ret u) m' H') → PT.assignL cts [.int (i : Nat), v] m H (fun _ m2 H2 => b m2 H2 K))
    (hend : ∀ m H, Inv xs.length m H → k .next m H) {m : MM} {H : HH} (h : Inv 0 m H) : enumGo g cts b 0 xs m H k := by
  have key : ∀ (r : List V) i, xs.drop i = r → i ≤ xs.length → ∀ m H, Inv i m H → enumGo g cts b i r m H k := by
    intro r
    induction r with
    | nil =>
      intro i hr hi m H h
      have : i = xs.length := Nat.le_antisymm hi (List.drop_eq_nil_iff.mp hr)
      subst this
      exact ⟨hg _ m H h, hend m H h⟩
    | cons v r ih =>
      intro i hr hi m H h
      have hlt : i < xs.length := by
        rcases Nat.lt_or_ge i xs.length with h | h
        · exact h
        · rw [List.drop_eq_nil_of_le h] at hr; cases hr
      rw [List.drop_eq_getElem_cons hlt, List.cons.injEq] at hr
      exact ⟨hg _ m H h, hstep i v m H (by rw [List.getElem?_eq_getElem hlt, hr.1]) h _ (fun m' H' h' => ih (i + 1) hr.2 hlt m' H' h') (fun _ _ _ x => x)⟩
  exact key xs 0 (by simp) (Nat.zero_le _) m H h
theorem forE {cts : List (V → PT Unit)} {b : PT Fl} {k : Fl → MM → HH → Prop} {m : MM} {H : HH} {a : Addr} {xs : List V} (Inv : Nat → MM → HH → Prop) (ha : H a = some (.list xs)) (hg : ∀ i m H, Inv i m H → H a = some (.list xs)) (h0 : Inv 0 m H)
    (hstep : ∀ (i : Nat) (v : V) (m : MM) (H : HH), xs[i]? = some v → Inv i m H → ∀ K : Fl → MM → HH → Prop, (∀ m' H', Inv (i + 1) m' H' → K .next m' H') → (∀ u m' H', k (.ret u) m' H' → K (.ret u) m' H') → PT.assignL cts [.int (i : Nat), v] m H (fun _ m2 H2 => b m2 H2 K))
    (hend : ∀ m H, Inv xs.length m H → k .next m H) : forEnumPT cts b [.ref a] m H k := ⟨xs, ha, enumGo_ind Inv hg hstep hend h0⟩
theorem i_sum {m : MM} {H : HH} {k : V → MM → HH → Prop} {a : Addr} {xs : List Nat} (ha : H a = some (.list ((xs.map Int.ofNat).map V.int))) (hb : xs.sum < 2 ^ 40) (h : k (.int xs.sum) m H) : sumPT [.ref a] m H k := ⟨xs, ha, hb, h⟩
theorem i_abs {m : MM} {H : HH} {k : V → MM → HH → Prop} {i : Int} (h : k (.int i.natAbs) m H) : absPT [.int i] m H k := h
end Mine
end
section
open PySem PySem.W PySem.Calls PySem.Spec PyProof.Rows
set_option maxRecDepth 100000
set_option linter.unusedVariables false
namespace Mine
/-! ## a dict whose keys are tuples of texts -/
noncomputable abbrev tKnd (S : Sy) := tupleKind (strKind S.prog S.w)
noncomputable def OrdObj (S : Sy) (xs : List (List Str × Addr × Value)) (ob : Obj) : Prop := ob.ExactDict ∧ ∃ es ep, ob.data = .dict es ep ∧ es.toList = xs.map (entryOfKey (tKnd S)) ∧ (xs.map (·.1)).Nodup
structure OrdAt (S : Sy) (H : HH) (D : Addr) (xs : List (List Str × Addr × Value)) : Prop where
  ob : ∃ ob, H D = some (.raw ob) ∧ OrdObj S xs ob
  keys : ∀ x ∈ xs, H x.2.1 = some (.tup (x.1.map V.str))
  lo : (D == sysModules) = false
theorem OrdAt.mono {S : Sy} {H H' : HH} {D : Addr} {xs : List (List Str × Addr × Value)} (h : OrdAt S H D xs) (hd : Drop H H') : OrdAt S H' D xs :=
  ⟨let ⟨ob, a, b⟩ := h.ob; ⟨ob, hd _ _ a, b⟩, fun x hx => hd _ _ (h.keys x hx), h.lo⟩
section
variable {S : Sy} {F : Fx} {n : Nat} {m : MM} {H : HH} {s : Shared}
theorem items_strs : ∀ {vs : List Value} {ks : List Str}, vs.map er = ks.map V.str → ItemsAre (strKind S.prog S.w) ks vs
  | [], [], _ => .nil
  | v :: vs, k :: ks, h => by
    simp only [List.map_cons, List.cons.injEq] at h
    obtain ⟨t, rfl⟩ := er_str h.1
    exact .cons (by show Value.isStrOf k (.str k t) = true; unfold Value.isStrOf; simp) (items_strs h.2)
  | [], _ :: _, h => by simp at h
  | _ :: _, [], h => by simp at h
theorem tup_key (st : St F m H s) {a : Addr} {ks : List Str} (h : H a = some (.tup (ks.map V.str))) : (tKnd S).is s.heap ks a := by
  obtain ⟨its, ei, o, ho, hc, nn, hd⟩ := st.tup h
  exact ⟨o, its, nn, ho, hc, hd, items_strs ei⟩
theorem OrdAt.dict (st : St F m H s) {D : Addr} {xs : List (List Str × Addr × Value)} (h : OrdAt S H D xs) : s.heap.DictOfH (tKnd S) D xs := by
  obtain ⟨ob, h1, h2, es, ep, h3, h4, h5⟩ := h.ob
  obtain ⟨ob', e1, e2, _⟩ := st.he D _ h1
  have e2' : ob' = ob := e2
  subst e2'
  exact ⟨ob', es, ep, e1, h2, h3, h4, fun x hx => tup_key st (h.keys x hx), h5⟩
noncomputable def newDictPT (S : Sy) : PT V := fun m H k => ∀ r ob, H r = none → (r == sysModules) = false → OrdObj S [] ob → k (.ref r) m (H.set r (.raw ob))
theorem ev_dict0 {pos : Pos} (hF : Fok S n F) : Ev S F (eval (.Dict [] [] pos) F.env) er (newDictPT S) := by
  intro m H k s E st h
  refine wpAny_Dict_empty ?_
  obtain ⟨mc, fr, nx⟩ := st.frame
  have off := st.offNew
  obtain ⟨f1, f2, f3, f4⟩ := st.fresh (r := s.heap.objs.size) size_none
  have st' : St F m H { s with heap := s.heap.push { cls := .type "dict", data := .dict #[] } } := st.grow (tk := s.toks) fun b o hb => Heap.get?_push_of_some _ hb
  have T := topRead_of hF.top
  have hlt : (sysModules : Nat) < s.heap.objs.size := by
    obtain ⟨ob, _, _, hob, _⟩ := T.g
    exact Nat.lt_of_le_of_lt (by decide) (Heap.lt_size (fr.keep _ _ hob))
  refine ⟨m, _, st'.know (o := .raw { cls := .type "dict", data := .dict #[] }) (Heap.get?_push_size _ rfl) rfl off.L off.h0 f2 f3 f4, .of, h _ _ f1 ?_ ⟨⟨rfl, rfl, rfl⟩, #[], 0, rfl, rfl, List.nodup_nil⟩⟩
  have : ¬ s.heap.objs.size = sysModules := fun e => by rw [e] at hlt; exact Nat.lt_irrefl _ hlt
  simpa using this
theorem method_dict {a : Addr} {xs : List (List Str × Addr × Value)} {name : Str} {id : String} {pl : Sem Bool} {A : Around} {Q : Value × List Value → Shared → Prop} {E : Value → Shared → Prop} (st : St F m H s) (ha : OrdAt S H a xs)
    (slot : Slot "dict" name id) (hty : typeOf (.builtin id) = pure (.type "method_descriptor")) (h : Q (.builtin id, [.ref a]) s) : wpAny S.M A (getMethod (.ref a) name pl) Q E s := by
  obtain ⟨ob, h1, ⟨c1, c2, c3⟩, _⟩ := ha.ob
  obtain ⟨ob', e1, e2, _⟩ := st.he a _ h1
  have e2' : ob' = ob := e2
  subst e2'
  exact getMethod_builtin ⟨_, e1, c1⟩ PySem.F.plainAttrs_dict slot hty (fun b e => by cases e; exact ⟨_, e1, c2⟩) h
noncomputable def getPT (S : Sy) (a : V) (vs : List V) : PT V := fun m H k => match a, vs with
  | .ref D, [.ref t, d] => ∃ xs ks, OrdAt S H D xs ∧ H t = some (.tup (ks.map V.str)) ∧ k ((((atKey xs ks).map (·.2)).map er).getD d) m H
  | _, _ => False
theorem ev_get {o a b : Expr} {co : PT V} {cs : PT (List V)} {apos pos : Pos} {pl : Sem Bool} (hF : Fok S n F) (ho : Ev S F (eval o F.env) er co) (hargs : EvL S F [a, b] pos cs)
    (hm : MethForm o (Str.ofString "get") apos pos [a, b] F.env pl := by rfl)
    (he : starEach (a :: [b]) F.env = (false, eval a F.env) :: starEach [b] F.env := by rfl) (hplain : (backTo pos (starEach [b] F.env)).any (·.1) = false := by rfl) :
    Ev S F (eval (.Call (.Attribute o (Str.ofString "get") apos) [a, b] [] pos) F.env) er (co.bind fun d => (fun m H k => ∃ D xs, d = .ref D ∧ OrdAt S H D xs ∧ (cs.bind (getPT S d)) m H k)) := fun m H k s E st h =>
  MethodCall_ (pl := pl) (ho.use st h fun ov m1 H1 s1 st1 sm1 ⟨D, xs, e1, hD, h1⟩ => by
    obtain rfl := er_ref e1
    refine method_dict st1 hD PySem.F.slot_dict_get PySem.F.type_dict_get ?_
    refine callWith_method1 (hargs.use st1 h1 fun vs m2 H2 s2 st2 sm2 h2 => ?_) he hplain
    replace h2 : getPT S (er (.ref D)) (vs.map er) m2 H2 k := h2
    unfold getPT at h2
    split at h2
    case _ D' t d e2 e3 =>
      obtain rfl : D = D' := by cases e2; rfl
      obtain ⟨u, z, rfl, q1, q2⟩ := map2 e3
      obtain rfl := er_ref q1
      obtain ⟨ys, ks, hO, ht, hk⟩ := h2
      have hu : F.A.units + 64 < cLine := hF.room.cline
      refine call_meetsIn PySem.F.slot_dict_get (hO.dict st2).typeIs PySem.F.entry_dict_get (PySem.F.args_dict_get_3 _ _ _) (meetsH_dict_get_default (tKnd S) D t hO.lo z) ⟨?_, ks, ys, tup_key st2 ht, hO.dict st2, ?_⟩
      · show F.A.units + 1 < cLine
        lia
      · refine ⟨m2, H2, st2.toks _, (sm1.trans sm2).trans ⟨s2.heap, _, rfl⟩, ?_⟩
        have e4 : er (((atKey ys ks).map (·.2)).getD z) = (((atKey ys ks).map (·.2)).map er).getD d := by
          rw [← q2]; cases atKey ys ks <;> rfl
        rw [e4]; exact hk
    case _ => exact h2.elim) hm
noncomputable def setKeyPT (S : Sy) (o i v : V) : PT Unit := fun m H k => match o, i with
  | .ref D, .ref t => ∃ xs ks, OrdAt S H D xs ∧ H t = some (.tup (ks.map V.str)) ∧ xs.length ≤ 1000 ∧ ∀ u ob, er u = v → OrdObj S (storedH xs ks t u) ob → k () m (H.set D (.raw ob))
  | _, _ => False
theorem ev_setKey (hF : Fok S n F) (o i v : Value) : Ev S F (setItem o i v) id (setKeyPT S (er o) (er i) (er v)) := by
  intro m H k s E st h
  unfold setKeyPT at h
  split at h
  case _ D t e1 e2 =>
    obtain rfl := er_ref e1
    obtain rfl := er_ref e2
    obtain ⟨xs, ks, hO, ht, hz, hk⟩ := h
    have hu : F.A.units + 64 < cLine := hF.room.cline
    obtain ⟨ob0, hob0, _⟩ := hO.ob
    refine wpAny_setItem_heap (knd := tKnd S) (k := ks) (xs := xs) (by show F.A.units + 1 < cLine; lia) (tup_key st ht) (hO.dict st) (fun h' hD' hs => ?_) (size_line_le (by lia))
    obtain ⟨ob, es, ep, g1, g2, g3, g4, g5, g6⟩ := hD'
    exact ⟨m, _, st.sameBut (tk := s.toks + (tKnd S).draws ks) (o' := .raw ob) hob0 hs g1 rfl, ⟨_, _, rfl⟩, hk v ob rfl ⟨g2, es, ep, g3, g4, g6⟩⟩
  case _ => exact h.elim
theorem ex_assignKey {o i e : Expr} {co ci c : PT V} {pos tpos : Pos} (hF : Fok S n F) (ho : Ev S F (eval o F.env) er co) (hi : Ev S F (eval i F.env) er ci) (he : Ev S F (eval e F.env) er c) (hs : swapsWith e (some (.Subscript o i tpos)) pos.line F.env = pure false := by rfl) :
    Ev S F (exec (.Assign [.Subscript o i tpos] e pos) F.env) erF (c.bind fun v => co.bind fun a => ci.bind fun j => (setKeyPT S a j v).bind fun _ => PT.pure .next) := fun m H k s E st h =>
  wpAny_Assign_Subscript (he.use st h fun v m0 H0 s0 st0 sm0 h0 => ho.use st0 h0 fun a m1 H1 s1 st1 sm1 h1 => hi.use st1 h1 fun j m2 H2 s2 st2 sm2 h2 =>
    (ev_setKey hF a j v).use st2 h2 fun _ m3 H3 s3 st3 sm3 h3 => ⟨m3, H3, st3, ((sm0.trans sm1).trans sm2).trans sm3, h3⟩) hs
end
end Mine
end
section
open PySem PySem.W PySem.Calls PySem.Spec PyProof.Rows
set_option maxRecDepth 100000
set_option linter.unusedVariables false
namespace Mine
/-! ## the values of a dict, sorted -/
noncomputable def DictEs (h : Heap) (d : Addr) (es : Array DictEntry) (ep : Nat) : Prop := ∃ o, h.get? d = some o ∧ o.cls = .type "dict" ∧ o.data = .dict es ep
theorem DictEs.typeIs {s : Shared} {d : Addr} {es : Array DictEntry} {ep : Nat} (x : DictEs s.heap d es ep) : s.TypeIs (.ref d) "dict" := let ⟨o, ho, hc, _⟩ := x; ⟨o, ho, hc⟩
section
variable {prog : Program} {w : World} {A : Around} {E : Value → Shared → Prop} {s : Shared}
theorem meets_vals (d : Addr) (hd : (d == sysModules) = false) :
    MeetsIn prog w (Builtin.«dict.values» ⟨[.ref d], []⟩) (fun _ R s => s.TypeIs (.ref d) "dict" ∧
      R (.ok (.ret (.ref s.heap.objs.size))) { s with heap := s.heap.push { cls := .type "dict_values", data := .fields #[.ref d] } }) :=
  .of_wp fun A R s ⟨hT, h⟩ => by
    refine wpAny_bind ?_
    unfold Builtin.Dict.noArgs
    refine wpAny_bind (wpAny_notOrdered_dict hT ?_)
    show wpAny _ _ (pure d) _ _ s
    refine wpAny_pure ?_
    show wpAny _ _ (Builtin.Dict.showsAll d >>= _) _ _ s
    unfold Builtin.Dict.showsAll
    rw [if_neg (by rw [hd]; exact Bool.false_ne_true)]
    refine wpAny_bind (wpAny_pure ?_)
    exact wpAny_bind (wpAny_newObj_type (wpAny_pure ⟨_, rfl, h⟩))
theorem iter_vals {v d : Addr} {es : Array DictEntry} {ep : Nat} {Q : Value → Shared → Prop} (hv : s.heap.IsValuesView v d) (hm : DictEs s.heap d es ep)
    (hQ : Q (.ref s.heap.objs.size) { s with heap := s.heap.push { cls := .type "dict_valueiterator", data := .fields #[.ref d, .int 0 0, .int es.size 0, .int ep 0] } }) :
    wpAny (model prog w) A (pyIter (.ref v)) Q E s := by
  obtain ⟨ov, hov, hcv, hdv⟩ := id hv
  obtain ⟨o, ho, hc, hdat⟩ := id hm
  refine wpAny_pyIter_slot hv.typeIs PySem.F.slot_dict_values_iter (wpAny_call_entry PySem.F.slot_dict_values_iter hv.typeIs PySem.F.entry_dict_values_iter ?_ (PySem.F.args_dict_values_iter_1 _))
  unfold Builtin.«dict_values.__iter__»
  refine wpAny_bind (wpAny_pure ?_)
  refine wpAny_bind ?_
  unfold Builtin.Dict_items.dictOf
  refine wpAny_bind (wpAny_field hov hdv (x := .ref d) rfl (wpAny_pure ?_))
  refine wpAny_bind ?_
  unfold Builtin.Dict_items.newIterator
  refine wpAny_bind (wpAny_dictEntries ho hdat ?_)
  refine wpAny_bind (wpAny_dictEpoch ho hdat ?_)
  have hown : Builtin.Dict_items.ownsTuple "dict_valueiterator" = false := by decide
  simp only [hown, Bool.false_eq_true, if_false]
  refine wpAny_newObj_type (wpAny_pure ⟨_, rfl, "dict_valueiterator", _, ⟨_, Heap.get?_push_size _ rfl, rfl⟩, PySem.F.slot_dict_valueiterator_next.lookup, ?_⟩)
  simpa [rawInt] using hQ
theorem next_vals {it d : Addr} {i ep : Nat} {es : Array DictEntry} {e : DictEntry} {Q : Option Value → Shared → Prop} (hit : s.heap.IsValIter it d i es.size ep)
    (hm : DictEs s.heap d es ep) (hx : es[i]? = some e)
    (hQ : ∀ h', h'.IsValIter it d (i + 1) es.size ep → Heap.SameBut it s.heap h' → Q (some e.val) { s with heap := h' }) :
    wpAny (model prog w) A (pyNext (.ref it)) Q E s := by
  obtain ⟨o, ho, hc, hd⟩ := id hit
  obtain ⟨od, hod, hcd, hdd⟩ := id hm
  unfold pyNext
  refine wpAny_bind (wpAny_attempt (wpAny_callSpecial?_slot (name := Str.ofString "__next__") hit.typeIs PySem.F.slot_dict_valueiterator_next
    (wpAny_call_entry PySem.F.slot_dict_valueiterator_next hit.typeIs PySem.F.entry_dict_valueiterator_next ?_ (PySem.F.args_dict_valueiterator_next_1 _))))
  refine wpAny_bind (wpAny_pure ?_)
  refine wpAny_bind ?_
  refine wpAny_bind ?_
  first | refine wpAny_bind (wpAny_typeNameOfWhole_valiter hit.typeIs (wpAny_pure ?_)) | refine wpAny_bind (wpAny_typeNameOf_valiter hit.typeIs (wpAny_pure ?_))
  refine wpAny_bind (wpAny_fieldsOf ho hd ?_)
  have hown : Builtin.Dict_items.ownsTuple "dict_valueiterator" = false := by decide
  simp only [hown, Bool.false_eq_true, if_false]
  show wpAny _ _ (if (Value.ref d == Value.none) = true then _ else _) _ _ s
  rw [if_neg (show ¬ ((Value.ref d == Value.none) = true) from Bool.false_ne_true)]
  refine wpAny_bind (wpAny_pure ?_)
  refine wpAny_bind (wpAny_dictEntries hod hdd ?_)
  rw [if_neg (by simp)]
  refine wpAny_bind (wpAny_pure ?_)
  refine wpAny_bind (wpAny_dictEpoch hod hdd ?_)
  rw [if_neg (by simp)]
  refine wpAny_pure ?_
  have hlt' : i < es.size := (Array.getElem?_eq_some_iff.mp hx).1
  have hval : es[i] = e := (Array.getElem?_eq_some_iff.mp hx).2
  simp only [show ¬ ((i : Int) < 0) from by lia, if_false, Int.toNat_natCast, Array.getElem?_eq_getElem hlt']
  refine wpAny_bind ?_
  first | refine wpAny_bind (wpAny_typeNameOfWhole_valiter hit.typeIs (wpAny_pure ?_)) | refine wpAny_bind (wpAny_typeNameOf_valiter hit.typeIs (wpAny_pure ?_))
  refine wpAny_bind (wpAny_isOneOf_valiter hit.typeIs ?_)
  show wpAny _ _ (setField (.ref it) 1 (rawInt ((i : Int) + 1)) >>= _) _ _ s
  refine wpAny_bind (wpAny_setField ho hd (by simp) ?_)
  have hit' : (s.heap.update it (Obj.mapFields (·.setIfInBounds 1 (rawInt ((i : Int) + 1))))).IsValIter it d (i + 1) es.size ep :=
    ⟨_, Heap.get?_update_self _ ho (Obj.isFreed_of_fields (Obj.data_mapFields hd _)), (Obj.cls_mapFields ..).trans hc, by rw [Obj.data_mapFields hd]; simp [rawInt]⟩
  refine wpAny_bind (wpAny_holding ?_)
  refine wpAny_bind (wpAny_isOneOf_valiter (s := { s with heap := s.heap.update it (Obj.mapFields (·.setIfInBounds 1 (rawInt ((i : Int) + 1)))) }) hit'.typeIs ?_)
  refine wpAny_bind (wpAny_isOneOf_valiter (s := { s with heap := s.heap.update it (Obj.mapFields (·.setIfInBounds 1 (rawInt ((i : Int) + 1)))) }) hit'.typeIs ?_)
  show wpAny _ _ (pure es[i].val) _ _ _
  rw [hval]
  exact wpAny_pure (wpAny_pure ⟨_, rfl, wpAny_pure (hQ _ hit' (Heap.SameBut.update ..))⟩)
theorem end_vals {h₀ : Heap} {it d : Addr} {i ep : Nat} {es : Array DictEntry} {Q : Option Value → Shared → Prop} (hh : HandOk A h₀) (hk : ∀ b o, h₀.get? b = some o → b ≠ it ∧ s.heap.get? b = some o) (hit : s.heap.IsValIter it d i es.size ep)
    (hm : DictEs s.heap d es ep) (hx : es[i]? = none)
    (hQ : ∀ h', Heap.ExtBut it s.heap h' → Q none { s with heap := h' }) : wpAny (model prog w) A (pyNext (.ref it)) Q E s := by
  obtain ⟨o, ho, hc, hd⟩ := id hit
  obtain ⟨od, hod, hcd, hdd⟩ := id hm
  unfold pyNext
  refine wpAny_bind (wpAny_attempt (wpAny_callSpecial?_slot (name := Str.ofString "__next__") hit.typeIs PySem.F.slot_dict_valueiterator_next
    (wpAny_call_entry PySem.F.slot_dict_valueiterator_next hit.typeIs PySem.F.entry_dict_valueiterator_next ?_ (PySem.F.args_dict_valueiterator_next_1 _))))
  refine wpAny_bind (wpAny_pure ?_)
  refine wpAny_bind ?_
  refine wpAny_bind ?_
  first | refine wpAny_bind (wpAny_typeNameOfWhole_valiter hit.typeIs (wpAny_pure ?_)) | refine wpAny_bind (wpAny_typeNameOf_valiter hit.typeIs (wpAny_pure ?_))
  refine wpAny_bind (wpAny_fieldsOf ho hd ?_)
  have hown : Builtin.Dict_items.ownsTuple "dict_valueiterator" = false := by decide
  simp only [hown, Bool.false_eq_true, if_false]
  show wpAny _ _ (if (Value.ref d == Value.none) = true then _ else _) _ _ s
  rw [if_neg (show ¬ ((Value.ref d == Value.none) = true) from Bool.false_ne_true)]
  refine wpAny_bind (wpAny_pure ?_)
  refine wpAny_bind (wpAny_dictEntries hod hdd ?_)
  rw [if_neg (by simp)]
  refine wpAny_bind (wpAny_pure ?_)
  refine wpAny_bind (wpAny_dictEpoch hod hdd ?_)
  rw [if_neg (by simp)]
  refine wpAny_pure ?_
  have hge : es.size ≤ i := by simpa using hx
  simp only [show ¬ ((i : Int) < 0) from by lia, if_false, Int.toNat_natCast, Array.getElem?_eq_none hge]
  refine wpAny_bind ?_
  first | refine wpAny_bind (wpAny_typeNameOfWhole_valiter hit.typeIs (wpAny_pure ?_)) | refine wpAny_bind (wpAny_typeNameOf_valiter hit.typeIs (wpAny_pure ?_))
  show wpAny _ _ (setField (.ref it) 0 .none >>= _) _ _ s
  refine wpAny_bind (wpAny_setField ho hd (by simp) ?_)
  show wpAny _ _ (newExc (.type "StopIteration") [] >>= fun e => raiseNew e) _ _ _
  refine newStop (h₀ := h₀) hh (fun b o hb => ?_) fun h' a ob kp _ hob hcl => ?_
  · rw [Heap.get?_update_ne _ _ _ _ (hk b o hb).1]; exact (hk b o hb).2
  · refine wpAny_bind (wpAny_isInstance (T := "StopIteration") (b := true) ⟨_, hob, hcl⟩ isSubtype_stop ?_)
    refine wpAny_pure (hQ _ fun b o hb hbo => kp b o ?_)
    rw [Heap.get?_update_ne _ _ _ _ hb]; exact hbo
theorem Walks_vals (I d : Addr) (hne : d ≠ I) (es : Array DictEntry) (ep : Nat) :
    Walks prog w A I ([I, d] ++ handL A) [I] es.size (fun i v => ∃ e, es[i]? = some e ∧ v = e.val) (fun i h => h.IsValIter I d i es.size ep ∧ DictEs h d es ep ∧ HandAt A h I) where
  sub := fun b hb => by simp at hb; simp [hb]
  frame := fun _ _ _ st hk => ⟨let ⟨o, ho, r⟩ := st.1; ⟨o, hk I (by simp) o ho, r⟩, let ⟨o, ho, r⟩ := st.2.1; ⟨o, hk d (by simp) o ho, r⟩, st.2.2.frame fun b hb o e => hk b (List.mem_append_right _ hb) o e⟩
  item := fun i s Q E hi st hQ => by
    refine next_vals st.1 st.2.1 (e := es[i]) (by simp [hi]) fun h' hit' hs' => ?_
    refine hQ _ h' s.toks ⟨_, by simp [hi], rfl⟩ ⟨hit', let ⟨o, ho, r⟩ := st.2.1; ⟨o, hs'.extBut _ _ hne ho, r⟩, ?_⟩ fun b o hb e => hs'.extBut b o (fun h => hb (by simp [h])) e
    rcases st.2.2 with h1 | ⟨e, oe, ws, h1, h2, h3, h4, h5⟩
    · exact .inl h1
    · exact .inr ⟨e, oe, ws, h1, h2, hs'.extBut _ _ h2 h3, h4, h5⟩
  done := fun s Q E st hQ => by
    obtain ⟨g, g1, g2⟩ := st.2.2.ok
    exact end_vals g1 g2 st.1 st.2.1 (by simp) fun h' he' => hQ h' s.toks fun b o hb e => he' b o (fun h => hb (by simp [h])) e
  self := fun _ _ _ _ st hQ => wpAny_pyIter_valiter st.1 hQ
/-- collecting what a view of values shows -/
theorem collect_vals {h₀ : Heap} {v d : Addr} {es : Array DictEntry} {ep : Nat} {R : List Value → Shared → Prop} (hh : HandOk A h₀) (hk0 : ∀ b o, h₀.get? b = some o → s.heap.get? b = some o)
    (hv : s.heap.IsValuesView v d) (hm : DictEs s.heap d es ep) (hn : es.size ≤ sizeLine)
    (h : ∀ (h' : Heap) (tk : Nat) (acc : Array Value), (∀ b o, s.heap.get? b = some o → h'.get? b = some o) → ItemsOf (fun i v => ∃ e, es[i]? = some e ∧ v = e.val) acc es.size → R acc.toList { s with heap := h', toks := tk }) :
    wpAny (model prog w) A (collect (.ref v)) R E s := by
  obtain ⟨ov, hov, hcv, hdv⟩ := id hv
  obtain ⟨od, hod, hcd, hdd⟩ := id hm
  have hvl := Heap.lt_size hov
  have hdl := Heap.lt_size hod
  unfold collect
  refine wpAny_bind (wpAny_runValue (codeAny_builtin entry_proto_collect' ?_))
  rw [Around.under_plainId PySem.F.plain_proto_collect _]
  show wpAny _ A.in1 (newList [] >>= fun l => again (.builtin "list.__iadd__" ⟨[l, .ref v], []⟩)) _ _ s
  refine wpAny_bind (wpAny_newObj_type ?_)
  refine wpAny_pure ⟨plainId_quiet PySem.F.plain_list_iadd _, codeAny_builtin entry_list_iadd' ?_⟩
  rw [Around.under_plainId PySem.F.plain_list_iadd _]
  have hS₁ : (s.heap.push { cls := .type "list", data := .seq ([] : List Value).toArray }).get? s.heap.objs.size = some { cls := .type "list", data := .seq #[] } := Heap.get?_push_size _ rfl
  show wpAny _ A.in1 (Builtin.List.listExtendWith (.ref s.heap.objs.size) (.ref v) (.ref s.heap.objs.size)) _ _ _
  have hkS : ∀ b o, s.heap.get? b = some o → (s.heap.push { cls := .type "list", data := .seq ([] : List Value).toArray }).get? b = some o := fun b o e => Heap.get?_push_of_some _ e
  have key : ∀ (Rf : Result → Shared → Prop),
      (∀ h' tk acc' c', (∀ b o, s.heap.get? b = some o → h'.get? b = some o) → h'.get? s.heap.objs.size = some { cls := .type "list", dict := none, data := .seq acc' c', slots := #[] } → ItemsOf (fun i v => ∃ e, es[i]? = some e ∧ v = e.val) acc' es.size → Rf (.ok (.ret (.ref s.heap.objs.size))) { s with heap := h', toks := tk }) →
      wpAny (model prog w) A.in1 (Builtin.List.listExtendWith (.ref s.heap.objs.size) (.ref v) (.ref s.heap.objs.size))
        (fun fin s' => match fin with | .done f => Rf (.ok f) s' | .again c' => c'.quiet = true ∧ codeAny (model prog w) A c' Rf s') (fun e s' => Rf (.error e) s')
        { s with heap := s.heap.push { cls := .type "list", data := .seq ([] : List Value).toArray } } := by
    intro Rf hR
    have hv2 : Heap.IsValuesView (s.heap.push { cls := .type "list", data := .seq ([] : List Value).toArray }) v d := ⟨ov, hkS _ _ hov, hcv, hdv⟩
    have hm2 : DictEs (s.heap.push { cls := .type "list", data := .seq ([] : List Value).toArray }) d es ep := ⟨od, hkS _ _ hod, hcd, hdd⟩
    unfold Builtin.List.listExtendWith
    refine wpAny_bind (wpAny_typeOf (T := "dict_values") ⟨ov, hkS _ _ hov, hcv⟩ ?_)
    have hSv : s.heap.objs.size ≠ v := Nat.ne_of_gt hvl
    have hSd : s.heap.objs.size ≠ d := Nat.ne_of_gt hdl
    have h1 : Builtin.List.listSameRef (.ref s.heap.objs.size) (.ref v) = false := by simp [Builtin.List.listSameRef, hSv]
    have h2 : (Value.type "dict_values" == Value.type "list") = false := by decide
    have h3 : (Value.type "dict_values" == Value.type "tuple") = false := by decide
    simp only [h1, h2, h3, Bool.or_false, Bool.false_eq_true, if_false]
    refine wpAny_bind (iter_vals hv2 hm2 ?_)
    have hz1 : (s.heap.push { cls := .type "list", data := .seq ([] : List Value).toArray }).objs.size = s.heap.objs.size + 1 := Heap.size_push ..
    dsimp only
    generalize hHI : (s.heap.push { cls := .type "list", data := .seq ([] : List Value).toArray }).push { cls := .type "dict_valueiterator", data := .fields #[.ref d, .int 0 0, .int es.size 0, .int ep 0] } = HI
    have hI1 : HI.get? (s.heap.push { cls := .type "list", data := .seq ([] : List Value).toArray }).objs.size = some { cls := .type "dict_valueiterator", data := .fields #[.ref d, .int 0 0, .int es.size 0, .int ep 0] } := by
      rw [← hHI]; exact Heap.get?_push_size _ rfl
    have hkI : ∀ b o, (s.heap.push { cls := .type "list", data := .seq ([] : List Value).toArray }).get? b = some o → HI.get? b = some o := fun b o e => by rw [← hHI]; exact Heap.get?_push_of_some _ e
    rw [hz1] at hI1 ⊢
    have hv3 : Heap.IsValuesView HI v d := ⟨ov, hkI _ _ (hkS _ _ hov), hcv, hdv⟩
    have hS2 := hkI _ _ hS₁
    have hSI : s.heap.objs.size ≠ s.heap.objs.size + 1 := Nat.ne_of_lt (Nat.lt_succ_self _)
    have hdI : d ≠ s.heap.objs.size + 1 := Nat.ne_of_lt (Nat.lt_succ_of_lt hdl)
    have hI0 : h₀.get? (s.heap.objs.size + 1) = none := by
      cases q : h₀.get? (s.heap.objs.size + 1) with
      | none => rfl
      | some o => exact absurd (Nat.lt_of_succ_lt (Heap.lt_size (hk0 _ _ q))) (Nat.lt_irrefl _)
    have hhA : HandAt A.in1 HI (s.heap.objs.size + 1) := HandOk.at_ (A := A.in1) hh (fun b o e => hkI _ _ (hkS _ _ (hk0 b o e))) hI0
    have loop : ∀ (h : Heap) (c₁ tk : Nat), (∀ b o, b ≠ s.heap.objs.size → HI.get? b = some o → h.get? b = some o) → h.get? s.heap.objs.size = some { cls := .type "list", data := .seq #[] c₁ } →
        codeAny (model prog w) A (.builtin "list.extend.loop" ⟨[.ref s.heap.objs.size, .ref (s.heap.objs.size + 1), .ref s.heap.objs.size], []⟩) Rf { s with heap := h, toks := tk } := by
      intro h c₁ tk hk hS
      have hSf : s.heap.objs.size ∉ [s.heap.objs.size + 1, d] ++ handL A.in1 := by
        intro hm
        rcases List.mem_append.mp hm with hm | hm
        · simp only [List.mem_cons, List.not_mem_nil, or_false] at hm
          rcases hm with hm | hm
          · exact hSI hm
          · exact hSd hm
        · exact Nat.lt_irrefl _ (HandOk.lt (A := A.in1) hh hk0 _ hm)
      have st0 : h.IsValIter (s.heap.objs.size + 1) d 0 es.size ep ∧ DictEs h d es ep ∧ HandAt A.in1 h (s.heap.objs.size + 1) := by
        refine ⟨⟨_, hk _ _ (Ne.symm hSI) hI1, rfl, rfl⟩, ⟨od, hk _ _ (Ne.symm hSd) (hkI _ _ (hkS _ _ hod)), hcd, hdd⟩, hhA.frame fun b hb o e => hk b o ?_ e⟩
        rintro rfl
        exact Nat.lt_irrefl _ (HandOk.lt (A := A.in1) hh hk0 _ hb)
      refine codeAny_extend_loopS (Walks_vals (A := A.in1) (s.heap.objs.size + 1) d hdI es ep).toS hn s.heap.objs.size hSf (.ref s.heap.objs.size) es.size 0 { s with heap := h, toks := tk } #[] c₁ rfl (Nat.zero_le _) st0 hS (ItemsOf.nil _) fun s' acc' c' hmv hS' hacc => ?_
      rw [Moved.eq_with hmv]
      refine hR s'.heap s'.toks acc' c' (fun b o e => ?_) hS' hacc
      have hb1 : b ≠ s.heap.objs.size := Nat.ne_of_lt (Heap.lt_size e)
      have hb2 : b ≠ s.heap.objs.size + 1 := Nat.ne_of_lt (Nat.lt_succ_of_lt (Heap.lt_size e))
      exact hmv.heap b o (by simp [hb1, hb2]) (hk b o hb1 (hkI _ _ (hkS _ _ e)))
    refine wpAny_bind (wpAny_holding (kdl_hint_values hv3.typeIs ?_))
    refine wpAny_ite_split (fun _ => ?_) (fun _ => wpAny_pure ⟨plainId_quiet PySem.F.plain_extend_loop _, loop _ 0 _ (fun b o _ e => e) hS2⟩)
    refine wpAny_bind (wpAny_rule ?_)
    refine wpAny_bind ?_
    show wpAny _ _ (updateSeq s.heap.objs.size (·.push .none) >>= fun _ => updateSeq s.heap.objs.size (·.pop)) _ _ _
    refine wpAny_bind (wpAny_updateSeq hS2 rfl ?_)
    have hS3 := Heap.get?_update_self (Obj.mapSeq (·.push Value.none)) hS2 rfl
    refine wpAny_updateSeq (hz := by seq_fits) hS3 rfl ?_
    have hS4 := Heap.get?_update_self (Obj.mapSeq (·.pop)) hS3 rfl
    refine wpAny_pure ⟨plainId_quiet PySem.F.plain_extend_loop _, loop _ _ _ (fun b o hb e => ?_) hS4⟩
    exact (Heap.get?_update_other _ _ (Ne.symm hb)).trans ((Heap.get?_update_other _ _ (Ne.symm hb)).trans e)
  refine wpAny_mono (key (fun q s' => ∃ (h' : Heap) (tk : Nat) (acc' : Array Value) (c' : Nat), q = .ok (.ret (.ref s.heap.objs.size)) ∧ s' = { s with heap := h', toks := tk } ∧
      (∀ b o, s.heap.get? b = some o → h'.get? b = some o) ∧ h'.get? s.heap.objs.size = some { cls := .type "list", dict := none, data := .seq acc' c', slots := #[] } ∧ ItemsOf (fun i v => ∃ e, es[i]? = some e ∧ v = e.val) acc' es.size)
    fun h' tk acc' c' hk hS' hacc => ⟨h', tk, acc', c', rfl, rfl, hk, hS', hacc⟩) (fun fin s' x => ?_) fun e s' x => ?_
  · cases fin with
    | done f =>
      obtain ⟨h', tk, acc', c', e, rfl, hk, hS', hacc⟩ := x
      cases e
      show wpAny _ A (load s.heap.objs.size >>= _) _ _ _
      refine wpAny_bind (wpAny_load hS' ?_)
      exact wpAny_pure (h h' tk acc' hk hacc)
    | again c₁ =>
      refine ⟨x.1, codeAny_mono x.2 fun q s₂ y => ?_⟩
      obtain ⟨h', tk, acc', c', rfl, rfl, hk, hS', hacc⟩ := y
      show wpAny _ A (load s.heap.objs.size >>= _) _ _ _
      refine wpAny_bind (wpAny_load hS' ?_)
      exact wpAny_pure (h h' tk acc' hk hacc)
  · obtain ⟨_, _, _, _, e', _⟩ := x
    cases e'
end
end Mine
end
section
open PySem PySem.W PySem.Calls PySem.Spec PyProof.Rows
set_option maxRecDepth 100000
set_option linter.unusedVariables false
namespace Mine
noncomputable def viewObj (D : Addr) : Obj := { cls := .type "dict_values", data := .fields #[.ref D] }
section
variable {S : Sy} {F : Fx} {n : Nat} {m : MM} {H : HH} {s : Shared}
theorem OrdAt.es (st : St F m H s) {D : Addr} {xs : List (List Str × Addr × Value)} (h : OrdAt S H D xs) : ∃ es ep, DictEs s.heap D es ep ∧ es.toList = xs.map (entryOfKey (tKnd S)) := by
  obtain ⟨ob, h1, ⟨c1, c2, c3⟩, es, ep, h3, h4, h5⟩ := h.ob
  obtain ⟨ob', e1, e2, _⟩ := st.he D _ h1
  have e2' : ob' = ob := e2
  subst e2'
  exact ⟨es, ep, ⟨ob', e1, c1, h3⟩, h4⟩
noncomputable def valuesPT (S : Sy) (a : V) : PT V := fun m H k => match a with
  | .ref D => ∃ xs, OrdAt S H D xs ∧ ∀ r, H r = none → k (.ref r) m (H.set r (.raw (viewObj D)))
  | _ => False
theorem ev_values {o : Expr} {co : PT V} {apos pos : Pos} {pl : Sem Bool} (hF : Fok S n F) (ho : Ev S F (eval o F.env) er co) (hm : MethForm o (Str.ofString "values") apos pos [] F.env pl := by rfl) :
    Ev S F (eval (.Call (.Attribute o (Str.ofString "values") apos) [] [] pos) F.env) er (co.bind (valuesPT S)) := fun m H k s E st h =>
  MethodCall_ (pl := pl) (ho.use st h fun ov m1 H1 s1 st1 sm1 h1 => by
    unfold valuesPT at h1
    split at h1
    case _ D e1 =>
      obtain rfl := er_ref e1
      obtain ⟨xs, hO, hk⟩ := h1
      refine method_dict st1 hO PySem.F.slot_dict_values PySem.F.type_dict_values ?_
      refine callWith_method0 ?_
      refine call_meetsIn PySem.F.slot_dict_values (hO.dict st1).typeIs PySem.F.entry_dict_values (PySem.F.args_dict_values_1 _) (meets_vals D hO.lo) ⟨(hO.dict st1).typeIs, ?_⟩
      have off := st1.offNew
      obtain ⟨f1, f2, f3, f4⟩ := st1.fresh (r := s1.heap.objs.size) size_none
      have st' : St F m1 H1 { s1 with heap := s1.heap.push { cls := .type "dict_values", data := .fields #[.ref D] } } := st1.grow (tk := s1.toks) fun b o hb => Heap.get?_push_of_some _ hb
      exact ⟨m1, _, st'.know (o := .raw (viewObj D)) (Heap.get?_push_size _ rfl) rfl off.L off.h0 f2 f3 f4, sm1.trans .of, hk _ f1⟩
    case _ => exact h1.elim) hm
theorem sh_old {h : Heap} {a b : Addr} {vs : List Value} {out : Array Value} {o : Obj} (hb : b ≠ a) (e : h.get? b = some o) : (sortedHeap h a vs out).get? b = some o := by
  unfold sortedHeap
  rw [Heap.get?_update_ne _ _ _ _ hb]
  refine Heap.get?_push_of_some _ (Heap.get?_push_of_some _ ?_)
  rw [Heap.get?_update_ne _ _ _ _ hb]; exact e
noncomputable def sortedPT (S : Sy) (vs : List V) : PT V := fun m H k => match vs with
  | [.ref v] => ∃ D xs ns, H v = some (.raw (viewObj D)) ∧ OrdAt S H D xs ∧ xs.map (fun x => er x.2.2) = ns.map V.int ∧ ns.length < 64 ∧
      ∀ r ns', H r = none → List.Perm ns' ns → ns'.Pairwise (· ≤ ·) → k (.ref r) m (H.set r (LI ns'))
  | _ => False
theorem bi_sorted (hF : Fok S n F) : Bi S F (.builtin "sorted") (sortedPT S) := by
  intro vs m H k s E st h
  unfold sortedPT at h
  split at h
  case _ v e =>
    obtain ⟨u, rfl, e1⟩ := map1 e
    obtain rfl := er_ref e1
    obtain ⟨D, xs, ns, hv, hO, hns, h64, hk⟩ := h
    obtain ⟨es, ep, hes, hel⟩ := hO.es st
    obtain ⟨ov, g1, g2, _⟩ := st.he v _ hv
    have g2' : ov = viewObj D := g2
    subst g2'
    have hlen : es.size = ns.length := by
      have q1 := congrArg List.length hel
      have q2 := congrArg List.length hns
      simp at q1 q2
      lia
    refine call_function_entry kind_sorted plain_sorted entry_sorted (args_sorted1 _) ?_
    unfold Builtin.«sorted»
    refine wpAny_bind (m := checkCount "sorted" 1 1 _) (wpAny_pure ?_)
    refine wpAny_bind (collect_vals (A := F.A.in1) (h₀ := F.h₀) hF.hand st.keep0 ⟨_, g1, rfl, rfl⟩ hes (size_line_le (by lia)) fun h' tk acc hkk hacc => ?_)
    have hvs : acc.toList.map er = ns.map V.int := by
      rw [← hns]
      refine List.ext_getElem? fun j => ?_
      rw [List.getElem?_map, List.getElem?_map, Array.getElem?_toList]
      have q1 : xs.length = es.size := by have := congrArg List.length hel; simp at this; lia
      cases q : acc[j]? with
      | none =>
        have : es.size ≤ j := by rw [← hacc.1]; simpa using q
        rw [List.getElem?_eq_none (by lia)]; rfl
      | some a =>
        obtain ⟨en, he, rfl⟩ := hacc.2 j a q
        have e3 := entry_at hel j
        rw [he] at e3
        obtain ⟨x, hx, rfl⟩ := Option.map_eq_some_iff.mp e3.symm
        rw [hx]; rfl
    have hI := intsAre_of hvs
    have hlv : acc.toList.length = ns.length := by have := congrArg List.length hvs; simpa using this
    refine wpAny_bind (wpAny_newList ?_ (size_line_le (by lia)))
    dsimp only
    have hoL : (h'.push (seqObj "list" acc.toList.toArray 0)).get? h'.objs.size = some (seqObj "list" acc.toList.toArray 0) := Heap.get?_push_size _ rfl
    have st' : St F m H { s with heap := h', toks := tk } := st.grow hkk
    have off := st'.offNew
    obtain ⟨f1, f2, f3, f4⟩ := st'.fresh (r := h'.objs.size) size_none
    show wpAny _ _ _ _ _ { s with heap := h'.push (seqObj "list" acc.toList.toArray 0), toks := tk }
    refine wpAny_bind (wpAny_holding (wpAny_call_entry slot_list_sort ⟨_, hoL, rfl⟩ entry_list_sort (list_sort_tree (s := { s with heap := h'.push (seqObj "list" acc.toList.toArray 0), toks := tk }) hoL hI (by lia) fun out ns' a1 a2 a3 => ⟨_, rfl, ?_⟩) (args_list_sort _)))
    refine wpAny_pure ⟨_, rfl, ?_⟩
    obtain ⟨k', hk'⟩ := sortedHeap_at (vs := acc.toList) (out := out) hoL
    have st'' : St F m H { s with heap := sortedHeap (h'.push (seqObj "list" acc.toList.toArray 0)) h'.objs.size acc.toList out, toks := tk } := st'.ext off fun b o hb hbo => sh_old hb (Heap.get?_push_of_some _ hbo)
    refine ⟨m, _, st''.know (o := LI ns') hk' ⟨out, k', rfl, ?_⟩ off.L off.h0 f2 f3 f4, .of, hk _ ns' f1 a2 a3⟩
    have key : ∀ {vs : List Value} {is : List Int}, IntsAre vs is → vs.map er = is.map V.int := by
      intro vs is h
      induction h with
      | nil => rfl
      | cons i t _ ih => simp [er, ih]
    exact key a1
  case _ => exact h.elim
end
end Mine
end
section
open PySem PySem.W PySem.Calls PySem.Spec PyProof.Rows
set_option maxRecDepth 100000
set_option linter.unusedVariables false
namespace Mine
/-! ## raises -/
noncomputable def Known (H : HH) (news : List (Addr × Obj)) : Prop := ∀ a o, H a = some o → ∃ ob, (a, ob) ∈ news ∧ Is o ob
structure Cx (S : Sy) (F : Fx) (A₀ : Around) (base : Heap) (outer : List Env) (fenv : Env) : Prop where
  below : Below A₀ base outer F.h₀
  frames : F.A.frames = some (fenv :: outer)
  frame : fenv.frame = some F.L
  kind : fenv.scope.kind = .function
  kb : S.K.In base
  tb : Top S.p S.loose S.mean S.mg S.mb base
  hand : F.A.handled = none
  dicts : KtsDicts (outer.filterMap (·.frame)) F.h₀
noncomputable def Fx.turn (F : Fx) (h : Heap) : Fx := ⟨F.A, F.env, h, F.L, F.mL, F.P⟩
structure Ent (S : Sy) (F : Fx) (base : Heap) (outer : List Env) (fenv : Env) (m : MM) (H : HH) (s : Shared) (mc : Str → Option Value) (g : Heap) : Prop where
  fr : Fr F.h₀ F.L g mc
  x1 : F.env.locals = F.L → ∀ x, F.env.scope.names.lookup x = some .local → (mc x).map er = m x
  x2 : F.env.locals ≠ F.L → mc = F.mL
  below : Below F.A base (fenv :: outer) g
  stay : F.h₀.StaysIn g
  size : g.objs.size = s.heap.objs.size
  dicts : KtsDicts ((fenv :: outer).filterMap (·.frame)) g
  gh : ∀ b o, g.get? b = some o → s.heap.get? b = some o
  gn : ∀ a o, H a = some o → g.get? a = none
  gk : ∀ b o, s.heap.get? b = some o → H b = none → g.get? b = some o
theorem mem_frames {fenv : Env} {outer : List Env} {L b : Addr} (hf : fenv.frame = some L) (hm : b ∈ (fenv :: outer).filterMap (·.frame)) : b = L ∨ b ∈ outer.filterMap (·.frame) := by
  rw [List.filterMap_cons, hf] at hm
  rcases List.mem_cons.mp hm with h | h
  · exact .inl h
  · exact .inr h
section
variable {S : Sy} {F : Fx} {n : Nat} {m : MM} {H : HH} {s : Shared} {A₀ : Around} {base : Heap} {outer : List Env} {fenv : Env}
theorem Cx.fok (cx : Cx S F A₀ base outer fenv) (hF : Fok S n F) {h : Heap} (B : Below A₀ base outer h) : Fok S n (F.turn h) :=
  ⟨⟨A₀, base, outer, fenv, B, cx.frames, cx.frame, cx.kind⟩, cx.kb.keeps B.stays, cx.tb.keeps B.stays, .inl cx.hand, hF.room, hF.kind, hF.glob, hF.bi, hF.cinj, hF.ckind⟩
theorem Cx.turn (cx : Cx S F A₀ base outer fenv) {h : Heap} (B : Below A₀ base outer h) (D : KtsDicts (outer.filterMap (·.frame)) h) : Cx S (F.turn h) A₀ base outer fenv :=
  ⟨B, cx.frames, cx.frame, cx.kind, cx.kb, cx.tb, cx.hand, D⟩
theorem known_of (st : St F m H s) : Known H (knownOf H (full F.h₀ F.L s.heap)) := fun a o h => by
  obtain ⟨ob, e1, e2, e3, e4⟩ := st.he a o h
  exact ⟨ob, List.mem_filter.mpr ⟨mem_full.mpr ⟨e1, e3, e4⟩, by rw [h]; rfl⟩, e2⟩
theorem known_news (st : St F m H s) : ∀ q ∈ knownOf H (full F.h₀ F.L s.heap), s.heap.get? q.1 = some q.2 ∧ q.1 ≠ F.L ∧ F.h₀.get? q.1 = none ∧ H q.1 ≠ none := fun q hq => by
  obtain ⟨h1, h2⟩ := List.mem_filter.mp hq
  obtain ⟨e1, e2, e3⟩ := mem_full.mp h1
  refine ⟨e1, e2, e3, fun e => ?_⟩
  rw [e] at h2; cases h2
theorem St.ent (cx : Cx S F A₀ base outer fenv) (st : St F m H s) : ∃ mc g, Ent S F base outer fenv m H s mc g := by
  obtain ⟨mc, fr, x1, x2⟩ := st.fr
  have N : News F.h₀ F.L s.heap (knownOf H (full F.h₀ F.L s.heap)) := fun p hp => full_news p (List.mem_filter.mp hp).1
  obtain ⟨FG, BG, stay, _⟩ := groundX (R := fun _ _ => True) cx.below fr N cx.frames cx.frame cx.kind
  have notIn : ∀ b, H b = none → b ∉ (knownOf H (full F.h₀ F.L s.heap)).map (·.1) := fun b hb hm => by
    obtain ⟨p, hp, rfl⟩ := List.mem_map.mp hm
    exact (known_news st p hp).2.2.2 hb
  refine ⟨mc, _, FG, x1, x2, BG, stay, hideAll_size _ _, fun b hb => ?_, fun b o e => of_hideAll _ e, fun a o ha => ?_, fun b o e hb => hideAll_get _ e (notIn b hb)⟩
  · rcases mem_frames cx.frame hb with rfl | hb
    · obtain ⟨o, es, ep, ho, hd, _⟩ := FG.ns
      exact ⟨o, es, ep, ho, hd⟩
    · obtain ⟨o, es, k, ho, hd⟩ := cx.dicts b hb
      exact ⟨o, es, k, stay _ _ ho, hd⟩
  · obtain ⟨ob, e1, e2, e3, e4⟩ := st.he a o ha
    exact hideAll_none _ (List.mem_map.mpr ⟨(a, ob), List.mem_filter.mpr ⟨mem_full.mpr ⟨e1, e3, e4⟩, by rw [ha]; rfl⟩, rfl⟩)
/-- back in the caller's frame, after a catch below it: the outer frames' own objects may have turned their slots -/
theorem St.backT (cx : Cx S F A₀ base outer fenv) (st : St F m H s) {mc : Str → Option Value} {g g' h' : Heap} {tk : Nat} {H' : HH} (e : Ent S F base outer fenv m H s mc g) (hP : ∀ p ∈ F.P, F.h₀.get? p.1 = none)
    (T : KtsTurn ((fenv :: outer).filterMap (·.frame)) g g') (up : ∀ b o, g'.get? b = some o → h'.get? b = some o) (hk : ∀ a o, H' a = some o → ∃ ob, h'.get? a = some ob ∧ Is o ob ∧ g'.get? a = none) :
    ∃ h₀', KtsTurn (outer.filterMap (·.frame)) F.h₀ h₀' ∧ Below A₀ base outer h₀' ∧ KtsDicts (outer.filterMap (·.frame)) h₀' ∧ St (F.turn h₀') m H' { s with heap := h', toks := tk } := by
  have nL₀ : F.h₀.get? F.L = none := kts_self e.fr
  obtain ⟨oL, es, ep, hL, hLd, hLr⟩ := e.fr.ns
  have inFr : ∀ b, b ∈ outer.filterMap (·.frame) → ∃ o, F.h₀.get? b = some o := fun b hb => by
    obtain ⟨_, o, ho, _⟩ := cx.below.frames.mem hb
    exact ⟨o, ho⟩
  have out : ∀ b o, g.get? b = some o → b ≠ F.L → F.h₀.get? b = none → g'.get? b = some o := fun b o hb h1 h2 => T.other b o hb fun q => by
    rcases mem_frames cx.frame q with z | z
    · exact h1 z
    · obtain ⟨o', ho'⟩ := inFr b z
      rw [h2] at ho'; cases ho'
  obtain ⟨T₁, S₁⟩ := kts_turn_at (h := h') (fs := outer.filterMap (·.frame)) (g := F.h₀) inFr
    (fun b o hb nm => up b o (T.other b o (e.stay b o hb) fun q => by
      rcases mem_frames cx.frame q with z | z
      · rw [z, nL₀] at hb; cases hb
      · exact nm z))
    (fun b o hb hm => by
      obtain ⟨sl, hs⟩ := T.up (e.stay b o hb)
      exact ⟨sl, up _ _ hs⟩)
  have none' : ∀ a o, H' a = some o → F.h₀.get? a = none := fun a o ha => by
    obtain ⟨_, _, _, q⟩ := hk a o ha
    cases z : F.h₀.get? a with
    | none => rfl
    | some o' =>
      obtain ⟨sl, hs⟩ := T.up (e.stay a o' z)
      rw [hs] at q; cases q
  have Hn : ∀ b o, g'.get? b = some o → H' b = none := fun b o hb => by
    cases z : H' b with
    | none => rfl
    | some o' =>
      obtain ⟨_, _, _, q⟩ := hk b o' z
      rw [hb] at q; cases q
  have nsL : h'.Ns F.L mc := by
    obtain ⟨sl, hs⟩ := T.up hL
    exact ⟨_, es, ep, up _ _ hs, hLd, hLr⟩
  refine ⟨_, T₁, ⟨cx.below.stack, fun b o q => T₁.other b o (cx.below.stays b o q) (fun hm => by
      rw [(cx.below.frames.mem hm).1] at q; cases q), cx.below.frames.of_keeps fun b o q _ => by
      obtain ⟨sl, hs⟩ := T₁.up q
      exact ⟨_, hs, rfl⟩⟩, cx.dicts.turn T₁, ⟨mc, ⟨nsL, S₁, Nat.le_trans (Nat.le_of_eq T₁.size) e.fr.above⟩, e.x1, e.x2⟩, fun hne => ?_, fun x ca hx => ?_, fun a o ha => ?_, fun p hp => ?_⟩
  · obtain ⟨m2, ⟨oc, es2, ep2, hoc, r⟩, y1, y2, y3⟩ := st.own hne
    have h1 := out _ _ (e.gk _ _ hoc y3) hne y2
    exact ⟨m2, ⟨oc, es2, ep2, up _ _ h1, r⟩, y1, T₁.none_ _ y2, Hn _ _ h1⟩
  · obtain ⟨oc, v, y1, y2, y3, y4, y5, y6, y7⟩ := st.ce x ca hx
    have h1 := out _ _ (e.gk _ _ y1 y7) y4 y6
    exact ⟨oc, v, up _ _ h1, y2, y3, y4, y5, T₁.none_ _ y6, Hn _ _ h1⟩
  · obtain ⟨ob, e1, e2, e3⟩ := hk a o ha
    refine ⟨ob, e1, e2, fun q => ?_, T₁.none_ _ (none' a o ha)⟩
    obtain ⟨sl, hs⟩ := T.up hL
    have e4 : g'.get? F.L = none := by rw [q] at e3; exact e3
    rw [hs] at e4; cases e4
  · obtain ⟨y1, y2, y3, r⟩ := st.pr p hp
    have h1 := out _ _ (e.gk _ _ y1 y3) y2 (hP p hp)
    exact ⟨up _ _ h1, y2, Hn _ _ h1, r⟩
theorem St.unturn {h : Heap} (T : KtsTurn [] F.h₀ h) (st : St (F.turn h) m H s) : St F m H s := by
  have same : ∀ b, h.get? b = none → F.h₀.get? b = none := fun b hb => by
    cases z : F.h₀.get? b with
    | none => rfl
    | some o =>
      have := T.other b o z (fun q => nomatch q)
      rw [hb] at this; cases this
  obtain ⟨mc, fr, x1, x2⟩ := st.fr
  refine ⟨⟨mc, ⟨fr.ns, fun b o hb => fr.keep b o (T.other b o hb fun q => nomatch q), by rw [← T.size]; exact fr.above⟩, x1, x2⟩, fun hne => ?_, fun x ca hx => ?_, fun a o ha => ?_, st.pr⟩
  · obtain ⟨m2, y1, y2, y3, y4⟩ := st.own hne
    exact ⟨m2, y1, y2, same _ y3, y4⟩
  · obtain ⟨oc, v, y1, y2, y3, y4, y5, y6, y7⟩ := st.ce x ca hx
    exact ⟨oc, v, y1, y2, y3, y4, y5, same _ y6, y7⟩
  · obtain ⟨ob, e1, e2, e3, e4⟩ := st.he a o ha
    exact ⟨ob, e1, e2, e3, same _ e4⟩
end
end Mine
end
section
open PySem PySem.W PySem.Calls PySem.Spec PyProof.Rows
set_option maxRecDepth 100000
set_option linter.unusedVariables false
namespace Mine
/-! ## what leaves the context of an exception object alone -/
noncomputable def C2 (e : Addr) (h : Heap) : Prop := ∃ oe vs, h.get? e = some oe ∧ oe.data = .fields vs ∧ vs[2]? = some .none
noncomputable def KeepsC (f : Obj → Obj) : Prop := ∀ o vs, o.data = .fields vs → vs[2]? = some .none → ∃ vs', (f o).data = .fields vs' ∧ vs'[2]? = some .none
noncomputable def Good {α : Type} (e : Addr) : Sem α → Prop
  | .pure _ => True
  | .raise _ => True
  | .unsupported _ => True
  | .finish _ => True
  | .rule _ k => Good e (k ())
  | .at _ k => Good e (k ())
  | .load _ _ k => ∀ o, Good e (k o)
  | .update a _ f k => (a = e → KeepsC f) ∧ Good e (k ())
  | .alloc _ k => ∀ a, Good e (k a)
  | .loadIfAlive _ k => ∀ o, Good e (k o)
  | .point _ k => Good e (k ())
  | .fresh k => ∀ t, Good e (k t)
  | .ask k => ∀ t, Good e (k t)
  | .handled _ k => ∀ t, Good e (k t)
  | .stack k => ∀ t, Good e (k t)
  | .thread k => ∀ t, Good e (k t)
  | _ => False
theorem good_wp {α : Type} {e : Addr} {M : Model} {Γ : PySem.Ctx} : ∀ {t : Sem α} {Q : α → Pos → Shared → Prop} {E : Value → Pos → Shared → Prop} {p : Pos} {s : Shared}, Good e t → C2 e s.heap → Sem.wp M Γ t Q E p s →
    Sem.wp M Γ t (fun a p s' => Q a p s' ∧ C2 e s'.heap) (fun v p s' => E v p s' ∧ C2 e s'.heap) p s := by
  intro t
  induction t with
  | pure a => intro Q E p s g c h; rw [Sem.wp] at h ⊢; exact ⟨h, c⟩
  | raise a => intro Q E p s g c h; rw [Sem.wp] at h ⊢; exact ⟨h, c⟩
  | unsupported a => intro Q E p s g c h; rw [Sem.wp] at h; exact h.elim
  | finish a => intro Q E p s g c h; rw [Sem.wp] at h; exact h.elim
  | rule t k ih => intro Q E p s g c h; rw [Sem.wp] at h ⊢; exact ih () g c h
  | «at» t k ih => intro Q E p s g c h; rw [Sem.wp] at h ⊢; exact ih () g c h
  | load a pt k ih => intro Q E p s g c h; rw [Sem.wp] at h ⊢; obtain ⟨o, ho, h⟩ := h; exact ⟨o, ho, ih o (g o) c h⟩
  | update a pt f k ih =>
    intro Q E p s g c h
    rw [Sem.wp] at h ⊢
    obtain ⟨ho, h⟩ := h
    refine ⟨ho, ih () g.2 ?_ h⟩
    obtain ⟨oe, vs, h1, h2, h3⟩ := c
    by_cases q : a = e
    · subst q
      obtain ⟨vs', e1, e2⟩ := g.1 rfl oe vs h2 h3
      exact ⟨f oe, vs', Heap.get?_update_self _ h1 (Obj.isFreed_of_fields e1), e1, e2⟩
    · exact ⟨oe, vs, (Heap.get?_update_other _ _ q).trans h1, h2, h3⟩
  | alloc o k ih =>
    intro Q E p s g c h
    rw [Sem.wp] at h ⊢
    refine ih _ (g _) ?_ h
    obtain ⟨oe, vs, h1, h2, h3⟩ := c
    exact ⟨oe, vs, Heap.get?_push_of_some _ h1, h2, h3⟩
  | loadIfAlive a k ih => intro Q E p s g c h; rw [Sem.wp] at h ⊢; exact ih _ (g _) c h
  | point l k ih => intro Q E p s g c h; rw [Sem.wp] at h ⊢; exact ih () g c h
  | fresh k ih => intro Q E p s g c h; rw [Sem.wp] at h ⊢; exact ih _ (g _) c h
  | ask k ih => intro Q E p s g c h; rw [Sem.wp] at h ⊢; exact ih _ (g _) c h
  | handled o k ih => intro Q E p s g c h; rw [Sem.wp] at h ⊢; exact ih _ (g _) c h
  | stack k ih => intro Q E p s g c h; rw [Sem.wp] at h ⊢; exact ih _ (g _) c h
  | thread k ih => intro Q E p s g c h; rw [Sem.wp] at h ⊢; exact ih _ (g _) c h
  | register => intro Q E p s g c h; exact g.elim
  | choose => intro Q E p s g c h; exact g.elim
  | os => intro Q E p s g c h; exact g.elim
  | call => intro Q E p s g c h; exact g.elim
  | newGen => intro Q E p s g c h; exact g.elim
  | genState => intro Q E p s g c h; exact g.elim
  | resume => intro Q E p s g c h; exact g.elim
  | yield => intro Q E p s g c h; exact g.elim
  | fork => intro Q E p s g c h; exact g.elim
  | await => intro Q E p s g c h; exact g.elim
theorem good_any {α : Type} {e : Addr} {M : Model} {A : Around} {t : Sem α} {Q : α → Shared → Prop} {E : Value → Shared → Prop} {s : Shared} (g : Good e t) (c : C2 e s.heap) (h : wpAny M A t Q E s) :
    wpAny M A t (fun a s' => Q a s' ∧ C2 e s'.heap) (fun v s' => E v s' ∧ C2 e s'.heap) s := fun Γ p hΓ => good_wp g c (h Γ p hΓ)
theorem good_bind {α β : Type} {e : Addr} {f : α → Sem β} (hf : ∀ a, Good e (f a)) : ∀ {t : Sem α}, Good e t → Good e (t >>= f) := by
  intro t
  show Good e t → Good e (t.bind f)
  induction t with
  | pure a => intro g; exact hf a
  | raise a => intro g; trivial
  | unsupported a => intro g; trivial
  | finish a => intro g; trivial
  | rule t k ih => intro g; exact ih () g
  | «at» t k ih => intro g; exact ih () g
  | load a pt k ih => intro g o; exact ih o (g o)
  | update a pt f k ih => intro g; exact ⟨g.1, ih () g.2⟩
  | alloc o k ih => intro g a; exact ih a (g a)
  | loadIfAlive a k ih => intro g a; exact ih a (g a)
  | point l k ih => intro g; exact ih () g
  | fresh k ih => intro g a; exact ih a (g a)
  | ask k ih => intro g a; exact ih a (g a)
  | handled o k ih => intro g a; exact ih a (g a)
  | stack k ih => intro g a; exact ih a (g a)
  | thread k ih => intro g a; exact ih a (g a)
  | register => intro g; exact g.elim
  | choose => intro g; exact g.elim
  | os => intro g; exact g.elim
  | call => intro g; exact g.elim
  | newGen => intro g; exact g.elim
  | genState => intro g; exact g.elim
  | resume => intro g; exact g.elim
  | yield => intro g; exact g.elim
  | fork => intro g; exact g.elim
  | await => intro g; exact g.elim
theorem good_pure {α : Type} {e : Addr} {a : α} : Good e (pure a : Sem α) := trivial
theorem good_load {e a : Addr} : Good e (load a) := fun o => trivial
theorem good_fieldsOf {e : Addr} {v : Value} : Good e (fieldsOf v) := by
  unfold fieldsOf
  repeat' first | exact good_pure | trivial | (refine good_bind (fun _ => ?_) ?_) | split | exact good_load
theorem good_field {e : Addr} {v : Value} {i : Nat} : Good e (field v i) := by
  unfold field
  refine good_bind (fun o => ?_) good_fieldsOf
  split <;> trivial
theorem keepsC_set {i : Nat} {v : Value} (hi : i ≠ 2) : KeepsC (Obj.mapFields (·.setIfInBounds i v)) := fun o vs h1 h2 =>
  ⟨_, Obj.data_mapFields h1 _, by rw [Array.getElem?_setIfInBounds_ne hi]; exact h2⟩
theorem good_setField {e : Addr} {v x : Value} {i : Nat} (hi : i ≠ 2) : Good e (setField v i x) := by
  unfold setField
  split
  · unfold updateField
    refine good_bind (fun o => ?_) good_load
    split
    · split
      · exact ⟨fun _ => keepsC_set hi, trivial⟩
      · trivial
    · trivial
  · trivial
theorem keepsC_slots {g : Obj → Array (Option Value)} : KeepsC (fun o => { o with slots := g o }) := fun o vs h1 h2 => ⟨vs, h1, h2⟩
theorem good_setFlight {e : Addr} {v : Value} {fr : Option Addr} : Good e (setFlight v fr) := by
  unfold setFlight
  refine good_bind (fun o => ?_) good_field
  split
  · exact good_setField (by decide)
  · trivial
theorem good_stack {e : Addr} : Good e stack := fun _ => trivial
theorem good_behind {e : Addr} {env : Env} {outer : List Env} : Good e (behindIsImport env outer) := by
  unfold behindIsImport
  repeat' first | exact good_pure | trivial | exact good_field | (refine good_bind (fun _ => ?_) ?_) | split
theorem good_kept {e : Addr} {env : Env} {b : Bool} {outer : List Env} : Good e (keptBack env b outer) := by
  unfold keptBack underTheClaimsCaller
  repeat' first | exact good_pure | trivial | exact good_stack | (refine good_bind (fun _ => ?_) ?_) | split
theorem good_ready {e : Addr} : ∀ {l : List Env}, Good e (readyFrames l)
  | [] => trivial
  | env :: outer => by
    unfold readyFrames
    have ih := good_ready (e := e) (l := outer)
    repeat' first | exact good_pure | trivial | exact ih | exact good_load | exact good_behind | exact good_kept | exact ⟨fun _ => keepsC_slots, trivial⟩ | (refine good_bind (fun _ => ?_) ?_) | split
theorem good_frameOf {e : Addr} {env : Env} : Good e (PySem.frameOf env) := by
  unfold PySem.frameOf frameEnvs
  have fo : ∀ l : List Env, Good e (frameObject l) := fun l => by
    cases l with
    | nil => trivial
    | cons a r =>
      unfold frameObject
      exact good_bind (fun _ => good_pure) good_ready
  repeat' first | exact good_pure | trivial | exact good_stack | exact fo _ | (refine good_bind (fun _ => ?_) ?_) | split
theorem good_entryPlace {e : Addr} {f : Addr} {b : Bool} : Good e (entryPlaceOf f b) := by
  unfold entryPlaceOf
  refine good_bind (fun _ => ?_) good_stack
  split <;> exact good_pure
theorem good_newEntry {e : Addr} {a b c d f : Value} {pl : List Value} : Good e (EntryCells.newEntry a b c d f pl) := by
  unfold EntryCells.newEntry newFields newObj
  dsimp only
  repeat' first | exact good_pure | trivial | (intro _; trivial) | (refine good_bind (fun _ => ?_) ?_) | split
theorem good_noteFrame {e : Addr} {v : Value} {env : Env} : Good e (noteFrame v env) := by
  unfold noteFrame
  repeat' first | exact good_pure | trivial | exact good_field | exact good_setField (by decide) | exact good_frameOf | exact good_entryPlace | exact good_newEntry | (refine good_bind (fun _ => ?_) ?_) | split
theorem good_leaving {e : Addr} {v : Value} {env : Env} : Good e (leaving env v) := good_bind (fun _ => good_setFlight) good_noteFrame
end Mine
end
section
open PySem PySem.W PySem.Calls PySem.Spec PyProof.Rows
set_option maxRecDepth 100000
set_option linter.unusedVariables false
namespace Mine
/-- an exception of class OutOfRange that comes out into the frame F -/
noncomputable def Rsd (F : Fx) (base : Heap) (outer : List Env) (fenv : Env) (m : MM) (H : HH) (e : Addr) (s' : Shared) : Prop :=
  ∃ G mc t ws news, Fr F.h₀ F.L G mc ∧ (F.env.locals = F.L → ∀ x, F.env.scope.names.lookup x = some .local → (mc x).map er = m x) ∧ RaisedS base G (fenv :: outer) e (.ref 37) t ws news s'.heap ∧ G.UpToSlots s'.heap ∧ Known H news ∧ ∀ x ca, F.env.cells.lookup x = some ca → ∃ ob u, G.get? ca = some ob ∧ ob.data = .cell u ∧ u.map er = m x
noncomputable def RSpec := List V → HH → (HH → Prop) → Prop
noncomputable def ConR (S : Sy) (n : Nat) (fa : Addr) (spec : RSpec) : Prop :=
  ∀ F A₀ base outer fenv, Fok S n F → Cx S F A₀ base outer fenv → ∀ m H vs k R s, St F m H s → spec (vs.map er) H k →
    (∀ e H' s', k H' → Rsd F base outer fenv m H' e s' → C2 e s'.heap → Same s s' → R (.error (.ref e)) s') → codeAny S.M F.A (.call (.ref fa) ⟨vs, []⟩) R s
/-- a tree that makes an exception in its own frame -/
noncomputable def EvM (S : Sy) (F : Fx) {α : Type} (t : Sem α) (c : PT Unit) : Prop :=
  ∀ m H k s Q E, St F m H s → c m H k → (∀ e ws m' H' s' h', St F m' H' s' → Same s s' → Heap.MadeExcOf s'.heap h' e (.ref 37) ws → k () m' H' → E (.ref e) { s' with heap := h' }) → wpAny S.M F.A t Q E s
section
variable {S : Sy} {A : Around} {h₀ : Heap} {L : Addr} {mL : Str → Option Value} {P : List (Addr × Obj)} {n : Nat} {qual : Str} {scope : Scope} {fa : Addr} {cdv : Value}
theorem evm_raise {x : Str} {np cpos pos kpos : Pos} {msg : Str} {kk : Nat} (hF : Fok S n ⟨A, envOf qual scope L fa cdv, h₀, L, mL, P⟩) (hh : A.handled = none) (ho : nsIn S.K mainGlobals x = some (some (.ref 37)))
    (hx : excIn S.K 37 [.type "Exception", .type "BaseException", .type "object"] "Exception.__new__" = true) (hk : scope.kind = .function := by rfl) (hxk : (envOf qual scope L fa cdv).kindOf x = some .globalImplicit := by rfl) (hd : (x == ("__debug__" : Str)) = false := by decide) :
    EvM S ⟨A, envOf qual scope L fa cdv, h₀, L, mL, P⟩ (exec (.Raise (some (.Call (.Name x np) [.Constant (.str msg) kk kpos] [] cpos)) none pos) (envOf qual scope L fa cdv)) (PT.pure ()) := by
  intro m H k s Q E st hk' hE
  obtain ⟨mc, fr, _⟩ := st.fr
  refine Raise_own fr (topRead_of hF.top).g (own_of_in hF.kin (topRead_of hF.top) ho hx) PySem.F.excBase_Exception hh ?_ rfl rfl hk hxk hd
  refine PyProof.Rows.spliced_more (e := .Constant (.str msg) kk kpos) (rest := []) ?_ rfl
  rw [eval_Constant]
  refine wpAny_mkText (spliced_none ⟨by rw [sizeLine_eq]; simp, fr.keep, fun h' e hm => ?_⟩)
  exact hE e _ m H _ h' st.tok1 .tok1 hm hk'
end
section
variable {S : Sy} {F : Fx} {n : Nat} {pos : Pos}
theorem evm_if {test : Expr} {body orelse : List Stmt} {ct : PT Bool} {cb : PT Unit} (ht : Ev S F (isTrue test F.env (eval test F.env)) id ct) (hb : EvM S F (execs body F.env) cb) :
    EvM S F (exec (.If test body orelse pos) F.env) (fun m H k => ct m H fun b m1 H1 => b = true ∧ cb m1 H1 k) := fun m H k s Q E st h hE =>
  wpAny_If (ht.use st h fun b m1 H1 s1 st1 sm1 ⟨hb1, h1⟩ => by
    cases b with
    | true => exact hb m1 H1 k s1 Q E st1 h1 fun e ws m' H' s' h' st' sm' hm hk => hE e ws m' H' s' h' st' (sm1.trans sm') hm hk
    | false => cases hb1)
theorem evm_head {st₁ : Stmt} {rest : List Stmt} {c : PT Unit} (h1 : EvM S F (exec st₁ F.env) c) : EvM S F (execs (st₁ :: rest) F.env) c := fun m H k s Q E st h hE =>
  wpAny_execs_cons (h1 m H k s _ E st h hE)
end
section
variable {S : Sy} {F : Fx} {n : Nat}
theorem same_heap {s s' : Shared} (h : Same s s') (g : Heap) : Same s { s' with heap := g } := by
  obtain ⟨h1, t1, rfl⟩ := h
  exact ⟨g, t1, rfl⟩
theorem Known.mono {H H' : HH} {l l' : List (Addr × Obj)} (k : Known H l) (hd : Drop H' H) (hs : ∀ p ∈ l, p ∈ l') : Known H' l' := fun a o h => by
  obtain ⟨ob, h1, h2⟩ := k a o (hd a o h)
  exact ⟨ob, hs _ h1, h2⟩
theorem conR_of_body {fa : Addr} {spec : RSpec} {c : PT Unit} {qual : Str} {name : Str} {params : Arguments} {body : List Stmt} {scope : Scope} {dV kV doc pm cdv ct oc : Value} {an od : Option Addr} {osl : Array (Option Value)}
    (ho : S.K.lookup fa = some ⟨oc, od, .func (fnOf name qual params body scope dV kV doc pm an cdv ct), osl⟩) (hcd : codeIn S.K cdv qual = true)
    (hbody : ∀ A h₀ L mL P, A.handled = none → Fok S n ⟨A, envOf qual scope L fa cdv, h₀, L, mL, P⟩ → EvM S ⟨A, envOf qual scope L fa cdv, h₀, L, mL, P⟩ (execs body (envOf qual scope L fa cdv)) c)
    (hspec : ∀ vs H k, spec vs H k → vs.length = params.args.length ∧ c (bindM ((params.args.map (·.arg)).zip vs)) H (fun _ _ H' => k H'))
    (hbind : ∀ vs : List Value, vs.length = params.args.length → bindArgs (fnOf name qual params body scope dV kV doc pm an cdv ct) ⟨vs, []⟩ = pure ((params.args.map (·.arg)).zip vs))
    (hloc : (params.args.all fun a => decide (scope.names.lookup a.arg = some .local)) = true)
    (hcell : ∀ x ∈ scope.names, x.2 ≠ .cell) (hco : scope.isCoroutine = false) (hgen : scope.isGenerator = false) (hk : scope.kind = .function) :
    ConR S (n + 1) fa spec := by
  intro F A₀ base outer fenv hF cx m H vs k R s st hs hR
  obtain ⟨hlen, hc⟩ := hspec _ _ _ hs
  rw [List.length_map] at hlen
  obtain ⟨mc, g, en⟩ := st.ent cx
  have hK := st.kin hF
  refine codeAny_call_def (fd := fnOf name qual params body scope dV kV doc pm an cdv ct) (body := body) (binds := (params.args.map (·.arg)).zip vs) (by have h1 := hF.room.1; show F.A.depth < 1000; lia) (hK _ _ ho) rfl ?_ (codeRec_of hK hcd) rfl
    (.of_eq (hbind vs hlen)) hcell (fun y hy => ?_) (fun h₁ hns hk₁ => ?_) hco hgen hk
  · obtain ⟨_, fr, _⟩ := st.fr
    exact (Top.nolimit hF.top).keeps fr.keep
  · have hm : y.1 ∈ params.args.map (·.arg) := (List.of_mem_zip hy).1
    obtain ⟨a, ha, e⟩ := List.mem_map.mp hm
    have h1 := of_decide_eq_true (List.all_eq_true.mp hloc a ha)
    rw [← e]
    exact h1
  · have hF' : Fok S n (frameX F.A (envOf qual scope s.heap.objs.size fa cdv) g s.heap.objs.size) := by
      refine ⟨⟨F.A, base, fenv :: outer, envOf qual scope s.heap.objs.size fa cdv, en.below, Around.frames_deeper cx.frames, rfl, hk⟩, hF.kin.keeps en.stay, hF.top.keeps en.stay, .inl cx.hand, ?_, hk, rfl, rfl, (fun x y ca hx => nomatch hx), fun x ca hx => nomatch hx⟩
      have h1 := hF.room
      exact ⟨by have := h1.1; show F.A.depth + 1 + 4 * n ≤ 900; lia, by have := h1.2; show F.A.units + 3 + 40 * n ≤ 9000; lia⟩
    have st' : St (frameX F.A (envOf qual scope s.heap.objs.size fa cdv) g s.heap.objs.size) (bindM ((params.args.map (·.arg)).zip (vs.map er))) H { s with heap := h₁, toks := s.toks + ((params.args.map (·.arg)).zip vs).length } := by
      refine ⟨⟨_, ⟨hns, fun b o e => hk₁ b o (en.gh b o e), Nat.le_of_eq en.size⟩, fun _ x _ => ?_, fun hne => absurd rfl hne⟩, fun hne => absurd rfl hne, fun x ca hx => (nomatch hx), fun a o ha => ?_, fun p hp => (nomatch hp)⟩
      · show (List.lookup x _).map er = List.lookup x _
        rw [lookup_er, List.map_reverse]
        congr 2
        rw [List.zip_map_right]
        rfl
      · obtain ⟨ob, e1, e2, e3, e4⟩ := st.he a o ha
        exact ⟨ob, hk₁ a ob e1, e2, Nat.ne_of_lt (Heap.lt_size e1), en.gn a o ha⟩
    refine hbody (F.A.deeper (envOf qual scope s.heap.objs.size fa cdv)) g s.heap.objs.size (fun _ => none) [] cx.hand hF' _ _ _ _ _ _ st' hc fun e ws m' H' s' h' st'' sm hm hk' => ?_
    obtain ⟨mc', fr', _⟩ := st''.fr
    have N : News g s.heap.objs.size s'.heap (knownOf H' (full g s.heap.objs.size s'.heap)) := fun p hp => full_news p (List.mem_filter.mp hp).1
    have c2 : C2 e h' := by
      obtain ⟨t, ht, _⟩ := hm.there
      exact ⟨_, _, ht, rfl, rfl⟩
    refine wpAny_mono (good_any good_leaving c2 (leave_raiseS (s' := { s' with heap := h' }) (news := knownOf H' (full g s.heap.objs.size s'.heap)) en.below hm fr' N (Q := fun _ s'' => Rsd F base outer fenv m H' e s'' ∧ Same s s'') (E := fun _ _ => False) (fun h'' t R1 _ up => ?_) hk)) (fun _ s'' q => hR e H' s'' hk' q.1.1 q.2 q.1.2) fun _ _ q => q.1.elim
    refine ⟨⟨g, mc, t, ws, _, en.fr, en.x1, R1, up, known_of st'', fun x ca hx => by
      obtain ⟨ob, v, e1, e2, e3, _, _, _, e7⟩ := st.ce x ca hx
      exact ⟨ob, v, en.gk _ _ e1 e7, e2, e3⟩⟩, ?_⟩
    obtain ⟨h2, t2, rfl⟩ := sm
    exact ⟨h'', t2, rfl⟩
end
end Mine
end
section
open PySem PySem.W PySem.Calls PySem.Spec PyProof.Rows
set_option maxRecDepth 100000
set_option linter.unusedVariables false
namespace Mine
noncomputable def EvR (S : Sy) (F : Fx) (base : Heap) (outer : List Env) (fenv : Env) {α : Type} (t : Sem α) (c : PT Unit) : Prop :=
  ∀ m H k s Q E, St F m H s → c m H k → (∀ e m' H' s', Rsd F base outer fenv m' H' e s' → C2 e s'.heap → k () m' H' → Same s s' → E (.ref e) s') → wpAny S.M F.A t Q E s
section
variable {S : Sy} {F : Fx} {n : Nat}
noncomputable def specMakeR (C : Addr) (sp : RSpec) : RSpec := fun vs H k => ∀ x dx, H x = none → H dx = none → x ≠ dx → sp (.ref x :: vs) ((H.set dx (.dict [])).set x (.inst C dx)) k
theorem conR_class {C fI : Addr} {sp : RSpec} (hm : makesIn S.K C = true) (hi : findIn S.K (.ref C) "__init__" = some (some (.ref fI))) (hf : isFn S.K (.ref fI) = true) (hc : ConR S n fI sp) : ConR S (n + 1) C (specMakeR C sp) := by
  intro F A₀ base outer fenv hF cx m H vs k R s st h hR
  obtain ⟨mc, fr, nx⟩ := st.frame
  refine make_K fr full_news (st.kin hF) hm hi (beq_iff_eq.mp hf) fun x dx h' F' N' l1 l2 => ?_
  have nd := N' (dx, emptyDict) (.tail _ (.head _))
  have nx' := N' (x, instObj C dx) (.head _)
  have st1 : St F m H { s with heap := h' } := nx h' s.toks F' fun p hp => N' p (.tail _ (.tail _ hp))
  have hdn := none_of_lt fr l1 nd.2.1 nd.2.2
  have hxn : s.heap.get? x = none := none_of_lt fr (fun p hp => Nat.lt_trans (l1 p hp) l2) nx'.2.1 nx'.2.2
  obtain ⟨d1, d2, d3, d4⟩ := st.fresh hdn
  obtain ⟨x1, x2, x3, x4⟩ := st.fresh hxn
  have hne : x ≠ dx := Nat.ne_of_gt l2
  have st2 := st1.know (o := .dict []) nd.1 ⟨[], 0, rfl, trivial⟩ nd.2.1 nd.2.2 d2 d3 d4
  have st3 := st2.know (o := .inst C dx) nx'.1 rfl nx'.2.1 nx'.2.2 x2 x3 x4
  have hF' : Fok S n ⟨F.A.under (.builtin "type.__call__" ⟨.ref C :: vs, []⟩), F.env, F.h₀, F.L, F.mL, F.P⟩ := by
    refine ⟨hF.frames, hF.kin, hF.top, hF.hand, ⟨?_, ?_⟩, hF.kind, hF.glob, hF.bi, hF.cinj, hF.ckind⟩
    · have := hF.room.1
      show F.A.depth + 1 + 4 * n ≤ 900
      lia
    · have := hF.room.2
      show F.A.units + 1 + 40 * n ≤ 9000
      lia
  have cx' : Cx S ⟨F.A.under (.builtin "type.__call__" ⟨.ref C :: vs, []⟩), F.env, F.h₀, F.L, F.mL, F.P⟩ A₀ base outer fenv := ⟨cx.below, cx.frames, cx.frame, cx.kind, cx.kb, cx.tb, cx.hand, cx.dicts⟩
  have st4 : St ⟨F.A.under (.builtin "type.__call__" ⟨.ref C :: vs, []⟩), F.env, F.h₀, F.L, F.mL, F.P⟩ m ((H.set dx (.dict [])).set x (.inst C dx)) { s with heap := h' } := ⟨st3.fr, st3.own, st3.ce, st3.he, st3.pr⟩
  refine hc _ _ _ _ _ hF' cx' m _ (.ref x :: vs) _ _ _ st4 (h x dx x1 d1 hne) fun e H' s' hk rs c2 sm => ?_
  exact hR e H' s' hk rs c2 (Same.trans .of sm)
variable {A₀ : Around} {base : Heap} {outer : List Env} {fenv : Env}
theorem Cx.mono' (cx : Cx S F A₀ base outer fenv) (hF : Fok S n F) {k : Nat} (hk : k ≤ n) : Fok S k F := hF.mono hk
theorem evr_callDef {k : Nat} {fa : Addr} {sp : RSpec} {x : Str} {xp pos : Pos} {a : Expr} {rest : List Expr} {cs : PT (List V)} (hF : Fok S n F) (cx : Cx S F A₀ base outer fenv) (hk : F.env.scope.names.lookup x = some .globalImplicit) (hg : nsIn S.K mainGlobals x = some (some (.ref fa))) (hkp : keepIn S.K (.ref fa) = true)
    (hc : ConR S k fa sp) (hkn : k ≤ n) (hargs : EvL S F (a :: rest) pos cs) (hd : (x == ("__debug__" : Str)) = false := by decide)
    (he : starEach (a :: rest) F.env = (false, eval a F.env) :: starEach rest F.env := by rfl) (hplain : (backTo pos (starEach rest F.env)).any (·.1) = false := by rfl) :
    EvR S F base outer fenv (eval (.Call (.Name x xp) (a :: rest) [] pos) F.env) (cs.bind fun vs m H k => sp vs H fun H' => k () m H') := fun m H k' s Q E st h hE =>
  Call_ ((ev_global hF hk hg hd).use (P := fun v m1 H1 => v = er (.ref fa) ∧ m1 = m ∧ H1 = H) st ⟨rfl, rfl, rfl⟩ fun v m1 H1 s1 st1 sm1 ⟨e1, e2, e3⟩ => by
    subst e2 e3
    obtain rfl := er_ref e1
    exact callWith_K hF.kin hkp (hargs.use st1 h fun vs m2 H2 s2 st2 sm2 h2 => ⟨st2.kin hF, wpAny_call (hc F _ _ _ _ (hF.mono hkn) cx m2 H2 vs _ _ s2 st2 h2 fun e H' s' hk' rs c2 sm => hE e m2 H' s' rs c2 hk' ((sm1.trans sm2).trans sm))⟩) he hplain) (by rfl)
theorem evr_expr {e : Expr} {pos : Pos} {c : PT Unit} (he : EvR S F base outer fenv (eval e F.env) c) (hi : interactive F.env = false := by rfl) (hs : swapsWith e none pos.line F.env = pure false := by rfl) :
    EvR S F base outer fenv (exec (.Expr e pos) F.env) c := fun m H k s Q E st h hE => wpAny_Expr_any (he m H k s _ E st h hE) hi hs
theorem evr_head {st₁ : Stmt} {rest : List Stmt} {c : PT Unit} (h1 : EvR S F base outer fenv (exec st₁ F.env) c) : EvR S F base outer fenv (execs (st₁ :: rest) F.env) c := fun m H k s Q E st h hE =>
  wpAny_execs_cons (h1 m H k s _ E st h hE)
/-- an exception that passes a frame; objects of the passed frame's ground may be taken along -/
theorem leave_onX {M : Model} {A : Around} {E : Value → Shared → Prop} {s' : Shared} {g g₂ : Heap} {env : Env} {L e t : Addr} {m : Str → Option Value} {Q : Unit → Shared → Prop} {news ex : List (Addr × Obj)} {cls : Value} {vs : List Value}
    (K : Below A base outer g) (hf : env.frame = some L) (F : Fr g L g₂ m) (R : RaisedS base g₂ (env :: outer) e cls t vs news s'.heap) (hsm : g₂.UpToSlots s'.heap)
    (hex : ∀ q ∈ ex, g₂.get? q.1 = some q.2 ∧ g.get? q.1 = none ∧ q.1 ∉ (env :: outer).filterMap (·.frame))
    (hQ : ∀ h', RaisedS base g outer e cls t vs (ex ++ news) h' → g.UpToSlots h' → Q () { s' with heap := h' }) :
    wpAny M (A.deeper env) (leaving env (.ref e)) Q E s' := by
  obtain ⟨⟨B, hB, hBG, hl, hfl, hnew⟩, htup⟩ := R
  refine wpAny_leaves_onW (Around.frames_deeper K.stack) hf hfl fun h' x1 x2 => hQ h' ⟨⟨B, hB, fun b o q nm => hBG b o (F.keep b o q) (fun hm => ?_), fun q hq => ?_, x1, hnew⟩, htup.of_slots x2⟩ ((Heap.UpToSlots.of_keeps F.keep).trans (hsm.trans x2))
  · rcases mem_frames hf hm with z | z
    · rw [z, kts_self F] at q; cases q
    · exact nm z
  · rcases List.mem_append.mp hq with hq | hq
    · obtain ⟨y1, y2, y3⟩ := hex q hq
      exact ⟨hBG _ _ y1 y3, y2, fresh_of_stays K.stays y2⟩
    · exact ⟨(hl q hq).1, kts_none F.keep (hl q hq).2.1, (hl q hq).2.2⟩
end
end Mine
end
section
open PySem PySem.W PySem.Calls PySem.Spec PyProof.Rows
set_option maxRecDepth 100000
set_option linter.unusedVariables false
namespace Mine
noncomputable def hideH (H : HH) (as : List Addr) : HH := fun a => if a ∈ as then none else H a
theorem hideH_drop {H : HH} {as : List Addr} : Drop (hideH H as) H := fun a o h => by
  unfold hideH at h
  split at h
  · cases h
  · exact h
theorem hideH_get {H : HH} {as : List Addr} {a : Addr} (h : a ∉ as) : hideH H as a = H a := by unfold hideH; rw [if_neg h]
theorem hideH_none {H : HH} {as : List Addr} {a : Addr} (h : a ∈ as) : hideH H as a = none := by unfold hideH; rw [if_pos h]
section
variable {S : Sy} {F : Fx} {n : Nat} {A₀ : Around} {base : Heap} {outer : List Env} {fenv : Env} {m : MM} {H : HH} {s : Shared} {R : Result → Shared → Prop}
/-- a function without parameters, an expression its body, that raises -/
theorem lam_raise {name qual : Str} {params : Arguments} {body : Expr} {scope : Scope} {cl : List (Str × Addr)} {pm ctv : Value} {c' f : Addr} {M : MM} {c : PT Unit}
    (hF : Fok S (n + 1) F) (cx : Cx S F A₀ base outer fenv) (st : St F m H s) (hf : H f = some (.raw (kla_obj name qual params body scope cl pm c' ctv))) (hc' : ∃ oc vs t, H c' = some (.raw oc) ∧ oc.data = .fields vs ∧ vs[1]? = some (.str qual t))
    (hcl : ∀ x ca, cl.lookup x = some ca → ∃ v, H ca = some (.cell v) ∧ M x = some v) (hmem : ∀ p ∈ cl, cl.lookup p.1 = some p.2) (hinj : ∀ x y ca, cl.lookup x = some ca → cl.lookup y = some ca → x = y)
    (hck : ∀ x ca, cl.lookup x = some ca → scope.names.lookup x ≠ some .local) (hloc : ∀ x, scope.names.lookup x = some .local → M x = none) (hpar : bindArgs (kla_fn name qual params body scope cl pm (.ref c') ctv) ⟨[], []⟩ = pure [])
    (hbody : ∀ L' g, Fok S n ⟨F.A.deeper (envX qual scope L' f (.ref c') cl), envX qual scope L' f (.ref c') cl, g, L', fun _ => none, []⟩ → Cx S ⟨F.A.deeper (envX qual scope L' f (.ref c') cl), envX qual scope L' f (.ref c') cl, g, L', fun _ => none, []⟩ F.A base (fenv :: outer) (envX qual scope L' f (.ref c') cl) →
      EvR S ⟨F.A.deeper (envX qual scope L' f (.ref c') cl), envX qual scope L' f (.ref c') cl, g, L', fun _ => none, []⟩ base (fenv :: outer) (envX qual scope L' f (.ref c') cl) (eval body (envX qual scope L' f (.ref c') cl)) c)
    (hc : c M (hideH H (cl.map (·.2))) (fun _ m' H' => m' = M ∧ Drop (hideH H (cl.map (·.2))) H'))
    (hR : ∀ e s', Rsd F base outer fenv m H e s' → Same s s' → R (.error (.ref e)) s')
    (hco : scope.isCoroutine = false) (hgen : scope.isGenerator = false) (hk : scope.kind = .function) (hcell : ∀ x ∈ scope.names, x.2 ≠ .cell) : codeAny S.M F.A (.call (.ref f) ⟨[], []⟩) R s := by
  obtain ⟨mc, g, en⟩ := st.ent cx
  obtain ⟨ob, e1, e2, e3, e4⟩ := st.he f _ hf
  have e2' : ob = kla_obj name qual params body scope cl pm c' ctv := e2
  subst e2'
  obtain ⟨oc, vs, t, hc1, hc2, hc3⟩ := hc'
  obtain ⟨ob', g1, g2, g3, g4⟩ := st.he c' _ hc1
  have g2' : ob' = oc := g2
  subst g2'
  obtain ⟨mcF, frF, _⟩ := st.fr
  refine kla_callFunE (by have h1 := hF.room.1; show F.A.depth < 1000; lia) e1 rfl hco hgen rfl ⟨c', ob', vs, t, rfl, g1, hc2, hc3⟩ ?_
  show wpAny _ _ (bindArgs (kla_fn name qual params body scope cl pm (.ref c') ctv) ⟨[], []⟩) _ _ _
  rw [hpar]
  refine wpAny_pure (wpAny_newFunctionEnv hcell (fun y hy => nomatch hy) (fun h₁ hns hsb => ⟨((Top.nolimit hF.top).keeps frF.keep).fresh _ hsb, ?_⟩) hk)
  show codeAny _ _ (.expr body (envX qual scope s.heap.objs.size f (.ref c') cl)) _ _
  have hk₁ : ∀ b o, s.heap.get? b = some o → h₁.get? b = some o := fun b o e => hsb.extBut b o (Nat.ne_of_lt (Heap.lt_size e)) (Heap.get?_push_of_some _ e)
  have hF' : Fok S n ⟨F.A.deeper (envX qual scope s.heap.objs.size f (.ref c') cl), envX qual scope s.heap.objs.size f (.ref c') cl, g, s.heap.objs.size, fun _ => none, []⟩ := by
    refine ⟨⟨F.A, base, fenv :: outer, envX qual scope s.heap.objs.size f (.ref c') cl, en.below, Around.frames_deeper cx.frames, rfl, hk⟩, hF.kin.keeps en.stay, hF.top.keeps en.stay, .inl cx.hand, ?_, hk, rfl, rfl, hinj, hck⟩
    have h1 := hF.room
    exact ⟨by have := h1.1; show F.A.depth + 1 + 4 * n ≤ 900; lia, by have := h1.2; show F.A.units + 3 + 40 * n ≤ 9000; lia⟩
  have cx' : Cx S ⟨F.A.deeper (envX qual scope s.heap.objs.size f (.ref c') cl), envX qual scope s.heap.objs.size f (.ref c') cl, g, s.heap.objs.size, fun _ => none, []⟩ F.A base (fenv :: outer) (envX qual scope s.heap.objs.size f (.ref c') cl) :=
    ⟨en.below, Around.frames_deeper cx.frames, rfl, hk, cx.kb, cx.tb, cx.hand, en.dicts⟩
  have cellIn : ∀ x ca, cl.lookup x = some ca → ca ∈ cl.map (·.2) := fun x ca h => List.mem_map.mpr ⟨(x, ca), lookup_some_mem h, rfl⟩
  have st' : St ⟨F.A.deeper (envX qual scope s.heap.objs.size f (.ref c') cl), envX qual scope s.heap.objs.size f (.ref c') cl, g, s.heap.objs.size, fun _ => none, []⟩ M (hideH H (cl.map (·.2))) { s with heap := h₁, toks := s.toks + ([] : List (Str × Value)).length } := by
    refine ⟨⟨_, ⟨hns, fun b o e => hk₁ b o (en.gh b o e), Nat.le_of_eq en.size⟩, fun _ x hx => ?_, fun hne => absurd rfl hne⟩, fun hne => absurd rfl hne, fun x ca hx => ?_, fun a o ha => ?_, fun p hp => (nomatch hp)⟩
    · rw [hloc x hx]; rfl
    · obtain ⟨v, h1, h2⟩ := hcl x ca hx
      obtain ⟨oc, y1, ⟨u, y2, y3⟩, y4, y5⟩ := st.he ca _ h1
      exact ⟨oc, some u, hk₁ _ _ y1, y2, by rw [h2, ← y3]; rfl, Nat.ne_of_lt (Heap.lt_size y1), Nat.ne_of_lt (Heap.lt_size y1), en.gn _ _ h1, hideH_none (cellIn x ca hx)⟩
    · have ha' := hideH_drop _ _ ha
      obtain ⟨ob, e1, e2, e3, e4⟩ := st.he a o ha'
      exact ⟨ob, hk₁ a ob e1, e2, Nat.ne_of_lt (Heap.lt_size e1), en.gn a o ha'⟩
  refine kla_codeExpr (hbody _ _ hF' cx' M _ _ _ _ _ st' hc fun e m' H' s' rs c2 ⟨hm, hd⟩ sm => ?_)
  subst hm
  obtain ⟨G, mc3, t3, ws, news, fr3, _, R3, up3, kn3, cells3⟩ := rs
  refine leave_onX (ex := cl.filterMap fun p => (G.get? p.2).map fun o => (p.2, o)) en.below rfl fr3 R3 up3 (fun q hq => ?_) fun h' R4 up4 => ?_
  · obtain ⟨p, hp, e⟩ := List.mem_filterMap.mp hq
    obtain ⟨v, h1, h2⟩ := hcl p.1 p.2 (hmem p hp)
    obtain ⟨oc, y1, y2, y3, y4⟩ := st.he p.2 _ h1
    cases z : G.get? p.2 with
    | none => rw [z] at e; cases e
    | some og =>
      rw [z] at e
      cases e
      refine ⟨z, en.gn _ _ h1, fun hm => ?_⟩
      rcases mem_frames (L := s.heap.objs.size) rfl hm with h | h
      · exact Nat.ne_of_lt (Heap.lt_size y1) h
      · rcases mem_frames cx.frame h with h | h
        · exact y3 h
        · obtain ⟨_, o', ho', _⟩ := cx.below.frames.mem h
          rw [y4] at ho'; cases ho'
  · refine hR e _ ⟨g, mc, t3, ws, _, en.fr, en.x1, R4, up4, fun a o ha => ?_, fun x ca hx => ?_⟩ ?_
    · by_cases hin : a ∈ cl.map (·.2)
      · obtain ⟨p, hp, rfl⟩ := List.mem_map.mp hin
        obtain ⟨v, h1, h2⟩ := hcl p.1 p.2 (hmem p hp)
        rw [ha] at h1
        cases h1
        obtain ⟨og, u, z1, z2, z3⟩ := cells3 p.1 p.2 (hmem p hp)
        rw [h2] at z3
        cases u with
        | none => cases z3
        | some u =>
          cases z3
          exact ⟨og, List.mem_append_left _ (List.mem_filterMap.mpr ⟨p, hp, by rw [z1]; rfl⟩), u, z2, rfl⟩
      · obtain ⟨og, z1, z2⟩ := kn3 a o (hd a o (by rw [hideH_get hin]; exact ha))
        exact ⟨og, List.mem_append_right _ z1, z2⟩
    · obtain ⟨oc, v, y1, y2, y3, _, _, _, y7⟩ := st.ce x ca hx
      exact ⟨oc, v, en.gk _ _ y1 y7, y2, y3⟩
    · obtain ⟨h2, t2, rfl⟩ := sm
      exact ⟨h', t2, rfl⟩
/-- a call of f with no arguments raises OutOfRange, whatever the frame -/
noncomputable def Refuses (S : Sy) (n : Nat) (H : HH) (f : Addr) : Prop := (∃ o fd, H f = some (.raw o) ∧ o.data = .func fd) ∧
  ∀ F A₀ base outer fenv, Fok S n F → Cx S F A₀ base outer fenv → ∀ m s R, St F m H s → (∀ e s', Rsd F base outer fenv m H e s' → Same s s' → R (.error (.ref e)) s') → codeAny S.M F.A (.call (.ref f) ⟨[], []⟩) R s
theorem con_refused_of {fa : Addr} {qual : Str} {name : Str} {params : Arguments} {scope : Scope} {dV kV doc pm cdv ct oc : Value} {an od : Option Addr} {osl : Array (Option Value)} {x y : Str} {wp cp ep np p1 p2 hp tp : Pos} {k1 : Nat} {lst : Stmt}
    (ho : S.K.lookup fa = some ⟨oc, od, .func (fnOf name qual params [.Try [.Expr (.Call (.Name x wp) [] [] cp) ep] [.ExceptHandler (some (.Name y np)) none [.Return (some (.Constant (.bool true) k1 p1)) p2] hp] [] [] tp, lst] scope dV kV doc pm an cdv ct), osl⟩) (hcd : codeIn S.K cdv qual = true)
    (hp1 : params.args.map (·.arg) = [x]) (hbind : ∀ v : Value, bindArgs (fnOf name qual params [.Try [.Expr (.Call (.Name x wp) [] [] cp) ep] [.ExceptHandler (some (.Name y np)) none [.Return (some (.Constant (.bool true) k1 p1)) p2] hp] [] [] tp, lst] scope dV kV doc pm an cdv ct) ⟨[v], []⟩ = pure [(x, v)])
    (hx : scope.names.lookup x = some .local) (hy : ∀ L, (envOf qual scope L fa cdv).kindOf y = some .globalImplicit) (hcell : ∀ x ∈ scope.names, x.2 ≠ .cell) (hco : scope.isCoroutine = false) (hgen : scope.isGenerator = false) (hk : scope.kind = .function)
    (ex : nsIn S.K mainGlobals y = some (some (.ref 37))) (q : ktsIn S.K 37 "BaseException" = true) (hd : (x == ("__debug__" : Str)) = false) (hdy : (y == ("__debug__" : Str)) = false)
    (hi : ∀ L, interactive (envOf qual scope L fa cdv) = false) (hs : ∀ L, swapsWith (.Call (.Name x wp) [] [] cp) none ep.line (envOf qual scope L fa cdv) = pure false)
    (hF : Fok S (n + 1) F) (cx : Cx S F A₀ base outer fenv) (hP : ∀ p ∈ F.P, F.h₀.get? p.1 = none) (st : St F m H s) {f : Addr} (rf : Refuses S n H f)
    (hR : ∀ h₀' s', KtsTurn (outer.filterMap (·.frame)) F.h₀ h₀' → Below A₀ base outer h₀' → KtsDicts (outer.filterMap (·.frame)) h₀' → St (F.turn h₀') m H s' → Same s s' → R (.ok (.ret (.bool true))) s') : codeAny S.M F.A (.call (.ref fa) ⟨[.ref f], []⟩) R s := by
  obtain ⟨mc, g, en⟩ := st.ent cx
  have hK := st.kin hF
  obtain ⟨⟨fo, fd, hfo, hfd⟩, rf⟩ := rf
  refine codeAny_call_def (binds := [(x, .ref f)]) (by have h1 := hF.room.1; show F.A.depth < 1000; lia) (hK _ _ ho) rfl ?_ (codeRec_of hK hcd) rfl
    (.of_eq (hbind _)) hcell (fun y hy => ?_) (fun h₁ hns hk₁ => ?_) hco hgen hk
  · obtain ⟨_, fr, _⟩ := st.fr
    exact (Top.nolimit hF.top).keeps fr.keep
  · rcases List.mem_singleton.mp hy with rfl
    exact hx
  have hF' : Fok S n (frameX F.A (envOf qual scope s.heap.objs.size fa cdv) g s.heap.objs.size) := by
    refine ⟨⟨F.A, base, fenv :: outer, envOf qual scope s.heap.objs.size fa cdv, en.below, Around.frames_deeper cx.frames, rfl, hk⟩, hF.kin.keeps en.stay, hF.top.keeps en.stay, .inl cx.hand, ?_, hk, rfl, rfl, (fun x y ca hx => nomatch hx), fun x ca hx => nomatch hx⟩
    have h1 := hF.room
    exact ⟨by have := h1.1; show F.A.depth + 1 + 4 * n ≤ 900; lia, by have := h1.2; show F.A.units + 3 + 40 * n ≤ 9000; lia⟩
  have cx' : Cx S (frameX F.A (envOf qual scope s.heap.objs.size fa cdv) g s.heap.objs.size) F.A base (fenv :: outer) (envOf qual scope s.heap.objs.size fa cdv) :=
    ⟨en.below, Around.frames_deeper cx.frames, rfl, hk, cx.kb, cx.tb, cx.hand, en.dicts⟩
  have st' : St (frameX F.A (envOf qual scope s.heap.objs.size fa cdv) g s.heap.objs.size) (bindM [(x, .ref f)]) H { s with heap := h₁, toks := s.toks + ([(x, Value.ref f)] : List (Str × Value)).length } := by
    refine ⟨⟨_, ⟨hns, fun b o e => hk₁ b o (en.gh b o e), Nat.le_of_eq en.size⟩, fun _ z _ => ?_, fun hne => absurd rfl hne⟩, fun hne => absurd rfl hne, fun x ca hx => (nomatch hx), fun a o ha => ?_, fun p hp => (nomatch hp)⟩
    · show (List.lookup z _).map er = List.lookup z _
      rw [lookup_er]; rfl
    · obtain ⟨ob, e1, e2, e3, e4⟩ := st.he a o ha
      exact ⟨ob, hk₁ a ob e1, e2, Nat.ne_of_lt (Heap.lt_size e1), en.gn a o ha⟩
  refine wpAny_mono (E := fun _ _ => False) (Q := fun f s' => R (.ok (.ret (match f with | .ret v => v | _ => .none))) s') ?_ (fun _ _ h => h) fun _ _ h => h.elim
  refine wpAny_execs_cons (wpAny_Try_except (wpAny_execs_cons (wpAny_Expr_any (Call_ ((ev_local hF' hx hd).use (P := fun v m1 H1 => v = .ref f ∧ H1 = H) st' ⟨.ref f, by simp [bindM], rfl, rfl⟩ fun v m1 H1 s1 st1 sm1 ⟨e1, e2⟩ => ?_) (by rfl)) (hi _) (hs _))))
  subst e2
  obtain rfl := er_ref e1
  obtain ⟨ob, z1, z2, _⟩ := st1.he f _ hfo
  have z2' : ob = fo := z2
  subst z2'
  refine callWith_function (o := ob) (fd := fd) (evalArgs_empty ⟨⟨z1, hfd⟩, wpAny_call (rf _ _ _ _ _ hF' cx' m1 s1 _ st1 fun e s2 rs sm2 => ?_)⟩)
  obtain ⟨G, mc3, t3, ws, news, fr3, _, R3, up3, kn3, _⟩ := rs
  refine caught_SO0 (KF := S.K) R3 fr3 en.below up3 cx.kb cx.tb en.dicts .refl ex q (fun h' g' news₂ T' F' N₂ got N' B' X' P' D' => ?_) hk (hy _) hdy .never
  refine wpAny_execs_cons (wpAny_Return_some (Constant_bool ?_))
  obtain ⟨h₀', y1, y2, y3, y4⟩ := st.backT (tk := s2.toks) (h' := h') (H' := H1) cx en hP T' F'.keep fun a o ha => by
    obtain ⟨ob, w1, w2⟩ := kn3 a o ha
    exact ⟨ob, (N' _ w1).1, w2, (N' _ w1).2.2⟩
  obtain ⟨hA, tA, eA⟩ := sm1
  obtain ⟨hB, tB, eB⟩ := sm2
  subst eA
  subst eB
  exact hR h₀' _ y1 y2 y3 y4 ⟨h', _, rfl⟩
end
end Mine
end
section
open PySem PySem.W PySem.Calls PySem.Spec PyProof.Rows
set_option maxRecDepth 100000
set_option linter.unusedVariables false
namespace Mine
section
variable {S : Sy} {F : Fx} {n : Nat}
theorem updF_mk {D : Addr} {o : Obj} {post : List (Addr × Obj)} (hb : ∀ p ∈ post, p.1 ≠ D) : ∀ {pre : List (Addr × Obj)}, (∀ p ∈ pre, p.1 ≠ D) → UpdF D o (pre ++ (D, o) :: post) (fun o' => pre ++ (D, o') :: post)
  | [], _ => .head hb
  | q :: r, ha => .tail (ha q (.head _)) (updF_mk hb fun p hp => ha p (.tail _ hp))
noncomputable def lamObj (S : Sy) (lq : Str) (params : Arguments) (body : Expr) (scope : Scope) (clos : List (Str × Addr)) (c' : Addr) (ctv : Value) : Obj := kla_obj "<lambda>" lq params body scope clos ((S.mg "__name__").getD .none) c' ctv
noncomputable def lamPT (S : Sy) (P : Addr) (lq : Str) (params : Arguments) (body : Expr) (scope : Scope) (clos : List (Str × Addr)) (pos : Pos) : PT V := fun m H k =>
  ∃ ps, H P = some (.raw (tabObj ps)) ∧ TriplesOk ps.toList ∧ codeAmong pos ps.toList = none ∧ ∀ f c' oc vs t ctv, H f = none → H c' = none → f ≠ c' → oc.data = .fields vs → vs[1]? = some (.str lq t) →
    k (.ref f) m (((H.set P (.raw (tabObj (ps ++ #[rawInt pos.line, rawInt pos.col, .ref c'])))).set c' (.raw oc)).set f (.raw (lamObj S lq params body scope clos c' ctv)))
theorem ev_lambda {A : Around} {h₀ : Heap} {L c P : Addr} {mL : Str → Option Value} {PP : List (Addr × Obj)} {qual : Str} {scope lscope : Scope} {fa : Addr} {cells clos : List (Str × Addr)} {params : Arguments} {body : Expr} {pos : Pos}
    (hF : Fok S n ⟨A, envX qual scope L fa (.ref c) cells, h₀, L, mL, PP⟩) (hC : codeHdIn S.K c P = true) (hcl : closureFor lscope (envX qual scope L fa (.ref c) cells) = pure clos) (hdef : defaultsOf params (envX qual scope L fa (.ref c) cells) = ([], [])) :
    Ev S ⟨A, envX qual scope L fa (.ref c) cells, h₀, L, mL, PP⟩ (eval (.Lambda params body lscope pos) (envX qual scope L fa (.ref c) cells)) er (lamPT S P ((envX qual scope L fa (.ref c) cells).qual ++ "<lambda>") params body lscope clos pos) := by
  intro m H k s E st ⟨ps, hP, ht, hnf, hk⟩
  obtain ⟨ob, e1, e2, e3, e4⟩ := st.he P _ hP
  have e2' : ob = tabObj ps := e2
  subst e2'
  obtain ⟨mc, fr, x1, x2⟩ := st.fr
  obtain ⟨pre, post, hf, ha, hb⟩ := split_of_mem full_nodup (mem_full (p := (P, tabObj ps)).mpr ⟨e1, e3, e4⟩)
  have N : News h₀ L s.heap (pre ++ (P, tabObj ps) :: post) := hf ▸ full_news
  refine kla_eval hdef (kla_nest fr N hF.top (codeHd_of_K hF.kin hC) rfl (updF_mk hb ha) ht hnf hcl fun f c' oc vs t ctv h' tk F' N' hd hv l1 l2 => ?_)
  have nf := N' (f, _) (.head _)
  have nc := N' (c', oc) (.tail _ (.head _))
  have lt : ∀ p ∈ full h₀ L s.heap, p.1 < c' := fun p hp => l1 p (hf ▸ hp)
  have cn : s.heap.get? c' = none := none_of_lt fr lt nc.2.1 nc.2.2
  have fn : s.heap.get? f = none := none_of_lt fr (fun p hp => Nat.lt_trans (lt p hp) l2) nf.2.1 nf.2.2
  obtain ⟨c1, c2, c3, c4⟩ := st.fresh cn
  obtain ⟨f1, f2, f3, f4⟩ := st.fresh fn
  have st1 : St ⟨A, envX qual scope L fa (.ref c) cells, h₀, L, mL, PP⟩ m (H.set P (.raw (tabObj (ps ++ #[rawInt pos.line, rawInt pos.col, .ref c'])))) { s with heap := h', toks := tk } := by
    refine st.change hP ⟨mc, F', x1, x2⟩ (fun a oa hne hL hget => ?_) (N' (P, tabObj (ps ++ #[rawInt pos.line, rawInt pos.col, .ref c'])) (by simp)).1 rfl
    cases q : h₀.get? a with
    | some o2 =>
      have h1 := fr.keep a o2 q
      rw [hget] at h1
      cases h1
      exact F'.keep a oa q
    | none =>
      have hm : (a, oa) ∈ pre ++ (P, tabObj ps) :: post := hf ▸ mem_full.mpr ⟨hget, hL, q⟩
      rcases List.mem_append.mp hm with hm | hm
      · exact (N' (a, oa) (.tail _ (.tail _ (List.mem_append_left _ hm)))).1
      · rcases List.mem_cons.mp hm with e | hm
        · cases e; exact absurd rfl hne
        · exact (N' (a, oa) (.tail _ (.tail _ (List.mem_append_right _ (.tail _ hm))))).1
  have st2 := st1.know (o := .raw oc) nc.1 rfl nc.2.1 nc.2.2 c2 c3 c4
  have st3 := st2.know (o := .raw _) nf.1 rfl nf.2.1 nf.2.2 f2 f3 f4
  exact ⟨m, _, st3, .of, hk f c' oc vs t ctv f1 c1 (Nat.ne_of_gt l2) hd hv⟩
/-! ## a comprehension that throws out what is refused -/
variable {A₀ : Around} {base : Heap} {outer : List Env} {fenv : Env}
noncomputable abbrev cFx (F : Fx) (scope : Scope) (C : Addr) (mc : Str → Option Value) (h : Heap) : Fx := ⟨F.A, compEnvC scope [] C F.env, h, F.L, mc, []⟩
theorem enterT {m : MM} {H : HH} {s : Shared} {scope : Scope} {x : Str} {ca : Addr} {v : V} (hF : Fok S n F) (hL : F.env.locals = F.L) (hce : F.env.cells = [(x, ca)]) (hv : m x = some v) (hP : F.P = []) (st : St F m H s) {h₁ : Heap} {tk : Nat} {ob : Obj}
    (hns : h₁.Ns s.heap.objs.size (fun _ => none)) (hsb : Heap.SameBut s.heap.objs.size (s.heap.push ob) h₁) (hxl : scope.names.lookup x ≠ some .local) :
    ∃ mc, St (cFx F scope s.heap.objs.size mc F.h₀) (mIn scope m) (H.set ca (.cell v)) { s with heap := h₁, toks := tk } ∧ s.heap.objs.size ≠ F.L ∧ (∀ I, Off F H I → I ≠ s.heap.objs.size → Off (cFx F scope s.heap.objs.size mc F.h₀) (H.set ca (.cell v)) I) ∧
      ∀ h m' H' s', (∀ b, F.h₀.get? b = none → h.get? b = none) → St (cFx F scope s.heap.objs.size mc h) m' (H'.set ca (.cell v)) s' → H' ca = none → St (F.turn h) m H' s' ∧ Off (F.turn h) H' s.heap.objs.size ∧ ∃ mC, s'.heap.Ns s.heap.objs.size mC := by
  obtain ⟨mc, fr, x1, x2⟩ := st.fr
  have off := st.offNew
  have kp : ∀ b o, s.heap.get? b = some o → h₁.get? b = some o := fun b o hb => hsb.extBut b o (Nat.ne_of_lt (Heap.lt_size hb)) (Heap.get?_push_of_some _ hb)
  have nC : ∀ a o, s.heap.get? a = some o → a ≠ s.heap.objs.size := fun a o h => Nat.ne_of_lt (Heap.lt_size h)
  have hCL : s.heap.objs.size ≠ F.L := off.L
  have hlk : F.env.cells.lookup x = some ca := by rw [hce]; simp
  obtain ⟨oc, u, y1, y2, y3, y4, y5, y6, y7⟩ := st.ce x ca hlk
  have hu : ∃ u', u = some u' ∧ er u' = v := by
    rw [hv] at y3
    cases u with
    | none => cases y3
    | some u' => exact ⟨u', rfl, by simpa using y3⟩
  obtain ⟨u', rfl, hu'⟩ := hu
  refine ⟨mc, ⟨⟨mc, ⟨?_, fun b o hb => kp b o (fr.keep b o hb), fr.above⟩, fun h => absurd h hCL, fun _ => rfl⟩, fun _ => ⟨_, hns, fun y hy => ?_, off.h0, ?_⟩, fun z cz hz => (nomatch hz), fun a o ha => ?_, fun p hp => (nomatch hp)⟩, hCL, fun I o hIC => ⟨o.L, ?_, hIC, fun z hz => (nomatch hz), fun p hp => (nomatch hp), o.h0⟩, ?_⟩
  · obtain ⟨oL, es, ep, hoL, r⟩ := fr.ns
    exact ⟨oL, es, ep, kp _ _ hoL, r⟩
  · show none = mIn scope m y
    unfold mIn
    rw [if_pos (relabel_local hy)]
  · show H.set ca (.cell v) s.heap.objs.size = none
    rw [hset_ne _ _ _ _ (fun q : s.heap.objs.size = ca => nC _ _ y1 q.symm)]
    exact off.h
  · by_cases q : a = ca
    · subst q
      rw [hset_self] at ha
      cases ha
      exact ⟨oc, kp _ _ y1, ⟨u', y2, hu'⟩, y4, y6⟩
    · rw [hset_ne _ _ _ _ q] at ha
      obtain ⟨oa, z1, z2⟩ := st.he a o ha
      exact ⟨oa, kp _ _ z1, z2⟩
  · rw [hset_ne _ _ _ _ (fun q : I = ca => o.cell x (by rw [q]; exact hlk))]
    exact o.h
  · intro h m' H' s' hn st' hca
    obtain ⟨mc', fr', _, w2⟩ := st'.fr
    obtain rfl := w2 hCL
    obtain ⟨mC, c1, c2, c3, c4⟩ := st'.own hCL
    have hHC : H' s.heap.objs.size = none := by
      have c4' : (H'.set ca (.cell v)) s.heap.objs.size = none := c4
      rw [hset_ne _ _ _ _ (fun q : s.heap.objs.size = ca => nC _ _ y1 q.symm)] at c4'
      exact c4'
    refine ⟨⟨⟨_, fr', x1, x2⟩, fun hne => absurd hL hne, fun z cz hz => ?_, fun a o ha => ?_, fun p hp => ?_⟩, ⟨hCL, hHC, off.loc, off.cell, off.p, hn _ off.h0⟩, mC, c1⟩
    · have hz' : F.env.cells.lookup z = some cz := hz
      rw [hce, List.lookup_cons] at hz'
      by_cases e : z = x
      · subst e
        simp at hz'
        subst hz'
        obtain ⟨og, g1, ⟨ug, g2, g3⟩, g4, g5⟩ := st'.he ca (.cell v) (hset_self _ _ _)
        exact ⟨og, some ug, g1, g2, by rw [hv, ← g3]; rfl, y4, y5, hn _ y6, hca⟩
      · have e2 : (z == x) = false := by simpa using e
        rw [e2] at hz'
        cases hz'
    · have hne : a ≠ ca := by rintro rfl; rw [hca] at ha; cases ha
      exact st'.he a o (by rw [hset_ne _ _ _ _ hne]; exact ha)
    · have : p ∈ F.P := hp
      rw [hP] at this
      cases this
end
end Mine
end
section
open PySem PySem.W PySem.Calls PySem.Spec PyProof.Rows
set_option maxRecDepth 100000
set_option linter.unusedVariables false
namespace Mine
section
variable {S : Sy} {F : Fx} {n : Nat} {A₀ : Around} {base : Heap} {outer : List Env} {fenv : Env}
/-- what a call of the testing def does: it says True, the outer frames' own objects may turn -/
noncomputable def Tests (S : Sy) (n : Nat) (fa : Addr) : Prop := ∀ (F : Fx) A₀ base outer fenv, Fok S n F → Cx S F A₀ base outer fenv → (∀ p ∈ F.P, F.h₀.get? p.1 = none) → ∀ m H s f (R : Result → Shared → Prop), St F m H s → Refuses S (n - 1) H f →
  (∀ h₀' s', KtsTurn (outer.filterMap (·.frame)) F.h₀ h₀' → Below A₀ base outer h₀' → KtsDicts (outer.filterMap (·.frame)) h₀' → St (F.turn h₀') m H s' → Same s s' → R (.ok (.ret (.bool true))) s') → codeAny S.M F.A (.call (.ref fa) ⟨[.ref f], []⟩) R s
inductive TestInv (F : Fx) (A₀ : Around) (base : Heap) (outer : List Env) (scope : Scope) (C I a : Addr) (mc : Str → Option Value) (H : HH) (s : Shared) (N j : Nat) (s' : Shared) : Prop
  | mk (i : Nat) (h : Heap) (m' : MM) (ob' : Obj) (T : KtsTurn (outer.filterMap (·.frame)) F.h₀ h) (B : Below A₀ base outer h) (D : KtsDicts (outer.filterMap (·.frame)) h) (st : St (cFx F scope C mc h) m' H s') (off : Off (cFx F scope C mc h) H I) (hI : s'.heap.get? I = some ob')
      (hW : ob'.cls = .type "list_iterator" ∧ ob'.data = .fields #[.ref a, .int i 0]) (sm : Same s s') (hi : i ≤ N) (hj : j = N - i) : TestInv F A₀ base outer scope C I a mc H s N j s'
theorem compT_loop {elt iter : Expr} {x y : Str} {px xp yp cp np pos : Pos} {scope scope' : Scope} {C I D a fa : Addr} {mc : Str → Option Value} {fs : List Addr} {m : MM} {H : HH} {s : Shared} {ob : Obj} {R : Result → Shared → Prop}
    (hC : C ≠ F.L) (hx : (relabel scope F.env).names.lookup x = some .local) (hF : Fok S n F) (cx : Cx S F A₀ base outer fenv) (hk : scope.kind = .function)
    (hy : (relabel scope F.env).names.lookup y = some .globalImplicit) (hg : nsIn S.K mainGlobals y = some (some (.ref fa))) (hkp : keepIn S.K (.ref fa) = true) (ht : Tests S n fa) (hdx : (x == ("__debug__" : Str)) = false) (hdy : (y == ("__debug__" : Str)) = false)
    (ha : H a = some (.list (fs.map V.ref))) (hne : a ≠ I) (hfs : ∀ f ∈ fs, Refuses S (n - 1) H f)
    (st : St (cFx F scope C mc F.h₀) m H s) (off : Off (cFx F scope C mc F.h₀) H I) (hI : s.heap.get? I = some ob) (hW : ob.cls = .type "list_iterator" ∧ ob.data = .fields #[.ref a, .int 0 0])
    (hR : ∀ h m' s', KtsTurn (outer.filterMap (·.frame)) F.h₀ h → Below A₀ base outer h → KtsDicts (outer.filterMap (·.frame)) h → St (cFx F scope C mc h) m' H s' → Same s s' → R (.ok .next) s') :
    codeAny S.M F.A (.compLoop (.ListComp elt [⟨.Name x px, iter, [.UnaryOp .Not (.Call (.Name y yp) [.Name x xp] [] cp) np], 0⟩] scope' pos) 0 (.ref I) (.ref D) (compEnvC scope [] C F.env)) R s := by
  refine codeAny_compLoop_tests (TestInv F A₀ base outer scope C I a mc H s fs.length) ?_ fs.length
    ⟨0, F.h₀, m, ob, .refl, cx.below, cx.dicts, st, off, hI, hW, .refl _, Nat.zero_le _, rfl⟩
  rintro j s' ⟨i, h, m', ob', T, B, D', st', off', hI', hW', sm', hi, rfl⟩
  have hF1 : Fok S n (F.turn h) := cx.fok hF B
  have hFc : Fok S n (cFx F scope C mc h) := ⟨hF1.frames, hF1.kin, hF1.top, hF1.hand, hF1.room, hk, hF1.glob, hF1.bi, fun z w ca hz hw => (nomatch hz), fun z ca hz => (nomatch hz)⟩
  have cxc : Cx S (cFx F scope C mc h) A₀ base outer fenv := ⟨B, cx.frames, cx.frame, cx.kind, cx.kb, cx.tb, cx.hand, D'⟩
  have it := iter_list (I := I) hFc (a := a) (xs := fs.map V.ref) hne
  rcases Nat.lt_or_ge i fs.length with hlt | hge
  · refine it.item i m' H s' ob' (.ref fs[i]) _ _ st' off' hI' hW' ha (by rw [List.getElem?_map, List.getElem?_eq_getElem hlt]; rfl) fun u h₁ tk ob₁ hu hI₁ hW₁ kp => ?_
    obtain rfl := er_ref hu
    have st₁ : St ((cFx F scope C mc h).withP (I, ob₁)) m' H { s' with heap := h₁, toks := tk } := (st'.ext off' kp).protect off' hI₁
    have hFp : Fok S n ((cFx F scope C mc h).withP (I, ob₁)) := hFc.withP (I, ob₁)
    refine wpAny_assign_Name ((ev_storeOwn hFp hC hx (.ref fs[i])).use (P := fun _ m₂ H₂ => m₂ = m'.set x (.ref fs[i]) ∧ H = H₂) st₁ ⟨rfl, rfl⟩ fun _ m₂ H₂ s₂ st₂ sm₂ h₂ => ?_)
    obtain ⟨e1, e2⟩ := h₂
    subst e1 e2
    rw [List.forIn_cons]
    refine wpAny_bind ?_
    show wpAny _ _ (if true = true then _ else _) _ _ _
    rw [if_pos rfl]
    refine wpAny_bind (isTrue_not (isTrue_plain (Call_ ((ev_global hFp hy hg hdy).use (P := fun v m1 H1 => v = er (.ref fa) ∧ m1 = m'.set x (.ref fs[i]) ∧ H = H1) st₂ ⟨rfl, rfl, rfl⟩ fun v m1 H1 s₃ st₃ sm₃ ⟨e1, e2, e3⟩ => ?_) (by rfl)) (by rfl)))
    subst e2 e3
    obtain rfl := er_ref e1
    refine callWith_K hFp.kin hkp (PyProof.Rows.spliced_more ((ev_local hFp hx hdx).use (P := fun v m1 H1 => v = .ref fs[i] ∧ m1 = m'.set x (.ref fs[i]) ∧ H = H1) st₃ ⟨.ref fs[i], set_self _ _ _, rfl, rfl, rfl⟩ fun w m2 H2 s₄ st₄ sm₄ ⟨e1, e2, e3⟩ => spliced_none ?_) rfl) rfl rfl
    subst e2 e3
    obtain rfl := er_ref e1
    have cxp : Cx S ((cFx F scope C mc h).withP (I, ob₁)) A₀ base outer fenv := ⟨cxc.below, cxc.frames, cxc.frame, cxc.kind, cxc.kb, cxc.tb, cxc.hand, cxc.dicts⟩
    refine ⟨st₄.kin hFp, wpAny_call (ht _ A₀ base outer fenv hFp cxp (fun p hp => ?_) _ H s₄ fs[i] _ st₄ (hfs _ (List.getElem_mem hlt)) fun h2 s₅ T2 B2 D2 st₅ sm₅ => ?_)⟩
    · rcases List.mem_cons.mp hp with rfl | hp
      · exact off'.h0
      · cases hp
    · refine wpAny_truthy_bool ?_
      refine wpAny_pure ?_
      dsimp only
      rw [List.forIn_nil]
      refine wpAny_pure ?_
      simp only [Bool.not_true, Bool.false_eq_true, if_false]
      have hI5 : s₅.heap.get? I = some ob₁ := (st₅.pr (I, ob₁) (.head _)).1
      refine ⟨fs.length - (i + 1), by omega, i + 1, h2, m'.set x (.ref fs[i]), ob₁, T.trans T2, B2, D2, ?_, ?_, hI5, hW₁, ((((sm'.trans ⟨h₁, tk, rfl⟩).trans sm₂).trans sm₃).trans sm₄).trans sm₅, hlt, rfl⟩
      · exact St.unprotect (F := cFx F scope C mc h2) (p := (I, ob₁)) st₅
      · exact ⟨off'.L, off'.h, off'.loc, off'.cell, off'.p, T2.none_ _ off'.h0⟩
  · have hii : i = fs.length := Nat.le_antisymm hi hge
    subst hii
    refine it.done m' H s' ob' _ _ st' off' hI' (by simpa using hW') ha fun h₁ tk kp => ?_
    exact hR h m' _ T B D' (st'.ext off' kp) (sm'.trans .of)
end
end Mine
end
section
open PySem PySem.W PySem.Calls PySem.Spec PyProof.Rows
set_option maxRecDepth 100000
set_option linter.unusedVariables false
namespace Mine
section
variable {S : Sy} {F : Fx} {n : Nat} {A₀ : Around} {base : Heap} {outer : List Env} {fenv : Env}
/-- a statement that returns; the outer frames' own objects may turn -/
noncomputable def EvT (S : Sy) (F : Fx) (A₀ : Around) (base : Heap) (outer : List Env) (t : Sem Flow) (c : PT V) : Prop :=
  ∀ m H k s E, St F m H s → c m H k → wpAny S.M F.A t (fun f s' => ∃ v h m' H', f = .ret v ∧ KtsTurn (outer.filterMap (·.frame)) F.h₀ h ∧ Below A₀ base outer h ∧ KtsDicts (outer.filterMap (·.frame)) h ∧ St (F.turn h) m' H' s' ∧ Same s s' ∧ k (er v) m' H') E s
theorem exsT_cons {st₁ : Stmt} {rest : List Stmt} {c1 : PT Fl} {c2 : PT V} (h1 : Ev S F (exec st₁ F.env) erF c1) (h2 : EvT S F A₀ base outer (execs rest F.env) c2) :
    EvT S F A₀ base outer (execs (st₁ :: rest) F.env) (fun m H k => c1 m H fun f m1 H1 => f = .next ∧ c2 m1 H1 k) := fun m H k s E st h =>
  wpAny_execs_cons (h1.use st h fun f m1 H1 s1 st1 sm1 ⟨e, k1⟩ => by
    cases f with
    | next => exact wpAny_mono (h2 m1 H1 k s1 E st1 k1) (fun f s' ⟨v, h, m', H', a1, a2, a3, a4, a5, a6, a7⟩ => ⟨v, h, m', H', a1, a2, a3, a4, a5, sm1.trans a6, a7⟩) fun _ _ x => x
    | brk => cases e
    | cont => cases e
    | ret v => cases e)
theorem exsT_last {st₁ : Stmt} {c : PT V} (h1 : EvT S F A₀ base outer (exec st₁ F.env) c) : EvT S F A₀ base outer (execs [st₁] F.env) c := fun m H k s E st h =>
  wpAny_execs_cons (wpAny_mono (h1 m H k s E st h) (fun f s' ⟨v, h, m', H', a1, a⟩ => by
    subst a1
    exact ⟨v, h, m', H', rfl, a⟩) fun _ _ x => x)
/-- return [x for x in its if not fa(x)] == [] -/
theorem retT {elt : Expr} {x y i : Str} {px xp yp cp np pos ip lp kp rp : Pos} {scope : Scope} {cx0 : Str} {ca fa : Addr}
    (hF : Fok S n F) (cx : Cx S F A₀ base outer fenv) (hL : F.env.locals = F.L) (hP : F.P = []) (hce : F.env.cells = [(cx0, ca)]) (hi : F.env.scope.names.lookup i = some .local) (hdi : (i == ("__debug__" : Str)) = false := by decide)
    (hy : (relabel scope F.env).names.lookup y = some .globalImplicit) (hg : nsIn S.K mainGlobals y = some (some (.ref fa))) (hkp : keepIn S.K (.ref fa) = true) (ht : Tests S n fa) (hdx : (x == ("__debug__" : Str)) = false := by decide) (hdy : (y == ("__debug__" : Str)) = false := by decide)
    (hcx : scope.names.lookup cx0 ≠ some .local := by decide)
    (hclos : closureFor scope F.env = pure [] := by rfl) (hk : scope.kind = .function := by rfl) (hcell : ∀ y ∈ scope.names, y.2 ≠ .cell := by decide) (hx : scope.names.lookup x = some .local := by rfl)
    (hnames : ∀ y ∈ scope.names, y.2 = .local → scope.names.lookup y.1 = some .local := by decide)
    (hs : ∀ v, foldedSetIterable (.Name i ip) F.env v = pure v := by intro _; rfl) (hm : behindInMarks .Eq (.List [] lp) = false := by with_unfolding_all rfl) :
    EvT S F A₀ base outer (exec (.Return (some (.Compare (.ListComp elt [⟨.Name x px, .Name i ip, [.UnaryOp .Not (.Call (.Name y yp) [.Name x xp] [] cp) np], 0⟩] scope pos) [.Eq] [.List [] lp] kp)) rp) F.env)
      (fun m H k => ∃ (a : Addr) (fs : List Addr) (v : V), m i = some (.ref a) ∧ H a = some (.list (fs.map V.ref)) ∧ fs.length ≤ 10000 ∧ m cx0 = some v ∧ (H ca = none → ∀ H', Drop (H.set ca (.cell v)) H' → ∀ f ∈ fs, Refuses S (n - 1) H' f) ∧ k (.bool true) m H) := by
  intro m H k s E st ⟨a, fs, v, hmi, ha, hlen, hv, hrf, hk'⟩
  have hca : H ca = none := by
    obtain ⟨oc, u, y1, y2, y3, y4, y5, y6, y7⟩ := st.ce cx0 ca (by rw [hce]; simp)
    exact y7
  replace hrf := hrf hca
  refine wpAny_Return_some (wpAny_Compare1 ?_ hm)
  rw [eval_ListComp]
  refine wpAny_comprehension_free (use := none) rfl hs hclos hk hnames ((ev_local hF hi hdi).use (P := fun u m1 H1 => u = .ref a ∧ m1 = m ∧ H = H1) st ⟨.ref a, hmi, rfl, rfl, rfl⟩ fun xv m1 H1 s1 st1 sm1 ⟨e1, e2, e3⟩ => ?_)
  subst e2 e3
  obtain rfl := er_ref e1
  obtain ⟨its, ei, li⟩ := st1.list ha
  have off := st1.offNew
  refine wpAny_pyIter_list li ?_
  have hI2 : (s1.heap.push { cls := .type "list_iterator", data := .fields #[.ref a, .int 0 0] }).get? s1.heap.objs.size = some { cls := .type "list_iterator", data := .fields #[.ref a, .int 0 0] } := Heap.get?_push_size _ rfl
  have st2 : St F m1 H { s1 with heap := s1.heap.push { cls := .type "list_iterator", data := .fields #[.ref a, .int 0 0] } } := st1.ext (tk := s1.toks) off fun b o _ hb => Heap.get?_push_of_some _ hb
  have hneI : a ≠ s1.heap.objs.size := by
    obtain ⟨o, ho, _⟩ := li
    exact Nat.ne_of_lt (Heap.lt_size ho)
  have stp := st2.protect off hI2
  refine (ev_newList (S := S) (F := F.withP (s1.heap.objs.size, { cls := .type "list_iterator", data := .fields #[.ref a, .int 0 0] })) (vs := [])).use (P := fun u m2 H2 => ∃ D, u = .ref D ∧ m2 = m1 ∧ H D = none ∧ H2 = H.set D (.list [])) stp ⟨by simp, fun r hr => ⟨r, rfl, rfl, hr, rfl⟩⟩ fun acc m2 H2 s3 st3 sm3 ⟨D, eD, em, hD, eH⟩ => ?_
  subst em eH
  obtain rfl := er_ref eD
  refine wpAny_newFunctionEnv hcell (by intro y hy; simp at hy) (fun h₁ hns hsb => ?_) hk
  have hI3 : s3.heap.get? s1.heap.objs.size = some { cls := .type "list_iterator", data := .fields #[.ref a, .int 0 0] } := (st3.pr (s1.heap.objs.size, _) (.head _)).1
  have off3 : Off F (H.set D (.list [])) s1.heap.objs.size := off.of st3
  have hcaD : ca ≠ D := by
    rintro rfl
    obtain ⟨oc, u, y1, y2, y3, y4, y5, y6, y7⟩ := st3.ce cx0 ca (by show F.env.cells.lookup cx0 = _; rw [hce]; simp)
    rw [hset_self] at y7
    cases y7
  obtain ⟨mc, st4, hCL, offC, back⟩ := enterT (tk := s3.toks + ([] : List (Str × Value)).length) (H := H.set D (.list [])) hF hL hce hv hP st3.unprotect hns hsb hcx
  have hIC : s1.heap.objs.size ≠ s3.heap.objs.size := Nat.ne_of_lt (Heap.lt_size hI3)
  have hI4 : h₁.get? s1.heap.objs.size = some { cls := .type "list_iterator", data := .fields #[.ref a, .int 0 0] } := hsb.extBut _ _ hIC (Heap.get?_push_of_some _ hI3)
  have hne2 : ∀ b o, H b = some o → b ≠ ca := fun b o hb q => by rw [q, hca] at hb; cases hb
  have hne3 : ∀ b o, H b = some o → b ≠ D := fun b o hb q => by rw [q, hD] at hb; cases hb
  have get4 : ∀ b o, H b = some o → ((H.set D (.list [])).set ca (.cell v)) b = some o := fun b o hb => by
    rw [hset_ne _ _ _ _ (hne2 b o hb), hset_ne _ _ _ _ (hne3 b o hb)]; exact hb
  have drop4 : Drop (H.set ca (.cell v)) ((H.set D (.list [])).set ca (.cell v)) := fun b o hb => by
    by_cases q : b = ca
    · subst q; rw [hset_self] at hb ⊢; exact hb
    · rw [hset_ne _ _ _ _ q] at hb
      exact get4 b o hb
  have hcaD' : (H.set D (.list [])) ca = none := by rw [hset_ne _ _ _ _ hcaD]; exact hca
  have loop : codeAny S.M F.A (.compLoop (.ListComp elt [⟨.Name x px, .Name i ip, [.UnaryOp .Not (.Call (.Name y yp) [.Name x xp] [] cp) np], 0⟩] scope pos) 0 (.ref s1.heap.objs.size) (.ref D) (compEnvC scope [] s3.heap.objs.size F.env))
      (compPost S.M F.A E none (fun v s' => wpAny S.M F.A (eval (.List [] lp) F.env) (fun u s₂ => wpAny S.M F.A (compareOp .Eq v u) (fun r s₃ => ∃ v h m' H', (Flow.ret r) = .ret v ∧ KtsTurn (outer.filterMap (·.frame)) F.h₀ h ∧ Below A₀ base outer h ∧ KtsDicts (outer.filterMap (·.frame)) h ∧ St (F.turn h) m' H' s₃ ∧ Same s s₃ ∧ k (er v) m' H') E s₂) E s') (.ref D) s3.heap.objs.size) { s3 with heap := h₁, toks := s3.toks + ([] : List (Str × Value)).length } := by
    refine compT_loop (n := n) (fs := fs) (a := a) (m := mIn scope m2) (H := (H.set D (.list [])).set ca (.cell v)) hCL ?_ hF cx hk hy hg hkp ht hdx hdy (get4 a _ ha) hneI (hrf _ drop4) st4 (offC _ off3 hIC) hI4 ⟨rfl, rfl⟩ fun h m' s' T B D' st' sm' => ?_
    · rw [relabel_lookup, hx]; rfl
    obtain ⟨b1, b2, mC, b3⟩ := back h m' (H.set D (.list [])) s' T.none_ st' hcaD'
    refine ⟨mC, b3, fun h' hs' => ?_⟩
    have st5 : St (F.turn h) m2 (H.set D (.list [])) { s' with heap := h' } := b1.ext (tk := s'.toks) b2 fun b o hb hbo => (hs'.2 b hb).trans hbo
    have hFt : Fok S n (F.turn h) := cx.fok hF B
    refine (ev_list (F := F.turn h) (es := []) evl_nil).use (P := fun u m3 H3 => ∃ r, u = .ref r ∧ m3 = m2 ∧ r ≠ D ∧ H3 = (H.set D (.list [])).set r (.list []) ∧ (H.set D (.list [])) r = none) st5 ⟨by simp, fun r hr => ⟨r, rfl, rfl, (fun q => by rw [q, hset_self] at hr; cases hr), rfl, hr⟩⟩ fun u m3 H3 s6 st6 sm6 ⟨r, e1, e2, e3, e4, e5⟩ => ?_
    subst e2 e4
    obtain rfl := er_ref e1
    refine (ev_cmp hFt .Eq (.ref D) (.ref r)).use (P := fun u m4 H4 => u = .bool true ∧ m4 = m3 ∧ H4 = (H.set D (.list [])).set r (.list [])) st6 (.inr (rr_to ⟨[], [], .inl ⟨?_, hset_self _ _ _⟩, rfl, rfl, rfl⟩)) fun u m4 H4 s7 st7 sm7 ⟨e1, e2, e3⟩ => ?_
    · rw [hset_ne _ _ _ _ (Ne.symm e3)]; exact hset_self _ _ _
    subst e2 e3
    obtain rfl := er_bool e1
    refine ⟨_, h, m4, H, rfl, T, B, D', st7.drop fun b o hb => ?_, ?_, hk'⟩
    · have hbr : b ≠ r := by
        rintro rfl
        rw [hset_ne _ _ _ _ (hne3 b o hb), hb] at e5; cases e5
      rw [hset_ne _ _ _ _ hbr, hset_ne _ _ _ _ (hne3 b o hb)]; exact hb
    · exact (((((sm1.trans .of).trans sm3).trans ⟨h₁, _, rfl⟩).trans sm').trans ⟨h', _, rfl⟩).trans (sm6.trans sm7)
  exact codeAny_compStart_list loop (wpAny_pyIter_listiter ⟨_, hI4, rfl, rfl⟩ loop)
end
end Mine
end
section
open PySem PySem.W PySem.Calls PySem.Spec PyProof.Rows
set_option maxRecDepth 100000
set_option linter.unusedVariables false
namespace Mine
/-- a contract that holds only where the caller's frame is the lowest one -/
noncomputable def Con0 (S : Sy) (n : Nat) (fa : Addr) (spec : SpecT) : Prop :=
  ∀ F A₀ base fenv, Fok S n F → Cx S F A₀ base [] fenv → (∀ p ∈ F.P, F.h₀.get? p.1 = none) → ∀ m H vs k R s, St F m H s → spec (vs.map er) H k → (∀ v H' s', k (er v) H' → St F m H' s' → Same s s' → R (.ok (.ret v)) s') → codeAny S.M F.A (.call (.ref fa) ⟨vs, []⟩) R s
section
variable {S : Sy} {F : Fx} {n : Nat} {m : MM} {H : HH} {s : Shared}
noncomputable abbrev fx0 (A₀ : Around) (env : Env) (h₀ : Heap) (L : Addr) : Fx := ⟨A₀.deeper env, env, h₀, L, fun _ => none, []⟩
theorem con_of_bodyCT {fa : Addr} {spec : SpecT} {c : Addr → PT V} {qual : Str} {name : Str} {params : Arguments} {body : List Stmt} {scope : Scope} {dV kV doc pm cdv ct oc : Value} {an od : Option Addr} {osl : Array (Option Value)}
    (ho : S.K.lookup fa = some ⟨oc, od, .func (fnOf name qual params body scope dV kV doc pm an cdv ct), osl⟩) (hcd : codeIn S.K cdv qual = true)
    (hbody : ∀ A₀ base outer h₀ L, Fok S n (fx0 A₀ (envOfC qual scope L fa cdv) h₀ L) → Cx S (fx0 A₀ (envOfC qual scope L fa cdv) h₀ L) A₀ base outer (envOfC qual scope L fa cdv) → EvT S (fx0 A₀ (envOfC qual scope L fa cdv) h₀ L) A₀ base outer (execs body (envOfC qual scope L fa cdv)) (c L))
    (hspec : ∀ vs H k, spec vs H k → vs.length = params.args.length ∧ ∀ L, c L (bindM ((params.args.map (·.arg)).zip vs)) H (fun v _ H' => ∃ H'', Drop H'' H' ∧ k v H''))
    (hbind : ∀ vs : List Value, vs.length = params.args.length → bindArgs (fnOf name qual params body scope dV kV doc pm an cdv ct) ⟨vs, []⟩ = pure ((params.args.map (·.arg)).zip vs))
    (hloc : (params.args.all fun a => decide (scope.names.lookup a.arg = some .local) || (decide (scope.names.lookup a.arg = some .cell) && ((cellsFrom 0 scope.names []).map (·.1)).contains a.arg)) = true)
    (hcn : ((cellsFrom 0 scope.names []).all fun p => decide (scope.names.lookup p.1 = some .cell)) = true) (hco : scope.isCoroutine = false) (hgen : scope.isGenerator = false) (hk : scope.kind = .function) :
    Con0 S (n + 1) fa spec := by
  intro F A₀ base fenv hF cx hP m H vs k R s st hs hR
  obtain ⟨hlen, hc⟩ := hspec _ _ _ hs
  rw [List.length_map] at hlen
  obtain ⟨mc, g, en⟩ := st.ent cx
  have hK := st.kin hF
  have hnames : ∀ L, (cellsFrom (L + 1) scope.names []).map (·.1) = (cellsFrom 0 scope.names []).map (·.1) := fun L => (cellsFrom_names scope.names 0 (L + 1) [] [] rfl).symm
  have hkd : ∀ L x ca, (x, ca) ∈ cellsFrom (L + 1) scope.names [] → scope.names.lookup x = some .cell := fun L x ca hx => by
    have h1 : x ∈ (cellsFrom (L + 1) scope.names []).map (·.1) := List.mem_map.mpr ⟨(x, ca), hx, rfl⟩
    rw [hnames] at h1
    obtain ⟨p, hp, e⟩ := List.mem_map.mp h1
    have h2 := of_decide_eq_true (List.all_eq_true.mp hcn p hp)
    rw [e] at h2
    exact h2
  refine codeAny_call_function (fd := fnOf name qual params body scope dV kV doc pm an cdv ct) (by have h1 := hF.room.1; show F.A.depth < 1000; lia) (hK _ _ ho) rfl hco hgen rfl (codeRec_of hK hcd)
    (wpAny_of_eq (hbind vs hlen) ?_)
  refine wpAny_newFunctionEnv_cells hk (fun y hy => ?_) fun env' he s' x => ?_
  · have hm : y.1 ∈ params.args.map (·.arg) := (List.of_mem_zip hy).1
    obtain ⟨a, ha, e⟩ := List.mem_map.mp hm
    have h1 := List.all_eq_true.mp hloc a ha
    rw [e] at h1
    rcases Bool.or_eq_true _ _ ▸ h1 with h1 | h1
    · exact .inl (of_decide_eq_true h1)
    · rw [Bool.and_eq_true] at h1
      refine .inr ⟨of_decide_eq_true h1.1, lookup_isSome ?_⟩
      rw [hnames]
      simpa using h1.2
  subst he
  obtain ⟨mcF, frF, _⟩ := st.fr
  refine ⟨((Top.nolimit hF.top).keeps frF.keep).keeps x.toInCall.keep, codeAny_func ?_⟩
  obtain ⟨h₁, tk, rfl, _⟩ := x.done
  have hk₁ := x.toInCall.keep
  have hF' : Fok S n (fx0 F.A (envOfC qual scope s.heap.objs.size fa cdv) g s.heap.objs.size) := by
    refine ⟨⟨F.A, base, [fenv], envOfC qual scope s.heap.objs.size fa cdv, en.below, Around.frames_deeper cx.frames, rfl, hk⟩, hF.kin.keeps en.stay, hF.top.keeps en.stay, .inl cx.hand, ?_, hk, rfl, rfl, (fun y z ca hy hz => apart_inj x.apart (lookup_some_mem hy) (lookup_some_mem hz)), fun y ca hy h => ?_⟩
    · have h1 := hF.room
      exact ⟨by have := h1.1; show F.A.depth + 1 + 4 * n ≤ 900; lia, by have := h1.2; show F.A.units + 3 + 40 * n ≤ 9000; lia⟩
    · have h1 := hkd _ _ _ (lookup_some_mem hy)
      have h2 : scope.names.lookup y = some .local := h
      rw [h1] at h2; cases h2
  have cx' : Cx S (fx0 F.A (envOfC qual scope s.heap.objs.size fa cdv) g s.heap.objs.size) F.A base [fenv] (envOfC qual scope s.heap.objs.size fa cdv) :=
    ⟨en.below, Around.frames_deeper cx.frames, rfl, hk, cx.kb, cx.tb, cx.hand, en.dicts⟩
  have hbm : ∀ y, (List.lookup y ((params.args.map (·.arg)).zip vs).reverse).map er = bindM ((params.args.map (·.arg)).zip (vs.map er)) y := fun y => by
    unfold bindM
    rw [lookup_er, List.map_reverse]
    congr 2
    rw [List.zip_map_right]
    rfl
  have st' : St (fx0 F.A (envOfC qual scope s.heap.objs.size fa cdv) g s.heap.objs.size) (bindM ((params.args.map (·.arg)).zip (vs.map er))) H { s with heap := h₁, toks := tk } := by
    refine ⟨⟨_, ⟨x.toInCall.ns, fun b o e => hk₁ b o (en.gh b o e), Nat.le_of_eq en.size⟩, fun _ y hy => ?_, fun hne => absurd rfl hne⟩, fun hne => absurd rfl hne, fun y ca hy => ?_, fun a o ha => ?_, fun p hp => (nomatch hp)⟩
    · rw [← hbm]
      have hy' : scope.names.lookup y = some .local := hy
      refine Eq.trans (congrArg (Option.map er) (bindL_get (x := y) ?_ _ _)) ?_
      · exact hy'
      cases List.lookup y ((params.args.map (·.arg)).zip vs).reverse <;> rfl
    · obtain ⟨oc, hoc, hdc⟩ := x.cell y ca hy
      have hky := hkd _ _ _ (lookup_some_mem hy)
      have hab : s.heap.objs.size < ca := x.above y ca (lookup_some_mem hy)
      have hn : s.heap.get? ca = none := by
        cases q : s.heap.get? ca with
        | none => rfl
        | some o => exact absurd (Nat.lt_trans hab (Heap.lt_size q)) (Nat.lt_irrefl _)
      refine ⟨oc, _, hoc, hdc, ?_, Nat.ne_of_gt hab, Nat.ne_of_gt hab, ?_, (st.fresh hn).1⟩
      · rw [← hbm]
        refine Eq.trans (congrArg (Option.map er) (bindC_get (x := y) ?_ _ _)) ?_
        · show scope.names.lookup y ≠ some .local
          rw [hky]; intro h; cases h
        cases List.lookup y ((params.args.map (·.arg)).zip vs).reverse <;> rfl
      · show g.get? ca = none
        cases q : g.get? ca with
        | none => rfl
        | some o => rw [en.gh _ _ q] at hn; cases hn
    · obtain ⟨ob, e1, e2, e3, e4⟩ := st.he a o ha
      exact ⟨ob, hk₁ a ob e1, e2, Nat.ne_of_lt (Heap.lt_size e1), en.gn a o ha⟩
  refine wpAny_mono (hbody _ _ _ _ _ hF' cx' _ _ _ _ (fun _ _ => False) st' (hc _)) (fun f s' ⟨v, h, m', H', a1, T, B, D, st'', sm, H₂, hd, hk₂⟩ => ?_) fun _ _ h => h.elim
  subst a1
  have st₃ := st''.drop hd
  obtain ⟨h₂, t₂, rfl⟩ := sm
  obtain ⟨mc', fr', _⟩ := st''.fr
  obtain ⟨h0', T0, _, _, st4⟩ := st.backT (tk := t₂) (h' := h₂) (H' := H₂) cx en hP T fr'.keep fun a o ha => by
    obtain ⟨ob, e1, e2, _, e4⟩ := st₃.he a o ha
    exact ⟨ob, e1, e2, e4⟩
  exact hR _ H₂ _ hk₂ (St.unturn T0 st4) ⟨h₂, t₂, rfl⟩
end
end Mine
end
section
open PySem PySem.W PySem.Calls PySem.Spec PyProof.Rows
set_option maxRecDepth 100000
set_option linter.unusedVariables false
namespace Mine
section
variable {S : Sy} {F : Fx} {n : Nat} {A₀ : Around} {base : Heap} {fenv : Env} {x xs' : Str} {xp pos : Pos}
theorem ev_callDef0 {k : Nat} {fa : Addr} {sp : SpecT} {a : Expr} {rest : List Expr} {cs : PT (List V)} (hF : Fok S n F) (cx : Cx S F A₀ base [] fenv) (hP : ∀ p ∈ F.P, F.h₀.get? p.1 = none) (hk : F.env.scope.names.lookup x = some .globalImplicit) (hg : nsIn S.K mainGlobals x = some (some (.ref fa))) (hkp : keepIn S.K (.ref fa) = true)
    (hc : Con0 S k fa sp) (hkn : k ≤ n) (hargs : EvL S F (a :: rest) pos cs) (hd : (x == ("__debug__" : Str)) = false := by decide)
    (he : starEach (a :: rest) F.env = (false, eval a F.env) :: starEach rest F.env := by rfl) (hplain : (backTo pos (starEach rest F.env)).any (·.1) = false := by rfl) :
    Ev S F (eval (.Call (.Name x xp) (a :: rest) [] pos) F.env) er (cs.bind (PT.spec sp)) := fun m H k' s E st h =>
  Call_ ((ev_global hF hk hg hd).use (P := fun v m1 H1 => v = er (.ref fa) ∧ m1 = m ∧ H1 = H) st ⟨rfl, rfl, rfl⟩ fun v m1 H1 s1 st1 sm1 ⟨e1, e2, e3⟩ => by
    subst e2 e3
    obtain rfl := er_ref e1
    exact callWith_K hF.kin hkp (hargs.use st1 h fun vs m2 H2 s2 st2 sm2 h2 => ⟨st2.kin hF, wpAny_call (hc F _ _ _ (hF.mono hkn) cx hP m2 H2 vs _ _ s2 st2 h2 fun v H' s' hk' st' sm => ⟨m2, H', st', (sm1.trans sm2).trans sm, hk'⟩)⟩) he hplain) (by rfl)
/-! ### a list below the frame -/
theorem list0 {m : MM} {H : HH} {s : Shared} {a : Addr} {its : Array Value} (st : St F m H s) (hl : F.h₀.IsList a its) : s.heap.IsList a its := by
  obtain ⟨o, ho, r⟩ := hl
  exact ⟨o, st.keep0 _ _ ho, r⟩
noncomputable def lenPT0 (a : Addr) (N : Nat) (vs : List V) : PT V := fun m H k => vs = [.ref a] ∧ N ≤ 1000000 ∧ k (.int N) m H
theorem bi_len0 {a : Addr} {its : Array Value} (hl : F.h₀.IsList a its) : Bi S F (.builtin "len") (lenPT0 a its.size) := by
  intro vs m H k s E st ⟨e, hN, hk⟩
  obtain ⟨u, rfl, e1⟩ := map1 e
  obtain rfl := er_ref e1
  exact len_list (list0 st hl) (by lia) ⟨m, H, st.toks _, ⟨s.heap, _, rfl⟩, hk⟩
theorem ev_slice0 {a : Addr} {its : Array Value} {N : Nat} {kk : Nat} {cp sp : Pos} (hF : Fok S n F) (hk : F.env.scope.names.lookup x = some .local) (hl : F.h₀.IsList a its) (hd : (x == ("__debug__" : Str)) = false := by decide)
    (hsub : ∀ l k, subscripted (.Slice none (some (.Constant (.int (N : Nat)) kk cp)) none sp) false (.ref l) (.ref k) = operate [.ref k, .ref l] (getItem (.ref l) (.ref k)) := by intro _ _; rfl) :
    Ev S F (eval (.Subscript (.Name x xp) (.Slice none (some (.Constant (.int (N : Nat)) kk cp)) none sp) pos) F.env) er (fun m H k => m x = some (.ref a) ∧ its.size ≤ 10000 ∧ PT.newList ((its.toList.map er).take N) m H k) := fun m H k s E st ⟨hx, hz, hz2, hk'⟩ =>
  Subscript_ ((ev_local hF hk hd).use (P := fun u m1 H1 => u = .ref a ∧ m1 = m ∧ H = H1) st ⟨.ref a, hx, rfl, rfl, rfl⟩ fun o m1 H1 s1 st1 sm1 ⟨e1, e2, e3⟩ => wpAny_Slice (evo_none.use (P := fun u m2 H2 => u = .none ∧ m2 = m1 ∧ H2 = H1) st1 ⟨rfl, rfl, rfl⟩ fun l m2 H2 s2 st2 sm2 ⟨a1, a2, a3⟩ =>
    (evo_some ev_constInt).use (P := fun u m3 H3 => u = .int (N : Nat) ∧ m3 = m2 ∧ H3 = H2) st2 ⟨rfl, rfl, rfl⟩ fun u m3 H3 s3 st3 sm3 ⟨b1, b2, b3⟩ => evo_none.use (P := fun u m4 H4 => u = .none ∧ m4 = m3 ∧ H4 = H3) st3 ⟨rfl, rfl, rfl⟩ fun t m4 H4 s4 st4 sm4 ⟨c1, c2, c3⟩ => by
    subst e2 e3 a2 a3 b2 b3 c2 c3
    obtain rfl := er_ref e1
    obtain rfl := er_none a1
    obtain ⟨tu, rfl⟩ := er_int b1
    obtain rfl := er_none c1
    have li := list0 st4 hl
    have l2 : ({ s4 with heap := s4.heap.push { cls := .type "slice", data := .fields #[.none, .int (N : Nat) tu, .none] } } : Shared).heap.IsList a its := li.push _
    refine tail_any l2.typeIs slot_list_getitem.lookup (wpAny_getItem_list_slice l2 (Heap.IsSliceOf.new ..) .none (.int _ _) .none (by simp) ?_ (size_line_le (by lia))) (hsub _ _)
    have st5 : St F m4 H4 { s4 with heap := s4.heap.push { cls := .type "slice", data := .fields #[.none, .int (N : Nat) tu, .none] } } := st4.ext (tk := s4.toks) st4.offNew fun b o _ hb => Heap.get?_push_of_some _ hb
    have off := st5.offNew
    have st6 := st5.ext (h' := (s4.heap.push { cls := .type "slice", data := .fields #[.none, .int (N : Nat) tu, .none] }).push { cls := .type "list", data := .seq (slicePick its none (some (N : Nat)) none) }) (tk := s4.toks) off fun b o _ hb => Heap.get?_push_of_some _ hb
    refine ⟨m4, H4.set _ (.list ((its.toList.map er).take N)), st6.know (Heap.get?_push_size _ rfl) ⟨_, 0, rfl, ?_⟩ off.L off.h0 off.cell off.loc off.p, (((sm1.trans sm2).trans sm3).trans sm4).trans .of, hk' _ off.h⟩
    rw [pick_take _ (by lia)]
    simp [List.map_take]))
/-! ### rules for a frame in which something is handled -/
theorem evW_local (hkind : F.env.scope.kind = .function) (hL : F.env.locals = F.L) (hk : F.env.scope.names.lookup x = some .local) (hd : (x == ("__debug__" : Str)) = false := by decide) :
    Ev S F (eval (.Name x pos) F.env) er (PT.get x) := by
  intro m H k s E st ⟨v, hv, hkv⟩
  refine wpAny_Name ?_ hd
  obtain ⟨mc, fr, hm, _⟩ := st.fr
  have h1 := hm hL x hk
  rw [hv] at h1
  cases hmx : mc x with
  | none => rw [hmx] at h1; cases h1
  | some u =>
    rw [hmx] at h1
    cases h1
    exact wpAny_loadName_local hkind hk (hL ▸ fr.ns) hmx ⟨m, H, st, .refl _, hkv⟩
theorem evW_callDef {k : Nat} {fa : Addr} {sp : SpecT} {a : Expr} {rest : List Expr} {cs : PT (List V)} (hC : FokC S n F) (hkind : F.env.scope.kind = .function) (hglob : F.env.globals = mainGlobals) (hk : F.env.scope.names.lookup x = some .globalImplicit) (hg : nsIn S.K mainGlobals x = some (some (.ref fa))) (hkp : keepIn S.K (.ref fa) = true)
    (hc : Con S k fa sp) (hkn : k ≤ n) (hargs : EvL S F (a :: rest) pos cs) (hd : (x == ("__debug__" : Str)) = false := by decide)
    (he : starEach (a :: rest) F.env = (false, eval a F.env) :: starEach rest F.env := by rfl) (hplain : (backTo pos (starEach rest F.env)).any (·.1) = false := by rfl) :
    Ev S F (eval (.Call (.Name x xp) (a :: rest) [] pos) F.env) er (cs.bind (PT.spec sp)) := fun m H k' s E st h => by
  obtain ⟨mc, fr, _⟩ := st.fr
  have T := topRead_of hC.top
  refine Call_ (Name_function_global hkind hk (loadGlobal_global (env := F.env) (mg := S.mg) ?_ (mg_of hC.kin T.g hg) ?_) hd) (by rfl)
  · rw [hglob]; exact T.g.keeps fr.keep
  · exact callWith_K hC.kin hkp (hargs.use st h fun vs m2 H2 s2 st2 sm2 h2 => ⟨st2.kinC hC, wpAny_call (hc F (hC.mono hkn) m2 H2 vs _ _ s2 st2 h2 fun v H' s' hk' st' sm => ⟨m2, H', st', sm2.trans sm, hk'⟩)⟩) he hplain
end
/-! ### the catch, with the exception's context known -/
section
variable {M : Model} {A : Around} {E : Value → Shared → Prop} {s : Shared}
theorem looks2 {b : Heap} {env : Env} {outer : List Env} {L e : Addr} {cls a0 : Value} {Q : Unit → Shared → Prop} (hfr : A.frames = some (env :: outer)) (hf : env.frame = some L) (hfl : Heap.FlyingW b (env :: outer) e cls a0 s.heap) (c : C2 e s.heap)
    (hQ : ∀ h', Heap.HeldW b (env :: outer) e cls a0 L h' → s.heap.UpToSlots h' → C2 e h' → Q () { s with heap := h' }) : wpAny M A (noteFrame (.ref e) env) Q E s :=
  wpAny_mono (good_any good_noteFrame c (wpAny_looks_onW (Q := fun _ s' => ∃ h', s' = { s with heap := h' } ∧ Heap.HeldW b (env :: outer) e cls a0 L h' ∧ s.heap.UpToSlots h') (E := fun _ _ => False) hfr hf hfl fun h' a b => ⟨h', rfl, a, b⟩))
    (fun _ s' ⟨⟨h', e1, a, b⟩, c'⟩ => by subst e1; exact hQ h' a b c') fun _ _ h => h.1.elim
theorem lands2 {b : Heap} {l : List Env} {e L : Addr} {cls a0 : Value} {Q : Unit → Shared → Prop} (hh : Heap.HeldW b l e cls a0 L s.heap) (c : C2 e s.heap)
    (hQ : ∀ h', Heap.FlyingW b l e cls a0 h' → s.heap.UpToSlots h' → C2 e h' → Q () { s with heap := h' }) : wpAny M A (setFlight (.ref e) none) Q E s :=
  wpAny_mono (good_any good_setFlight c (wpAny_landsW (Q := fun _ s' => ∃ h', s' = { s with heap := h' } ∧ Heap.FlyingW b l e cls a0 h' ∧ s.heap.UpToSlots h') (E := fun _ _ => False) hh fun h' a b => ⟨h', rfl, a, b⟩))
    (fun _ s' ⟨⟨h', e1, a, b⟩, c'⟩ => by subst e1; exact hQ h' a b c') fun _ _ h => h.1.elim
theorem lands2' {b : Heap} {l : List Env} {e : Addr} {cls a0 : Value} {Q : Unit → Shared → Prop} (hh : Heap.FlyingW b l e cls a0 s.heap) (c : C2 e s.heap)
    (hQ : ∀ h', Heap.FlyingW b l e cls a0 h' → s.heap.UpToSlots h' → C2 e h' → Q () { s with heap := h' }) : wpAny M A (setFlight (.ref e) none) Q E s :=
  wpAny_mono (good_any good_setFlight c (lands_againW (Q := fun _ s' => ∃ h', s' = { s with heap := h' } ∧ Heap.FlyingW b l e cls a0 h' ∧ s.heap.UpToSlots h') (E := fun _ _ => False) hh fun h' a b => ⟨h', rfl, a, b⟩))
    (fun _ s' ⟨⟨h', e1, a, b⟩, c'⟩ => by subst e1; exact hQ h' a b c') fun _ _ h => h.1.elim
end
section
variable {S : Sy} {A₀ : Around} {h₀ h : Heap} {outer : List Env} {L a e t : Addr} {m : Str → Option Value} {name : Str} {scope : Scope} {cd : Value} {s' : Shared} {vs : List Value} {b₀ : Stmt} {suite : List Stmt} {pos np : Pos} {rest : List ExceptHandler} {Q : Flow → Shared → Prop} {news : List (Addr × Obj)} {y : Str}
theorem catch2 (K : Below A₀ h₀ outer h₀) (F : Fr h₀ L h m) (hsm : h.UpToSlots s'.heap) (R : RaisedK h₀ (envOf name scope L a cd :: outer) e (.ref 37) t vs news s'.heap) (c : C2 e s'.heap) (X : S.K.In h₀) (T : TopRead S.p S.loose S.mg S.mb h₀)
    (ex : nsIn S.K mainGlobals y = some (some (.ref 37))) (q : excIn S.K 37 [.type "Exception", .type "BaseException", .type "object"] "Exception.__new__" = true)
    (k : ∀ h', Fr h₀ L h' m → C2 e h' → h₀.get? e = none → e ≠ L → News h₀ L h' news → (∀ q ∈ news, q.1 ≠ e) →
      wpAny S.M ((A₀.deeper (envOf name scope L a cd)).mark (some (.ref e))) (execs (b₀ :: suite) (envOf name scope L a cd)) Q (fun _ _ => False) { s' with heap := h' })
    (hk : scope.kind = .function) (hx : (envOf name scope L a cd).kindOf y = some .globalImplicit) (hd : (y == ("__debug__" : Str)) = false) :
    wpAny S.M (A₀.deeper (envOf name scope L a cd)) (noteFrame (.ref e) (envOf name scope L a cd))
      (fun _ s₂ => wpAny S.M (A₀.deeper (envOf name scope L a cd)) (setFlight (.ref e) none) (fun _ s₃ =>
        wpAny S.M (A₀.deeper (envOf name scope L a cd)) (handleBy (.ref e) (envOf name scope L a cd) (.ExceptHandler (some (.Name y np)) none (b₀ :: suite) pos :: rest)) Q (fun _ _ => False) s₃) (fun _ _ => False) s₂) (fun _ _ => False) s' := by
  obtain ⟨⟨B, hB, hl, hfl, hnew⟩, htup⟩ := R
  have hL : B.get? L = none := by
    obtain ⟨_, ⟨L', _, hf, hn', _⟩, _⟩ := hfl.2.2.1
    obtain rfl : L = L' := Option.some.inj hf
    exact hn'
  refine looks2 (Around.frames_deeper K.stack) rfl hfl c fun h₄ held₄ sm₄ c₄ => ?_
  refine lands2 held₄ c₄ fun h₅ held₅ sm₅ c₅ => ?_
  have up₅ := sm₄.trans sm₅
  have held' := flyingW_base hB held₅
  have F₅ := F.of_stays held'.1 (hsm.trans up₅)
  obtain ⟨ob, hob, hobc⟩ := held'.there
  refine wpAny_handleBy_cons (codeAny_handlers_test (name_K F₅ X T ex ?_ hk hx hd)) (by intro q; cases q)
  obtain ⟨bm, N, nm, qn, bs, hdct, sn, sub, ab, col, dd, k0, k1, k2, k3, k5, mN, hC, hN, hni, TL⟩ := ((own_of_in X T ex q).keeps F₅.keep).obj
  refine wpAny_excMatches_sub_self hC hob hobc (TL.hasType (by decide)) (codeAny_handlers_suite ?_)
  refine lands2' held₅ c₅ fun h₆ fl₆ sm₆ c₆ => ?_
  have fl₆' := flyingW_base hB fl₆
  have F₆ := F.of_stays fl₆'.1 ((hsm.trans up₅).trans sm₆)
  have hne : e ≠ L := by
    rintro rfl
    obtain ⟨o1, es, ep, x1, x2, _⟩ := F₆.ns
    obtain ⟨o2, ws, x3, x4, _⟩ := c₆
    rw [x1] at x3; cases x3
    rw [x2] at x4; cases x4
  have N₆ : News h₀ L h₆ news := fun q hq => ⟨fl₆.1 _ _ (hl q hq).1, (fun z => by have := (hl q hq).1; rw [z, hL] at this; cases this), (hl q hq).2⟩
  have ne₆ : ∀ q ∈ news, q.1 ≠ e := fun q hq z => by
    have := (hl q hq).1
    rw [z, fl₆.2.1] at this; cases this
  exact wpAny_passesOwnAt .never (k h₆ F₆ c₆ fl₆'.2.1 hne N₆ ne₆)
end
end Mine
end
section
open PySem PySem.W PySem.Calls PySem.Spec PyProof.Rows
set_option maxRecDepth 100000
set_option linter.unusedVariables false
namespace Mine
noncomputable def LawEnd (h₀ : Heap) (L : Addr) (s s' : Shared) (f : Flow) : Prop := f = .ret (.bool true) ∧ Same s s' ∧ (∃ mc, Fr h₀ L s'.heap mc) ∧ ∃ ps, News h₀ L s'.heap [(279, tabObj ps)]
noncomputable def EvL0 (S : Sy) (F : Fx) (t : Sem Flow) (c : MM → HH → Prop) : Prop := ∀ m H s, St F m H s → c m H → wpAny S.M F.A t (fun f s' => LawEnd F.h₀ F.L s s' f) (fun _ _ => False) s
section
variable {S : Sy} {F : Fx} {n : Nat}
theorem exsL_cons {st₁ : Stmt} {rest : List Stmt} {c1 : PT Fl} {c2 : MM → HH → Prop} (h1 : Ev S F (exec st₁ F.env) erF c1) (h2 : EvL0 S F (execs rest F.env) c2) :
    EvL0 S F (execs (st₁ :: rest) F.env) (fun m H => c1 m H fun f m1 H1 => f = .next ∧ c2 m1 H1) := fun m H s st h =>
  wpAny_execs_cons (h1.use st h fun f m1 H1 s1 st1 sm1 ⟨e, k1⟩ => by
    cases f with
    | next => exact wpAny_mono (h2 m1 H1 s1 st1 k1) (fun f s' ⟨a1, a2, a3, a4⟩ => ⟨a1, sm1.trans a2, a3, a4⟩) fun _ _ x => x
    | brk => cases e
    | cont => cases e
    | ret v => cases e)
noncomputable abbrev fxH (A₀ : Around) (env : Env) (h₀ : Heap) (L e : Addr) (oe : Obj) : Fx := ⟨(A₀.deeper env).mark (some (.ref e)), env, h₀, L, fun _ => none, [(e, oe)]⟩
theorem exsL_try {A₀ : Around} {h₀ : Heap} {L fa : Addr} {qual : Str} {scope : Scope} {cdv : Value} {b0 b1 r0 : Stmt} {y : Str} {np hp tp : Pos} {cR : PT Unit} {cH : PT Fl}
    (hF : Fok S n (fx0 A₀ (envOf qual scope L fa cdv) h₀ L)) (cx : Cx S (fx0 A₀ (envOf qual scope L fa cdv) h₀ L) A₀ h₀ [] (envOf qual scope L fa cdv)) (hk : scope.kind = .function)
    (hb : EvR S (fx0 A₀ (envOf qual scope L fa cdv) h₀ L) h₀ [] (envOf qual scope L fa cdv) (exec b0 (envOf qual scope L fa cdv)) cR)
    (hh : ∀ e oe, FokC S n (fxH A₀ (envOf qual scope L fa cdv) h₀ L e oe) → Ev S (fxH A₀ (envOf qual scope L fa cdv) h₀ L e oe) (execs [r0] (envOf qual scope L fa cdv)) erF cH)
    (ex : nsIn S.K mainGlobals y = some (some (.ref 37))) (q : excIn S.K 37 [.type "Exception", .type "BaseException", .type "object"] "Exception.__new__" = true) (hx : (envOf qual scope L fa cdv).kindOf y = some .globalImplicit) (hd : (y == ("__debug__" : Str)) = false := by decide) :
    EvL0 S (fx0 A₀ (envOf qual scope L fa cdv) h₀ L) (execs [.Try [b0, b1] [.ExceptHandler (some (.Name y np)) none [r0] hp] [] [] tp] (envOf qual scope L fa cdv))
      (fun m H => cR m H fun _ m1 H1 => cH m1 H1 fun f _ H2 => f = .ret (.bool true) ∧ ∃ ps, H2 279 = some (.raw (tabObj ps))) := by
  intro m H s st h
  refine wpAny_execs_cons (wpAny_Try_except (wpAny_execs_cons (hb m H _ s _ _ st h fun e m1 H1 s1 rs c2 hk1 sm1 => ?_)))
  obtain ⟨G, mc, t, ws, news, fr, x1, R, up, kn, _⟩ := rs
  refine catch2 (A₀ := A₀) (S := S) cx.below fr up R.toK c2 cx.kb (topRead_of cx.tb) ex q (fun h' F' c3 e0 eL N' ne => ?_) hk hx hd
  obtain ⟨oe, wse, g1, g2, g3⟩ := c3
  have hC : FokC S n (fxH A₀ (envOf qual scope L fa cdv) h₀ L e oe) :=
    ⟨⟨A₀, h₀, [], envOf qual scope L fa cdv, cx.below, cx.frames, rfl, hk⟩, hF.kin, hF.top, .inr ⟨e, oe, wse, rfl, .head _, g2, g3⟩, hF.room⟩
  have st' : St (fxH A₀ (envOf qual scope L fa cdv) h₀ L e oe) m1 H1 { s1 with heap := h' } := by
    refine ⟨⟨mc, F', x1, fun hne => absurd rfl hne⟩, fun hne => absurd rfl hne, fun x ca hx => (nomatch hx), fun a o ha => ?_, fun p hp => ?_⟩
    · obtain ⟨ob, w1, w2⟩ := kn a o ha
      exact ⟨ob, (N' _ w1).1, w2, (N' _ w1).2.1, (N' _ w1).2.2⟩
    · rcases List.mem_singleton.mp hp with rfl
      refine ⟨g1, eL, ?_, eL, fun x hx => nomatch hx⟩
      cases z : H1 e with
      | none => rfl
      | some o =>
        obtain ⟨ob, w1, _⟩ := kn e o z
        exact absurd rfl (ne _ w1)
  refine wpAny_mono (hh e oe hC m1 H1 _ _ (fun _ _ => False) st' hk1) (fun f s2 ⟨m2, H2, st2, sm2, hf, ps, hps⟩ => ?_) fun _ _ x => x
  have hf' : f = .ret (.bool true) := by
    cases f with
    | ret v =>
      have e1 : er v = .bool true := by injection hf
      rw [er_bool e1]
    | next => cases hf
    | brk => cases hf
    | cont => cases hf
  subst hf'
  obtain ⟨ob, w1, w2, w3, w4⟩ := st2.he 279 _ hps
  have w2' : ob = tabObj ps := w2
  subst w2'
  obtain ⟨mc2, fr2, _⟩ := st2.fr
  exact ⟨rfl, (sm1.trans ⟨h', _, rfl⟩).trans sm2, ⟨mc2, fr2⟩, ps, fun p hp => by
    rcases List.mem_singleton.mp hp with rfl
    exact ⟨w1, w3, w4⟩⟩
/-- what is shown of law's body -/
noncomputable def LawOk (S : Sy) (body : List Stmt) (scope : Scope) (qual : Str) : Prop := ∀ (fa : Addr) (cdv : Value) (A₀ : Around) (h₀ : Heap) (L : Addr) (s : Shared) (a : Addr) (its : Array Value) (zs : List Int) (mc : Str → Option Value),
  Below A₀ h₀ [] h₀ → A₀.handled = none → Room 12 A₀ → S.K.In h₀ → Top S.p S.loose S.mean S.mg S.mb h₀ → Fr h₀ L s.heap mc → mc (Str.ofString "script") = some (.ref a) → News h₀ L s.heap [(279, tabObj #[])] →
  h₀.IsList a its → its.toList.map er = zs.map V.int → zs.length ≤ 63 →
  wpAny S.M (A₀.deeper (envOf qual scope L fa cdv)) (execs body (envOf qual scope L fa cdv)) (fun f s' => LawEnd h₀ L s s' f) (fun _ _ => False) s
theorem law_of {qual : Str} {body : List Stmt} {scope : Scope} {c : Addr → Nat → MM → HH → Prop}
    (hk : scope.kind = .function)
    (hbody : ∀ (fa : Addr) (cdv : Value) (A₀ : Around) (h₀ : Heap) (L a : Addr) (its : Array Value), Fok S 10 (fx0 A₀ (envOf qual scope L fa cdv) h₀ L) → Cx S (fx0 A₀ (envOf qual scope L fa cdv) h₀ L) A₀ h₀ [] (envOf qual scope L fa cdv) → h₀.IsList a its →
      ∀ zs : List Int, its.toList.map er = zs.map V.int → zs.length ≤ 63 →
      EvL0 S (fx0 A₀ (envOf qual scope L fa cdv) h₀ L) (execs body (envOf qual scope L fa cdv)) (fun m H => m (Str.ofString "script") = some (.ref a) ∧ H 279 = some (.raw (tabObj #[])))) : LawOk S body scope qual := by
  intro fa cdv A₀ h₀ L s a its zs mc B hh hr X T fr hm N li hz hlen
  have hF : Fok S 10 (fx0 A₀ (envOf qual scope L fa cdv) h₀ L) := ⟨⟨A₀, h₀, [], envOf qual scope L fa cdv, B, Around.frames_deeper B.stack, rfl, hk⟩, X, T, .inl hh, ⟨by have := hr.1; show A₀.depth + 1 + 4 * 10 ≤ 900; lia, by have := hr.2; show A₀.units + 3 + 40 * 10 ≤ 9000; lia⟩, hk, rfl, rfl, fun x y ca hx => (nomatch hx), fun x ca hx => (nomatch hx)⟩
  have cx : Cx S (fx0 A₀ (envOf qual scope L fa cdv) h₀ L) A₀ h₀ [] (envOf qual scope L fa cdv) := ⟨B, Around.frames_deeper B.stack, rfl, hk, X, T, hh, fun b hb => (nomatch hb)⟩
  have st : St (fx0 A₀ (envOf qual scope L fa cdv) h₀ L) (fun x => (mc x).map er) (fun b => if b = 279 then some (.raw (tabObj #[])) else none) s := by
    refine ⟨⟨mc, fr, fun _ _ _ => rfl, fun hne => absurd rfl hne⟩, fun hne => absurd rfl hne, fun x ca hx => (nomatch hx), fun b o hb => ?_, fun p hp => (nomatch hp)⟩
    split at hb
    · rename_i e
      cases hb
      subst e
      have := N _ (.head _)
      exact ⟨_, this.1, rfl, this.2.1, this.2.2⟩
    · cases hb
  refine hbody fa cdv A₀ h₀ L a its hF cx li zs hz hlen _ _ s st ⟨?_, rfl⟩
  show (mc (Str.ofString "script")).map er = _
  rw [hm]; rfl
end
theorem law_join {S : Sy} {body : List Stmt} {scope : Scope} {qual : Str} {Q : Flow → Shared → Prop} {E : Value → Shared → Prop} {s : Shared} {a fa L : Addr} {its : List Value} {zs : List Int} {cdv : Value} {h₀ : Heap} {mc : Str → Option Value}
    (hl : LawOk S body scope qual) (B : Below callerA h₀ [] h₀) (X : S.K.In h₀) (T : Top S.p S.loose S.mean S.mg S.mb h₀) (fr : Fr h₀ L s.heap mc) (hm : mc (Str.ofString "script") = some (.ref a)) (N : News h₀ L s.heap [(279, tabObj #[])])
    (li : h₀.IsList a its.toArray) (hI : IntsAre its zs) (hlen : ¬ ((63 : Nat) : Int) < ((zs.length : Nat) : Int))
    (hf : ∀ h tk mc ps, Fr h₀ L h mc → News h₀ L h [(279, tabObj ps)] → Q (.ret (.bool true)) { s with heap := h, toks := tk }) :
    wpAny S.M (callerA.deeper (envOf qual scope L fa cdv)) (execs body (envOf qual scope L fa cdv)) Q E s := by
  have hz : its.map er = zs.map V.int := by
    clear li hlen
    induction hI with
    | nil => rfl
    | cons i t _ ih => rw [List.map_cons, List.map_cons, ih]; rfl
  refine wpAny_mono (hl fa cdv callerA h₀ L s a its.toArray zs mc B rfl ⟨by decide, by decide⟩ X T fr hm N li hz (by lia)) (fun f s' ⟨a1, a2, ⟨mc', a3⟩, ps, a4⟩ => ?_) fun _ _ h => h.elim
  subst a1
  obtain ⟨h', t', rfl⟩ := a2
  exact hf h' t' mc' ps a3 a4
end Mine
end
section
open PySem PySem.W PySem.Calls PySem.Spec PyProof.Rows
set_option maxRecDepth 100000
set_option linter.unusedVariables false
set_option linter.unusedSimpArgs false
namespace Mine
/-! # What is known of the heap's written part, and where the program's defs stand -/
theorem fn1 {α : Type} {P : List α → Prop} (h : ∀ a, P [a]) : ∀ vs : List α, vs.length = 1 → P vs
  | [a], _ => h a
theorem fn2 {α : Type} {P : List α → Prop} (h : ∀ a b, P [a, b]) : ∀ vs : List α, vs.length = 2 → P vs
  | [a, b], _ => h a b
theorem fn3 {α : Type} {P : List α → Prop} (h : ∀ a b c, P [a, b, c]) : ∀ vs : List α, vs.length = 3 → P vs
  | [a, b, c], _ => h a b c
theorem fn4 {α : Type} {P : List α → Prop} (h : ∀ a b c d, P [a, b, c, d]) : ∀ vs : List α, vs.length = 4 → P vs
  | [a, b, c, d], _ => h a b c d
theorem fn7 {α : Type} {P : List α → Prop} (h : ∀ a b c d e f g, P [a, b, c, d, e, f, g]) : ∀ vs : List α, vs.length = 7 → P vs
  | [a, b, c, d, e, f, g], _ => h a b c d e f g
noncomputable def stAt (l : List Stmt) (i : Nat) : Stmt := (l[i]?).getD (.Pass default)
noncomputable def stm (i : Nat) : Stmt := stAt PySem.Challenge.pw_nn0020_01.main.body i
noncomputable def mth (i j : Nat) : Stmt := match stm i with
  | .ClassDef _ _ _ b _ _ _ _ _ _ _ => stAt b j
  | s => s
noncomputable def fnParts : Stmt → Str × Arguments × List Stmt × Scope
  | .FunctionDef n a b _ _ _ s _ _ _ => (n, a, b, s)
  | _ => (Str.ofString "", ⟨[], [], none, [], [], none, []⟩, [], ⟨.function, [], false, false, []⟩)
noncomputable def dName (s : Stmt) : Str := (fnParts s).1
noncomputable def dParams (s : Stmt) : Arguments := (fnParts s).2.1
noncomputable def dBody (s : Stmt) : List Stmt := (fnParts s).2.2.1
noncomputable def dScope (s : Stmt) : Scope := (fnParts s).2.2.2
inductive FnAt (K : Frag) (fa : Addr) (qual : Str) (st : Stmt) (cdv : Value) : Prop
  | mk (oc doc pm ct : Value) (od an : Option Addr) (osl : Array (Option Value))
      (ho : K.lookup fa = some ⟨oc, od, .func (fnOf (dName st) qual (dParams st) (dBody st) (dScope st) .none .none doc pm an cdv ct), osl⟩) (hcd : codeIn K cdv qual = true) : FnAt K fa qual st cdv
noncomputable def GoodK (K : Frag) : Prop :=
  (nsIn K mainGlobals (Str.ofString "len") = some none) ∧
  (nsIn K mainGlobals (Str.ofString "range") = some none) ∧
  (nsIn K mainGlobals (Str.ofString "reversed") = some none) ∧
  (nsIn K mainGlobals (Str.ofString "list") = some none) ∧
  (nsIn K mainGlobals (Str.ofString "tuple") = some none) ∧
  (nsIn K mainGlobals (Str.ofString "min") = some none) ∧
  (nsIn K mainGlobals (Str.ofString "max") = some none) ∧
  (nsIn K mainGlobals (Str.ofString "abs") = some none) ∧
  (nsIn K mainGlobals (Str.ofString "sum") = some none) ∧
  (nsIn K mainGlobals (Str.ofString "sorted") = some none) ∧
  (nsIn K mainGlobals (Str.ofString "enumerate") = some none) ∧
  (nsIn K mainGlobals (Str.ofString "normal") = some (some (.ref 46))) ∧
  (keepIn K (.ref 46) = true) ∧
  (nsIn K mainGlobals (Str.ofString "compare") = some (some (.ref 53))) ∧
  (keepIn K (.ref 53) = true) ∧
  (nsIn K mainGlobals (Str.ofString "add") = some (some (.ref 60))) ∧
  (keepIn K (.ref 60) = true) ∧
  (nsIn K mainGlobals (Str.ofString "sub") = some (some (.ref 67))) ∧
  (keepIn K (.ref 67) = true) ∧
  (nsIn K mainGlobals (Str.ofString "shift_left") = some (some (.ref 74))) ∧
  (keepIn K (.ref 74) = true) ∧
  (nsIn K mainGlobals (Str.ofString "shift_right") = some (some (.ref 81))) ∧
  (keepIn K (.ref 81) = true) ∧
  (nsIn K mainGlobals (Str.ofString "bits") = some (some (.ref 88))) ∧
  (keepIn K (.ref 88) = true) ∧
  (nsIn K mainGlobals (Str.ofString "low") = some (some (.ref 95))) ∧
  (keepIn K (.ref 95) = true) ∧
  (nsIn K mainGlobals (Str.ofString "random_bits") = some (some (.ref 193))) ∧
  (keepIn K (.ref 193) = true) ∧
  (nsIn K mainGlobals (Str.ofString "random_below") = some (some (.ref 200))) ∧
  (keepIn K (.ref 200) = true) ∧
  (nsIn K mainGlobals (Str.ofString "small_below") = some (some (.ref 207))) ∧
  (keepIn K (.ref 207) = true) ∧
  (nsIn K mainGlobals (Str.ofString "small_number") = some (some (.ref 214))) ∧
  (keepIn K (.ref 214) = true) ∧
  (nsIn K mainGlobals (Str.ofString "row_lengths") = some (some (.ref 221))) ∧
  (keepIn K (.ref 221) = true) ∧
  (nsIn K mainGlobals (Str.ofString "random_rows") = some (some (.ref 228))) ∧
  (keepIn K (.ref 228) = true) ∧
  (nsIn K mainGlobals (Str.ofString "ones") = some (some (.ref 235))) ∧
  (keepIn K (.ref 235) = true) ∧
  (nsIn K mainGlobals (Str.ofString "shuffled") = some (some (.ref 242))) ∧
  (keepIn K (.ref 242) = true) ∧
  (nsIn K mainGlobals (Str.ofString "_law_nat") = some (some (.ref 249))) ∧
  (keepIn K (.ref 249) = true) ∧
  (nsIn K mainGlobals (Str.ofString "_law_value") = some (some (.ref 256))) ∧
  (keepIn K (.ref 256) = true) ∧
  (nsIn K mainGlobals (Str.ofString "_law_mul") = some (some (.ref 263))) ∧
  (keepIn K (.ref 263) = true) ∧
  (nsIn K mainGlobals (Str.ofString "_law_congruence_right") = some (some (.ref 270))) ∧
  (keepIn K (.ref 270) = true) ∧
  (nsIn K mainGlobals (Str.ofString "_law_refused") = some (some (.ref 277))) ∧
  (keepIn K (.ref 277) = true) ∧
  (nsIn K mainGlobals (Str.ofString "_law_lagged_right") = some (some (.ref 282))) ∧
  (keepIn K (.ref 282) = true) ∧
  (nsIn K mainGlobals (Str.ofString "_law_draws_right") = some (some (.ref 287))) ∧
  (keepIn K (.ref 287) = true) ∧
  (nsIn K mainGlobals (Str.ofString "_law_even") = some (some (.ref 292))) ∧
  (keepIn K (.ref 292) = true) ∧
  (nsIn K mainGlobals (Str.ofString "_law_rows_right") = some (some (.ref 297))) ∧
  (keepIn K (.ref 297) = true) ∧
  (nsIn K mainGlobals (Str.ofString "Congruence") = some (some (.ref 126))) ∧
  (keepIn K (.ref 126) = true) ∧
  (nsIn K mainGlobals (Str.ofString "Lagged") = some (some (.ref 154))) ∧
  (keepIn K (.ref 154) = true) ∧
  (nsIn K mainGlobals (Str.ofString "ToldRow") = some (some (.ref 182))) ∧
  (keepIn K (.ref 182) = true) ∧
  (∃ t, nsIn K mainGlobals (Str.ofString "TRIES") = some (some (.int 80 t))) ∧
  (AttrsOk K (Str.ofString "a")) ∧
  (AttrsOk K (Str.ofString "c")) ∧
  (AttrsOk K (Str.ofString "width")) ∧
  (AttrsOk K (Str.ofString "state")) ∧
  (AttrsOk K (Str.ofString "w")) ∧
  (AttrsOk K (Str.ofString "mul")) ∧
  (AttrsOk K (Str.ofString "row")) ∧
  (AttrsOk K (Str.ofString "place")) ∧
  (AttrsOk K (Str.ofString "numbers")) ∧
  (AttrsOk K (Str.ofString "many")) ∧
  (AttrsOk K (Str.ofString "at")) ∧
  (makesIn K 126 = true) ∧
  (findIn K (.ref 126) "__init__" = some (some (.ref 109))) ∧
  (isFn K (.ref 109) = true) ∧
  (MethOk K 126 (Str.ofString "step") 116) ∧
  (MethOk K 126 (Str.ofString "take") 123) ∧
  (makesIn K 154 = true) ∧
  (findIn K (.ref 154) "__init__" = some (some (.ref 144))) ∧
  (isFn K (.ref 144) = true) ∧
  (MethOk K 154 (Str.ofString "take") 151) ∧
  (makesIn K 182 = true) ∧
  (findIn K (.ref 182) "__init__" = some (some (.ref 172))) ∧
  (isFn K (.ref 172) = true) ∧
  (MethOk K 182 (Str.ofString "take") 179) ∧
  (nsIn K mainGlobals (Str.ofString "OutOfRange") = some (some (.ref 37))) ∧
  (excIn K 37 [.type "Exception", .type "BaseException", .type "object"] "Exception.__new__" = true) ∧
  (ktsIn K 37 "BaseException" = true) ∧
  (codeHdIn K 281 279 = true) ∧
  (FnAt K 46 "normal" (stm 3) (.ref 45)) ∧
  (FnAt K 53 "compare" (stm 4) (.ref 52)) ∧
  (FnAt K 60 "add" (stm 5) (.ref 59)) ∧
  (FnAt K 67 "sub" (stm 6) (.ref 66)) ∧
  (FnAt K 74 "shift_left" (stm 7) (.ref 73)) ∧
  (FnAt K 81 "shift_right" (stm 8) (.ref 80)) ∧
  (FnAt K 88 "bits" (stm 9) (.ref 87)) ∧
  (FnAt K 95 "low" (stm 10) (.ref 94)) ∧
  (FnAt K 109 "Congruence.__init__" (mth 13 0) (.ref 108)) ∧
  (FnAt K 116 "Congruence.step" (mth 13 1) (.ref 115)) ∧
  (FnAt K 123 "Congruence.take" (mth 13 2) (.ref 122)) ∧
  (FnAt K 144 "Lagged.__init__" (mth 14 0) (.ref 143)) ∧
  (FnAt K 151 "Lagged.take" (mth 14 1) (.ref 150)) ∧
  (FnAt K 172 "ToldRow.__init__" (mth 15 0) (.ref 171)) ∧
  (FnAt K 179 "ToldRow.take" (mth 15 1) (.ref 178)) ∧
  (FnAt K 193 "random_bits" (stm 16) (.ref 192)) ∧
  (FnAt K 200 "random_below" (stm 17) (.ref 199)) ∧
  (FnAt K 207 "small_below" (stm 18) (.ref 206)) ∧
  (FnAt K 214 "small_number" (stm 19) (.ref 213)) ∧
  (FnAt K 221 "row_lengths" (stm 20) (.ref 220)) ∧
  (FnAt K 228 "random_rows" (stm 21) (.ref 227)) ∧
  (FnAt K 235 "ones" (stm 22) (.ref 234)) ∧
  (FnAt K 242 "shuffled" (stm 23) (.ref 241)) ∧
  (FnAt K 249 "_law_nat" (stm 25) (.ref 248)) ∧
  (FnAt K 256 "_law_value" (stm 26) (.ref 255)) ∧
  (FnAt K 263 "_law_mul" (stm 27) (.ref 262)) ∧
  (FnAt K 270 "_law_congruence_right" (stm 28) (.ref 269)) ∧
  (FnAt K 277 "_law_refused" (stm 29) (.ref 276)) ∧
  (FnAt K 282 "_law_lagged_right" (stm 30) (.ref 281)) ∧
  (FnAt K 287 "_law_draws_right" (stm 31) (.ref 286)) ∧
  (FnAt K 292 "_law_even" (stm 32) (.ref 291)) ∧
  (FnAt K 297 "_law_rows_right" (stm 33) (.ref 296)) ∧
  (FnAt K 302 "law" (stm 34) (.ref 301)) ∧ True
section
variable {K : Frag} (hK : GoodK K)
include hK
theorem n_len : nsIn K mainGlobals (Str.ofString "len") = some none := hK.1
theorem n_range : nsIn K mainGlobals (Str.ofString "range") = some none := hK.2.1
theorem n_reversed : nsIn K mainGlobals (Str.ofString "reversed") = some none := hK.2.2.1
theorem n_list : nsIn K mainGlobals (Str.ofString "list") = some none := hK.2.2.2.1
theorem n_tuple : nsIn K mainGlobals (Str.ofString "tuple") = some none := hK.2.2.2.2.1
theorem n_min : nsIn K mainGlobals (Str.ofString "min") = some none := hK.2.2.2.2.2.1
theorem n_max : nsIn K mainGlobals (Str.ofString "max") = some none := hK.2.2.2.2.2.2.1
theorem n_abs : nsIn K mainGlobals (Str.ofString "abs") = some none := hK.2.2.2.2.2.2.2.1
theorem n_sum : nsIn K mainGlobals (Str.ofString "sum") = some none := hK.2.2.2.2.2.2.2.2.1
theorem n_sorted : nsIn K mainGlobals (Str.ofString "sorted") = some none := hK.2.2.2.2.2.2.2.2.2.1
theorem n_enumerate : nsIn K mainGlobals (Str.ofString "enumerate") = some none := hK.2.2.2.2.2.2.2.2.2.2.1
theorem g_normal : nsIn K mainGlobals (Str.ofString "normal") = some (some (.ref 46)) := hK.2.2.2.2.2.2.2.2.2.2.2.1
theorem k_normal : keepIn K (.ref 46) = true := hK.2.2.2.2.2.2.2.2.2.2.2.2.1
theorem g_compare : nsIn K mainGlobals (Str.ofString "compare") = some (some (.ref 53)) := hK.2.2.2.2.2.2.2.2.2.2.2.2.2.1
theorem k_compare : keepIn K (.ref 53) = true := hK.2.2.2.2.2.2.2.2.2.2.2.2.2.2.1
theorem g_add : nsIn K mainGlobals (Str.ofString "add") = some (some (.ref 60)) := hK.2.2.2.2.2.2.2.2.2.2.2.2.2.2.2.1
theorem k_add : keepIn K (.ref 60) = true := hK.2.2.2.2.2.2.2.2.2.2.2.2.2.2.2.2.1
theorem g_sub : nsIn K mainGlobals (Str.ofString "sub") = some (some (.ref 67)) := hK.2.2.2.2.2.2.2.2.2.2.2.2.2.2.2.2.2.1
theorem k_sub : keepIn K (.ref 67) = true := hK.2.2.2.2.2.2.2.2.2.2.2.2.2.2.2.2.2.2.1
theorem g_shift_left : nsIn K mainGlobals (Str.ofString "shift_left") = some (some (.ref 74)) := hK.2.2.2.2.2.2.2.2.2.2.2.2.2.2.2.2.2.2.2.1
theorem k_shift_left : keepIn K (.ref 74) = true := hK.2.2.2.2.2.2.2.2.2.2.2.2.2.2.2.2.2.2.2.2.1
theorem g_shift_right : nsIn K mainGlobals (Str.ofString "shift_right") = some (some (.ref 81)) := hK.2.2.2.2.2.2.2.2.2.2.2.2.2.2.2.2.2.2.2.2.2.1
theorem k_shift_right : keepIn K (.ref 81) = true := hK.2.2.2.2.2.2.2.2.2.2.2.2.2.2.2.2.2.2.2.2.2.2.1
theorem g_bits : nsIn K mainGlobals (Str.ofString "bits") = some (some (.ref 88)) := hK.2.2.2.2.2.2.2.2.2.2.2.2.2.2.2.2.2.2.2.2.2.2.2.1
theorem k_bits : keepIn K (.ref 88) = true := hK.2.2.2.2.2.2.2.2.2.2.2.2.2.2.2.2.2.2.2.2.2.2.2.2.1
theorem g_low : nsIn K mainGlobals (Str.ofString "low") = some (some (.ref 95)) := hK.2.2.2.2.2.2.2.2.2.2.2.2.2.2.2.2.2.2.2.2.2.2.2.2.2.1
theorem k_low : keepIn K (.ref 95) = true := hK.2.2.2.2.2.2.2.2.2.2.2.2.2.2.2.2.2.2.2.2.2.2.2.2.2.2.1
theorem g_random_bits : nsIn K mainGlobals (Str.ofString "random_bits") = some (some (.ref 193)) := hK.2.2.2.2.2.2.2.2.2.2.2.2.2.2.2.2.2.2.2.2.2.2.2.2.2.2.2.1
theorem k_random_bits : keepIn K (.ref 193) = true := hK.2.2.2.2.2.2.2.2.2.2.2.2.2.2.2.2.2.2.2.2.2.2.2.2.2.2.2.2.1
theorem g_random_below : nsIn K mainGlobals (Str.ofString "random_below") = some (some (.ref 200)) := hK.2.2.2.2.2.2.2.2.2.2.2.2.2.2.2.2.2.2.2.2.2.2.2.2.2.2.2.2.2.1
theorem k_random_below : keepIn K (.ref 200) = true := hK.2.2.2.2.2.2.2.2.2.2.2.2.2.2.2.2.2.2.2.2.2.2.2.2.2.2.2.2.2.2.1
theorem g_small_below : nsIn K mainGlobals (Str.ofString "small_below") = some (some (.ref 207)) := hK.2.2.2.2.2.2.2.2.2.2.2.2.2.2.2.2.2.2.2.2.2.2.2.2.2.2.2.2.2.2.2.1
theorem k_small_below : keepIn K (.ref 207) = true := hK.2.2.2.2.2.2.2.2.2.2.2.2.2.2.2.2.2.2.2.2.2.2.2.2.2.2.2.2.2.2.2.2.1
theorem g_small_number : nsIn K mainGlobals (Str.ofString "small_number") = some (some (.ref 214)) := hK.2.2.2.2.2.2.2.2.2.2.2.2.2.2.2.2.2.2.2.2.2.2.2.2.2.2.2.2.2.2.2.2.2.1
theorem k_small_number : keepIn K (.ref 214) = true := hK.2.2.2.2.2.2.2.2.2.2.2.2.2.2.2.2.2.2.2.2.2.2.2.2.2.2.2.2.2.2.2.2.2.2.1
theorem g_row_lengths : nsIn K mainGlobals (Str.ofString "row_lengths") = some (some (.ref 221)) := hK.2.2.2.2.2.2.2.2.2.2.2.2.2.2.2.2.2.2.2.2.2.2.2.2.2.2.2.2.2.2.2.2.2.2.2.1
theorem k_row_lengths : keepIn K (.ref 221) = true := hK.2.2.2.2.2.2.2.2.2.2.2.2.2.2.2.2.2.2.2.2.2.2.2.2.2.2.2.2.2.2.2.2.2.2.2.2.1
theorem g_random_rows : nsIn K mainGlobals (Str.ofString "random_rows") = some (some (.ref 228)) := hK.2.2.2.2.2.2.2.2.2.2.2.2.2.2.2.2.2.2.2.2.2.2.2.2.2.2.2.2.2.2.2.2.2.2.2.2.2.1
theorem k_random_rows : keepIn K (.ref 228) = true := hK.2.2.2.2.2.2.2.2.2.2.2.2.2.2.2.2.2.2.2.2.2.2.2.2.2.2.2.2.2.2.2.2.2.2.2.2.2.2.1
theorem g_ones : nsIn K mainGlobals (Str.ofString "ones") = some (some (.ref 235)) := hK.2.2.2.2.2.2.2.2.2.2.2.2.2.2.2.2.2.2.2.2.2.2.2.2.2.2.2.2.2.2.2.2.2.2.2.2.2.2.2.1
theorem k_ones : keepIn K (.ref 235) = true := hK.2.2.2.2.2.2.2.2.2.2.2.2.2.2.2.2.2.2.2.2.2.2.2.2.2.2.2.2.2.2.2.2.2.2.2.2.2.2.2.2.1
theorem g_shuffled : nsIn K mainGlobals (Str.ofString "shuffled") = some (some (.ref 242)) := hK.2.2.2.2.2.2.2.2.2.2.2.2.2.2.2.2.2.2.2.2.2.2.2.2.2.2.2.2.2.2.2.2.2.2.2.2.2.2.2.2.2.1
theorem k_shuffled : keepIn K (.ref 242) = true := hK.2.2.2.2.2.2.2.2.2.2.2.2.2.2.2.2.2.2.2.2.2.2.2.2.2.2.2.2.2.2.2.2.2.2.2.2.2.2.2.2.2.2.1
theorem g_law_nat : nsIn K mainGlobals (Str.ofString "_law_nat") = some (some (.ref 249)) := hK.2.2.2.2.2.2.2.2.2.2.2.2.2.2.2.2.2.2.2.2.2.2.2.2.2.2.2.2.2.2.2.2.2.2.2.2.2.2.2.2.2.2.2.1
theorem k_law_nat : keepIn K (.ref 249) = true := hK.2.2.2.2.2.2.2.2.2.2.2.2.2.2.2.2.2.2.2.2.2.2.2.2.2.2.2.2.2.2.2.2.2.2.2.2.2.2.2.2.2.2.2.2.1
theorem g_law_value : nsIn K mainGlobals (Str.ofString "_law_value") = some (some (.ref 256)) := hK.2.2.2.2.2.2.2.2.2.2.2.2.2.2.2.2.2.2.2.2.2.2.2.2.2.2.2.2.2.2.2.2.2.2.2.2.2.2.2.2.2.2.2.2.2.1
theorem k_law_value : keepIn K (.ref 256) = true := hK.2.2.2.2.2.2.2.2.2.2.2.2.2.2.2.2.2.2.2.2.2.2.2.2.2.2.2.2.2.2.2.2.2.2.2.2.2.2.2.2.2.2.2.2.2.2.1
theorem g_law_mul : nsIn K mainGlobals (Str.ofString "_law_mul") = some (some (.ref 263)) := hK.2.2.2.2.2.2.2.2.2.2.2.2.2.2.2.2.2.2.2.2.2.2.2.2.2.2.2.2.2.2.2.2.2.2.2.2.2.2.2.2.2.2.2.2.2.2.2.1
theorem k_law_mul : keepIn K (.ref 263) = true := hK.2.2.2.2.2.2.2.2.2.2.2.2.2.2.2.2.2.2.2.2.2.2.2.2.2.2.2.2.2.2.2.2.2.2.2.2.2.2.2.2.2.2.2.2.2.2.2.2.1
theorem g_law_congruence_right : nsIn K mainGlobals (Str.ofString "_law_congruence_right") = some (some (.ref 270)) := hK.2.2.2.2.2.2.2.2.2.2.2.2.2.2.2.2.2.2.2.2.2.2.2.2.2.2.2.2.2.2.2.2.2.2.2.2.2.2.2.2.2.2.2.2.2.2.2.2.2.1
theorem k_law_congruence_right : keepIn K (.ref 270) = true := hK.2.2.2.2.2.2.2.2.2.2.2.2.2.2.2.2.2.2.2.2.2.2.2.2.2.2.2.2.2.2.2.2.2.2.2.2.2.2.2.2.2.2.2.2.2.2.2.2.2.2.1
theorem g_law_refused : nsIn K mainGlobals (Str.ofString "_law_refused") = some (some (.ref 277)) := hK.2.2.2.2.2.2.2.2.2.2.2.2.2.2.2.2.2.2.2.2.2.2.2.2.2.2.2.2.2.2.2.2.2.2.2.2.2.2.2.2.2.2.2.2.2.2.2.2.2.2.2.1
theorem k_law_refused : keepIn K (.ref 277) = true := hK.2.2.2.2.2.2.2.2.2.2.2.2.2.2.2.2.2.2.2.2.2.2.2.2.2.2.2.2.2.2.2.2.2.2.2.2.2.2.2.2.2.2.2.2.2.2.2.2.2.2.2.2.1
theorem g_law_lagged_right : nsIn K mainGlobals (Str.ofString "_law_lagged_right") = some (some (.ref 282)) := hK.2.2.2.2.2.2.2.2.2.2.2.2.2.2.2.2.2.2.2.2.2.2.2.2.2.2.2.2.2.2.2.2.2.2.2.2.2.2.2.2.2.2.2.2.2.2.2.2.2.2.2.2.2.1
theorem k_law_lagged_right : keepIn K (.ref 282) = true := hK.2.2.2.2.2.2.2.2.2.2.2.2.2.2.2.2.2.2.2.2.2.2.2.2.2.2.2.2.2.2.2.2.2.2.2.2.2.2.2.2.2.2.2.2.2.2.2.2.2.2.2.2.2.2.1
theorem g_law_draws_right : nsIn K mainGlobals (Str.ofString "_law_draws_right") = some (some (.ref 287)) := hK.2.2.2.2.2.2.2.2.2.2.2.2.2.2.2.2.2.2.2.2.2.2.2.2.2.2.2.2.2.2.2.2.2.2.2.2.2.2.2.2.2.2.2.2.2.2.2.2.2.2.2.2.2.2.2.1
theorem k_law_draws_right : keepIn K (.ref 287) = true := hK.2.2.2.2.2.2.2.2.2.2.2.2.2.2.2.2.2.2.2.2.2.2.2.2.2.2.2.2.2.2.2.2.2.2.2.2.2.2.2.2.2.2.2.2.2.2.2.2.2.2.2.2.2.2.2.2.1
theorem g_law_even : nsIn K mainGlobals (Str.ofString "_law_even") = some (some (.ref 292)) := hK.2.2.2.2.2.2.2.2.2.2.2.2.2.2.2.2.2.2.2.2.2.2.2.2.2.2.2.2.2.2.2.2.2.2.2.2.2.2.2.2.2.2.2.2.2.2.2.2.2.2.2.2.2.2.2.2.2.1
theorem k_law_even : keepIn K (.ref 292) = true := hK.2.2.2.2.2.2.2.2.2.2.2.2.2.2.2.2.2.2.2.2.2.2.2.2.2.2.2.2.2.2.2.2.2.2.2.2.2.2.2.2.2.2.2.2.2.2.2.2.2.2.2.2.2.2.2.2.2.2.1
theorem g_law_rows_right : nsIn K mainGlobals (Str.ofString "_law_rows_right") = some (some (.ref 297)) := hK.2.2.2.2.2.2.2.2.2.2.2.2.2.2.2.2.2.2.2.2.2.2.2.2.2.2.2.2.2.2.2.2.2.2.2.2.2.2.2.2.2.2.2.2.2.2.2.2.2.2.2.2.2.2.2.2.2.2.2.1
theorem k_law_rows_right : keepIn K (.ref 297) = true := hK.2.2.2.2.2.2.2.2.2.2.2.2.2.2.2.2.2.2.2.2.2.2.2.2.2.2.2.2.2.2.2.2.2.2.2.2.2.2.2.2.2.2.2.2.2.2.2.2.2.2.2.2.2.2.2.2.2.2.2.2.1
theorem g_Congruence : nsIn K mainGlobals (Str.ofString "Congruence") = some (some (.ref 126)) := hK.2.2.2.2.2.2.2.2.2.2.2.2.2.2.2.2.2.2.2.2.2.2.2.2.2.2.2.2.2.2.2.2.2.2.2.2.2.2.2.2.2.2.2.2.2.2.2.2.2.2.2.2.2.2.2.2.2.2.2.2.2.1
theorem k_Congruence : keepIn K (.ref 126) = true := hK.2.2.2.2.2.2.2.2.2.2.2.2.2.2.2.2.2.2.2.2.2.2.2.2.2.2.2.2.2.2.2.2.2.2.2.2.2.2.2.2.2.2.2.2.2.2.2.2.2.2.2.2.2.2.2.2.2.2.2.2.2.2.1
theorem g_Lagged : nsIn K mainGlobals (Str.ofString "Lagged") = some (some (.ref 154)) := hK.2.2.2.2.2.2.2.2.2.2.2.2.2.2.2.2.2.2.2.2.2.2.2.2.2.2.2.2.2.2.2.2.2.2.2.2.2.2.2.2.2.2.2.2.2.2.2.2.2.2.2.2.2.2.2.2.2.2.2.2.2.2.2.1
theorem k_Lagged : keepIn K (.ref 154) = true := hK.2.2.2.2.2.2.2.2.2.2.2.2.2.2.2.2.2.2.2.2.2.2.2.2.2.2.2.2.2.2.2.2.2.2.2.2.2.2.2.2.2.2.2.2.2.2.2.2.2.2.2.2.2.2.2.2.2.2.2.2.2.2.2.2.1
theorem g_ToldRow : nsIn K mainGlobals (Str.ofString "ToldRow") = some (some (.ref 182)) := hK.2.2.2.2.2.2.2.2.2.2.2.2.2.2.2.2.2.2.2.2.2.2.2.2.2.2.2.2.2.2.2.2.2.2.2.2.2.2.2.2.2.2.2.2.2.2.2.2.2.2.2.2.2.2.2.2.2.2.2.2.2.2.2.2.2.1
theorem k_ToldRow : keepIn K (.ref 182) = true := hK.2.2.2.2.2.2.2.2.2.2.2.2.2.2.2.2.2.2.2.2.2.2.2.2.2.2.2.2.2.2.2.2.2.2.2.2.2.2.2.2.2.2.2.2.2.2.2.2.2.2.2.2.2.2.2.2.2.2.2.2.2.2.2.2.2.2.1
theorem g_TRIES : ∃ t, nsIn K mainGlobals (Str.ofString "TRIES") = some (some (.int 80 t)) := hK.2.2.2.2.2.2.2.2.2.2.2.2.2.2.2.2.2.2.2.2.2.2.2.2.2.2.2.2.2.2.2.2.2.2.2.2.2.2.2.2.2.2.2.2.2.2.2.2.2.2.2.2.2.2.2.2.2.2.2.2.2.2.2.2.2.2.2.1
theorem a_a : AttrsOk K (Str.ofString "a") := hK.2.2.2.2.2.2.2.2.2.2.2.2.2.2.2.2.2.2.2.2.2.2.2.2.2.2.2.2.2.2.2.2.2.2.2.2.2.2.2.2.2.2.2.2.2.2.2.2.2.2.2.2.2.2.2.2.2.2.2.2.2.2.2.2.2.2.2.2.1
theorem a_c : AttrsOk K (Str.ofString "c") := hK.2.2.2.2.2.2.2.2.2.2.2.2.2.2.2.2.2.2.2.2.2.2.2.2.2.2.2.2.2.2.2.2.2.2.2.2.2.2.2.2.2.2.2.2.2.2.2.2.2.2.2.2.2.2.2.2.2.2.2.2.2.2.2.2.2.2.2.2.2.1
theorem a_width : AttrsOk K (Str.ofString "width") := hK.2.2.2.2.2.2.2.2.2.2.2.2.2.2.2.2.2.2.2.2.2.2.2.2.2.2.2.2.2.2.2.2.2.2.2.2.2.2.2.2.2.2.2.2.2.2.2.2.2.2.2.2.2.2.2.2.2.2.2.2.2.2.2.2.2.2.2.2.2.2.1
theorem a_state : AttrsOk K (Str.ofString "state") := hK.2.2.2.2.2.2.2.2.2.2.2.2.2.2.2.2.2.2.2.2.2.2.2.2.2.2.2.2.2.2.2.2.2.2.2.2.2.2.2.2.2.2.2.2.2.2.2.2.2.2.2.2.2.2.2.2.2.2.2.2.2.2.2.2.2.2.2.2.2.2.2.1
theorem a_w : AttrsOk K (Str.ofString "w") := hK.2.2.2.2.2.2.2.2.2.2.2.2.2.2.2.2.2.2.2.2.2.2.2.2.2.2.2.2.2.2.2.2.2.2.2.2.2.2.2.2.2.2.2.2.2.2.2.2.2.2.2.2.2.2.2.2.2.2.2.2.2.2.2.2.2.2.2.2.2.2.2.2.1
theorem a_mul : AttrsOk K (Str.ofString "mul") := hK.2.2.2.2.2.2.2.2.2.2.2.2.2.2.2.2.2.2.2.2.2.2.2.2.2.2.2.2.2.2.2.2.2.2.2.2.2.2.2.2.2.2.2.2.2.2.2.2.2.2.2.2.2.2.2.2.2.2.2.2.2.2.2.2.2.2.2.2.2.2.2.2.2.1
theorem a_row : AttrsOk K (Str.ofString "row") := hK.2.2.2.2.2.2.2.2.2.2.2.2.2.2.2.2.2.2.2.2.2.2.2.2.2.2.2.2.2.2.2.2.2.2.2.2.2.2.2.2.2.2.2.2.2.2.2.2.2.2.2.2.2.2.2.2.2.2.2.2.2.2.2.2.2.2.2.2.2.2.2.2.2.2.1
theorem a_place : AttrsOk K (Str.ofString "place") := hK.2.2.2.2.2.2.2.2.2.2.2.2.2.2.2.2.2.2.2.2.2.2.2.2.2.2.2.2.2.2.2.2.2.2.2.2.2.2.2.2.2.2.2.2.2.2.2.2.2.2.2.2.2.2.2.2.2.2.2.2.2.2.2.2.2.2.2.2.2.2.2.2.2.2.2.1
theorem a_numbers : AttrsOk K (Str.ofString "numbers") := hK.2.2.2.2.2.2.2.2.2.2.2.2.2.2.2.2.2.2.2.2.2.2.2.2.2.2.2.2.2.2.2.2.2.2.2.2.2.2.2.2.2.2.2.2.2.2.2.2.2.2.2.2.2.2.2.2.2.2.2.2.2.2.2.2.2.2.2.2.2.2.2.2.2.2.2.2.1
theorem a_many : AttrsOk K (Str.ofString "many") := hK.2.2.2.2.2.2.2.2.2.2.2.2.2.2.2.2.2.2.2.2.2.2.2.2.2.2.2.2.2.2.2.2.2.2.2.2.2.2.2.2.2.2.2.2.2.2.2.2.2.2.2.2.2.2.2.2.2.2.2.2.2.2.2.2.2.2.2.2.2.2.2.2.2.2.2.2.2.1
theorem a_at : AttrsOk K (Str.ofString "at") := hK.2.2.2.2.2.2.2.2.2.2.2.2.2.2.2.2.2.2.2.2.2.2.2.2.2.2.2.2.2.2.2.2.2.2.2.2.2.2.2.2.2.2.2.2.2.2.2.2.2.2.2.2.2.2.2.2.2.2.2.2.2.2.2.2.2.2.2.2.2.2.2.2.2.2.2.2.2.2.1
theorem mk_Congruence : makesIn K 126 = true := hK.2.2.2.2.2.2.2.2.2.2.2.2.2.2.2.2.2.2.2.2.2.2.2.2.2.2.2.2.2.2.2.2.2.2.2.2.2.2.2.2.2.2.2.2.2.2.2.2.2.2.2.2.2.2.2.2.2.2.2.2.2.2.2.2.2.2.2.2.2.2.2.2.2.2.2.2.2.2.2.1
theorem in_Congruence : findIn K (.ref 126) "__init__" = some (some (.ref 109)) := hK.2.2.2.2.2.2.2.2.2.2.2.2.2.2.2.2.2.2.2.2.2.2.2.2.2.2.2.2.2.2.2.2.2.2.2.2.2.2.2.2.2.2.2.2.2.2.2.2.2.2.2.2.2.2.2.2.2.2.2.2.2.2.2.2.2.2.2.2.2.2.2.2.2.2.2.2.2.2.2.2.1
theorem fn_Congruence : isFn K (.ref 109) = true := hK.2.2.2.2.2.2.2.2.2.2.2.2.2.2.2.2.2.2.2.2.2.2.2.2.2.2.2.2.2.2.2.2.2.2.2.2.2.2.2.2.2.2.2.2.2.2.2.2.2.2.2.2.2.2.2.2.2.2.2.2.2.2.2.2.2.2.2.2.2.2.2.2.2.2.2.2.2.2.2.2.2.1
theorem m_Congruence_step : MethOk K 126 (Str.ofString "step") 116 := hK.2.2.2.2.2.2.2.2.2.2.2.2.2.2.2.2.2.2.2.2.2.2.2.2.2.2.2.2.2.2.2.2.2.2.2.2.2.2.2.2.2.2.2.2.2.2.2.2.2.2.2.2.2.2.2.2.2.2.2.2.2.2.2.2.2.2.2.2.2.2.2.2.2.2.2.2.2.2.2.2.2.2.1
theorem m_Congruence_take : MethOk K 126 (Str.ofString "take") 123 := hK.2.2.2.2.2.2.2.2.2.2.2.2.2.2.2.2.2.2.2.2.2.2.2.2.2.2.2.2.2.2.2.2.2.2.2.2.2.2.2.2.2.2.2.2.2.2.2.2.2.2.2.2.2.2.2.2.2.2.2.2.2.2.2.2.2.2.2.2.2.2.2.2.2.2.2.2.2.2.2.2.2.2.2.1
theorem mk_Lagged : makesIn K 154 = true := hK.2.2.2.2.2.2.2.2.2.2.2.2.2.2.2.2.2.2.2.2.2.2.2.2.2.2.2.2.2.2.2.2.2.2.2.2.2.2.2.2.2.2.2.2.2.2.2.2.2.2.2.2.2.2.2.2.2.2.2.2.2.2.2.2.2.2.2.2.2.2.2.2.2.2.2.2.2.2.2.2.2.2.2.2.1
theorem in_Lagged : findIn K (.ref 154) "__init__" = some (some (.ref 144)) := hK.2.2.2.2.2.2.2.2.2.2.2.2.2.2.2.2.2.2.2.2.2.2.2.2.2.2.2.2.2.2.2.2.2.2.2.2.2.2.2.2.2.2.2.2.2.2.2.2.2.2.2.2.2.2.2.2.2.2.2.2.2.2.2.2.2.2.2.2.2.2.2.2.2.2.2.2.2.2.2.2.2.2.2.2.2.1
theorem fn_Lagged : isFn K (.ref 144) = true := hK.2.2.2.2.2.2.2.2.2.2.2.2.2.2.2.2.2.2.2.2.2.2.2.2.2.2.2.2.2.2.2.2.2.2.2.2.2.2.2.2.2.2.2.2.2.2.2.2.2.2.2.2.2.2.2.2.2.2.2.2.2.2.2.2.2.2.2.2.2.2.2.2.2.2.2.2.2.2.2.2.2.2.2.2.2.2.1
theorem m_Lagged_take : MethOk K 154 (Str.ofString "take") 151 := hK.2.2.2.2.2.2.2.2.2.2.2.2.2.2.2.2.2.2.2.2.2.2.2.2.2.2.2.2.2.2.2.2.2.2.2.2.2.2.2.2.2.2.2.2.2.2.2.2.2.2.2.2.2.2.2.2.2.2.2.2.2.2.2.2.2.2.2.2.2.2.2.2.2.2.2.2.2.2.2.2.2.2.2.2.2.2.2.1
theorem mk_ToldRow : makesIn K 182 = true := hK.2.2.2.2.2.2.2.2.2.2.2.2.2.2.2.2.2.2.2.2.2.2.2.2.2.2.2.2.2.2.2.2.2.2.2.2.2.2.2.2.2.2.2.2.2.2.2.2.2.2.2.2.2.2.2.2.2.2.2.2.2.2.2.2.2.2.2.2.2.2.2.2.2.2.2.2.2.2.2.2.2.2.2.2.2.2.2.2.1
theorem in_ToldRow : findIn K (.ref 182) "__init__" = some (some (.ref 172)) := hK.2.2.2.2.2.2.2.2.2.2.2.2.2.2.2.2.2.2.2.2.2.2.2.2.2.2.2.2.2.2.2.2.2.2.2.2.2.2.2.2.2.2.2.2.2.2.2.2.2.2.2.2.2.2.2.2.2.2.2.2.2.2.2.2.2.2.2.2.2.2.2.2.2.2.2.2.2.2.2.2.2.2.2.2.2.2.2.2.2.1
theorem fn_ToldRow : isFn K (.ref 172) = true := hK.2.2.2.2.2.2.2.2.2.2.2.2.2.2.2.2.2.2.2.2.2.2.2.2.2.2.2.2.2.2.2.2.2.2.2.2.2.2.2.2.2.2.2.2.2.2.2.2.2.2.2.2.2.2.2.2.2.2.2.2.2.2.2.2.2.2.2.2.2.2.2.2.2.2.2.2.2.2.2.2.2.2.2.2.2.2.2.2.2.2.1
theorem m_ToldRow_take : MethOk K 182 (Str.ofString "take") 179 := hK.2.2.2.2.2.2.2.2.2.2.2.2.2.2.2.2.2.2.2.2.2.2.2.2.2.2.2.2.2.2.2.2.2.2.2.2.2.2.2.2.2.2.2.2.2.2.2.2.2.2.2.2.2.2.2.2.2.2.2.2.2.2.2.2.2.2.2.2.2.2.2.2.2.2.2.2.2.2.2.2.2.2.2.2.2.2.2.2.2.2.2.1
theorem g_OutOfRange : nsIn K mainGlobals (Str.ofString "OutOfRange") = some (some (.ref 37)) := hK.2.2.2.2.2.2.2.2.2.2.2.2.2.2.2.2.2.2.2.2.2.2.2.2.2.2.2.2.2.2.2.2.2.2.2.2.2.2.2.2.2.2.2.2.2.2.2.2.2.2.2.2.2.2.2.2.2.2.2.2.2.2.2.2.2.2.2.2.2.2.2.2.2.2.2.2.2.2.2.2.2.2.2.2.2.2.2.2.2.2.2.2.1
theorem x_OutOfRange : excIn K 37 [.type "Exception", .type "BaseException", .type "object"] "Exception.__new__" = true := hK.2.2.2.2.2.2.2.2.2.2.2.2.2.2.2.2.2.2.2.2.2.2.2.2.2.2.2.2.2.2.2.2.2.2.2.2.2.2.2.2.2.2.2.2.2.2.2.2.2.2.2.2.2.2.2.2.2.2.2.2.2.2.2.2.2.2.2.2.2.2.2.2.2.2.2.2.2.2.2.2.2.2.2.2.2.2.2.2.2.2.2.2.2.1
theorem t_OutOfRange : ktsIn K 37 "BaseException" = true := hK.2.2.2.2.2.2.2.2.2.2.2.2.2.2.2.2.2.2.2.2.2.2.2.2.2.2.2.2.2.2.2.2.2.2.2.2.2.2.2.2.2.2.2.2.2.2.2.2.2.2.2.2.2.2.2.2.2.2.2.2.2.2.2.2.2.2.2.2.2.2.2.2.2.2.2.2.2.2.2.2.2.2.2.2.2.2.2.2.2.2.2.2.2.2.1
theorem hd_lam : codeHdIn K 281 279 = true := hK.2.2.2.2.2.2.2.2.2.2.2.2.2.2.2.2.2.2.2.2.2.2.2.2.2.2.2.2.2.2.2.2.2.2.2.2.2.2.2.2.2.2.2.2.2.2.2.2.2.2.2.2.2.2.2.2.2.2.2.2.2.2.2.2.2.2.2.2.2.2.2.2.2.2.2.2.2.2.2.2.2.2.2.2.2.2.2.2.2.2.2.2.2.2.2.1
theorem f_normal : FnAt K 46 "normal" (stm 3) (.ref 45) := hK.2.2.2.2.2.2.2.2.2.2.2.2.2.2.2.2.2.2.2.2.2.2.2.2.2.2.2.2.2.2.2.2.2.2.2.2.2.2.2.2.2.2.2.2.2.2.2.2.2.2.2.2.2.2.2.2.2.2.2.2.2.2.2.2.2.2.2.2.2.2.2.2.2.2.2.2.2.2.2.2.2.2.2.2.2.2.2.2.2.2.2.2.2.2.2.2.1
theorem f_compare : FnAt K 53 "compare" (stm 4) (.ref 52) := hK.2.2.2.2.2.2.2.2.2.2.2.2.2.2.2.2.2.2.2.2.2.2.2.2.2.2.2.2.2.2.2.2.2.2.2.2.2.2.2.2.2.2.2.2.2.2.2.2.2.2.2.2.2.2.2.2.2.2.2.2.2.2.2.2.2.2.2.2.2.2.2.2.2.2.2.2.2.2.2.2.2.2.2.2.2.2.2.2.2.2.2.2.2.2.2.2.2.1
theorem f_add : FnAt K 60 "add" (stm 5) (.ref 59) := hK.2.2.2.2.2.2.2.2.2.2.2.2.2.2.2.2.2.2.2.2.2.2.2.2.2.2.2.2.2.2.2.2.2.2.2.2.2.2.2.2.2.2.2.2.2.2.2.2.2.2.2.2.2.2.2.2.2.2.2.2.2.2.2.2.2.2.2.2.2.2.2.2.2.2.2.2.2.2.2.2.2.2.2.2.2.2.2.2.2.2.2.2.2.2.2.2.2.2.1
theorem f_sub : FnAt K 67 "sub" (stm 6) (.ref 66) := hK.2.2.2.2.2.2.2.2.2.2.2.2.2.2.2.2.2.2.2.2.2.2.2.2.2.2.2.2.2.2.2.2.2.2.2.2.2.2.2.2.2.2.2.2.2.2.2.2.2.2.2.2.2.2.2.2.2.2.2.2.2.2.2.2.2.2.2.2.2.2.2.2.2.2.2.2.2.2.2.2.2.2.2.2.2.2.2.2.2.2.2.2.2.2.2.2.2.2.2.1
theorem f_shift_left : FnAt K 74 "shift_left" (stm 7) (.ref 73) := hK.2.2.2.2.2.2.2.2.2.2.2.2.2.2.2.2.2.2.2.2.2.2.2.2.2.2.2.2.2.2.2.2.2.2.2.2.2.2.2.2.2.2.2.2.2.2.2.2.2.2.2.2.2.2.2.2.2.2.2.2.2.2.2.2.2.2.2.2.2.2.2.2.2.2.2.2.2.2.2.2.2.2.2.2.2.2.2.2.2.2.2.2.2.2.2.2.2.2.2.2.1
theorem f_shift_right : FnAt K 81 "shift_right" (stm 8) (.ref 80) := hK.2.2.2.2.2.2.2.2.2.2.2.2.2.2.2.2.2.2.2.2.2.2.2.2.2.2.2.2.2.2.2.2.2.2.2.2.2.2.2.2.2.2.2.2.2.2.2.2.2.2.2.2.2.2.2.2.2.2.2.2.2.2.2.2.2.2.2.2.2.2.2.2.2.2.2.2.2.2.2.2.2.2.2.2.2.2.2.2.2.2.2.2.2.2.2.2.2.2.2.2.2.1
theorem f_bits : FnAt K 88 "bits" (stm 9) (.ref 87) := hK.2.2.2.2.2.2.2.2.2.2.2.2.2.2.2.2.2.2.2.2.2.2.2.2.2.2.2.2.2.2.2.2.2.2.2.2.2.2.2.2.2.2.2.2.2.2.2.2.2.2.2.2.2.2.2.2.2.2.2.2.2.2.2.2.2.2.2.2.2.2.2.2.2.2.2.2.2.2.2.2.2.2.2.2.2.2.2.2.2.2.2.2.2.2.2.2.2.2.2.2.2.2.1
theorem f_low : FnAt K 95 "low" (stm 10) (.ref 94) := hK.2.2.2.2.2.2.2.2.2.2.2.2.2.2.2.2.2.2.2.2.2.2.2.2.2.2.2.2.2.2.2.2.2.2.2.2.2.2.2.2.2.2.2.2.2.2.2.2.2.2.2.2.2.2.2.2.2.2.2.2.2.2.2.2.2.2.2.2.2.2.2.2.2.2.2.2.2.2.2.2.2.2.2.2.2.2.2.2.2.2.2.2.2.2.2.2.2.2.2.2.2.2.2.1
theorem f_Congruence___init__ : FnAt K 109 "Congruence.__init__" (mth 13 0) (.ref 108) := hK.2.2.2.2.2.2.2.2.2.2.2.2.2.2.2.2.2.2.2.2.2.2.2.2.2.2.2.2.2.2.2.2.2.2.2.2.2.2.2.2.2.2.2.2.2.2.2.2.2.2.2.2.2.2.2.2.2.2.2.2.2.2.2.2.2.2.2.2.2.2.2.2.2.2.2.2.2.2.2.2.2.2.2.2.2.2.2.2.2.2.2.2.2.2.2.2.2.2.2.2.2.2.2.2.1
theorem f_Congruence_step : FnAt K 116 "Congruence.step" (mth 13 1) (.ref 115) := hK.2.2.2.2.2.2.2.2.2.2.2.2.2.2.2.2.2.2.2.2.2.2.2.2.2.2.2.2.2.2.2.2.2.2.2.2.2.2.2.2.2.2.2.2.2.2.2.2.2.2.2.2.2.2.2.2.2.2.2.2.2.2.2.2.2.2.2.2.2.2.2.2.2.2.2.2.2.2.2.2.2.2.2.2.2.2.2.2.2.2.2.2.2.2.2.2.2.2.2.2.2.2.2.2.2.1
theorem f_Congruence_take : FnAt K 123 "Congruence.take" (mth 13 2) (.ref 122) := hK.2.2.2.2.2.2.2.2.2.2.2.2.2.2.2.2.2.2.2.2.2.2.2.2.2.2.2.2.2.2.2.2.2.2.2.2.2.2.2.2.2.2.2.2.2.2.2.2.2.2.2.2.2.2.2.2.2.2.2.2.2.2.2.2.2.2.2.2.2.2.2.2.2.2.2.2.2.2.2.2.2.2.2.2.2.2.2.2.2.2.2.2.2.2.2.2.2.2.2.2.2.2.2.2.2.2.1
theorem f_Lagged___init__ : FnAt K 144 "Lagged.__init__" (mth 14 0) (.ref 143) := hK.2.2.2.2.2.2.2.2.2.2.2.2.2.2.2.2.2.2.2.2.2.2.2.2.2.2.2.2.2.2.2.2.2.2.2.2.2.2.2.2.2.2.2.2.2.2.2.2.2.2.2.2.2.2.2.2.2.2.2.2.2.2.2.2.2.2.2.2.2.2.2.2.2.2.2.2.2.2.2.2.2.2.2.2.2.2.2.2.2.2.2.2.2.2.2.2.2.2.2.2.2.2.2.2.2.2.2.1
theorem f_Lagged_take : FnAt K 151 "Lagged.take" (mth 14 1) (.ref 150) := hK.2.2.2.2.2.2.2.2.2.2.2.2.2.2.2.2.2.2.2.2.2.2.2.2.2.2.2.2.2.2.2.2.2.2.2.2.2.2.2.2.2.2.2.2.2.2.2.2.2.2.2.2.2.2.2.2.2.2.2.2.2.2.2.2.2.2.2.2.2.2.2.2.2.2.2.2.2.2.2.2.2.2.2.2.2.2.2.2.2.2.2.2.2.2.2.2.2.2.2.2.2.2.2.2.2.2.2.2.1
theorem f_ToldRow___init__ : FnAt K 172 "ToldRow.__init__" (mth 15 0) (.ref 171) := hK.2.2.2.2.2.2.2.2.2.2.2.2.2.2.2.2.2.2.2.2.2.2.2.2.2.2.2.2.2.2.2.2.2.2.2.2.2.2.2.2.2.2.2.2.2.2.2.2.2.2.2.2.2.2.2.2.2.2.2.2.2.2.2.2.2.2.2.2.2.2.2.2.2.2.2.2.2.2.2.2.2.2.2.2.2.2.2.2.2.2.2.2.2.2.2.2.2.2.2.2.2.2.2.2.2.2.2.2.2.1
theorem f_ToldRow_take : FnAt K 179 "ToldRow.take" (mth 15 1) (.ref 178) := hK.2.2.2.2.2.2.2.2.2.2.2.2.2.2.2.2.2.2.2.2.2.2.2.2.2.2.2.2.2.2.2.2.2.2.2.2.2.2.2.2.2.2.2.2.2.2.2.2.2.2.2.2.2.2.2.2.2.2.2.2.2.2.2.2.2.2.2.2.2.2.2.2.2.2.2.2.2.2.2.2.2.2.2.2.2.2.2.2.2.2.2.2.2.2.2.2.2.2.2.2.2.2.2.2.2.2.2.2.2.2.1
theorem f_random_bits : FnAt K 193 "random_bits" (stm 16) (.ref 192) := hK.2.2.2.2.2.2.2.2.2.2.2.2.2.2.2.2.2.2.2.2.2.2.2.2.2.2.2.2.2.2.2.2.2.2.2.2.2.2.2.2.2.2.2.2.2.2.2.2.2.2.2.2.2.2.2.2.2.2.2.2.2.2.2.2.2.2.2.2.2.2.2.2.2.2.2.2.2.2.2.2.2.2.2.2.2.2.2.2.2.2.2.2.2.2.2.2.2.2.2.2.2.2.2.2.2.2.2.2.2.2.2.1
theorem f_random_below : FnAt K 200 "random_below" (stm 17) (.ref 199) := hK.2.2.2.2.2.2.2.2.2.2.2.2.2.2.2.2.2.2.2.2.2.2.2.2.2.2.2.2.2.2.2.2.2.2.2.2.2.2.2.2.2.2.2.2.2.2.2.2.2.2.2.2.2.2.2.2.2.2.2.2.2.2.2.2.2.2.2.2.2.2.2.2.2.2.2.2.2.2.2.2.2.2.2.2.2.2.2.2.2.2.2.2.2.2.2.2.2.2.2.2.2.2.2.2.2.2.2.2.2.2.2.2.1
theorem f_small_below : FnAt K 207 "small_below" (stm 18) (.ref 206) := hK.2.2.2.2.2.2.2.2.2.2.2.2.2.2.2.2.2.2.2.2.2.2.2.2.2.2.2.2.2.2.2.2.2.2.2.2.2.2.2.2.2.2.2.2.2.2.2.2.2.2.2.2.2.2.2.2.2.2.2.2.2.2.2.2.2.2.2.2.2.2.2.2.2.2.2.2.2.2.2.2.2.2.2.2.2.2.2.2.2.2.2.2.2.2.2.2.2.2.2.2.2.2.2.2.2.2.2.2.2.2.2.2.2.1
theorem f_small_number : FnAt K 214 "small_number" (stm 19) (.ref 213) := hK.2.2.2.2.2.2.2.2.2.2.2.2.2.2.2.2.2.2.2.2.2.2.2.2.2.2.2.2.2.2.2.2.2.2.2.2.2.2.2.2.2.2.2.2.2.2.2.2.2.2.2.2.2.2.2.2.2.2.2.2.2.2.2.2.2.2.2.2.2.2.2.2.2.2.2.2.2.2.2.2.2.2.2.2.2.2.2.2.2.2.2.2.2.2.2.2.2.2.2.2.2.2.2.2.2.2.2.2.2.2.2.2.2.2.1
theorem f_row_lengths : FnAt K 221 "row_lengths" (stm 20) (.ref 220) := hK.2.2.2.2.2.2.2.2.2.2.2.2.2.2.2.2.2.2.2.2.2.2.2.2.2.2.2.2.2.2.2.2.2.2.2.2.2.2.2.2.2.2.2.2.2.2.2.2.2.2.2.2.2.2.2.2.2.2.2.2.2.2.2.2.2.2.2.2.2.2.2.2.2.2.2.2.2.2.2.2.2.2.2.2.2.2.2.2.2.2.2.2.2.2.2.2.2.2.2.2.2.2.2.2.2.2.2.2.2.2.2.2.2.2.2.1
theorem f_random_rows : FnAt K 228 "random_rows" (stm 21) (.ref 227) := hK.2.2.2.2.2.2.2.2.2.2.2.2.2.2.2.2.2.2.2.2.2.2.2.2.2.2.2.2.2.2.2.2.2.2.2.2.2.2.2.2.2.2.2.2.2.2.2.2.2.2.2.2.2.2.2.2.2.2.2.2.2.2.2.2.2.2.2.2.2.2.2.2.2.2.2.2.2.2.2.2.2.2.2.2.2.2.2.2.2.2.2.2.2.2.2.2.2.2.2.2.2.2.2.2.2.2.2.2.2.2.2.2.2.2.2.2.1
theorem f_ones : FnAt K 235 "ones" (stm 22) (.ref 234) := hK.2.2.2.2.2.2.2.2.2.2.2.2.2.2.2.2.2.2.2.2.2.2.2.2.2.2.2.2.2.2.2.2.2.2.2.2.2.2.2.2.2.2.2.2.2.2.2.2.2.2.2.2.2.2.2.2.2.2.2.2.2.2.2.2.2.2.2.2.2.2.2.2.2.2.2.2.2.2.2.2.2.2.2.2.2.2.2.2.2.2.2.2.2.2.2.2.2.2.2.2.2.2.2.2.2.2.2.2.2.2.2.2.2.2.2.2.2.1
theorem f_shuffled : FnAt K 242 "shuffled" (stm 23) (.ref 241) := hK.2.2.2.2.2.2.2.2.2.2.2.2.2.2.2.2.2.2.2.2.2.2.2.2.2.2.2.2.2.2.2.2.2.2.2.2.2.2.2.2.2.2.2.2.2.2.2.2.2.2.2.2.2.2.2.2.2.2.2.2.2.2.2.2.2.2.2.2.2.2.2.2.2.2.2.2.2.2.2.2.2.2.2.2.2.2.2.2.2.2.2.2.2.2.2.2.2.2.2.2.2.2.2.2.2.2.2.2.2.2.2.2.2.2.2.2.2.2.1
theorem f_law_nat : FnAt K 249 "_law_nat" (stm 25) (.ref 248) := hK.2.2.2.2.2.2.2.2.2.2.2.2.2.2.2.2.2.2.2.2.2.2.2.2.2.2.2.2.2.2.2.2.2.2.2.2.2.2.2.2.2.2.2.2.2.2.2.2.2.2.2.2.2.2.2.2.2.2.2.2.2.2.2.2.2.2.2.2.2.2.2.2.2.2.2.2.2.2.2.2.2.2.2.2.2.2.2.2.2.2.2.2.2.2.2.2.2.2.2.2.2.2.2.2.2.2.2.2.2.2.2.2.2.2.2.2.2.2.2.1
theorem f_law_value : FnAt K 256 "_law_value" (stm 26) (.ref 255) := hK.2.2.2.2.2.2.2.2.2.2.2.2.2.2.2.2.2.2.2.2.2.2.2.2.2.2.2.2.2.2.2.2.2.2.2.2.2.2.2.2.2.2.2.2.2.2.2.2.2.2.2.2.2.2.2.2.2.2.2.2.2.2.2.2.2.2.2.2.2.2.2.2.2.2.2.2.2.2.2.2.2.2.2.2.2.2.2.2.2.2.2.2.2.2.2.2.2.2.2.2.2.2.2.2.2.2.2.2.2.2.2.2.2.2.2.2.2.2.2.2.1
theorem f_law_mul : FnAt K 263 "_law_mul" (stm 27) (.ref 262) := hK.2.2.2.2.2.2.2.2.2.2.2.2.2.2.2.2.2.2.2.2.2.2.2.2.2.2.2.2.2.2.2.2.2.2.2.2.2.2.2.2.2.2.2.2.2.2.2.2.2.2.2.2.2.2.2.2.2.2.2.2.2.2.2.2.2.2.2.2.2.2.2.2.2.2.2.2.2.2.2.2.2.2.2.2.2.2.2.2.2.2.2.2.2.2.2.2.2.2.2.2.2.2.2.2.2.2.2.2.2.2.2.2.2.2.2.2.2.2.2.2.2.1
theorem f_law_congruence_right : FnAt K 270 "_law_congruence_right" (stm 28) (.ref 269) := hK.2.2.2.2.2.2.2.2.2.2.2.2.2.2.2.2.2.2.2.2.2.2.2.2.2.2.2.2.2.2.2.2.2.2.2.2.2.2.2.2.2.2.2.2.2.2.2.2.2.2.2.2.2.2.2.2.2.2.2.2.2.2.2.2.2.2.2.2.2.2.2.2.2.2.2.2.2.2.2.2.2.2.2.2.2.2.2.2.2.2.2.2.2.2.2.2.2.2.2.2.2.2.2.2.2.2.2.2.2.2.2.2.2.2.2.2.2.2.2.2.2.2.1
theorem f_law_refused : FnAt K 277 "_law_refused" (stm 29) (.ref 276) := hK.2.2.2.2.2.2.2.2.2.2.2.2.2.2.2.2.2.2.2.2.2.2.2.2.2.2.2.2.2.2.2.2.2.2.2.2.2.2.2.2.2.2.2.2.2.2.2.2.2.2.2.2.2.2.2.2.2.2.2.2.2.2.2.2.2.2.2.2.2.2.2.2.2.2.2.2.2.2.2.2.2.2.2.2.2.2.2.2.2.2.2.2.2.2.2.2.2.2.2.2.2.2.2.2.2.2.2.2.2.2.2.2.2.2.2.2.2.2.2.2.2.2.2.1
theorem f_law_lagged_right : FnAt K 282 "_law_lagged_right" (stm 30) (.ref 281) := hK.2.2.2.2.2.2.2.2.2.2.2.2.2.2.2.2.2.2.2.2.2.2.2.2.2.2.2.2.2.2.2.2.2.2.2.2.2.2.2.2.2.2.2.2.2.2.2.2.2.2.2.2.2.2.2.2.2.2.2.2.2.2.2.2.2.2.2.2.2.2.2.2.2.2.2.2.2.2.2.2.2.2.2.2.2.2.2.2.2.2.2.2.2.2.2.2.2.2.2.2.2.2.2.2.2.2.2.2.2.2.2.2.2.2.2.2.2.2.2.2.2.2.2.2.1
theorem f_law_draws_right : FnAt K 287 "_law_draws_right" (stm 31) (.ref 286) := hK.2.2.2.2.2.2.2.2.2.2.2.2.2.2.2.2.2.2.2.2.2.2.2.2.2.2.2.2.2.2.2.2.2.2.2.2.2.2.2.2.2.2.2.2.2.2.2.2.2.2.2.2.2.2.2.2.2.2.2.2.2.2.2.2.2.2.2.2.2.2.2.2.2.2.2.2.2.2.2.2.2.2.2.2.2.2.2.2.2.2.2.2.2.2.2.2.2.2.2.2.2.2.2.2.2.2.2.2.2.2.2.2.2.2.2.2.2.2.2.2.2.2.2.2.2.1
theorem f_law_even : FnAt K 292 "_law_even" (stm 32) (.ref 291) := hK.2.2.2.2.2.2.2.2.2.2.2.2.2.2.2.2.2.2.2.2.2.2.2.2.2.2.2.2.2.2.2.2.2.2.2.2.2.2.2.2.2.2.2.2.2.2.2.2.2.2.2.2.2.2.2.2.2.2.2.2.2.2.2.2.2.2.2.2.2.2.2.2.2.2.2.2.2.2.2.2.2.2.2.2.2.2.2.2.2.2.2.2.2.2.2.2.2.2.2.2.2.2.2.2.2.2.2.2.2.2.2.2.2.2.2.2.2.2.2.2.2.2.2.2.2.2.1
theorem f_law_rows_right : FnAt K 297 "_law_rows_right" (stm 33) (.ref 296) := hK.2.2.2.2.2.2.2.2.2.2.2.2.2.2.2.2.2.2.2.2.2.2.2.2.2.2.2.2.2.2.2.2.2.2.2.2.2.2.2.2.2.2.2.2.2.2.2.2.2.2.2.2.2.2.2.2.2.2.2.2.2.2.2.2.2.2.2.2.2.2.2.2.2.2.2.2.2.2.2.2.2.2.2.2.2.2.2.2.2.2.2.2.2.2.2.2.2.2.2.2.2.2.2.2.2.2.2.2.2.2.2.2.2.2.2.2.2.2.2.2.2.2.2.2.2.2.2.1
theorem f_law : FnAt K 302 "law" (stm 34) (.ref 301) := hK.2.2.2.2.2.2.2.2.2.2.2.2.2.2.2.2.2.2.2.2.2.2.2.2.2.2.2.2.2.2.2.2.2.2.2.2.2.2.2.2.2.2.2.2.2.2.2.2.2.2.2.2.2.2.2.2.2.2.2.2.2.2.2.2.2.2.2.2.2.2.2.2.2.2.2.2.2.2.2.2.2.2.2.2.2.2.2.2.2.2.2.2.2.2.2.2.2.2.2.2.2.2.2.2.2.2.2.2.2.2.2.2.2.2.2.2.2.2.2.2.2.2.2.2.2.2.2.2.1
end
theorem ev_TRIES {S : Sy} (hK : GoodK S.K) {F : Fx} {n : Nat} {pos : Pos} (hF : Fok S n F) (hk : F.env.scope.names.lookup (Str.ofString "TRIES") = some .globalImplicit) : Ev S F (eval (.Name (Str.ofString "TRIES") pos) F.env) er (PT.pure (.int 80)) := by
  obtain ⟨t, h⟩ := g_TRIES hK
  exact ev_global hF hk h
noncomputable abbrev M0 : MM := fun _ => none
noncomputable def BindOk (st : Stmt) (qual : Str) (cdv : Value) : Prop := ∀ (doc pm ct : Value) (an : Option Addr) (vs : List Value), vs.length = (dParams st).args.length →
  bindArgs (fnOf (dName st) qual (dParams st) (dBody st) (dScope st) .none .none doc pm an cdv ct) ⟨vs, []⟩ = pure (((dParams st).args.map (·.arg)).zip vs)
section
variable {S : Sy} {n : Nat} {fa : Addr} {qual : Str} {st : Stmt} {cdv : Value} {ns : List Str}
theorem con_of_fn {spec : SpecT} {c : PT Fl} (h : FnAt S.K fa qual st cdv)
    (hbody : ∀ A h₀ L mL P, Fok S n ⟨A, envOf qual (dScope st) L fa cdv, h₀, L, mL, P⟩ → Ev S ⟨A, envOf qual (dScope st) L fa cdv, h₀, L, mL, P⟩ (execs (dBody st) (envOf qual (dScope st) L fa cdv)) erF c)
    (hns : (dParams st).args.map (·.arg) = ns) (hspec : ∀ vs H k, spec vs H k → vs.length = ns.length ∧ c (setAll M0 (ns.zip vs)) H (endK k)) (hbind : BindOk st qual cdv)
    (hloc : ((dParams st).args.all fun a => decide ((dScope st).names.lookup a.arg = some .local)) = true)
    (hcell : ∀ x ∈ (dScope st).names, x.2 ≠ .cell) (hco : (dScope st).isCoroutine = false) (hgen : (dScope st).isGenerator = false) (hk : (dScope st).kind = .function) : Con S (n + 1) fa spec := by
  cases h
  rename_i ho hcd
  refine con_of_body ho hcd hbody (fun vs H k hs => ?_) (fun vs hl => hbind _ _ _ _ vs hl) hloc hcell hco hgen hk
  rw [bindM_setAll, ← List.length_map (f := fun a : Arg => a.arg), hns]
  exact hspec vs H k hs
theorem con_of_fnC {spec : SpecT} {c : PT Fl} (h : FnAt S.K fa qual st cdv)
    (hbody : ∀ A h₀ L mL P, Fok S n ⟨A, envOfC qual (dScope st) L fa cdv, h₀, L, mL, P⟩ → Ev S ⟨A, envOfC qual (dScope st) L fa cdv, h₀, L, mL, P⟩ (execs (dBody st) (envOfC qual (dScope st) L fa cdv)) erF c)
    (hns : (dParams st).args.map (·.arg) = ns) (hspec : ∀ vs H k, spec vs H k → vs.length = ns.length ∧ c (setAll M0 (ns.zip vs)) H (endK k)) (hbind : BindOk st qual cdv)
    (hloc : ((dParams st).args.all fun a => decide ((dScope st).names.lookup a.arg = some .local) || (decide ((dScope st).names.lookup a.arg = some .cell) && ((cellsFrom 0 (dScope st).names []).map (·.1)).contains a.arg)) = true)
    (hcn : ((cellsFrom 0 (dScope st).names []).all fun p => decide ((dScope st).names.lookup p.1 = some .cell)) = true) (hco : (dScope st).isCoroutine = false) (hgen : (dScope st).isGenerator = false) (hk : (dScope st).kind = .function) : Con S (n + 1) fa spec := by
  cases h
  rename_i ho hcd
  refine con_of_bodyC ho hcd hbody (fun vs H k hs => ?_) (fun vs hl => hbind _ _ _ _ vs hl) hloc hcn hco hgen hk
  rw [bindM_setAll, ← List.length_map (f := fun a : Arg => a.arg), hns]
  exact hspec vs H k hs
theorem con_of_fnCT {spec : SpecT} {c : Addr → PT V} (h : FnAt S.K fa qual st cdv)
    (hbody : ∀ A₀ base outer h₀ L, Fok S n (fx0 A₀ (envOfC qual (dScope st) L fa cdv) h₀ L) → Cx S (fx0 A₀ (envOfC qual (dScope st) L fa cdv) h₀ L) A₀ base outer (envOfC qual (dScope st) L fa cdv) → EvT S (fx0 A₀ (envOfC qual (dScope st) L fa cdv) h₀ L) A₀ base outer (execs (dBody st) (envOfC qual (dScope st) L fa cdv)) (c L))
    (hns : (dParams st).args.map (·.arg) = ns) (hspec : ∀ vs H k, spec vs H k → vs.length = ns.length ∧ ∀ L, c L (setAll M0 (ns.zip vs)) H (fun v _ H' => ∃ H'', Drop H'' H' ∧ k v H'')) (hbind : BindOk st qual cdv)
    (hloc : ((dParams st).args.all fun a => decide ((dScope st).names.lookup a.arg = some .local) || (decide ((dScope st).names.lookup a.arg = some .cell) && ((cellsFrom 0 (dScope st).names []).map (·.1)).contains a.arg)) = true)
    (hcn : ((cellsFrom 0 (dScope st).names []).all fun p => decide ((dScope st).names.lookup p.1 = some .cell)) = true) (hco : (dScope st).isCoroutine = false) (hgen : (dScope st).isGenerator = false) (hk : (dScope st).kind = .function) : Con0 S (n + 1) fa spec := by
  cases h
  rename_i ho hcd
  refine con_of_bodyCT ho hcd hbody (fun vs H k hs => ?_) (fun vs hl => hbind _ _ _ _ vs hl) hloc hcn hco hgen hk
  rw [bindM_setAll, ← List.length_map (f := fun a : Arg => a.arg), hns]
  exact hspec vs H k hs
theorem conR_of_fn {spec : RSpec} {c : PT Unit} (h : FnAt S.K fa qual st cdv)
    (hbody : ∀ A h₀ L mL P, A.handled = none → Fok S n ⟨A, envOf qual (dScope st) L fa cdv, h₀, L, mL, P⟩ → EvM S ⟨A, envOf qual (dScope st) L fa cdv, h₀, L, mL, P⟩ (execs (dBody st) (envOf qual (dScope st) L fa cdv)) c)
    (hns : (dParams st).args.map (·.arg) = ns) (hspec : ∀ vs H k, spec vs H k → vs.length = ns.length ∧ c (setAll M0 (ns.zip vs)) H (fun _ _ H' => k H')) (hbind : BindOk st qual cdv)
    (hloc : ((dParams st).args.all fun a => decide ((dScope st).names.lookup a.arg = some .local)) = true)
    (hcell : ∀ x ∈ (dScope st).names, x.2 ≠ .cell) (hco : (dScope st).isCoroutine = false) (hgen : (dScope st).isGenerator = false) (hk : (dScope st).kind = .function) : ConR S (n + 1) fa spec := by
  cases h
  rename_i ho hcd
  refine conR_of_body ho hcd hbody (fun vs H k hs => ?_) (fun vs hl => hbind _ _ _ _ vs hl) hloc hcell hco hgen hk
  rw [bindM_setAll, ← List.length_map (f := fun a : Arg => a.arg), hns]
  exact hspec vs H k hs
end
section
variable {κ : Type} {c : MM → HH → κ → Prop} {H : HH} {K : κ} {x1 x2 x3 x4 x5 x6 x7 : Str} {v1 v2 v3 v4 v5 v6 v7 : V}
theorem in1 (h : c (M0.set x1 v1) H K) : c (setAll M0 ([x1].zip [v1])) H K := h
theorem in2 (h : c ((M0.set x1 v1).set x2 v2) H K) : c (setAll M0 ([x1, x2].zip [v1, v2])) H K := h
theorem in3 (h : c (((M0.set x1 v1).set x2 v2).set x3 v3) H K) : c (setAll M0 ([x1, x2, x3].zip [v1, v2, v3])) H K := h
theorem in4 (h : c ((((M0.set x1 v1).set x2 v2).set x3 v3).set x4 v4) H K) : c (setAll M0 ([x1, x2, x3, x4].zip [v1, v2, v3, v4])) H K := h
theorem in7 (h : c (((((((M0.set x1 v1).set x2 v2).set x3 v3).set x4 v4).set x5 v5).set x6 v6).set x7 v7) H K) : c (setAll M0 ([x1, x2, x3, x4, x5, x6, x7].zip [v1, v2, v3, v4, v5, v6, v7])) H K := h
end
end Mine
end
section
open PySem PySem.W PySem.Calls PySem.Spec PyProof.Rows
set_option maxRecDepth 100000
set_option linter.unusedVariables false
set_option linter.unusedSimpArgs false
namespace Mine
set_option compiler.extract_closed false
local macro_rules | `(tactic| walk_at "pt") => `(tactic| repeat' (with_reducible first | (apply i_bget; · repeat (first | with_reducible exact lk_self | with_reducible assumption | refine lk_hop (by kernel_rfl) ?_)) | refine i_bpure ?_ | refine i_setn ?_ | refine i_bsetv ?_ | refine i_bind ?_ | (refine i_getX ?_; refine ⟨_, by repeat (first | with_reducible exact lk_self | with_reducible assumption | refine lk_hop (by kernel_rfl) ?_), ?_⟩) | refine i_pure ?_ | refine i_setv ?_ | refine i_thenS ?_ | refine i_next ?_ | refine i_ret ?_ | refine i_add ?_ | refine i_subt ?_ | refine i_and ?_ | refine i_or ?_ | refine i_lt ?_ | refine i_gt ?_ | refine i_le ?_ | refine i_ge ?_ | refine i_eq ?_ | refine i_ne ?_ | refine i_tru ?_ | refine i_neg ?_ | refine i_iadd ?_ | refine i_isub ?_ | refine i_ior ?_ | refine i_bitlen ?_ | refine i_spec ?_ | refine i_asCons ?_ | refine i_asNil ?_ | refine i_iteT ?_ | refine i_iteF ?_ | refine i_pT ?_ | refine i_pF ?_ | refine i_iteNT ?_ | refine i_iteNF ?_ | refine i_pNT ?_ | refine i_pNF ?_ | refine i_iteD ?_ ?_ | refine i_iteN ?_ ?_ | refine i_pD ?_ ?_ | refine i_pN ?_ ?_ | refine i_iteNN ?_ ?_ | refine i_pNN ?_ ?_))
section
-- level 1
noncomputable def spec_normal : SpecT := fun vs H k => ∃ a w x n, vs = [.ref a] ∧ 0 < w ∧ H a = some (LI (fd w x n)) ∧ x < 2 ^ (w * n) ∧ n ≤ 5000 ∧ ∀ r, H r = none → k (.ref r) (H.set r (LI (dig w x)))
theorem con_normal {S : Sy} (hK : GoodK S.K) : Con S 1 46 spec_normal := by
  refine con_of_fn (n := 0) (ns := [Str.ofString "a"]) (f_normal hK) (fun A h₀ L mL P hF =>
     (exs_cons (ex_assignName (ev_storeLocal hF rfl (by rfl)) (ev_callB hF (by rfl) (n_len hK) PyProof.Rows.Boot.«len» bi_len (evl_cons (ev_local hF (by rfl)) evl_nil)))
      (exs_cons (ex_while (it_and (it_compare1 hF (ev_local hF (by rfl)) ev_constInt) (it_and (it_compare1 hF (ev_sub (ev_local hF (by rfl)) (ev_binop (ev_local hF (by rfl)) ev_constInt)) ev_constInt) it_andNil)) (exs_cons (ex_augName (ev_loadLocal hF rfl (by rfl)) (ev_storeLocal hF rfl (by rfl)) ev_constInt)
      exs_nil))
      (exs_cons (ex_return (ev_slice (ev_local hF (by rfl)) evo_none (evo_some (ev_local hF (by rfl))) evo_none))
      exs_nil)))) rfl ?spec ?bind (by rfl) (by decide) rfl rfl rfl
  case bind => exact fun _ _ _ _ => fn1 fun _ => rfl
  case spec =>
    rintro vs H k ⟨a, w, x, n, rfl, hw, ha, hx, hn, hk⟩
    refine ⟨rfl, in1 ?_⟩
    walk_at "pt"
    refine i_lenI ha fd_len (by lia) ?_
    walk_at "pt"
    refine while_to (fun j m H' => H' = H ∧ m (Str.ofString "a") = some (.ref a) ∧ m (Str.ofString "end") = some (.int j) ∧ nl w x ≤ j ∧ j ≤ n)
      (fun m H' => H' = H ∧ m (Str.ofString "a") = some (.ref a) ∧ m (Str.ofString "end") = some (.int (nl w x))) ?_ ?_ n _ _ ⟨rfl, ?_, ?_, nl_le hw hx, Nat.le_refl _⟩
    · rintro j m H' ⟨rfl, h1, h2, h3, h4⟩ K kn kb kr
      walk_at "pt"
      · intro hj
        walk_at "pt"
        obtain ⟨j, rfl⟩ : ∃ i, j = i + 1 := ⟨j - 1, by lia⟩
        refine i_sub (n := j) ha (by lia) (by lia) (li_get (fd_get (by lia))) ?_
        walk_at "pt"
        · intro h0
          walk_at "pt"
          refine kn j (by lia) _ _ ⟨rfl, by (repeat (first | with_reducible exact lk_self | with_reducible assumption | refine lk_hop (by kernel_rfl) ?_)), ?_, nl_le hw (top_zero (lt_of_nl hw h3) (by lia)), by lia⟩
          have e : ((j + 1 : Nat) : Int) - 1 = (j : Int) := by lia
          rw [e]; (repeat (first | with_reducible exact lk_self | with_reducible assumption | refine lk_hop (by kernel_rfl) ?_))
        · intro h0
          walk_at "pt"
          have e : nl w x = j + 1 := by
            refine nl_eq hw (lt_of_nl hw h3) fun k hk => ?_
            obtain rfl : j = k := by lia
            rcases Nat.lt_or_ge x (2 ^ (w * j)) with q | q
            · exact absurd (congrArg Int.ofNat (dg_big q)) h0
            · exact q
          exact fun h => h ⟨rfl, h1, by rw [e]; exact h2⟩
      · intro hj
        walk_at "pt"
        have e : nl w x = j := by lia
        exact fun h => h ⟨rfl, h1, by rw [e]; exact h2⟩
    · rintro m H' ⟨rfl, h1, h2⟩
      have hle := nl_le hw hx
      walk_at "pt"
      refine i_slice (ys := (dig w x).map V.int) ha ?_ (by rw [List.length_map, fd_len]; lia) fun r hr => ?_
      · simp only [sliceVs, Int.toNat_natCast]
        rw [if_pos (by lia), ← List.map_take, fd_take hle, fd_dig rfl]
      · walk_at "pt"
        exact i_endL hk hr (Drop.refl _)
    · (repeat (first | with_reducible exact lk_self | with_reducible assumption | refine lk_hop (by kernel_rfl) ?_))
    · (repeat (first | with_reducible exact lk_self | with_reducible assumption | refine lk_hop (by kernel_rfl) ?_))
end
section
-- level 1
noncomputable def cmpN (x y : Nat) : Int := if x < y then -1 else if x = y then 0 else 1
noncomputable def spec_compare : SpecT := fun vs H k => ∃ a b w x y, vs = [.ref a, .ref b] ∧ 0 < w ∧ H a = some (LI (dig w x)) ∧ H b = some (LI (dig w y)) ∧ nl w x ≤ 5000 ∧ nl w y ≤ 5000 ∧ k (.int (cmpN x y)) H
theorem con_compare {S : Sy} (hK : GoodK S.K) : Con S 1 53 spec_compare := by
  refine con_of_fn (n := 0) (ns := [Str.ofString "a", Str.ofString "b"]) (f_compare hK) (fun A h₀ L mL P hF =>
     (exs_cons (ex_if (it_compare1 hF (ev_callB hF (by rfl) (n_len hK) PyProof.Rows.Boot.«len» bi_len (evl_cons (ev_local hF (by rfl)) evl_nil)) (ev_callB hF (by rfl) (n_len hK) PyProof.Rows.Boot.«len» bi_len (evl_cons (ev_local hF (by rfl)) evl_nil))) (exs_cons (ex_return (ev_ifexp (it_compare1 hF (ev_callB hF (by rfl) (n_len hK) PyProof.Rows.Boot.«len» bi_len (evl_cons (ev_local hF (by rfl)) evl_nil)) (ev_callB hF (by rfl) (n_len hK) PyProof.Rows.Boot.«len» bi_len (evl_cons (ev_local hF (by rfl)) evl_nil))) (ev_neg ev_constInt) ev_constInt))
      exs_nil) exs_nil)
      (exs_cons (ex_forRange hF (fun p1 => (ev_storeLocal (hF.withP p1) rfl (by rfl))) (by rfl) (n_range hK) PyProof.Rows.Boot.«range» (evl_cons (ev_binop (ev_callB hF (by rfl) (n_len hK) PyProof.Rows.Boot.«len» bi_len (evl_cons (ev_local hF (by rfl)) evl_nil)) ev_constInt) (evl_cons (ev_neg ev_constInt) (evl_cons (ev_neg ev_constInt) evl_nil))) (fun p1 => (exs_cons (ex_if (it_compare1 (hF.withP p1) (ev_sub (ev_local (hF.withP p1) (by rfl)) (ev_local (hF.withP p1) (by rfl))) (ev_sub (ev_local (hF.withP p1) (by rfl)) (ev_local (hF.withP p1) (by rfl)))) (exs_cons (ex_return (ev_ifexp (it_compare1 (hF.withP p1) (ev_sub (ev_local (hF.withP p1) (by rfl)) (ev_local (hF.withP p1) (by rfl))) (ev_sub (ev_local (hF.withP p1) (by rfl)) (ev_local (hF.withP p1) (by rfl)))) (ev_neg ev_constInt) ev_constInt))
      exs_nil) exs_nil)
      exs_nil)))
      (exs_cons (ex_return ev_constInt)
      exs_nil)))) rfl ?spec ?bind (by rfl) (by decide) rfl rfl rfl
  case bind => exact fun _ _ _ _ => fn2 fun _ _ => rfl
  case spec =>
    rintro vs H k ⟨a, b, w, x, y, rfl, hw, ha, hb, hx, hy, hk⟩
    refine ⟨rfl, in2 ?_⟩
    walk_at "pt"
    refine i_lenI ha dig_len (by lia) ?_
    walk_at "pt"
    refine i_lenI hb dig_len (by lia) ?_
    walk_at "pt"
    · intro hne
      walk_at "pt"
      refine i_lenI ha dig_len (by lia) ?_
      walk_at "pt"
      refine i_lenI hb dig_len (by lia) ?_
      walk_at "pt"
      · intro hlt
        walk_at "pt"
        have e : cmpN x y = -1 := by unfold cmpN; rw [if_pos (lt_of_nl_lt hw (by lia))]
        rw [e] at hk
        exact i_endV hk (Drop.refl _)
      · intro hlt
        walk_at "pt"
        have q := lt_of_nl_lt (x := y) (y := x) hw (by lia)
        have e : cmpN x y = 1 := by unfold cmpN; rw [if_neg (by lia), if_neg (by lia)]
        rw [e] at hk
        exact i_endV hk (Drop.refl _)
    · intro heq
      have heq' : nl w x = nl w y := by lia
      walk_at "pt"
      refine i_lenI ha dig_len (by lia) ?_
      walk_at "pt"
      refine for3 (n := nl w x) (fun t m' H' => H' = H ∧ m' (Str.ofString "a") = some (.ref a) ∧ m' (Str.ofString "b") = some (.ref b) ∧ x / 2 ^ (w * (nl w x - t)) = y / 2 ^ (w * (nl w x - t))) (by lia) (by lia) (by lia) (by lia) (by lia) ⟨rfl, by (repeat (first | with_reducible exact lk_self | with_reducible assumption | refine lk_hop (by kernel_rfl) ?_)), by (repeat (first | with_reducible exact lk_self | with_reducible assumption | refine lk_hop (by kernel_rfl) ?_)), ?_⟩ ?_ ?_
      · rw [Nat.sub_zero, div_out hw (Nat.le_refl _), div_out hw (by lia)]
      · rintro t m' H' ht ⟨rfl, h1, h2, h3⟩ K kn kr
        walk_at "pt"
        obtain ⟨p, hp⟩ : ∃ p, nl w x = p + t + 1 := ⟨nl w x - t - 1, by lia⟩
        have e1 : nl w x - t = p + 1 := by lia
        rw [e1] at h3
        have s1 := div_split (w := w) (x := x) (i := p)
        have s2 := div_split (w := w) (x := y) (i := p)
        rw [h3] at s1
        refine i_sub (n := p) ha (by lia) (by lia) (li_get (dig_get (by lia))) ?_
        walk_at "pt"
        refine i_sub (n := p) hb (by lia) (by lia) (li_get (dig_get (by lia))) ?_
        walk_at "pt"
        · intro hne
          walk_at "pt"
          refine i_sub (n := p) ha (by lia) (by lia) (li_get (dig_get (by lia))) ?_
          walk_at "pt"
          refine i_sub (n := p) hb (by lia) (by lia) (li_get (dig_get (by lia))) ?_
          walk_at "pt"
          · intro hlt
            walk_at "pt"
            have e : cmpN x y = -1 := by unfold cmpN; rw [if_pos (lt_of_div_lt (n := 2 ^ (w * p)) (by lia))]
            rw [e] at hk
            exact kr _ _ _ (i_ret (i_endV hk (Drop.refl _)))
          · intro hlt
            walk_at "pt"
            have q : y < x := lt_of_div_lt (n := 2 ^ (w * p)) (by lia)
            have e : cmpN x y = 1 := by unfold cmpN; rw [if_neg (by lia), if_neg (by lia)]
            rw [e] at hk
            exact kr _ _ _ (i_ret (i_endV hk (Drop.refl _)))
        · intro heq
          walk_at "pt"
          refine kn _ _ ⟨rfl, by (repeat (first | with_reducible exact lk_self | with_reducible assumption | refine lk_hop (by kernel_rfl) ?_)), by (repeat (first | with_reducible exact lk_self | with_reducible assumption | refine lk_hop (by kernel_rfl) ?_)), ?_⟩
          have e2 : nl w x - (t + 1) = p := by lia
          rw [e2, s1, s2]
          lia
      · rintro m' H' ⟨rfl, h1, h2, h3⟩
        walk_at "pt"
        rw [Nat.sub_self, Nat.mul_zero, Nat.pow_zero, Nat.div_one, Nat.div_one] at h3
        have e : cmpN x y = 0 := by unfold cmpN; rw [if_neg (by lia), if_pos h3]
        rw [e] at hk
        exact i_endV hk (Drop.refl _)
end
section
-- level 1
noncomputable def spec_add : SpecT := fun vs H k => ∃ a b w x y, vs = [.ref a, .ref b, .int (w : Nat)] ∧ 2 ≤ w ∧ w ≤ 62 ∧ H a = some (LI (dig w x)) ∧ H b = some (LI (dig w y)) ∧ nl w x ≤ 5000 ∧ nl w y ≤ 5000 ∧ ∀ r, H r = none → k (.ref r) (H.set r (LI (dig w (x + y))))
theorem con_add {S : Sy} (hK : GoodK S.K) : Con S 1 60 spec_add := by
  refine con_of_fn (n := 0) (ns := [Str.ofString "a", Str.ofString "b", Str.ofString "w"]) (f_add hK) (fun A h₀ L mL P hF =>
     (exs_cons (ex_if (it_compare1 hF (ev_callB hF (by rfl) (n_len hK) PyProof.Rows.Boot.«len» bi_len (evl_cons (ev_local hF (by rfl)) evl_nil)) (ev_callB hF (by rfl) (n_len hK) PyProof.Rows.Boot.«len» bi_len (evl_cons (ev_local hF (by rfl)) evl_nil))) (exs_cons (ex_assignSwap (names := [Str.ofString "a", Str.ofString "b"]) hF (ev_tuple (evl_cons (ev_local hF (by rfl)) (evl_cons (ev_local hF (by rfl)) evl_nil))) (.cons (as_bind (ev_storeLocal hF rfl (by rfl))) (.cons (as_bind (ev_storeLocal hF rfl (by rfl))) .nil)))
      exs_nil) exs_nil)
      (exs_cons (ex_assignSwap (names := [Str.ofString "found", Str.ofString "carry", Str.ofString "mask"]) hF (ev_tuple (evl_cons (ev_list evl_nil) (evl_cons ev_constInt (evl_cons (ev_binop (ev_binop ev_constInt (ev_local hF (by rfl))) ev_constInt) evl_nil)))) (.cons (as_bind (ev_storeLocal hF rfl (by rfl))) (.cons (as_bind (ev_storeLocal hF rfl (by rfl))) (.cons (as_bind (ev_storeLocal hF rfl (by rfl))) .nil))))
      (exs_cons (ex_forRange hF (fun p2 => (ev_storeLocal (hF.withP p2) rfl (by rfl))) (by rfl) (n_range hK) PyProof.Rows.Boot.«range» (evl_cons (ev_callB hF (by rfl) (n_len hK) PyProof.Rows.Boot.«len» bi_len (evl_cons (ev_local hF (by rfl)) evl_nil)) evl_nil) (fun p2 => (exs_cons (ex_augName (ev_loadLocal (hF.withP p2) rfl (by rfl)) (ev_storeLocal (hF.withP p2) rfl (by rfl)) (ev_binop (ev_sub (ev_local (hF.withP p2) (by rfl)) (ev_local (hF.withP p2) (by rfl))) (ev_sub (ev_local (hF.withP p2) (by rfl)) (ev_local (hF.withP p2) (by rfl)))))
      (exs_cons (ex_expr (ev_append (ev_local (hF.withP p2) (by rfl)) (ev_binop (ev_local (hF.withP p2) (by rfl)) (ev_local (hF.withP p2) (by rfl)))))
      (exs_cons (ex_augName (ev_loadLocal (hF.withP p2) rfl (by rfl)) (ev_storeLocal (hF.withP p2) rfl (by rfl)) (ev_local (hF.withP p2) (by rfl)))
      exs_nil)))))
      (exs_cons (ex_forRange hF (fun p1 => (ev_storeLocal (hF.withP p1) rfl (by rfl))) (by rfl) (n_range hK) PyProof.Rows.Boot.«range» (evl_cons (ev_callB hF (by rfl) (n_len hK) PyProof.Rows.Boot.«len» bi_len (evl_cons (ev_local hF (by rfl)) evl_nil)) (evl_cons (ev_callB hF (by rfl) (n_len hK) PyProof.Rows.Boot.«len» bi_len (evl_cons (ev_local hF (by rfl)) evl_nil)) evl_nil)) (fun p1 => (exs_cons (ex_augName (ev_loadLocal (hF.withP p1) rfl (by rfl)) (ev_storeLocal (hF.withP p1) rfl (by rfl)) (ev_sub (ev_local (hF.withP p1) (by rfl)) (ev_local (hF.withP p1) (by rfl))))
      (exs_cons (ex_expr (ev_append (ev_local (hF.withP p1) (by rfl)) (ev_binop (ev_local (hF.withP p1) (by rfl)) (ev_local (hF.withP p1) (by rfl)))))
      (exs_cons (ex_augName (ev_loadLocal (hF.withP p1) rfl (by rfl)) (ev_storeLocal (hF.withP p1) rfl (by rfl)) (ev_local (hF.withP p1) (by rfl)))
      exs_nil)))))
      (exs_cons (ex_if (it_compare1 hF (ev_local hF (by rfl)) ev_constInt) (exs_cons (ex_expr (ev_append (ev_local hF (by rfl)) (ev_local hF (by rfl))))
      exs_nil) exs_nil)
      (exs_cons (ex_return (ev_local hF (by rfl)))
      exs_nil))))))) rfl ?spec ?bind (by rfl) (by decide) rfl rfl rfl
  case bind => exact fun _ _ _ _ => fn3 fun _ _ _ => rfl
  case spec =>
    rintro vs H k ⟨a, b, w, x, y, rfl, hw, hw2, ha, hb, hx, hy, hk⟩
    refine ⟨rfl, in3 ?_⟩
    refine i_thenTo (fun m' H' => ∃ a b x y, Drop H H' ∧ m' (Str.ofString "a") = some (.ref a) ∧ m' (Str.ofString "b") = some (.ref b) ∧ m' (Str.ofString "w") = some (.int (w : Nat)) ∧ H a = some (LI (dig w x)) ∧ H b = some (LI (dig w y)) ∧ nl w x ≤ 5000 ∧ nl w y ≤ nl w x ∧ ∀ r, H r = none → k (.ref r) (H.set r (LI (dig w (x + y))))) ?_ ?_
    · intro K kn kr
      walk_at "pt"
      refine i_lenI ha dig_len (by lia) ?_
      walk_at "pt"
      refine i_lenI hb dig_len (by lia) ?_
      walk_at "pt"
      · intro hlt
        walk_at "pt"
        refine i_newt (by simp) fun r hr => ?_
        walk_at "pt"
        refine i_unpack hself rfl ?_
        simp only [List.reverse, List.reverseAux]
        walk_at "pt"
        exact kn _ _ ⟨b, a, y, x, drop_new hr (Drop.refl _), by (repeat (first | with_reducible exact lk_self | with_reducible assumption | refine lk_hop (by kernel_rfl) ?_)), by (repeat (first | with_reducible exact lk_self | with_reducible assumption | refine lk_hop (by kernel_rfl) ?_)), by (repeat (first | with_reducible exact lk_self | with_reducible assumption | refine lk_hop (by kernel_rfl) ?_)), hb, ha, hy, by lia, by rw [Nat.add_comm y x]; exact hk⟩
      · intro hlt
        walk_at "pt"
        exact kn _ _ ⟨a, b, x, y, Drop.refl _, by (repeat (first | with_reducible exact lk_self | with_reducible assumption | refine lk_hop (by kernel_rfl) ?_)), by (repeat (first | with_reducible exact lk_self | with_reducible assumption | refine lk_hop (by kernel_rfl) ?_)), by (repeat (first | with_reducible exact lk_self | with_reducible assumption | refine lk_hop (by kernel_rfl) ?_)), ha, hb, hx, by lia, hk⟩
    clear ha hb hx hy hk a b x y
    rintro m' H' ⟨a, b, x, y, hd, l1, l2, l3, ha, hb, hx, hy, hk⟩
    walk_at "pt"
    refine i_newl (by simp) fun r hr => ?_
    walk_at "pt"
    refine i_shl (n := w) rfl (by lia) ⟨by lia, by lia⟩ ?_
    walk_at "pt"
    refine i_newt (by simp) fun q hq => ?_
    walk_at "pt"
    refine i_unpack hself rfl ?_
    simp only [List.reverse, List.reverseAux]
    walk_at "pt"
    have hd1 : Drop (H.set r (LI (fd w (x + y) 0))) ((H'.set r (.list [])).set q (.tup [.ref r, .int 0, .int (1 * 2 ^ w - 1)])) := drop_new hq (drop_both hd)
    have hr0 : H r = none := hd.none hr
    have hb' := dget hd1 hr0 hb
    refine i_lenI hb' dig_len (by lia) ?_
    walk_at "pt"
    refine for1 (n := nl w y) (fun t m2 H2 => ∃ c : Nat, Drop (H.set r (LI (fd w (x + y) t))) H2 ∧ m2 (Str.ofString "a") = some (.ref a) ∧ m2 (Str.ofString "b") = some (.ref b) ∧ m2 (Str.ofString "w") = some (.int (w : Nat)) ∧ m2 (Str.ofString "found") = some (.ref r) ∧ m2 (Str.ofString "mask") = some (.int (1 * 2 ^ w - 1)) ∧ m2 (Str.ofString "carry") = some (.int c) ∧ c + x / 2 ^ (w * t) + y / 2 ^ (w * t) = (x + y) / 2 ^ (w * t)) rfl (by lia) ⟨0, hd1, by (repeat (first | with_reducible exact lk_self | with_reducible assumption | refine lk_hop (by kernel_rfl) ?_)), by (repeat (first | with_reducible exact lk_self | with_reducible assumption | refine lk_hop (by kernel_rfl) ?_)), by (repeat (first | with_reducible exact lk_self | with_reducible assumption | refine lk_hop (by kernel_rfl) ?_)), by (repeat (first | with_reducible exact lk_self | with_reducible assumption | refine lk_hop (by kernel_rfl) ?_)), by (repeat (first | with_reducible exact lk_self | with_reducible assumption | refine lk_hop (by kernel_rfl) ?_)), lk_int (by (repeat (first | with_reducible exact lk_self | with_reducible assumption | refine lk_hop (by kernel_rfl) ?_))) (by lia), by simp⟩ ?_ ?_
    · rintro t m2 H2 ht ⟨c, d2, j1, j2, j3, j4, j5, j6, j7⟩ K kn kr
      have ga := dget d2 hr0 ha
      have gb := dget d2 hr0 hb
      have gr := dself d2
      have st := add_step j7
      walk_at "pt"
      refine i_sub (n := t) ga rfl (by lia) (li_get (dig_get (by lia))) ?_
      walk_at "pt"
      refine i_sub (n := t) gb rfl (by lia) (li_get (dig_get (by lia))) ?_
      walk_at "pt"
      refine ⟨r, _, rfl, gr, ?_⟩
      walk_at "pt"
      have e : (c : Int) + ((dg w x t : Nat) + (dg w y t : Nat)) = ((c + dg w x t + dg w y t : Nat) : Int) := by lia
      rw [e, and_mask, st.1]
      refine i_append gr (by rw [List.length_map, fd_len]; lia) ?_
      rw [li_app, ← fd_succ]
      walk_at "pt"
      refine i_ishr rfl ?_
      rw [shr_nat]
      walk_at "pt"
      exact kn _ _ ⟨_, drop_step d2, by (repeat (first | with_reducible exact lk_self | with_reducible assumption | refine lk_hop (by kernel_rfl) ?_)), by (repeat (first | with_reducible exact lk_self | with_reducible assumption | refine lk_hop (by kernel_rfl) ?_)), by (repeat (first | with_reducible exact lk_self | with_reducible assumption | refine lk_hop (by kernel_rfl) ?_)), by (repeat (first | with_reducible exact lk_self | with_reducible assumption | refine lk_hop (by kernel_rfl) ?_)), by (repeat (first | with_reducible exact lk_self | with_reducible assumption | refine lk_hop (by kernel_rfl) ?_)), by (repeat (first | with_reducible exact lk_self | with_reducible assumption | refine lk_hop (by kernel_rfl) ?_)), st.2⟩
    rintro m2 H2 ⟨c, d2, j1, j2, j3, j4, j5, j6, j7⟩
    have ga := dget d2 hr0 ha
    have gb := dget d2 hr0 hb
    walk_at "pt"
    refine i_lenI gb dig_len (by lia) ?_
    walk_at "pt"
    refine i_lenI ga dig_len (by lia) ?_
    walk_at "pt"
    refine for2 (lo := nl w y) (n := nl w x - nl w y) (fun t m2 H2 => ∃ c : Nat, Drop (H.set r (LI (fd w (x + y) (nl w y + t)))) H2 ∧ m2 (Str.ofString "a") = some (.ref a) ∧ m2 (Str.ofString "w") = some (.int (w : Nat)) ∧ m2 (Str.ofString "found") = some (.ref r) ∧ m2 (Str.ofString "mask") = some (.int (1 * 2 ^ w - 1)) ∧ m2 (Str.ofString "carry") = some (.int c) ∧ c + x / 2 ^ (w * (nl w y + t)) + y / 2 ^ (w * (nl w y + t)) = (x + y) / 2 ^ (w * (nl w y + t))) rfl (by lia) (by lia) (by lia) (by lia) ⟨c, d2, j1, j3, j4, j5, j6, j7⟩ ?_ ?_
    · clear d2 j1 j2 j3 j4 j5 j6 j7 ga gb c m2 H2
      rintro t m2 H2 ht ⟨c, d2, j1, j3, j4, j5, j6, j7⟩ K kn kr
      have ga := dget d2 hr0 ha
      have gr := dself d2
      have st := add_step j7
      rw [dg_out (x := y) (by lia) (Nat.le_add_right _ t), Nat.add_zero] at st
      walk_at "pt"
      refine i_sub (n := nl w y + t) ga rfl (by lia) (li_get (dig_get (by lia))) ?_
      walk_at "pt"
      refine ⟨r, _, rfl, gr, ?_⟩
      walk_at "pt"
      have e : (c : Int) + (dg w x (nl w y + t) : Nat) = ((c + dg w x (nl w y + t) : Nat) : Int) := by lia
      rw [e, and_mask, st.1]
      refine i_append gr (by rw [List.length_map, fd_len]; lia) ?_
      rw [li_app, ← fd_succ]
      walk_at "pt"
      refine i_ishr rfl ?_
      rw [shr_nat]
      walk_at "pt"
      exact kn _ _ ⟨_, drop_step d2, by (repeat (first | with_reducible exact lk_self | with_reducible assumption | refine lk_hop (by kernel_rfl) ?_)), by (repeat (first | with_reducible exact lk_self | with_reducible assumption | refine lk_hop (by kernel_rfl) ?_)), by (repeat (first | with_reducible exact lk_self | with_reducible assumption | refine lk_hop (by kernel_rfl) ?_)), by (repeat (first | with_reducible exact lk_self | with_reducible assumption | refine lk_hop (by kernel_rfl) ?_)), by (repeat (first | with_reducible exact lk_self | with_reducible assumption | refine lk_hop (by kernel_rfl) ?_)), st.2⟩
    clear d2 j1 j2 j3 j4 j5 j6 j7 ga gb c m2 H2
    rintro m2 H2 ⟨c, d2, j1, j3, j4, j5, j6, j7⟩
    have gr := dself d2
    have e : nl w y + (nl w x - nl w y) = nl w x := by lia
    rw [e] at d2 j7 gr
    rw [div_out (by lia) (Nat.le_refl _), div_out (by lia) hy] at j7
    simp only [Nat.add_zero] at j7
    have hc1 : c < 2 ^ w := by
      have h1 : x < 2 ^ (w * nl w x) := nl_lt (by lia)
      have h2 : y < 2 ^ (w * nl w x) := lt_of_nl (by lia) hy
      have h3 : (2 : Nat) ≤ 2 ^ w := pow_le2 (a := 1) (by lia)
      rw [j7, Nat.div_lt_iff_lt_mul (pow_pos2 _)]
      have := Nat.mul_le_mul_right (2 ^ (w * nl w x)) h3
      lia
    walk_at "pt"
    · intro hc
      walk_at "pt"
      refine ⟨r, _, rfl, gr, ?_⟩
      walk_at "pt"
      refine i_append gr (by rw [List.length_map, fd_len]; lia) ?_
      have e2 : c = dg w (x + y) (nl w x) := by rw [dg_last (by lia)]; exact j7
      rw [e2, li_app, ← fd_succ, fd_dig (nl_eq (by omega) (lt_one (by omega)) fun k hk => by obtain rfl : nl w x = k := by omega
                                                                                             exact ge_pow (by lia))]
      walk_at "pt"
      exact i_endL hk hr0 (drop_step d2)
    · intro hc
      rw [fd_dig (nl_eq (by lia) ?_ fun k hk => ?_)] at d2
      · walk_at "pt"
        exact i_endL hk hr0 d2
      · have : (x + y) / 2 ^ (w * nl w x) = 0 := by lia
        rcases Nat.lt_or_ge (x + y) (2 ^ (w * nl w x)) with q | q
        · exact q
        · have := Nat.div_pos q (pow_pos2 _); lia
      · exact Nat.le_trans (le_of_nl (by lia)) (Nat.le_add_right x y)
end
section
-- level 1
noncomputable def spec_shift_left : SpecT := fun vs H k => ∃ a n w x, vs = [.ref a, .int (n : Nat), .int (w : Nat)] ∧ 2 ≤ w ∧ w ≤ 62 ∧ n ≤ 250 ∧ H a = some (LI (dig w x)) ∧ nl w x ≤ 5000 ∧ ∀ r, H r = none → k (.ref r) (H.set r (LI (dig w (x * 2 ^ n))))
theorem shl_zero {w x s : Nat} : fd w (x * 2 ^ (w * s)) s = List.replicate s 0 := by
  refine List.ext_getElem? fun i => ?_
  rcases Nat.lt_or_ge i s with q | q
  · rw [fd_get q, dg_shl0 q, List.getElem?_replicate, if_pos q]; rfl
  · rw [List.getElem?_eq_none (by rw [fd_len]; lia), List.getElem?_eq_none (by simp; lia)]
theorem flat_rep {s : Nat} : (List.replicate s [V.int 0]).flatten = (List.replicate s (0 : Int)).map V.int := by
  induction s with
  | zero => rfl
  | succ s ih => rw [List.replicate_succ, List.flatten_cons, ih]; rfl
theorem con_shift_left {S : Sy} (hK : GoodK S.K) : Con S 1 74 spec_shift_left := by
  refine con_of_fn (n := 0) (ns := [Str.ofString "a", Str.ofString "n", Str.ofString "w"]) (f_shift_left hK) (fun A h₀ L mL P hF =>
     (exs_cons (ex_if (it_compare1 hF (ev_callB hF (by rfl) (n_len hK) PyProof.Rows.Boot.«len» bi_len (evl_cons (ev_local hF (by rfl)) evl_nil)) ev_constInt) (exs_cons (ex_return (ev_list evl_nil))
      exs_nil) exs_nil)
      (exs_cons (ex_assignSwap (names := [Str.ofString "spots", Str.ofString "few"]) hF (ev_tuple (evl_cons (ev_binop (ev_local hF (by rfl)) (ev_local hF (by rfl))) (evl_cons (ev_binop (ev_local hF (by rfl)) (ev_local hF (by rfl))) evl_nil))) (.cons (as_bind (ev_storeLocal hF rfl (by rfl))) (.cons (as_bind (ev_storeLocal hF rfl (by rfl))) .nil)))
      (exs_cons (ex_assignSwap (names := [Str.ofString "found", Str.ofString "carry", Str.ofString "mask"]) hF (ev_tuple (evl_cons (ev_binop (ev_list (evl_cons ev_constInt evl_nil)) (ev_local hF (by rfl))) (evl_cons ev_constInt (evl_cons (ev_binop (ev_binop ev_constInt (ev_local hF (by rfl))) ev_constInt) evl_nil)))) (.cons (as_bind (ev_storeLocal hF rfl (by rfl))) (.cons (as_bind (ev_storeLocal hF rfl (by rfl))) (.cons (as_bind (ev_storeLocal hF rfl (by rfl))) .nil))))
      (exs_cons (ex_forList hF (fun p1 => (ev_storeLocal (hF.withP p1) rfl (by rfl))) (ev_local hF (by rfl)) (fun p1 => (exs_cons (ex_augName (ev_loadLocal (hF.withP p1) rfl (by rfl)) (ev_storeLocal (hF.withP p1) rfl (by rfl)) (ev_binop (ev_local (hF.withP p1) (by rfl)) (ev_local (hF.withP p1) (by rfl))))
      (exs_cons (ex_expr (ev_append (ev_local (hF.withP p1) (by rfl)) (ev_binop (ev_local (hF.withP p1) (by rfl)) (ev_local (hF.withP p1) (by rfl)))))
      (exs_cons (ex_augName (ev_loadLocal (hF.withP p1) rfl (by rfl)) (ev_storeLocal (hF.withP p1) rfl (by rfl)) (ev_local (hF.withP p1) (by rfl)))
      exs_nil)))))
      (exs_cons (ex_if (it_compare1 hF (ev_local hF (by rfl)) ev_constInt) (exs_cons (ex_expr (ev_append (ev_local hF (by rfl)) (ev_local hF (by rfl))))
      exs_nil) exs_nil)
      (exs_cons (ex_return (ev_local hF (by rfl)))
      exs_nil))))))) rfl ?spec ?bind (by rfl) (by decide) rfl rfl rfl
  case bind => exact fun _ _ _ _ => fn3 fun _ _ _ => rfl
  case spec =>
    rintro vs H k ⟨a, n, w, x, rfl, hw, hw2, hn, ha, hx, hk⟩
    refine ⟨rfl, in3 ?_⟩
    walk_at "pt"
    refine i_lenI ha dig_len (by lia) ?_
    walk_at "pt"
    · intro h0
      have hx0 : x = 0 := by
        rcases Nat.eq_zero_or_pos x with h | h
        · exact h
        · exact absurd (nl_pos (w := w) (by lia : x ≠ 0)) (by lia)
      subst hx0
      walk_at "pt"
      refine i_newl (by simp) fun r hr => ?_
      walk_at "pt"
      exact i_endL hk hr (by rw [Nat.zero_mul]; exact Drop.refl _)
    intro h0
    walk_at "pt"
    refine i_fdiv (by lia) (by lia) ?_
    walk_at "pt"
    refine i_mod (by lia) ?_
    rw [fdiv_nat, fmod_nat]
    have hdm := Nat.div_add_mod n w
    have hs : n / w ≤ n := Nat.div_le_self n w
    have hf : n % w < w := Nat.mod_lt _ (by lia)
    have h1 : x < 2 ^ (w * nl w x) := nl_lt (by lia)
    have hx0 : x ≠ 0 := by rintro rfl; exact h0 rfl
    revert hdm hs hf
    generalize n / w = s
    generalize n % w = f
    intro hdm hs hf
    subst hdm
    have hz : x * 2 ^ (w * s + f) = x * 2 ^ f * 2 ^ (w * s) := by rw [Nat.pow_add, Nat.mul_assoc, Nat.mul_comm (2 ^ f)]
    walk_at "pt"
    refine i_newt (by simp) fun q hq => ?_
    walk_at "pt"
    refine i_unpack hself rfl ?_
    simp only [List.reverse, List.reverseAux]
    walk_at "pt"
    refine i_newl (by simp) fun q2 hq2 => ?_
    walk_at "pt"
    refine i_mull rfl hself (by simp; lia) (by simp) ?_
    rw [flat_rep]
    refine i_newl (by simp; lia) fun r hr => ?_
    walk_at "pt"
    refine i_shl (n := w) rfl (by lia) ⟨by lia, by lia⟩ ?_
    walk_at "pt"
    refine i_newt (by simp) fun q3 hq3 => ?_
    walk_at "pt"
    refine i_unpack hself rfl ?_
    simp only [List.reverse, List.reverseAux]
    walk_at "pt"
    have hr0 : H r = none := none_of (none_of hr)
    have d1 : Drop (H.set r (LI (fd w (x * 2 ^ (w * s + f)) (s + 0)))) ((((H.set q (.tup [.int s, .int f])).set q2 (.list [.int 0])).set r (.list ((List.replicate s (0 : Int)).map V.int))).set q3 (.tup [.ref r, .int 0, .int (1 * 2 ^ w - 1)])) := by
      rw [hz, Nat.add_zero, shl_zero]
      exact drop_new hq3 (drop_both (drop_new hq2 (drop_new hq (Drop.refl _))))
    refine forL (fun t m2 H2 => ∃ c : Nat, Drop (H.set r (LI (fd w (x * 2 ^ (w * s + f)) (s + t)))) H2 ∧ m2 (Str.ofString "w") = some (.int w) ∧ m2 (Str.ofString "few") = some (.int f) ∧ m2 (Str.ofString "found") = some (.ref r) ∧ m2 (Str.ofString "mask") = some (.int (1 * 2 ^ w - 1)) ∧ m2 (Str.ofString "carry") = some (.int c) ∧ c < 2 ^ f ∧ c + 2 ^ f * (x / 2 ^ (w * t)) = x * 2 ^ (w * s + f) / 2 ^ (w * (s + t))) (dget d1 hr0 ha) (fun i m H hi => by obtain ⟨c, d, _⟩ := hi; exact dget d hr0 ha) ⟨0, d1, by (repeat (first | with_reducible exact lk_self | with_reducible assumption | refine lk_hop (by kernel_rfl) ?_)), by (repeat (first | with_reducible exact lk_self | with_reducible assumption | refine lk_hop (by kernel_rfl) ?_)), by (repeat (first | with_reducible exact lk_self | with_reducible assumption | refine lk_hop (by kernel_rfl) ?_)), by (repeat (first | with_reducible exact lk_self | with_reducible assumption | refine lk_hop (by kernel_rfl) ?_)), lk_int (by (repeat (first | with_reducible exact lk_self | with_reducible assumption | refine lk_hop (by kernel_rfl) ?_))) (by lia), pow_pos2 _, ?_⟩ ?_ ?_
    · rw [hz, Nat.add_zero, Nat.mul_div_cancel _ (pow_pos2 _)]; simp [Nat.mul_comm]
    · rintro t v m2 H2 hv ⟨c, d2, j1, j2, j3, j4, j5, j6, j7⟩ K kn kr
      have gr := dself d2
      have ht : t < nl w x := by
        have := (List.getElem?_eq_some_iff.mp hv).1
        simpa [dig_len] using this
      rw [li_get (dig_get ht)] at hv
      cases hv
      have hz2 : x * 2 ^ (w * s + f) / 2 ^ (w * (s + t)) = x * 2 ^ f / 2 ^ (w * t) := by
        rw [hz, Nat.mul_add, Nat.pow_add, ← Nat.div_div_eq_div_mul, Nat.mul_div_cancel _ (pow_pos2 _)]
      have st := shl_step (x := x) (z := x * 2 ^ f) (by rw [← hz2]; exact j7) j6
      have hdg : dg w (x * 2 ^ (w * s + f)) (s + t) = dg w (x * 2 ^ f) t := by unfold dg; rw [hz2]
      walk_at "pt"
      refine i_shl (n := f) rfl (by lia) (small_of (pow_lt_of dg_lt hw2)) ?_
      walk_at "pt"
      rw [or_sum j6]
      refine ⟨r, _, rfl, gr, ?_⟩
      walk_at "pt"
      rw [and_mask, st.1, ← hdg]
      refine i_append gr (by rw [List.length_map, fd_len]; lia) ?_
      rw [li_app, ← fd_succ]
      walk_at "pt"
      refine i_ishr rfl ?_
      rw [shr_nat]
      walk_at "pt"
      refine kn _ _ ⟨_, drop_step d2, by (repeat (first | with_reducible exact lk_self | with_reducible assumption | refine lk_hop (by kernel_rfl) ?_)), by (repeat (first | with_reducible exact lk_self | with_reducible assumption | refine lk_hop (by kernel_rfl) ?_)), by (repeat (first | with_reducible exact lk_self | with_reducible assumption | refine lk_hop (by kernel_rfl) ?_)), by (repeat (first | with_reducible exact lk_self | with_reducible assumption | refine lk_hop (by kernel_rfl) ?_)), by (repeat (first | with_reducible exact lk_self | with_reducible assumption | refine lk_hop (by kernel_rfl) ?_)), st.2.2, ?_⟩
      rw [st.2.1, hz, ← Nat.add_assoc, show s + t + 1 = s + (t + 1) by lia, Nat.mul_add w s, Nat.pow_add, ← Nat.div_div_eq_div_mul, Nat.mul_div_cancel _ (pow_pos2 _)]
    rintro m2 H2 ⟨c, d2, j1, j2, j3, j4, j5, j6, j7⟩
    rw [List.length_map, dig_len] at d2 j7
    have gr := dself d2
    rw [div_out (x := x) (by lia) (Nat.le_refl _), Nat.mul_zero, Nat.add_zero] at j7
    have hc1 : c < 2 ^ w := pow_lt_of j6 (by lia)
    have hge : 2 ^ (w * (nl w x - 1)) ≤ x := le_of_nl (by lia)
    walk_at "pt"
    · intro hc
      walk_at "pt"
      refine ⟨r, _, rfl, gr, ?_⟩
      walk_at "pt"
      refine i_append gr (by rw [List.length_map, fd_len]; lia) ?_
      have e2 : c = dg w (x * 2 ^ (w * s + f)) (s + nl w x) := by rw [dg_last (by lia)]; exact j7
      rw [e2, li_app, ← fd_succ, fd_dig (nl_eq (by omega) (lt_one (by omega)) fun k hk => by obtain rfl : s + nl w x = k := by omega
                                                                                             exact ge_pow (by lia))]
      walk_at "pt"
      exact i_endL hk hr0 (drop_step d2)
    · intro hc
      rw [fd_dig (nl_eq (by lia) ?_ fun k hk => ?_)] at d2
      · walk_at "pt"
        exact i_endL hk hr0 d2
      · have : (x * 2 ^ (w * s + f)) / 2 ^ (w * (s + nl w x)) = 0 := by lia
        rcases Nat.lt_or_ge (x * 2 ^ (w * s + f)) (2 ^ (w * (s + nl w x))) with q | q
        · exact q
        · have := Nat.div_pos q (pow_pos2 _); lia
      · obtain ⟨p, hp⟩ : ∃ p, nl w x = p + 1 := ⟨nl w x - 1, by lia⟩
        obtain rfl : k = s + p := by lia
        rw [hp] at hge
        rw [hz, Nat.mul_add, Nat.pow_add, Nat.mul_comm]
        refine Nat.mul_le_mul_right _ (Nat.le_trans hge ?_)
        exact Nat.le_mul_of_pos_right _ (pow_pos2 f)
end
section
-- level 1
noncomputable def nb (x : Nat) : Nat := if x = 0 then 0 else x.log2 + 1
theorem intBits_nat (x : Nat) : Builtin.Int.intBits (x : Int) = ((nb x : Nat) : Int) := by
  unfold Builtin.Int.intBits nb
  by_cases h : x = 0
  · subst h; simp
  · simp [h]
theorem nb_top {w x n : Nat} (hw : 0 < w) (h : n + 1 = nl w x) : (n : Int) * w + nb (dg w x n) = (nb x : Nat) := by
  have hx : x ≠ 0 := by rintro rfl; cases h
  have h1 : x / 2 ^ (w * n) < 2 ^ w := by
    have := nl_lt (w := w) (x := x) hw
    rw [← h, Nat.mul_add, Nat.mul_one, Nat.pow_add] at this
    rw [Nat.div_lt_iff_lt_mul (pow_pos2 _), Nat.mul_comm]
    exact this
  rw [dg_last h1]
  have h0 : x / 2 ^ (w * n) ≠ 0 := by rw [← dg_last h1]; exact top_ne hw h
  unfold nb
  rw [if_neg hx, if_neg h0]
  have e : (x / 2 ^ (w * n)).log2 = x.log2 - w * n := by
    rw [Nat.log2_eq_iff h0]
    have hl : w * n ≤ x.log2 := by
      rw [Nat.le_log2 hx]; exact le_of_nl (by lia)
    have a1 := Nat.log2_self_le hx
    have a2 := Nat.lt_log2_self (n := x)
    constructor
    · rw [Nat.le_div_iff_mul_le (pow_pos2 _), ← Nat.pow_add, Nat.sub_add_cancel hl]; exact a1
    · rw [Nat.div_lt_iff_lt_mul (pow_pos2 _), ← Nat.pow_add]
      exact pow_lt_of a2 (by lia)
  have hl : w * n ≤ x.log2 := by
    rw [Nat.le_log2 hx]; exact le_of_nl (by lia)
  rw [e]
  push_cast
  rw [Int.mul_comm (n : Int)]
  have : ((x.log2 - w * n : Nat) : Int) = (x.log2 : Int) - (w : Int) * n := by push_cast [Int.ofNat_sub hl]; lia
  lia
noncomputable def spec_bits : SpecT := fun vs H k => ∃ a w x, vs = [.ref a, .int (w : Nat)] ∧ 2 ≤ w ∧ w ≤ 62 ∧ H a = some (LI (dig w x)) ∧ nl w x ≤ 5000 ∧ k (.int (nb x)) H
theorem con_bits {S : Sy} (hK : GoodK S.K) : Con S 1 88 spec_bits := by
  refine con_of_fn (n := 0) (ns := [Str.ofString "a", Str.ofString "w"]) (f_bits hK) (fun A h₀ L mL P hF =>
     (exs_cons (ex_return (ev_ifexp (it_compare1 hF (ev_callB hF (by rfl) (n_len hK) PyProof.Rows.Boot.«len» bi_len (evl_cons (ev_local hF (by rfl)) evl_nil)) ev_constInt) (ev_binop (ev_binop (ev_binop (ev_callB hF (by rfl) (n_len hK) PyProof.Rows.Boot.«len» bi_len (evl_cons (ev_local hF (by rfl)) evl_nil)) ev_constInt) (ev_local hF (by rfl))) (ev_bitlen (ev_sub (ev_local hF (by rfl)) (ev_neg ev_constInt)))) ev_constInt))
      exs_nil)) rfl ?spec ?bind (by rfl) (by decide) rfl rfl rfl
  case bind => exact fun _ _ _ _ => fn2 fun _ _ => rfl
  case spec =>
    rintro vs H k ⟨a, w, x, rfl, hw, hw2, ha, hx, hk⟩
    refine ⟨rfl, in2 ?_⟩
    walk_at "pt"
    refine i_lenI ha dig_len (by lia) ?_
    walk_at "pt"
    · intro h0
      walk_at "pt"
      refine i_lenI ha dig_len (by lia) ?_
      walk_at "pt"
      refine i_mul ⟨by lia, by lia⟩ ?_
      walk_at "pt"
      obtain ⟨p, hp⟩ : ∃ p, p + 1 = nl w x := ⟨nl w x - 1, by lia⟩
      refine i_subL (n := p) ha rfl (by rw [List.length_map, dig_len]; lia) (by lia) (li_get (dig_get (by lia))) ?_
      walk_at "pt"
      have e := nb_top (w := w) (by lia) hp
      rw [intBits_nat]
      have e1 : (nl w x : Int) - 1 = (p : Nat) := by lia
      rw [e1, e]
      exact i_endV hk (Drop.refl _)
    · intro h0
      have hx0 : x = 0 := by
        rcases Nat.eq_zero_or_pos x with h | h
        · exact h
        · exact absurd (nl_pos (w := w) (by lia : x ≠ 0)) (by lia)
      subst hx0
      walk_at "pt"
      exact i_endV hk (Drop.refl _)
end
section
-- level 1
noncomputable def spec_small_number : SpecT := fun vs H k => ∃ n w, vs = [.int (n : Nat), .int (w : Nat)] ∧ 2 ≤ w ∧ w ≤ 62 ∧ nl w n ≤ 5000 ∧ ∀ r, H r = none → k (.ref r) (H.set r (LI (dig w n)))
theorem con_small_number {S : Sy} (hK : GoodK S.K) : Con S 1 214 spec_small_number := by
  refine con_of_fn (n := 0) (ns := [Str.ofString "n", Str.ofString "w"]) (f_small_number hK) (fun A h₀ L mL P hF =>
     (exs_cons (ex_assignName (ev_storeLocal hF rfl (by rfl)) (ev_list evl_nil))
      (exs_cons (ex_while (it_compare1 hF (ev_local hF (by rfl)) ev_constInt) (exs_cons (ex_expr (ev_append (ev_local hF (by rfl)) (ev_binop (ev_local hF (by rfl)) (ev_binop ev_constInt (ev_local hF (by rfl))))))
      (exs_cons (ex_assignName (ev_storeLocal hF rfl (by rfl)) (ev_binop (ev_local hF (by rfl)) (ev_local hF (by rfl))))
      exs_nil)))
      (exs_cons (ex_return (ev_local hF (by rfl)))
      exs_nil)))) rfl ?spec ?bind (by rfl) (by decide) rfl rfl rfl
  case bind => exact fun _ _ _ _ => fn2 fun _ _ => rfl
  case spec =>
    rintro vs H k ⟨n, w, rfl, hw, hw2, hn, hk⟩
    refine ⟨rfl, in2 ?_⟩
    walk_at "pt"
    refine i_newl (by simp) fun r hr => ?_
    walk_at "pt"
    refine while_to (fun j m2 H2 => ∃ t, j = n / 2 ^ (w * t) ∧ Drop (H.set r (LI (fd w n t))) H2 ∧ m2 (Str.ofString "n") = some (.int (n / 2 ^ (w * t) : Nat)) ∧ m2 (Str.ofString "w") = some (.int w) ∧ m2 (Str.ofString "found") = some (.ref r) ∧ ∀ k, t = k + 1 → 2 ^ (w * k) ≤ n)
      (fun m2 H2 => Drop (H.set r (LI (dig w n))) H2 ∧ m2 (Str.ofString "found") = some (.ref r)) ?_ ?_ _ _ _ ⟨0, rfl, Drop.refl _, lk_int (by (repeat (first | with_reducible exact lk_self | with_reducible assumption | refine lk_hop (by kernel_rfl) ?_))) (by simp), by (repeat (first | with_reducible exact lk_self | with_reducible assumption | refine lk_hop (by kernel_rfl) ?_)), by (repeat (first | with_reducible exact lk_self | with_reducible assumption | refine lk_hop (by kernel_rfl) ?_)), fun k h => by cases h⟩
    · rintro j m2 H2 ⟨t, rfl, d2, j1, j2, j3, j4⟩ K kn kb kr
      have gr := dself d2
      walk_at "pt"
      · intro hpos
        have ht : t ≤ 5000 := by
          have := le_of_nl (w := w) (x := n) (n := t)
          rcases Nat.lt_or_ge t (nl w n) with h | h
          · lia
          · have := div_out (x := n) (by lia : 0 < w) h; lia
        walk_at "pt"
        refine ⟨r, _, rfl, gr, ?_⟩
        walk_at "pt"
        refine i_shl (n := w) rfl (by lia) ⟨by lia, by lia⟩ ?_
        walk_at "pt"
        refine i_mod (by rw [Int.one_mul, ← cast_pow]; have := pow_pos2 w; lia) ?_
        rw [fmod_pow]
        refine i_append gr (by rw [List.length_map, fd_len]; lia) ?_
        rw [li_app]
        have e : fd w n t ++ [((n / 2 ^ (w * t) % 2 ^ w : Nat) : Int)] = fd w n (t + 1) := fd_succ.symm
        rw [e]
        walk_at "pt"
        refine i_shr rfl ?_
        rw [shr_nat, ← div_succ]
        walk_at "pt"
        refine kn (n / 2 ^ (w * (t + 1))) ?_ _ _ ⟨t + 1, rfl, drop_step d2, by (repeat (first | with_reducible exact lk_self | with_reducible assumption | refine lk_hop (by kernel_rfl) ?_)), by (repeat (first | with_reducible exact lk_self | with_reducible assumption | refine lk_hop (by kernel_rfl) ?_)), by (repeat (first | with_reducible exact lk_self | with_reducible assumption | refine lk_hop (by kernel_rfl) ?_)), fun k hk => ?_⟩
        · rw [div_succ]
          refine Nat.div_lt_self (by lia) ?_
          have := pow_le2 (a := 1) (b := w) (by lia)
          lia
        · obtain rfl : t = k := by lia
          exact ge_pow (by lia)
      · intro hz
        rw [fd_dig (nl_eq (by lia) ?_ j4)] at d2
        · walk_at "pt"
          exact fun h => h ⟨d2, j3⟩
        · rcases Nat.lt_or_ge n (2 ^ (w * t)) with q | q
          · exact q
          · have := Nat.div_pos q (pow_pos2 _); lia
    · rintro m2 H2 ⟨d2, j3⟩
      walk_at "pt"
      exact i_endL hk hr d2
end
section
-- level 1
noncomputable def spec_law_nat : SpecT := fun vs H k => ∃ n w, vs = [.int (n : Nat), .int (w : Nat)] ∧ 2 ≤ w ∧ w ≤ 62 ∧ nl w n ≤ 5000 ∧ ∀ r, H r = none → k (.ref r) (H.set r (LI (dig w n)))
theorem con_law_nat {S : Sy} (hK : GoodK S.K) : Con S 1 249 spec_law_nat := by
  refine con_of_fn (n := 0) (ns := [Str.ofString "number", Str.ofString "w"]) (f_law_nat hK) (fun A h₀ L mL P hF =>
     (exs_cons (ex_assignName (ev_storeLocal hF rfl (by rfl)) (ev_list evl_nil))
      (exs_cons (ex_while (it_compare1 hF (ev_local hF (by rfl)) ev_constInt) (exs_cons (ex_expr (ev_append (ev_local hF (by rfl)) (ev_binop (ev_local hF (by rfl)) (ev_binop ev_constInt (ev_local hF (by rfl))))))
      (exs_cons (ex_assignName (ev_storeLocal hF rfl (by rfl)) (ev_binop (ev_local hF (by rfl)) (ev_local hF (by rfl))))
      exs_nil)))
      (exs_cons (ex_return (ev_local hF (by rfl)))
      exs_nil)))) rfl ?spec ?bind (by rfl) (by decide) rfl rfl rfl
  case bind => exact fun _ _ _ _ => fn2 fun _ _ => rfl
  case spec =>
    rintro vs H k ⟨n, w, rfl, hw, hw2, hn, hk⟩
    refine ⟨rfl, in2 ?_⟩
    walk_at "pt"
    refine i_newl (by simp) fun r hr => ?_
    walk_at "pt"
    refine while_to (fun j m2 H2 => ∃ t, j = n / 2 ^ (w * t) ∧ Drop (H.set r (LI (fd w n t))) H2 ∧ m2 (Str.ofString "number") = some (.int (n / 2 ^ (w * t) : Nat)) ∧ m2 (Str.ofString "w") = some (.int w) ∧ m2 (Str.ofString "found") = some (.ref r) ∧ ∀ k, t = k + 1 → 2 ^ (w * k) ≤ n)
      (fun m2 H2 => Drop (H.set r (LI (dig w n))) H2 ∧ m2 (Str.ofString "found") = some (.ref r)) ?_ ?_ _ _ _ ⟨0, rfl, Drop.refl _, lk_int (by (repeat (first | with_reducible exact lk_self | with_reducible assumption | refine lk_hop (by kernel_rfl) ?_))) (by simp), by (repeat (first | with_reducible exact lk_self | with_reducible assumption | refine lk_hop (by kernel_rfl) ?_)), by (repeat (first | with_reducible exact lk_self | with_reducible assumption | refine lk_hop (by kernel_rfl) ?_)), fun k h => by cases h⟩
    · rintro j m2 H2 ⟨t, rfl, d2, j1, j2, j3, j4⟩ K kn kb kr
      have gr := dself d2
      walk_at "pt"
      · intro hpos
        have ht : t ≤ 5000 := by
          have := le_of_nl (w := w) (x := n) (n := t)
          rcases Nat.lt_or_ge t (nl w n) with h | h
          · lia
          · have := div_out (x := n) (by lia : 0 < w) h; lia
        walk_at "pt"
        refine ⟨r, _, rfl, gr, ?_⟩
        walk_at "pt"
        refine i_shl (n := w) rfl (by lia) ⟨by lia, by lia⟩ ?_
        walk_at "pt"
        refine i_mod (by rw [Int.one_mul, ← cast_pow]; have := pow_pos2 w; lia) ?_
        rw [fmod_pow]
        refine i_append gr (by rw [List.length_map, fd_len]; lia) ?_
        rw [li_app]
        have e : fd w n t ++ [((n / 2 ^ (w * t) % 2 ^ w : Nat) : Int)] = fd w n (t + 1) := fd_succ.symm
        rw [e]
        walk_at "pt"
        refine i_shr rfl ?_
        rw [shr_nat, ← div_succ]
        walk_at "pt"
        refine kn (n / 2 ^ (w * (t + 1))) ?_ _ _ ⟨t + 1, rfl, drop_step d2, by (repeat (first | with_reducible exact lk_self | with_reducible assumption | refine lk_hop (by kernel_rfl) ?_)), by (repeat (first | with_reducible exact lk_self | with_reducible assumption | refine lk_hop (by kernel_rfl) ?_)), by (repeat (first | with_reducible exact lk_self | with_reducible assumption | refine lk_hop (by kernel_rfl) ?_)), fun k hk => ?_⟩
        · rw [div_succ]
          refine Nat.div_lt_self (by lia) ?_
          have := pow_le2 (a := 1) (b := w) (by lia)
          lia
        · obtain rfl : t = k := by lia
          exact ge_pow (by lia)
      · intro hz
        rw [fd_dig (nl_eq (by lia) ?_ j4)] at d2
        · walk_at "pt"
          exact fun h => h ⟨d2, j3⟩
        · rcases Nat.lt_or_ge n (2 ^ (w * t)) with q | q
          · exact q
          · have := Nat.div_pos q (pow_pos2 _); lia
    · rintro m2 H2 ⟨d2, j3⟩
      walk_at "pt"
      exact i_endL hk hr d2
end
section
-- level 1
noncomputable def spec_law_value : SpecT := fun vs H k => ∃ a w x, vs = [.ref a, .int (w : Nat)] ∧ 2 ≤ w ∧ w ≤ 62 ∧ H a = some (LI (dig w x)) ∧ nl w x ≤ 5000 ∧ x < 2 ^ 60 ∧ k (.int x) H
theorem con_law_value {S : Sy} (hK : GoodK S.K) : Con S 1 256 spec_law_value := by
  refine con_of_fn (n := 0) (ns := [Str.ofString "limbs", Str.ofString "w"]) (f_law_value hK) (fun A h₀ L mL P hF =>
     (exs_cons (ex_assignName (ev_storeLocal hF rfl (by rfl)) ev_constInt)
      (exs_cons (ex_forList hF (fun p1 => (ev_storeLocal (hF.withP p1) rfl (by rfl))) (ev_slice (ev_local hF (by rfl)) evo_none evo_none (evo_some (ev_binop ev_constInt ev_constInt))) (fun p1 => (exs_cons (ex_if (it_not (it_compare2 (hF.withP p1) ev_constInt (ev_local (hF.withP p1) (by rfl)) (ev_binop ev_constInt (ev_local (hF.withP p1) (by rfl))))) (exs_cons (ex_return ev_constNone)
      exs_nil) exs_nil)
      (exs_cons (ex_assignName (ev_storeLocal (hF.withP p1) rfl (by rfl)) (ev_binop (ev_binop (ev_local (hF.withP p1) (by rfl)) (ev_local (hF.withP p1) (by rfl))) (ev_local (hF.withP p1) (by rfl))))
      exs_nil))))
      (exs_cons (ex_return (ev_ifexp (it_and (it_compare1 hF (ev_local hF (by rfl)) (ev_list evl_nil)) (it_and (it_compare1 hF (ev_sub (ev_local hF (by rfl)) (ev_binop (ev_callB hF (by rfl) (n_len hK) PyProof.Rows.Boot.«len» bi_len (evl_cons (ev_local hF (by rfl)) evl_nil)) ev_constInt)) ev_constInt) it_andNil)) ev_constNone (ev_local hF (by rfl))))
      exs_nil)))) rfl ?spec ?bind (by rfl) (by decide) rfl rfl rfl
  case bind => exact fun _ _ _ _ => fn2 fun _ _ => rfl
  case spec =>
    rintro vs H k ⟨a, w, x, rfl, hw, hw2, ha, hx, hx2, hk⟩
    refine ⟨rfl, in2 ?_⟩
    walk_at "pt"
    refine i_slice (ys := ((dig w x).map V.int).reverse) ha rfl (by rw [List.length_map, dig_len]; lia) fun r hr => ?_
    refine forL (fun t m2 H2 => H2 = H.set r (.list ((dig w x).map V.int).reverse) ∧ m2 (Str.ofString "limbs") = some (.ref a) ∧ m2 (Str.ofString "w") = some (.int w) ∧ m2 (Str.ofString "found") = some (.int (x / 2 ^ (w * (nl w x - t)) : Nat))) hself (fun i m H hi => by obtain ⟨rfl, _⟩ := hi; exact hself) ⟨rfl, by (repeat (first | with_reducible exact lk_self | with_reducible assumption | refine lk_hop (by kernel_rfl) ?_)), by (repeat (first | with_reducible exact lk_self | with_reducible assumption | refine lk_hop (by kernel_rfl) ?_)), lk_int (by (repeat (first | with_reducible exact lk_self | with_reducible assumption | refine lk_hop (by kernel_rfl) ?_))) (by rw [Nat.sub_zero, div_out (by lia) (Nat.le_refl _)]; rfl)⟩ ?_ ?_
    · rintro t v m2 H2 hv ⟨rfl, j1, j2, j3⟩ K kn kr
      have ht : t < nl w x := by
        have := (List.getElem?_eq_some_iff.mp hv).1
        simpa [dig_len] using this
      have hlen : ((dig w x).map V.int).length = nl w x := by rw [List.length_map, dig_len]
      rw [List.getElem?_reverse (by lia), hlen] at hv
      obtain ⟨p, hp⟩ : ∃ p, nl w x = p + t + 1 := ⟨nl w x - t - 1, by lia⟩
      have e1 : nl w x - 1 - t = p := by lia
      rw [e1, li_get (dig_get (by lia))] at hv
      cases hv
      have l1 : dg w x p < 2 ^ w := dg_lt
      have hcp := cast_pow w
      walk_at "pt"
      · intro _
        walk_at "pt"
        refine i_shl (n := w) rfl (by lia) ⟨by lia, by lia⟩ ?_
        walk_at "pt"
        · intro h; exact absurd (by rw [Int.one_mul, ← hcp]; lia) h
        · intro h
          walk_at "pt"
          have e2 : nl w x - t = p + 1 := by lia
          rw [e2]
          refine i_shl (n := w) rfl (by lia) ?_ ?_
          · exact small_of (Nat.lt_of_le_of_lt (Nat.div_le_self _ _) (Nat.lt_trans hx2 (by decide)))
          walk_at "pt"
          refine kn _ _ ⟨rfl, by (repeat (first | with_reducible exact lk_self | with_reducible assumption | refine lk_hop (by kernel_rfl) ?_)), by (repeat (first | with_reducible exact lk_self | with_reducible assumption | refine lk_hop (by kernel_rfl) ?_)), lk_int (by (repeat (first | with_reducible exact lk_self | with_reducible assumption | refine lk_hop (by kernel_rfl) ?_))) ?_⟩
          have e3 : nl w x - (t + 1) = p := by lia
          rw [e3, ← hcp]
          have := div_split (w := w) (x := x) (i := p)
          rw [this]; push_cast; rw [Int.mul_comm]
      · intro h; lia
    rintro m2 H2 ⟨rfl, j1, j2, j3⟩
    rw [List.length_reverse, List.length_map, dig_len, Nat.sub_self, Nat.mul_zero, Nat.pow_zero, Nat.div_one] at j3
    walk_at "pt"
    refine i_newl (by simp) fun r2 hr2 => ?_
    have ga := fresh_get (o' := .list []) hr2 (fresh_get (o' := .list ((dig w x).map V.int).reverse) hr ha)
    refine i_nel (xs := dig w x) (ys := []) ga hself ?_
    walk_at "pt"
    · intro hne
      walk_at "pt"
      refine i_lenI ga dig_len (by lia) ?_
      walk_at "pt"
      have h0 : nl w x ≠ 0 := by intro h; apply hne; unfold dig; rw [h]; rfl
      obtain ⟨p, hp⟩ : ∃ p, p + 1 = nl w x := ⟨nl w x - 1, by lia⟩
      refine i_sub (n := p) ga (by lia) (by lia) (li_get (dig_get (by lia))) ?_
      walk_at "pt"
      · intro h; exact absurd h (by have := top_ne (w := w) (by lia) hp; lia)
      · intro h
        walk_at "pt"
        exact i_endV hk (drop_new hr2 (drop_new hr (Drop.refl _)))
    · intro he
      walk_at "pt"
      exact i_endV hk (drop_new hr2 (drop_new hr (Drop.refl _)))
end
section
-- level 1
theorem mul_step {w P Q y c d : Nat} {i j : Nat} (h : c + P / 2 ^ (w * i) + d * (y / 2 ^ (w * j)) = Q / 2 ^ (w * i)) :
    (c + dg w P i + d * dg w y j) % 2 ^ w = dg w Q i ∧ (c + dg w P i + d * dg w y j) / 2 ^ w + P / 2 ^ (w * (i + 1)) + d * (y / 2 ^ (w * (j + 1))) = Q / 2 ^ (w * (i + 1)) := by
  have e1 := div_split (w := w) (x := P) (i := i)
  have e2 := div_split (w := w) (x := y) (i := j)
  have := carry_step (s := c + dg w P i + d * dg w y j) (t := P / 2 ^ (w * (i + 1)) + d * (y / 2 ^ (w * (j + 1)))) (Z := Q / 2 ^ (w * i)) (pow_pos2 w) (by
    rw [← h, e1, e2, Nat.mul_add d, Nat.mul_add, Nat.mul_left_comm d]; lia)
  rw [div_succ (x := Q)]
  exact ⟨this.1, by lia⟩
theorem mod_next {w x t : Nat} : x % 2 ^ (w * (t + 1)) = x % 2 ^ (w * t) + 2 ^ (w * t) * dg w x t := by
  rw [Nat.mul_add, Nat.mul_one, Nat.pow_add, Nat.mod_mul]; rfl
theorem low_same {w P z t i : Nat} (h : i < t) : dg w (P + 2 ^ (w * t) * z) i = dg w P i := by
  unfold dg
  have e : w * t = w * i + (w + (w * (t - i - 1))) := by
    have : t = i + 1 + (t - i - 1) := by lia
    conv => lhs; rw [this, Nat.mul_add, Nat.mul_add]
    lia
  rw [e, Nat.pow_add, Nat.mul_assoc, Nat.add_mul_div_left _ _ (pow_pos2 _), Nat.pow_add, Nat.mul_assoc, Nat.add_mul_mod_self_left]
theorem fd_zeros {w n : Nat} : (List.replicate n (0 : Int)) = fd w 0 n := by
  refine List.ext_getElem? fun i => ?_
  rcases Nat.lt_or_ge i n with q | q
  · rw [fd_get q, List.getElem?_replicate, if_pos q]; unfold dg; simp
  · rw [List.getElem?_eq_none (by simp; lia), List.getElem?_eq_none (by rw [fd_len]; lia)]
theorem flat_rep0 {s : Nat} : (List.replicate s [V.int 0]).flatten = (List.replicate s (0 : Int)).map V.int := by
  induction s with
  | zero => rfl
  | succ s ih => rw [List.replicate_succ, List.flatten_cons, ih]; rfl
theorem mul_bound {w x y t n : Nat} (hy : y < 2 ^ (w * n)) : x % 2 ^ (w * t) * y < 2 ^ (w * (t + n)) := by
  have h1 : x % 2 ^ (w * t) < 2 ^ (w * t) := Nat.mod_lt _ (pow_pos2 _)
  rw [Nat.mul_add, Nat.pow_add]
  exact Nat.mul_lt_mul'' h1 hy
noncomputable def mtab (w P Q e n : Nat) : List Int := tab (fun i => if i < e then ((dg w Q i : Nat) : Int) else ((dg w P i : Nat) : Int)) n
theorem mtab_len {w P Q e n : Nat} : (mtab w P Q e n).length = n := tab_len _ _
theorem mtab_get {w P Q e n : Nat} (h : e < n) : (mtab w P Q e n)[e]? = some ((dg w P e : Nat) : Int) := by
  unfold mtab
  rw [tab_get h, if_neg (Nat.lt_irrefl _)]
theorem mtab_set {w P Q e n : Nat} : (mtab w P Q e n).set e ((dg w Q e : Nat) : Int) = mtab w P Q (e + 1) n := by
  unfold mtab
  rw [tab_set]
  refine tab_congr fun i hi => ?_
  by_cases h1 : i = e
  · subst h1; rw [if_pos rfl, if_pos (by lia)]
  · rw [if_neg h1]
    by_cases h2 : i < e
    · rw [if_pos h2, if_pos (by lia)]
    · rw [if_neg h2, if_neg (by lia)]
theorem mtab_start {w P z t n : Nat} : fd w P n = mtab w P (P + 2 ^ (w * t) * z) t n := by
  refine tab_congr fun i hi => ?_
  by_cases h : i < t
  · rw [if_pos h, low_same h]
  · rw [if_neg h]
theorem mtab_end {w P Q e n : Nat} (h1 : P < 2 ^ (w * e)) (h2 : Q < 2 ^ (w * e)) : mtab w P Q e n = fd w Q n := by
  refine tab_congr fun i hi => ?_
  by_cases h : i < e
  · rw [if_pos h]
  · rw [if_neg h, dg_big (pow_lt_of h1 (Nat.mul_le_mul_left w (by lia))), dg_big (pow_lt_of h2 (Nat.mul_le_mul_left w (by lia)))]
noncomputable def spec_law_mul : SpecT := fun vs H k => ∃ a b w x y, vs = [.ref a, .ref b, .int (w : Nat)] ∧ 2 ≤ w ∧ w ≤ 60 ∧ H a = some (LI (dig w x)) ∧ H b = some (LI (dig w y)) ∧ nl w x + nl w y ≤ 250 ∧ ∀ r, H r = none → k (.ref r) (H.set r (LI (dig w (x * y))))
theorem con_law_mul {S : Sy} (hK : GoodK S.K) : Con S 1 263 spec_law_mul := by
  refine con_of_fn (n := 0) (ns := [Str.ofString "a", Str.ofString "b", Str.ofString "w"]) (f_law_mul hK) (fun A h₀ L mL P hF =>
     (exs_cons (ex_assignName (ev_storeLocal hF rfl (by rfl)) (ev_binop (ev_list (evl_cons ev_constInt evl_nil)) (ev_binop (ev_callB hF (by rfl) (n_len hK) PyProof.Rows.Boot.«len» bi_len (evl_cons (ev_local hF (by rfl)) evl_nil)) (ev_callB hF (by rfl) (n_len hK) PyProof.Rows.Boot.«len» bi_len (evl_cons (ev_local hF (by rfl)) evl_nil)))))
      (exs_cons (ex_forRange hF (fun p1 => (ev_storeLocal (hF.withP p1) rfl (by rfl))) (by rfl) (n_range hK) PyProof.Rows.Boot.«range» (evl_cons (ev_callB hF (by rfl) (n_len hK) PyProof.Rows.Boot.«len» bi_len (evl_cons (ev_local hF (by rfl)) evl_nil)) evl_nil) (fun p1 => (exs_cons (ex_assignName (ev_storeLocal (hF.withP p1) rfl (by rfl)) ev_constInt)
      (exs_cons (ex_forRange (hF.withP p1) (fun p2 => (ev_storeLocal ((hF.withP p1).withP p2) rfl (by rfl))) (by rfl) (n_range hK) PyProof.Rows.Boot.«range» (evl_cons (ev_callB (hF.withP p1) (by rfl) (n_len hK) PyProof.Rows.Boot.«len» bi_len (evl_cons (ev_local (hF.withP p1) (by rfl)) evl_nil)) evl_nil) (fun p2 => (exs_cons (ex_assignName (ev_storeLocal ((hF.withP p1).withP p2) rfl (by rfl)) (ev_binop (ev_binop (ev_local ((hF.withP p1).withP p2) (by rfl)) (ev_sub (ev_local ((hF.withP p1).withP p2) (by rfl)) (ev_binop (ev_local ((hF.withP p1).withP p2) (by rfl)) (ev_local ((hF.withP p1).withP p2) (by rfl))))) (ev_binop (ev_sub (ev_local ((hF.withP p1).withP p2) (by rfl)) (ev_local ((hF.withP p1).withP p2) (by rfl))) (ev_sub (ev_local ((hF.withP p1).withP p2) (by rfl)) (ev_local ((hF.withP p1).withP p2) (by rfl))))))
      (exs_cons (ex_assignSub (ev_local ((hF.withP p1).withP p2) (by rfl)) (ev_binop (ev_local ((hF.withP p1).withP p2) (by rfl)) (ev_local ((hF.withP p1).withP p2) (by rfl))) (ev_binop (ev_local ((hF.withP p1).withP p2) (by rfl)) (ev_binop ev_constInt (ev_local ((hF.withP p1).withP p2) (by rfl)))))
      (exs_cons (ex_assignName (ev_storeLocal ((hF.withP p1).withP p2) rfl (by rfl)) (ev_binop (ev_local ((hF.withP p1).withP p2) (by rfl)) (ev_local ((hF.withP p1).withP p2) (by rfl))))
      exs_nil)))))
      (exs_cons (ex_assignSub (ev_local (hF.withP p1) (by rfl)) (ev_binop (ev_local (hF.withP p1) (by rfl)) (ev_callB (hF.withP p1) (by rfl) (n_len hK) PyProof.Rows.Boot.«len» bi_len (evl_cons (ev_local (hF.withP p1) (by rfl)) evl_nil))) (ev_local (hF.withP p1) (by rfl)))
      exs_nil)))))
      (exs_cons (ex_while (it_and (it_compare1 hF (ev_local hF (by rfl)) (ev_list evl_nil)) (it_and (it_compare1 hF (ev_sub (ev_local hF (by rfl)) (ev_binop (ev_callB hF (by rfl) (n_len hK) PyProof.Rows.Boot.«len» bi_len (evl_cons (ev_local hF (by rfl)) evl_nil)) ev_constInt)) ev_constInt) it_andNil)) (exs_cons (ex_expr (ev_pop (ev_local hF (by rfl))))
      exs_nil))
      (exs_cons (ex_return (ev_local hF (by rfl)))
      exs_nil))))) rfl ?spec ?bind (by rfl) (by decide) rfl rfl rfl
  case bind => exact fun _ _ _ _ => fn3 fun _ _ _ => rfl
  case spec =>
    rintro vs H k ⟨a, b, w, x, y, rfl, hw, hw2, ha, hb, hn, hk⟩
    refine ⟨rfl, in3 ?_⟩
    walk_at "pt"
    refine i_newl (by simp) fun q hq => ?_
    have ga := fresh_get (o' := .list [V.int 0]) hq ha
    have gb := fresh_get (o' := .list [V.int 0]) hq hb
    walk_at "pt"
    refine i_lenI ga dig_len (by lia) ?_
    walk_at "pt"
    refine i_lenI gb dig_len (by lia) ?_
    walk_at "pt"
    refine i_mull (n := nl w x + nl w y) (by lia) hself (by simp; lia) (by simp) ?_
    rw [flat_rep0, fd_zeros (w := w)]
    refine i_newl (by rw [List.length_map, fd_len]; lia) fun r hr => ?_
    have hr0 : H r = none := none_of hr
    have hd1 : Drop (H.set r (LI (fd w 0 (nl w x + nl w y)))) ((H.set q (.list [V.int 0])).set r (LI (fd w 0 (nl w x + nl w y)))) := drop_both (drop_set hq)
    have hcp := cast_pow w
    have hpp := pow_pos2 w
    have hw62 : w ≤ 62 := by lia
    walk_at "pt"
    refine i_lenI (dget hd1 hr0 ha) dig_len (by lia) ?_
    walk_at "pt"
    refine for1 (n := nl w x) (fun t m2 H2 => Drop (H.set r (LI (fd w (x % 2 ^ (w * t) * y) (nl w x + nl w y)))) H2 ∧ m2 (Str.ofString "a") = some (.ref a) ∧ m2 (Str.ofString "b") = some (.ref b) ∧ m2 (Str.ofString "w") = some (.int w) ∧ m2 (Str.ofString "found") = some (.ref r)) rfl (by lia) ⟨by simpa [Nat.mod_one] using hd1, by (repeat (first | with_reducible exact lk_self | with_reducible assumption | refine lk_hop (by kernel_rfl) ?_)), by (repeat (first | with_reducible exact lk_self | with_reducible assumption | refine lk_hop (by kernel_rfl) ?_)), by (repeat (first | with_reducible exact lk_self | with_reducible assumption | refine lk_hop (by kernel_rfl) ?_)), by (repeat (first | with_reducible exact lk_self | with_reducible assumption | refine lk_hop (by kernel_rfl) ?_))⟩ ?_ ?_
    · rintro t m2 H2 ht ⟨d2, j1, j2, j3, j4⟩ K kn kr
      have hy1 : y < 2 ^ (w * nl w y) := nl_lt (by lia)
      have eQ : x % 2 ^ (w * (t + 1)) * y = x % 2 ^ (w * t) * y + 2 ^ (w * t) * (dg w x t * y) := by rw [mod_next, Nat.add_mul, Nat.mul_assoc]
      have hP := mul_bound (x := x) (t := t) hy1
      have hQ := mul_bound (x := x) (t := t + 1) hy1
      rw [mtab_start (t := t) (z := dg w x t * y), ← eQ] at d2
      have hst : 0 + x % 2 ^ (w * t) * y / 2 ^ (w * t) + dg w x t * y = x % 2 ^ (w * (t + 1)) * y / 2 ^ (w * t) := by
        rw [eQ, Nat.add_mul_div_left _ _ (pow_pos2 _)]; lia
      revert d2 eQ hP hQ hst
      rw [show t + 1 + nl w y = t + nl w y + 1 by lia]
      generalize hQe : x % 2 ^ (w * (t + 1)) * y = Q
      generalize x % 2 ^ (w * t) * y = P
      intro d2 eQ hP hQ hst
      walk_at "pt"
      refine i_lenI (dget d2 hr0 hb) dig_len (by lia) ?_
      walk_at "pt"
      refine for1 (n := nl w y) (fun j m3 H3 => ∃ c : Nat, Drop (H.set r (LI (mtab w P Q (t + j) (nl w x + nl w y)))) H3 ∧ m3 (Str.ofString "a") = some (.ref a) ∧ m3 (Str.ofString "b") = some (.ref b) ∧ m3 (Str.ofString "w") = some (.int w) ∧ m3 (Str.ofString "found") = some (.ref r) ∧ m3 (Str.ofString "at") = some (.int t) ∧ m3 (Str.ofString "carry") = some (.int c) ∧ c + P / 2 ^ (w * (t + j)) + dg w x t * (y / 2 ^ (w * j)) = Q / 2 ^ (w * (t + j))) rfl (by lia) ⟨0, d2, by (repeat (first | with_reducible exact lk_self | with_reducible assumption | refine lk_hop (by kernel_rfl) ?_)), by (repeat (first | with_reducible exact lk_self | with_reducible assumption | refine lk_hop (by kernel_rfl) ?_)), by (repeat (first | with_reducible exact lk_self | with_reducible assumption | refine lk_hop (by kernel_rfl) ?_)), by (repeat (first | with_reducible exact lk_self | with_reducible assumption | refine lk_hop (by kernel_rfl) ?_)), by (repeat (first | with_reducible exact lk_self | with_reducible assumption | refine lk_hop (by kernel_rfl) ?_)), lk_int (by (repeat (first | with_reducible exact lk_self | with_reducible assumption | refine lk_hop (by kernel_rfl) ?_))) (by lia), by simpa using hst⟩ ?_ ?_
      · rintro j m3 H3 hj ⟨c, d3, i1, i2, i3, i4, i5, i6, i7⟩ K2 kn2 kr2
        have st := mul_step i7
        have gr := dself d3
        walk_at "pt"
        refine i_sub (n := t + j) gr (by lia) (by lia) (li_get (mtab_get (by lia))) ?_
        walk_at "pt"
        refine i_sub (n := t) (dget d3 hr0 ha) rfl (by lia) (li_get (dig_get ht)) ?_
        walk_at "pt"
        refine i_sub (n := j) (dget d3 hr0 hb) rfl (by lia) (li_get (dig_get hj)) ?_
        walk_at "pt"
        refine i_mul (small_of (pow_lt_of dg_lt hw62)) ?_
        walk_at "pt"
        have e : (c : Int) + (dg w P (t + j) : Nat) + (dg w x t : Nat) * (dg w y j : Nat) = ((c + dg w P (t + j) + dg w x t * dg w y j : Nat) : Int) := by push_cast; lia
        rw [e]
        refine i_shl (n := w) rfl (by lia) ⟨by lia, by lia⟩ ?_
        walk_at "pt"
        refine i_mod (by rw [Int.one_mul, ← hcp]; lia) ?_
        rw [fmod_pow, st.1]
        walk_at "pt"
        refine i_setItem (n := t + j) gr (by lia) (by rw [List.length_map, mtab_len]; lia) (by rw [List.length_map, mtab_len]; lia) ?_
        rw [lis_set, mtab_set]
        walk_at "pt"
        refine i_shr rfl ?_
        rw [shr_nat]
        walk_at "pt"
        exact kn2 _ _ ⟨_, drop_step d3, by (repeat (first | with_reducible exact lk_self | with_reducible assumption | refine lk_hop (by kernel_rfl) ?_)), by (repeat (first | with_reducible exact lk_self | with_reducible assumption | refine lk_hop (by kernel_rfl) ?_)), by (repeat (first | with_reducible exact lk_self | with_reducible assumption | refine lk_hop (by kernel_rfl) ?_)), by (repeat (first | with_reducible exact lk_self | with_reducible assumption | refine lk_hop (by kernel_rfl) ?_)), by (repeat (first | with_reducible exact lk_self | with_reducible assumption | refine lk_hop (by kernel_rfl) ?_)), by (repeat (first | with_reducible exact lk_self | with_reducible assumption | refine lk_hop (by kernel_rfl) ?_)), st.2⟩
      · rintro m3 H3 ⟨c, d3, i1, i2, i3, i4, i5, i6, i7⟩
        have gr := dself d3
        rw [div_zero_of hP, div_zero_of hy1] at i7
        simp only [Nat.mul_zero, Nat.add_zero] at i7
        have hQ2 : Q / 2 ^ (w * (t + nl w y)) < 2 ^ w := by
          rw [Nat.div_lt_iff_lt_mul (pow_pos2 _), ← Nat.pow_add]
          exact pow_lt_of hQ (by rw [Nat.mul_add w (t + nl w y) 1]; lia)
        walk_at "pt"
        refine i_lenI (dget d3 hr0 hb) dig_len (by lia) ?_
        walk_at "pt"
        refine i_setItem (n := t + nl w y) gr (by lia) (by rw [List.length_map, mtab_len]; lia) (by rw [List.length_map, mtab_len]; lia) ?_
        rw [i7, ← dg_last hQ2, lis_set, mtab_set, mtab_end (pow_lt_of hP (Nat.mul_le_mul_left w (by lia))) hQ]
        walk_at "pt"
        exact kn _ _ ⟨by rw [hQe]; exact drop_step d3, by (repeat (first | with_reducible exact lk_self | with_reducible assumption | refine lk_hop (by kernel_rfl) ?_)), by (repeat (first | with_reducible exact lk_self | with_reducible assumption | refine lk_hop (by kernel_rfl) ?_)), by (repeat (first | with_reducible exact lk_self | with_reducible assumption | refine lk_hop (by kernel_rfl) ?_)), by (repeat (first | with_reducible exact lk_self | with_reducible assumption | refine lk_hop (by kernel_rfl) ?_))⟩
    rintro m2 H2 ⟨d2, j1, j2, j3, j4⟩
    rw [Nat.mod_eq_of_lt (nl_lt (by lia))] at d2
    have hxy : x * y < 2 ^ (w * (nl w x + nl w y)) := by
      rw [Nat.mul_add, Nat.pow_add]
      exact Nat.mul_lt_mul'' (nl_lt (by lia)) (nl_lt (by lia))
    walk_at "pt"
    refine while_to (fun j m3 H3 => Drop (H.set r (LI (fd w (x * y) j))) H3 ∧ m3 (Str.ofString "found") = some (.ref r) ∧ nl w (x * y) ≤ j ∧ j ≤ 250) (fun m3 H3 => Drop (H.set r (LI (dig w (x * y)))) H3 ∧ m3 (Str.ofString "found") = some (.ref r)) ?_ ?_ (nl w x + nl w y) _ _ ⟨d2, j4, nl_le (by lia) hxy, hn⟩
    · rintro j m3 H3 ⟨d3, i1, i2, i3⟩ K kn kb kr
      have gr := dself d3
      walk_at "pt"
      refine i_newl (by simp) fun q2 hq2 => ?_
      have gr2 := fresh_get (o' := .list []) hq2 gr
      have d4 : Drop (H.set r (LI (fd w (x * y) j))) (H3.set q2 (.list [])) := drop_new hq2 d3
      walk_at "pt"
      refine i_nel (xs := fd w (x * y) j) (ys := []) gr2 hself ?_
      walk_at "pt"
      · intro hne
        have h0 : j ≠ 0 := by rintro rfl; exact hne rfl
        obtain ⟨j, rfl⟩ : ∃ i, j = i + 1 := ⟨j - 1, by lia⟩
        walk_at "pt"
        refine i_lenI gr2 fd_len (by lia) ?_
        walk_at "pt"
        refine i_sub (n := j) gr2 (by lia) (by lia) (li_get (fd_get (by lia))) ?_
        walk_at "pt"
        · intro h0
          walk_at "pt"
          rw [fd_succ, LI, List.map_append] at gr2
          refine i_pop gr2 (by rw [List.length_map, fd_len]; lia) ?_
          walk_at "pt"
          exact kn j (by lia) _ _ ⟨drop_step d4, by (repeat (first | with_reducible exact lk_self | with_reducible assumption | refine lk_hop (by kernel_rfl) ?_)), nl_le (by lia) (top_zero (lt_of_nl (by lia) i2) (by lia)), by lia⟩
        · intro h0
          walk_at "pt"
          rw [fd_dig (nl_eq (by lia) (lt_of_nl (by lia) i2) fun k hk => ?_)] at d4
          · exact fun h => h ⟨d4, i1⟩
          · obtain rfl : j = k := by lia
            rcases Nat.lt_or_ge (x * y) (2 ^ (w * j)) with q | q
            · exact absurd (congrArg Int.ofNat (dg_big q)) h0
            · exact q
      · intro he
        have hj : j = 0 := by
          have := congrArg List.length he
          rw [fd_len] at this; exact this
        subst hj
        walk_at "pt"
        rw [fd_dig (by lia)] at d4
        exact fun h => h ⟨d4, i1⟩
    · rintro m3 H3 ⟨d3, i1⟩
      walk_at "pt"
      exact i_endL hk hr0 d3
end
section
-- level 1
noncomputable abbrev toldO (l : Addr) (many at_ : Int) : O := .dict [(Str.ofString "numbers", .ref l), (Str.ofString "many", .int many), (Str.ofString "at", .int at_)]
noncomputable def spec_ToldRow___init__ : SpecT := fun vs H k => ∃ x dx l xs many, vs = [.ref x, .ref l, .int many] ∧ H x = some (.inst 182 dx) ∧ H dx = some (.dict []) ∧ H l = some (.list xs) ∧ xs ≠ [] ∧ xs.length ≤ 100 ∧ 1 ≤ many ∧ k .none (H.set dx (toldO l many 0))
theorem con_ToldRow___init__ {S : Sy} (hK : GoodK S.K) : Con S 1 172 spec_ToldRow___init__ := by
  refine con_of_fn (n := 0) (ns := [Str.ofString "self", Str.ofString "numbers", Str.ofString "many"]) (f_ToldRow___init__ hK) (fun A h₀ L mL P hF =>
     (exs_cons (ex_if (it_or (it_compare1 hF (ev_local hF (by rfl)) ev_constInt) (it_or (it_compare1 hF (ev_callB hF (by rfl) (n_len hK) PyProof.Rows.Boot.«len» bi_len (evl_cons (ev_local hF (by rfl)) evl_nil)) ev_constInt) it_orNil)) (exs_cons ex_dead
      exs_nil) exs_nil)
      (exs_cons (ex_assignAttr hF (a_numbers hK) (ev_local hF (by rfl)) (ev_local hF (by rfl)))
      (exs_cons (ex_assignAttr hF (a_many hK) (ev_local hF (by rfl)) (ev_local hF (by rfl)))
      (exs_cons (ex_assignAttr hF (a_at hK) (ev_local hF (by rfl)) ev_constInt)
      exs_nil))))) rfl ?spec ?bind (by rfl) (by decide) rfl rfl rfl
  case bind => exact fun _ _ _ _ => fn3 fun _ _ _ => rfl
  case spec =>
    rintro vs H k ⟨x, dx, l, xs, many, rfl, hx, hd, hl, h0, h1, h2, hk⟩
    refine ⟨rfl, in3 ?_⟩
    have hn := ne_inst hx hd
    have h3 : xs.length ≠ 0 := fun h => h0 (List.length_eq_zero_iff.mp h)
    walk_at "pt"
    · intro h; lia
    intro _
    walk_at "pt"
    refine i_len hl (by lia) ?_
    walk_at "pt"
    · intro h; lia
    intro _
    walk_at "pt"
    refine i_setAttr (es' := [(Str.ofString "numbers", .ref l)]) oT hx hd (by simp) (by rfl) ?_
    walk_at "pt"
    refine i_setAttr (es' := [(Str.ofString "numbers", .ref l), (Str.ofString "many", .int many)]) oT (hne hn hx) hself (by simp) (by rfl) ?_
    rw [hset2]
    walk_at "pt"
    refine i_setAttr (es' := [(Str.ofString "numbers", .ref l), (Str.ofString "many", .int many), (Str.ofString "at", .int 0)]) oT (hne hn hx) hself (by simp) (by rfl) ?_
    rw [hset2]
    walk_at "pt"
    exact i_endN hk (Drop.refl _)
end
section
-- level 2
noncomputable def spec_sub : SpecT := fun vs H k => ∃ a b w x y, vs = [.ref a, .ref b, .int (w : Nat)] ∧ 2 ≤ w ∧ w ≤ 62 ∧ H a = some (LI (dig w x)) ∧ H b = some (LI (dig w y)) ∧ nl w x ≤ 5000 ∧ y ≤ x ∧ ∀ r, H r = none → k (.ref r) (H.set r (LI (dig w (x - y))))
theorem con_sub {S : Sy} (hK : GoodK S.K) : Con S 2 67 spec_sub := by
  refine con_of_fn (n := 1) (ns := [Str.ofString "a", Str.ofString "b", Str.ofString "w"]) (f_sub hK) (fun A h₀ L mL P hF =>
     (exs_cons (ex_if (it_compare1 hF (ev_callDef hF (by rfl) (g_compare hK) (k_compare hK) (con_compare hK) (by decide) (evl_cons (ev_local hF (by rfl)) (evl_cons (ev_local hF (by rfl)) evl_nil))) ev_constInt) (exs_cons ex_dead
      exs_nil) exs_nil)
      (exs_cons (ex_assignSwap (names := [Str.ofString "found", Str.ofString "borrow", Str.ofString "base"]) hF (ev_tuple (evl_cons (ev_list evl_nil) (evl_cons ev_constInt (evl_cons (ev_binop ev_constInt (ev_local hF (by rfl))) evl_nil)))) (.cons (as_bind (ev_storeLocal hF rfl (by rfl))) (.cons (as_bind (ev_storeLocal hF rfl (by rfl))) (.cons (as_bind (ev_storeLocal hF rfl (by rfl))) .nil))))
      (exs_cons (ex_forRange hF (fun p1 => (ev_storeLocal (hF.withP p1) rfl (by rfl))) (by rfl) (n_range hK) PyProof.Rows.Boot.«range» (evl_cons (ev_callB hF (by rfl) (n_len hK) PyProof.Rows.Boot.«len» bi_len (evl_cons (ev_local hF (by rfl)) evl_nil)) evl_nil) (fun p1 => (exs_cons (ex_assignName (ev_storeLocal (hF.withP p1) rfl (by rfl)) (ev_binop (ev_binop (ev_sub (ev_local (hF.withP p1) (by rfl)) (ev_local (hF.withP p1) (by rfl))) (ev_local (hF.withP p1) (by rfl))) (ev_ifexp (it_compare1 (hF.withP p1) (ev_local (hF.withP p1) (by rfl)) (ev_callB (hF.withP p1) (by rfl) (n_len hK) PyProof.Rows.Boot.«len» bi_len (evl_cons (ev_local (hF.withP p1) (by rfl)) evl_nil))) (ev_sub (ev_local (hF.withP p1) (by rfl)) (ev_local (hF.withP p1) (by rfl))) ev_constInt)))
      (exs_cons (ex_assignName (ev_storeLocal (hF.withP p1) rfl (by rfl)) (ev_ifexp (it_compare1 (hF.withP p1) (ev_local (hF.withP p1) (by rfl)) ev_constInt) ev_constInt ev_constInt))
      (exs_cons (ex_expr (ev_append (ev_local (hF.withP p1) (by rfl)) (ev_ifexp (it_compare1 (hF.withP p1) (ev_local (hF.withP p1) (by rfl)) ev_constInt) (ev_binop (ev_local (hF.withP p1) (by rfl)) (ev_local (hF.withP p1) (by rfl))) (ev_local (hF.withP p1) (by rfl)))))
      exs_nil)))))
      (exs_cons (ex_return (ev_callDef hF (by rfl) (g_normal hK) (k_normal hK) (con_normal hK) (by decide) (evl_cons (ev_local hF (by rfl)) evl_nil)))
      exs_nil))))) rfl ?spec ?bind (by rfl) (by decide) rfl rfl rfl
  case bind => exact fun _ _ _ _ => fn3 fun _ _ _ => rfl
  case spec =>
    rintro vs H k ⟨a, b, w, x, y, rfl, hw, hw2, ha, hb, hx, hyx, hk⟩
    refine ⟨rfl, in3 ?_⟩
    have hny := nl_mono (w := w) (by lia) hyx
    walk_at "pt"
    refine ⟨a, b, w, x, y, rfl, by lia, ha, hb, hx, by lia, ?_⟩
    walk_at "pt"
    · intro hlt
      unfold cmpN at hlt
      rw [if_neg (by lia)] at hlt
      split at hlt <;> lia
    intro _
    walk_at "pt"
    refine i_newl (by simp) fun r hr => ?_
    walk_at "pt"
    refine i_shl (n := w) rfl (by lia) ⟨by lia, by lia⟩ ?_
    walk_at "pt"
    refine i_newt (by simp) fun q hq => ?_
    walk_at "pt"
    refine i_unpack hself rfl ?_
    simp only [List.reverse, List.reverseAux]
    walk_at "pt"
    have hd1 : Drop (H.set r (LI (fd w (x - y) 0))) ((H.set r (.list [])).set q (.tup [.ref r, .int 0, .int (1 * 2 ^ w)])) := drop_new hq (Drop.refl _)
    refine i_lenI (dget hd1 hr ha) dig_len (by lia) ?_
    walk_at "pt"
    refine for1 (n := nl w x) (fun t m2 H2 => ∃ c : Nat, Drop (H.set r (LI (fd w (x - y) t))) H2 ∧ m2 (Str.ofString "a") = some (.ref a) ∧ m2 (Str.ofString "b") = some (.ref b) ∧ m2 (Str.ofString "found") = some (.ref r) ∧ m2 (Str.ofString "base") = some (.int (1 * 2 ^ w)) ∧ m2 (Str.ofString "borrow") = some (.int c) ∧ c ≤ 1 ∧ (x - y) / 2 ^ (w * t) + y / 2 ^ (w * t) + c = x / 2 ^ (w * t)) rfl (by lia) ⟨0, hd1, by (repeat (first | with_reducible exact lk_self | with_reducible assumption | refine lk_hop (by kernel_rfl) ?_)), by (repeat (first | with_reducible exact lk_self | with_reducible assumption | refine lk_hop (by kernel_rfl) ?_)), by (repeat (first | with_reducible exact lk_self | with_reducible assumption | refine lk_hop (by kernel_rfl) ?_)), by (repeat (first | with_reducible exact lk_self | with_reducible assumption | refine lk_hop (by kernel_rfl) ?_)), lk_int (by (repeat (first | with_reducible exact lk_self | with_reducible assumption | refine lk_hop (by kernel_rfl) ?_))) (by lia), by lia, by simp; lia⟩ ?_ ?_
    · rintro t m2 H2 ht ⟨c, d2, j1, j2, j4, j5, j6, j7, j8⟩ K kn kr
      have ga := dget d2 hr ha
      have gb := dget d2 hr hb
      have gr := dself d2
      obtain ⟨c', u1, u2, u3⟩ := sub_step j7 j8
      have l1 : dg w (x - y) t < 2 ^ w := dg_lt
      have hp := cast_pow w
      refine i_thenTo (fun m' H' => H' = H2 ∧ ∃ z : Int, m' (Str.ofString "a") = some (.ref a) ∧ m' (Str.ofString "b") = some (.ref b) ∧ m' (Str.ofString "found") = some (.ref r) ∧ m' (Str.ofString "base") = some (.int (1 * 2 ^ w)) ∧ m' (Str.ofString "limb") = some (.int z) ∧ z + 2 ^ w * c' = (dg w (x - y) t : Nat)) (fun K kn kr => ?_) ?_
      · walk_at "pt"
        refine i_sub (n := t) ga rfl (by lia) (li_get (dig_get (by lia))) ?_
        walk_at "pt"
        refine i_lenI gb dig_len (by lia) ?_
        walk_at "pt"
        · intro hlt
          walk_at "pt"
          refine i_sub (n := t) gb rfl (by lia) (li_get (dig_get (by lia))) ?_
          walk_at "pt"
          refine kn _ _ ⟨rfl, _, by (repeat (first | with_reducible exact lk_self | with_reducible assumption | refine lk_hop (by kernel_rfl) ?_)), by (repeat (first | with_reducible exact lk_self | with_reducible assumption | refine lk_hop (by kernel_rfl) ?_)), by (repeat (first | with_reducible exact lk_self | with_reducible assumption | refine lk_hop (by kernel_rfl) ?_)), by (repeat (first | with_reducible exact lk_self | with_reducible assumption | refine lk_hop (by kernel_rfl) ?_)), by (repeat (first | with_reducible exact lk_self | with_reducible assumption | refine lk_hop (by kernel_rfl) ?_)), ?_⟩
          rw [← hp]
          have : ((dg w x t + 2 ^ w * c' : Nat) : Int) = ((dg w (x - y) t + dg w y t + c : Nat) : Int) := by rw [u3]
          push_cast at this ⊢
          lia
        · intro hlt
          walk_at "pt"
          refine kn _ _ ⟨rfl, _, by (repeat (first | with_reducible exact lk_self | with_reducible assumption | refine lk_hop (by kernel_rfl) ?_)), by (repeat (first | with_reducible exact lk_self | with_reducible assumption | refine lk_hop (by kernel_rfl) ?_)), by (repeat (first | with_reducible exact lk_self | with_reducible assumption | refine lk_hop (by kernel_rfl) ?_)), by (repeat (first | with_reducible exact lk_self | with_reducible assumption | refine lk_hop (by kernel_rfl) ?_)), by (repeat (first | with_reducible exact lk_self | with_reducible assumption | refine lk_hop (by kernel_rfl) ?_)), ?_⟩
          rw [dg_out (x := y) (by lia) (by lia)] at u3
          rw [← hp]
          have : ((dg w x t + 2 ^ w * c' : Nat) : Int) = ((dg w (x - y) t + 0 + c : Nat) : Int) := by rw [u3]
          push_cast at this ⊢
          lia
      rintro m' H' ⟨rfl, z, i1, i2, i3, i4, i5, i6⟩
      have hcc : c' = 0 ∨ c' = 1 := by lia
      walk_at "pt"
      · intro hlt
        have hc1 : c' = 1 := by
          rcases hcc with h | h
          · subst h; simp only [Int.natCast_zero, Int.mul_zero] at i6; lia
          · exact h
        subst hc1
        walk_at "pt"
        refine ⟨r, _, rfl, gr, ?_⟩
        walk_at "pt"
        · intro _
          walk_at "pt"
          refine i_append gr (by rw [List.length_map, fd_len]; lia) ?_
          have e : z + 1 * 2 ^ w = (dg w (x - y) t : Nat) := by rw [← i6]; simp
          rw [e, li_app, ← fd_succ]
          walk_at "pt"
          exact kn _ _ ⟨1, drop_step d2, by (repeat (first | with_reducible exact lk_self | with_reducible assumption | refine lk_hop (by kernel_rfl) ?_)), by (repeat (first | with_reducible exact lk_self | with_reducible assumption | refine lk_hop (by kernel_rfl) ?_)), by (repeat (first | with_reducible exact lk_self | with_reducible assumption | refine lk_hop (by kernel_rfl) ?_)), by (repeat (first | with_reducible exact lk_self | with_reducible assumption | refine lk_hop (by kernel_rfl) ?_)), lk_int (by (repeat (first | with_reducible exact lk_self | with_reducible assumption | refine lk_hop (by kernel_rfl) ?_))) (by lia), by lia, u2⟩
        · intro h; exact absurd hlt h
      · intro hlt
        have hc1 : c' = 0 := by
          rcases hcc with h | h
          · exact h
          · subst h
            simp only [Int.natCast_one, Int.mul_one] at i6
            rw [← hp] at i6
            lia
        subst hc1
        walk_at "pt"
        refine ⟨r, _, rfl, gr, ?_⟩
        walk_at "pt"
        · intro h; exact absurd h hlt
        · intro _
          walk_at "pt"
          refine i_append gr (by rw [List.length_map, fd_len]; lia) ?_
          have e : z = (dg w (x - y) t : Nat) := by rw [← i6]; simp
          rw [e, li_app, ← fd_succ]
          walk_at "pt"
          exact kn _ _ ⟨0, drop_step d2, by (repeat (first | with_reducible exact lk_self | with_reducible assumption | refine lk_hop (by kernel_rfl) ?_)), by (repeat (first | with_reducible exact lk_self | with_reducible assumption | refine lk_hop (by kernel_rfl) ?_)), by (repeat (first | with_reducible exact lk_self | with_reducible assumption | refine lk_hop (by kernel_rfl) ?_)), by (repeat (first | with_reducible exact lk_self | with_reducible assumption | refine lk_hop (by kernel_rfl) ?_)), lk_int (by (repeat (first | with_reducible exact lk_self | with_reducible assumption | refine lk_hop (by kernel_rfl) ?_))) (by lia), by lia, u2⟩
    · rintro m2 H2 ⟨c, d2, j1, j2, j4, j5, j6, j7, j8⟩
      walk_at "pt"
      refine ⟨r, w, x - y, nl w x, rfl, by lia, dself d2, Nat.lt_of_le_of_lt (Nat.sub_le x y) (nl_lt (by lia)), hx, fun r2 hr2 => ?_⟩
      walk_at "pt"
      exact i_endL (r := r2) hk (none_of (d2.none hr2)) (drop_both (drop_trans (drop_set hr) d2))
end
section
-- level 2
theorem shr_lt {w x s f : Nat} (hw : 0 < w) (hs : s ≤ nl w x) : x / 2 ^ (w * s + f) < 2 ^ (w * (nl w x - s)) := by
  have h := nl_lt (w := w) (x := x) hw
  rw [Nat.div_lt_iff_lt_mul (pow_pos2 _), ← Nat.pow_add]
  refine pow_lt_of h ?_
  have e : nl w x = (nl w x - s) + s := by lia
  conv => lhs; rw [e, Nat.mul_add]
  lia
noncomputable def spec_shift_right : SpecT := fun vs H k => ∃ a n w x, vs = [.ref a, .int (n : Nat), .int (w : Nat)] ∧ 2 ≤ w ∧ w ≤ 62 ∧ n ≤ 5000 ∧ H a = some (LI (dig w x)) ∧ nl w x ≤ 5000 ∧ ∀ r, H r = none → k (.ref r) (H.set r (LI (dig w (x / 2 ^ n))))
theorem con_shift_right {S : Sy} (hK : GoodK S.K) : Con S 2 81 spec_shift_right := by
  refine con_of_fn (n := 1) (ns := [Str.ofString "a", Str.ofString "n", Str.ofString "w"]) (f_shift_right hK) (fun A h₀ L mL P hF =>
     (exs_cons (ex_assignSwap (names := [Str.ofString "spots", Str.ofString "few"]) hF (ev_tuple (evl_cons (ev_binop (ev_local hF (by rfl)) (ev_local hF (by rfl))) (evl_cons (ev_binop (ev_local hF (by rfl)) (ev_local hF (by rfl))) evl_nil))) (.cons (as_bind (ev_storeLocal hF rfl (by rfl))) (.cons (as_bind (ev_storeLocal hF rfl (by rfl))) .nil)))
      (exs_cons (ex_assignSwap (names := [Str.ofString "found", Str.ofString "mask"]) hF (ev_tuple (evl_cons (ev_list evl_nil) (evl_cons (ev_binop (ev_binop ev_constInt (ev_local hF (by rfl))) ev_constInt) evl_nil))) (.cons (as_bind (ev_storeLocal hF rfl (by rfl))) (.cons (as_bind (ev_storeLocal hF rfl (by rfl))) .nil)))
      (exs_cons (ex_forRange hF (fun p1 => (ev_storeLocal (hF.withP p1) rfl (by rfl))) (by rfl) (n_range hK) PyProof.Rows.Boot.«range» (evl_cons (ev_local hF (by rfl)) (evl_cons (ev_callB hF (by rfl) (n_len hK) PyProof.Rows.Boot.«len» bi_len (evl_cons (ev_local hF (by rfl)) evl_nil)) evl_nil)) (fun p1 => (exs_cons (ex_assignName (ev_storeLocal (hF.withP p1) rfl (by rfl)) (ev_ifexp (it_compare1 (hF.withP p1) (ev_binop (ev_local (hF.withP p1) (by rfl)) ev_constInt) (ev_callB (hF.withP p1) (by rfl) (n_len hK) PyProof.Rows.Boot.«len» bi_len (evl_cons (ev_local (hF.withP p1) (by rfl)) evl_nil))) (ev_sub (ev_local (hF.withP p1) (by rfl)) (ev_binop (ev_local (hF.withP p1) (by rfl)) ev_constInt)) ev_constInt))
      (exs_cons (ex_expr (ev_append (ev_local (hF.withP p1) (by rfl)) (ev_binop (ev_binop (ev_binop (ev_sub (ev_local (hF.withP p1) (by rfl)) (ev_local (hF.withP p1) (by rfl))) (ev_local (hF.withP p1) (by rfl))) (ev_binop (ev_local (hF.withP p1) (by rfl)) (ev_binop (ev_local (hF.withP p1) (by rfl)) (ev_local (hF.withP p1) (by rfl))))) (ev_local (hF.withP p1) (by rfl)))))
      exs_nil))))
      (exs_cons (ex_return (ev_callDef hF (by rfl) (g_normal hK) (k_normal hK) (con_normal hK) (by decide) (evl_cons (ev_local hF (by rfl)) evl_nil)))
      exs_nil))))) rfl ?spec ?bind (by rfl) (by decide) rfl rfl rfl
  case bind => exact fun _ _ _ _ => fn3 fun _ _ _ => rfl
  case spec =>
    rintro vs H k ⟨a, n, w, x, rfl, hw, hw2, hn, ha, hx, hk⟩
    refine ⟨rfl, in3 ?_⟩
    walk_at "pt"
    refine i_fdiv (by lia) (by lia) ?_
    walk_at "pt"
    refine i_mod (by lia) ?_
    rw [fdiv_nat, fmod_nat]
    have hdm := Nat.div_add_mod n w
    have hs : n / w ≤ n := Nat.div_le_self n w
    have hf : n % w < w := Nat.mod_lt _ (by lia)
    revert hdm hs hf
    generalize n / w = s
    generalize n % w = f
    intro hdm hs hf
    subst hdm
    walk_at "pt"
    refine i_newt (by simp) fun q hq => ?_
    walk_at "pt"
    refine i_unpack hself rfl ?_
    simp only [List.reverse, List.reverseAux]
    walk_at "pt"
    refine i_newl (by simp) fun r hr => ?_
    walk_at "pt"
    refine i_shl (n := w) rfl (by lia) ⟨by lia, by lia⟩ ?_
    walk_at "pt"
    refine i_newt (by simp) fun q3 hq3 => ?_
    walk_at "pt"
    refine i_unpack hself rfl ?_
    simp only [List.reverse, List.reverseAux]
    walk_at "pt"
    have hr0 : H r = none := none_of hr
    have d1 : Drop (H.set r (LI (fd w (x / 2 ^ (w * s + f)) 0))) (((H.set q (.tup [.int s, .int f])).set r (.list [])).set q3 (.tup [.ref r, .int (1 * 2 ^ w - 1)])) :=
      drop_new hq3 (drop_both (drop_new hq (Drop.refl _)))
    refine i_lenI (dget d1 hr0 ha) dig_len (by lia) ?_
    walk_at "pt"
    refine for2 (lo := s) (n := nl w x - s) (fun t m2 H2 => Drop (H.set r (LI (fd w (x / 2 ^ (w * s + f)) t))) H2 ∧ m2 (Str.ofString "a") = some (.ref a) ∧ m2 (Str.ofString "w") = some (.int w) ∧ m2 (Str.ofString "few") = some (.int f) ∧ m2 (Str.ofString "found") = some (.ref r) ∧ m2 (Str.ofString "mask") = some (.int (1 * 2 ^ w - 1))) rfl (by lia) (by lia) (by lia) (by lia) ⟨d1, by (repeat (first | with_reducible exact lk_self | with_reducible assumption | refine lk_hop (by kernel_rfl) ?_)), by (repeat (first | with_reducible exact lk_self | with_reducible assumption | refine lk_hop (by kernel_rfl) ?_)), by (repeat (first | with_reducible exact lk_self | with_reducible assumption | refine lk_hop (by kernel_rfl) ?_)), by (repeat (first | with_reducible exact lk_self | with_reducible assumption | refine lk_hop (by kernel_rfl) ?_)), by (repeat (first | with_reducible exact lk_self | with_reducible assumption | refine lk_hop (by kernel_rfl) ?_))⟩ ?_ ?_
    · rintro t m2 H2 ht ⟨d2, j1, j2, j3, j4, j5⟩ K kn kr
      have gr := dself d2
      have ga := dget d2 hr0 ha
      refine i_thenTo (fun m' H' => H' = H2 ∧ m' (Str.ofString "a") = some (.ref a) ∧ m' (Str.ofString "w") = some (.int w) ∧ m' (Str.ofString "few") = some (.int f) ∧ m' (Str.ofString "found") = some (.ref r) ∧ m' (Str.ofString "mask") = some (.int (1 * 2 ^ w - 1)) ∧ m' (Str.ofString "at") = some (.int ((s + t : Nat) : Int)) ∧ m' (Str.ofString "above") = some (.int (dg w x (s + t + 1) : Nat))) (fun K kn kr => ?_) ?_
      · walk_at "pt"
        refine i_lenI ga dig_len (by lia) ?_
        walk_at "pt"
        · intro hlt
          walk_at "pt"
          refine i_sub (n := s + t + 1) ga (by lia) (by lia) (li_get (dig_get (by lia))) ?_
          walk_at "pt"
          exact kn _ _ ⟨rfl, by (repeat (first | with_reducible exact lk_self | with_reducible assumption | refine lk_hop (by kernel_rfl) ?_)), by (repeat (first | with_reducible exact lk_self | with_reducible assumption | refine lk_hop (by kernel_rfl) ?_)), by (repeat (first | with_reducible exact lk_self | with_reducible assumption | refine lk_hop (by kernel_rfl) ?_)), by (repeat (first | with_reducible exact lk_self | with_reducible assumption | refine lk_hop (by kernel_rfl) ?_)), by (repeat (first | with_reducible exact lk_self | with_reducible assumption | refine lk_hop (by kernel_rfl) ?_)), by (repeat (first | with_reducible exact lk_self | with_reducible assumption | refine lk_hop (by kernel_rfl) ?_)), by (repeat (first | with_reducible exact lk_self | with_reducible assumption | refine lk_hop (by kernel_rfl) ?_))⟩
        · intro hlt
          walk_at "pt"
          exact kn _ _ ⟨rfl, by (repeat (first | with_reducible exact lk_self | with_reducible assumption | refine lk_hop (by kernel_rfl) ?_)), by (repeat (first | with_reducible exact lk_self | with_reducible assumption | refine lk_hop (by kernel_rfl) ?_)), by (repeat (first | with_reducible exact lk_self | with_reducible assumption | refine lk_hop (by kernel_rfl) ?_)), by (repeat (first | with_reducible exact lk_self | with_reducible assumption | refine lk_hop (by kernel_rfl) ?_)), by (repeat (first | with_reducible exact lk_self | with_reducible assumption | refine lk_hop (by kernel_rfl) ?_)), by (repeat (first | with_reducible exact lk_self | with_reducible assumption | refine lk_hop (by kernel_rfl) ?_)), lk_int (by (repeat (first | with_reducible exact lk_self | with_reducible assumption | refine lk_hop (by kernel_rfl) ?_))) (by rw [dg_out (by lia) (by lia)]; rfl)⟩
      rintro m' H' ⟨rfl, i1, i2, i3, i4, i5, i6, i7⟩
      walk_at "pt"
      refine ⟨r, _, rfl, gr, ?_⟩
      walk_at "pt"
      refine i_sub (n := s + t) ga rfl (by lia) (li_get (dig_get (by lia))) ?_
      walk_at "pt"
      refine i_shr rfl ?_
      rw [shr_nat]
      walk_at "pt"
      refine i_shl (n := w - f) (by lia) (by lia) (small_of (pow_lt_of dg_lt hw2)) ?_
      walk_at "pt"
      have hlt : dg w x (s + t) / 2 ^ f < 2 ^ (w - f) := by
        rw [Nat.div_lt_iff_lt_mul (pow_pos2 _), ← Nat.pow_add, Nat.sub_add_cancel (by lia)]; exact dg_lt
      rw [or_sum hlt]
      walk_at "pt"
      rw [and_mask, shr_limb hf, dg_shr]
      refine i_append gr (by rw [List.length_map, fd_len]; lia) ?_
      rw [li_app, ← fd_succ]
      walk_at "pt"
      exact kn _ _ ⟨drop_step d2, by (repeat (first | with_reducible exact lk_self | with_reducible assumption | refine lk_hop (by kernel_rfl) ?_)), by (repeat (first | with_reducible exact lk_self | with_reducible assumption | refine lk_hop (by kernel_rfl) ?_)), by (repeat (first | with_reducible exact lk_self | with_reducible assumption | refine lk_hop (by kernel_rfl) ?_)), by (repeat (first | with_reducible exact lk_self | with_reducible assumption | refine lk_hop (by kernel_rfl) ?_)), by (repeat (first | with_reducible exact lk_self | with_reducible assumption | refine lk_hop (by kernel_rfl) ?_))⟩
    · rintro m2 H2 ⟨d2, j1, j2, j3, j4, j5⟩
      walk_at "pt"
      have hlt : x / 2 ^ (w * s + f) < 2 ^ (w * (nl w x - s)) := by
        rcases Nat.le_total s (nl w x) with h | h
        · exact shr_lt (by lia) h
        · have e : nl w x - s = 0 := by lia
          have h1 : x < 2 ^ (w * s) := lt_of_nl (by lia) h
          have h2 : x < 2 ^ (w * s + f) := pow_lt_of h1 (by lia)
          rw [e, Nat.div_eq_of_lt h2]; exact pow_pos2 _
      refine ⟨r, w, _, _, rfl, by lia, dself d2, hlt, by lia, fun r2 hr2 => ?_⟩
      walk_at "pt"
      exact i_endL (r := r2) hk (none_of (d2.none hr2)) (drop_both (drop_trans (drop_set hr0) d2))
end
section
-- level 2
noncomputable def spec_low : SpecT := fun vs H k => ∃ a n w x, vs = [.ref a, .int (n : Nat), .int (w : Nat)] ∧ 2 ≤ w ∧ w ≤ 62 ∧ n ≤ 5000 ∧ H a = some (LI (dig w x)) ∧ nl w x ≤ 5000 ∧ ∀ r, H r = none → k (.ref r) (H.set r (LI (dig w (x % 2 ^ n))))
theorem con_low {S : Sy} (hK : GoodK S.K) : Con S 2 95 spec_low := by
  refine con_of_fn (n := 1) (ns := [Str.ofString "a", Str.ofString "n", Str.ofString "w"]) (f_low hK) (fun A h₀ L mL P hF =>
     (exs_cons (ex_assignSwap (names := [Str.ofString "spots", Str.ofString "few"]) hF (ev_tuple (evl_cons (ev_binop (ev_local hF (by rfl)) (ev_local hF (by rfl))) (evl_cons (ev_binop (ev_local hF (by rfl)) (ev_local hF (by rfl))) evl_nil))) (.cons (as_bind (ev_storeLocal hF rfl (by rfl))) (.cons (as_bind (ev_storeLocal hF rfl (by rfl))) .nil)))
      (exs_cons (ex_if (it_compare1 hF (ev_local hF (by rfl)) (ev_callB hF (by rfl) (n_len hK) PyProof.Rows.Boot.«len» bi_len (evl_cons (ev_local hF (by rfl)) evl_nil))) (exs_cons (ex_return (ev_slice (ev_local hF (by rfl)) evo_none evo_none evo_none))
      exs_nil) exs_nil)
      (exs_cons (ex_return (ev_callDef hF (by rfl) (g_normal hK) (k_normal hK) (con_normal hK) (by decide) (evl_cons (ev_binop (ev_slice (ev_local hF (by rfl)) evo_none (evo_some (ev_local hF (by rfl))) evo_none) (ev_list (evl_cons (ev_binop (ev_sub (ev_local hF (by rfl)) (ev_local hF (by rfl))) (ev_binop (ev_binop ev_constInt (ev_local hF (by rfl))) ev_constInt)) evl_nil))) evl_nil)))
      exs_nil)))) rfl ?spec ?bind (by rfl) (by decide) rfl rfl rfl
  case bind => exact fun _ _ _ _ => fn3 fun _ _ _ => rfl
  case spec =>
    rintro vs H k ⟨a, n, w, x, rfl, hw, hw2, hn, ha, hx, hk⟩
    refine ⟨rfl, in3 ?_⟩
    walk_at "pt"
    refine i_fdiv (by lia) (by lia) ?_
    walk_at "pt"
    refine i_mod (by lia) ?_
    rw [fdiv_nat, fmod_nat]
    have hdm := Nat.div_add_mod n w
    have hs : n / w ≤ n := Nat.div_le_self n w
    have hf : n % w < w := Nat.mod_lt _ (by lia)
    revert hdm hs hf
    generalize n / w = s
    generalize n % w = f
    intro hdm hs hf
    subst hdm
    walk_at "pt"
    refine i_newt (by simp) fun q hq => ?_
    walk_at "pt"
    refine i_unpack hself rfl ?_
    simp only [List.reverse, List.reverseAux]
    walk_at "pt"
    have ha1 := fresh_get (o' := .tup [.int s, .int f]) hq ha
    refine i_lenI ha1 dig_len (by lia) ?_
    walk_at "pt"
    · intro hle
      have e : x % 2 ^ (w * s + f) = x := Nat.mod_eq_of_lt (pow_lt_of (lt_of_nl (by lia) (by lia : nl w x ≤ s)) (by lia))
      rw [e] at hk
      walk_at "pt"
      refine i_slice (ys := (dig w x).map V.int) ha1 rfl (by rw [List.length_map, dig_len]; lia) fun r hr => ?_
      walk_at "pt"
      exact i_endL (r := r) hk (none_of hr) (drop_both (drop_set hq))
    · intro hgt
      walk_at "pt"
      refine i_slice (ys := (fd w x s).map V.int) ha1 ?_ (by rw [List.length_map, dig_len]; lia) fun r hr => ?_
      · simp only [sliceVs, Int.toNat_natCast]
        rw [if_pos (by lia), ← List.map_take]; unfold dig; rw [fd_take (by lia)]
      walk_at "pt"
      refine i_sub (n := s) (fresh_get hr ha1) rfl (by lia) (li_get (dig_get (by lia))) ?_
      walk_at "pt"
      refine i_shl (n := f) rfl (by lia) ⟨by lia, by lia⟩ ?_
      walk_at "pt"
      rw [and_mask]
      refine i_newl (by simp) fun r2 hr2 => ?_
      walk_at "pt"
      refine i_addl (fresh_get hr2 hself) hself ?_
      have e : (fd w x s).map V.int ++ [V.int (dg w x s % 2 ^ f : Nat)] = (fd w (x % 2 ^ (w * s + f)) (s + 1)).map V.int := by
        rw [li_app, fd_succ, dg_lowf hf]
        congr 2
        exact tab_congr fun i hi => by
          rw [dg_low]
          have := Nat.mul_le_mul_left w (show i + 1 ≤ s by lia)
          lia
      rw [e]
      refine i_newl (by rw [List.length_map, fd_len]; lia) fun r3 hr3 => ?_
      walk_at "pt"
      refine ⟨r3, w, _, s + 1, rfl, by lia, hself, ?_, by lia, fun r4 hr4 => ?_⟩
      · exact pow_lt_of (Nat.mod_lt _ (pow_pos2 _)) (by rw [Nat.mul_add]; lia)
      walk_at "pt"
      exact i_endL (r := r4) hk (none_of (none_of (none_of (none_of hr4)))) (drop_both (drop_new hr3 (drop_new hr2 (drop_new hr (drop_new hq (Drop.refl _))))))
end
section
-- level 1
noncomputable def tk (zs : List Nat) (at_ : Nat) : Nat := (zs[at_ % zs.length]?).getD 0
structure Told (H : HH) (x dx l : Addr) (w : Nat) (zs : List Nat) (many at_ : Nat) : Prop where
  hx : H x = some (.inst 182 dx)
  hd : H dx = some (toldO l many at_)
  rows : ∃ rs : List Addr, H l = some (.list (rs.map V.ref)) ∧ rs.length = zs.length ∧ ∀ (i : Nat) (r : Addr) (z : Nat), rs[i]? = some r → zs[i]? = some z → H r = some (LI (dig w z))
  pos : 0 < zs.length
  len : zs.length ≤ 100
  bd : ∀ i, tk zs i < 2 ^ 20
section
variable {H H' : HH} {x dx l : Addr} {w : Nat} {zs : List Nat} {many at_ : Nat}
theorem Told.mono (h : Told H x dx l w zs many at_) (hd : Drop H H') : Told H' x dx l w zs many at_ := by
  obtain ⟨rs, h1, h2, h3⟩ := h.rows
  exact ⟨hd _ _ h.hx, hd _ _ h.hd, ⟨rs, hd _ _ h1, h2, fun i r z a b => hd _ _ (h3 i r z a b)⟩, h.pos, h.len, h.bd⟩
theorem Told.step (h : Told H x dx l w zs many at_) (a' : Nat) : Told (H.set dx (toldO l many a')) x dx l w zs many a' := by
  obtain ⟨rs, h1, h2, h3⟩ := h.rows
  refine ⟨hne (ne_inst h.hx h.hd) h.hx, hself, ⟨rs, hne (ne_list h1 h.hd) h1, h2, fun i r z a b => ?_⟩, h.pos, h.len, h.bd⟩
  have := h3 i r z a b
  exact hne (ne_list this h.hd) this
theorem Told.get (h : Told H x dx l w zs many at_) : ∃ (r : Addr) (rs : List Addr), H l = some (.list (rs.map V.ref)) ∧ rs.length = zs.length ∧ rs[at_ % zs.length]? = some r ∧ H r = some (LI (dig w (tk zs at_))) := by
  obtain ⟨rs, h1, h2, h3⟩ := h.rows
  have hlt : at_ % zs.length < zs.length := Nat.mod_lt _ h.pos
  have e1 : rs[at_ % zs.length]? = some (rs[at_ % zs.length]'(by lia)) := List.getElem?_eq_getElem _
  have e2 : zs[at_ % zs.length]? = some (zs[at_ % zs.length]'hlt) := List.getElem?_eq_getElem _
  refine ⟨_, rs, h1, h2, e1, ?_⟩
  have := h3 _ _ _ e1 e2
  unfold tk
  rw [e2]
  exact this
end
theorem Told.at_ {H H' : HH} {x dx l : Addr} {w : Nat} {zs : List Nat} {many a a' : Nat} (hT : Told H x dx l w zs many a) (d : Drop (H.set dx (toldO l many a')) H') : Told H' x dx l w zs many a' := (hT.step a').mono d
theorem Told.self {H : HH} {x dx l : Addr} {w : Nat} {zs : List Nat} {many a : Nat} (hT : Told H x dx l w zs many a) : Drop (H.set dx (toldO l many a)) H := drop_to (Drop.refl _) hT.hd
noncomputable def spec_ToldRow_take : SpecT := fun vs H k => ∃ x dx l w zs many at_, vs = [.ref x] ∧ Told H x dx l w zs many at_ ∧ ∀ r t, H r = some (LI (dig w (tk zs at_))) → H t = none → k (.ref t) ((H.set dx (toldO l many (at_ + 1 : Nat))).set t (.tup [.ref r, .int many]))
theorem con_ToldRow_take {S : Sy} (hK : GoodK S.K) : Con S 1 179 spec_ToldRow_take := by
  refine con_of_fn (n := 0) (ns := [Str.ofString "self"]) (f_ToldRow_take hK) (fun A h₀ L mL P hF =>
     (exs_cons (ex_assignName (ev_storeLocal hF rfl (by rfl)) (ev_sub (ev_attr hF (a_numbers hK) (ev_local hF (by rfl))) (ev_binop (ev_attr hF (a_at hK) (ev_local hF (by rfl))) (ev_callB hF (by rfl) (n_len hK) PyProof.Rows.Boot.«len» bi_len (evl_cons (ev_attr hF (a_numbers hK) (ev_local hF (by rfl))) evl_nil)))))
      (exs_cons (ex_augAttr hF (a_at hK) (ev_local hF (by rfl)) ev_constInt)
      (exs_cons (ex_return (ev_tuple (evl_cons (ev_local hF (by rfl)) (evl_cons (ev_attr hF (a_many hK) (ev_local hF (by rfl))) evl_nil))))
      exs_nil)))) rfl ?spec ?bind (by rfl) (by decide) rfl rfl rfl
  case bind => exact fun _ _ _ _ => fn1 fun _ => rfl
  case spec =>
    rintro vs H k ⟨x, dx, l, w, zs, many, at_, rfl, hT, hk⟩
    refine ⟨rfl, in1 ?_⟩
    have hx := hT.hx
    have hd := hT.hd
    have hn := ne_inst hx hd
    have h0 := hT.pos
    have h1 := hT.len
    obtain ⟨r, rs, g1, g2, g3, g4⟩ := hT.get
    walk_at "pt"
    refine i_attr oT hx hd (by rfl) (by exact trivial) ?_
    walk_at "pt"
    refine i_attr oT hx hd (by rfl) (by exact trivial) ?_
    walk_at "pt"
    refine i_attr oT hx hd (by rfl) (by exact trivial) ?_
    walk_at "pt"
    refine i_len g1 (by rw [List.length_map]; lia) ?_
    rw [List.length_map, g2]
    walk_at "pt"
    refine i_mod (by lia) ?_
    rw [fmod_nat]
    refine i_sub (n := at_ % zs.length) g1 rfl (Nat.le_trans (Nat.le_of_lt (Nat.mod_lt _ h0)) (by lia)) (by rw [List.getElem?_map, g3]; rfl) ?_
    walk_at "pt"
    refine i_attr oT hx hd (by rfl) (by exact trivial) ?_
    walk_at "pt"
    refine i_setAttr (es' := [(Str.ofString "numbers", .ref l), (Str.ofString "many", .int many), (Str.ofString "at", .int (at_ + 1))]) oT hx hd (by simp) (by rfl) ?_
    walk_at "pt"
    refine i_attr oT (hne hn hx) hself (by rfl) (by exact trivial) ?_
    walk_at "pt"
    refine i_newt (by simp) fun t ht => ?_
    walk_at "pt"
    have e : ((at_ : Int) + 1) = ((at_ + 1 : Nat) : Int) := by lia
    rw [e]
    refine ⟨_, Drop.refl _, hk r t g4 (none_of ht)⟩
end
section
-- level 1
noncomputable abbrev lagO (lr : Addr) (place w : Nat) : O := .dict [(Str.ofString "row", .ref lr), (Str.ofString "place", .int place), (Str.ofString "w", .int w)]
noncomputable def spec_Lagged___init__ : SpecT := fun vs H k => ∃ x dx l w place xs, vs = [.ref x, .ref l, .int (place : Nat), .int (w : Nat)] ∧ 1 ≤ place ∧ place < xs.length ∧ xs.length ≤ 100 ∧ H x = some (.inst 154 dx) ∧ H dx = some (.dict []) ∧ H l = some (.list xs) ∧
  ∀ r, H r = none → k .none ((H.set r (.list xs)).set dx (lagO r place w))
theorem con_Lagged___init__ {S : Sy} (hK : GoodK S.K) : Con S 1 144 spec_Lagged___init__ := by
  refine con_of_fn (n := 0) (ns := [Str.ofString "self", Str.ofString "row", Str.ofString "place", Str.ofString "w"]) (f_Lagged___init__ hK) (fun A h₀ L mL P hF =>
     (exs_cons (ex_if (it_not (it_compare2 hF ev_constInt (ev_local hF (by rfl)) (ev_callB hF (by rfl) (n_len hK) PyProof.Rows.Boot.«len» bi_len (evl_cons (ev_local hF (by rfl)) evl_nil)))) (exs_cons ex_dead
      exs_nil) exs_nil)
      (exs_cons (ex_assignAttr hF (a_row hK) (ev_local hF (by rfl)) (ev_callT hF (by rfl) (n_list hK) PyProof.Rows.Boot.«list» bi_list (evl_cons (ev_local hF (by rfl)) evl_nil)))
      (exs_cons (ex_assignAttr hF (a_place hK) (ev_local hF (by rfl)) (ev_local hF (by rfl)))
      (exs_cons (ex_assignAttr hF (a_w hK) (ev_local hF (by rfl)) (ev_local hF (by rfl)))
      exs_nil))))) rfl ?spec ?bind (by rfl) (by decide) rfl rfl rfl
  case bind => exact fun _ _ _ _ => fn4 fun _ _ _ _ => rfl
  case spec =>
    rintro vs H k ⟨x, dx, l, w, place, xs, rfl, h1, h2, h3, hx, hd, hl, hk⟩
    refine ⟨rfl, in4 ?_⟩
    have hn := ne_inst hx hd
    walk_at "pt"
    · intro _
      walk_at "pt"
      refine i_len hl (by lia) ?_
      walk_at "pt"
      · intro h; lia
      intro _
      walk_at "pt"
      refine ⟨xs, .inl hl, i_newl (by lia) fun r hr => ?_⟩
      have hnr := none_set (o' := .list []) hr hd
      walk_at "pt"
      refine i_setAttr (es' := [(Str.ofString "row", .ref r)]) oL (fresh_get hr hx) (fresh_get hr hd) (by simp) (by rfl) ?_
      walk_at "pt"
      refine i_setAttr (es' := [(Str.ofString "row", .ref r), (Str.ofString "place", .int place)]) oL (hne hn (fresh_get hr hx)) hself (by simp) (by rfl) ?_
      rw [hset2]
      walk_at "pt"
      refine i_setAttr (es' := [(Str.ofString "row", .ref r), (Str.ofString "place", .int place), (Str.ofString "w", .int w)]) oL (hne hn (fresh_get hr hx)) hself (by simp) (by rfl) ?_
      rw [hset2]
      walk_at "pt"
      exact i_endN (hk r hr) (Drop.refl _)
    · intro h; lia
end
section
-- level 3
noncomputable def spec_ones : SpecT := fun vs H k => ∃ n w, vs = [.int (n : Nat), .int (w : Nat)] ∧ 2 ≤ w ∧ w ≤ 62 ∧ n ≤ 250 ∧ ∀ r, H r = none → k (.ref r) (H.set r (LI (dig w (2 ^ n - 1))))
theorem con_ones {S : Sy} (hK : GoodK S.K) : Con S 3 235 spec_ones := by
  refine con_of_fn (n := 2) (ns := [Str.ofString "n", Str.ofString "w"]) (f_ones hK) (fun A h₀ L mL P hF =>
     (exs_cons (ex_return (ev_ifexp (it_compare1 hF (ev_local hF (by rfl)) ev_constInt) (ev_list evl_nil) (ev_callDef hF (by rfl) (g_sub hK) (k_sub hK) (con_sub hK) (by decide) (evl_cons (ev_callDef hF (by rfl) (g_shift_left hK) (k_shift_left hK) (con_shift_left hK) (by decide) (evl_cons (ev_list (evl_cons ev_constInt evl_nil)) (evl_cons (ev_local hF (by rfl)) (evl_cons (ev_local hF (by rfl)) evl_nil)))) (evl_cons (ev_list (evl_cons ev_constInt evl_nil)) (evl_cons (ev_local hF (by rfl)) evl_nil))))))
      exs_nil)) rfl ?spec ?bind (by rfl) (by decide) rfl rfl rfl
  case bind => exact fun _ _ _ _ => fn2 fun _ _ => rfl
  case spec =>
    rintro vs H k ⟨n, w, rfl, hw, hw2, hn, hk⟩
    refine ⟨rfl, in2 ?_⟩
    walk_at "pt"
    · intro h0
      obtain rfl : n = 0 := by lia
      walk_at "pt"
      refine i_newl (by simp) fun r hr => ?_
      walk_at "pt"
      exact i_endL hk hr (Drop.refl _)
    · intro h0
      walk_at "pt"
      refine i_newl (by simp) fun q hq => ?_
      walk_at "pt"
      rw [LI_one (w := w) (by lia)]
      refine ⟨q, n, w, 1, rfl, hw, hw2, hn, hself, by rw [nl_one (by lia)]; lia, fun r hr => ?_⟩
      rw [Nat.one_mul] at *
      walk_at "pt"
      refine i_newl (by simp) fun q2 hq2 => ?_
      walk_at "pt"
      rw [LI_one (w := w) (by lia)]
      have h1 : 1 ≤ 2 ^ n := pow_pos2 n
      refine ⟨r, q2, w, 2 ^ n, 1, rfl, hw, hw2, fresh_get hq2 hself, hself, nlb hw two_pow_lt (by lia), h1, fun r2 hr2 => ?_⟩
      walk_at "pt"
      exact i_endL hk (none_of (none_of (none_of hr2))) (drop_both (drop_new hq2 (drop_new hr (drop_new hq (Drop.refl _)))))
end
section
-- level 3
noncomputable abbrev congO (la lc : Addr) (width : Nat) (ls : Addr) (w : Nat) : O := .dict [(Str.ofString "a", .ref la), (Str.ofString "c", .ref lc), (Str.ofString "width", .int width), (Str.ofString "state", .ref ls), (Str.ofString "w", .int w), (Str.ofString "mul", .ref 263)]
noncomputable def spec_Congruence___init__ : SpecT := fun vs H k => ∃ x dx la lc ls w width s, vs = [.ref x, .ref la, .ref lc, .int (width : Nat), .ref ls, .int (w : Nat), .ref 263] ∧ 2 ≤ w ∧ w ≤ 60 ∧ 2 ≤ width ∧ width ≤ 40 ∧ s < 2 ^ 40 ∧ H x = some (.inst 126 dx) ∧ H dx = some (.dict []) ∧ H ls = some (LI (dig w s)) ∧
  ∀ r, H r = none → k .none ((H.set r (LI (dig w (s % 2 ^ width)))).set dx (congO la lc width r w))
theorem con_Congruence___init__ {S : Sy} (hK : GoodK S.K) : Con S 3 109 spec_Congruence___init__ := by
  refine con_of_fn (n := 2) (ns := [Str.ofString "self", Str.ofString "a", Str.ofString "c", Str.ofString "width", Str.ofString "state", Str.ofString "w", Str.ofString "mul"]) (f_Congruence___init__ hK) (fun A h₀ L mL P hF =>
     (exs_cons (ex_if (it_compare1 hF (ev_local hF (by rfl)) ev_constInt) (exs_cons ex_dead
      exs_nil) exs_nil)
      (exs_cons (ex_assignAttr hF (a_a hK) (ev_local hF (by rfl)) (ev_local hF (by rfl)))
      (exs_cons (ex_assignAttr hF (a_c hK) (ev_local hF (by rfl)) (ev_local hF (by rfl)))
      (exs_cons (ex_assignAttr hF (a_width hK) (ev_local hF (by rfl)) (ev_local hF (by rfl)))
      (exs_cons (ex_assignAttr hF (a_state hK) (ev_local hF (by rfl)) (ev_callDef hF (by rfl) (g_low hK) (k_low hK) (con_low hK) (by decide) (evl_cons (ev_local hF (by rfl)) (evl_cons (ev_local hF (by rfl)) (evl_cons (ev_local hF (by rfl)) evl_nil)))))
      (exs_cons (ex_assignAttr hF (a_w hK) (ev_local hF (by rfl)) (ev_local hF (by rfl)))
      (exs_cons (ex_assignAttr hF (a_mul hK) (ev_local hF (by rfl)) (ev_local hF (by rfl)))
      exs_nil)))))))) rfl ?spec ?bind (by rfl) (by decide) rfl rfl rfl
  case bind => exact fun _ _ _ _ => fn7 fun _ _ _ _ _ _ _ => rfl
  case spec =>
    rintro vs H k ⟨x, dx, la, lc, ls, w, width, s, rfl, hw, hw2, h1, h2, hs, hx, hd, hl, hk⟩
    refine ⟨rfl, in7 ?_⟩
    have hn := ne_inst hx hd
    have hn2 := ne_list hl hd
    walk_at "pt"
    · intro h; lia
    intro _
    walk_at "pt"
    refine i_setAttr (es' := [(Str.ofString "a", .ref la)]) oC hx hd (by simp) (by rfl) ?_
    walk_at "pt"
    refine i_setAttr (es' := [(Str.ofString "a", .ref la), (Str.ofString "c", .ref lc)]) oC (hne hn hx) hself (by simp) (by rfl) ?_
    rw [hset2]
    walk_at "pt"
    refine i_setAttr (es' := [(Str.ofString "a", .ref la), (Str.ofString "c", .ref lc), (Str.ofString "width", .int width)]) oC (hne hn hx) hself (by simp) (by rfl) ?_
    rw [hset2]
    walk_at "pt"
    refine ⟨ls, width, w, s, rfl, hw, by lia, by lia, hne hn2 hl, nlb hw hs (by lia), fun r hr => ?_⟩
    have hr0 : H r = none := none_of hr
    walk_at "pt"
    refine i_setAttr (es' := [(Str.ofString "a", .ref la), (Str.ofString "c", .ref lc), (Str.ofString "width", .int width), (Str.ofString "state", .ref r)]) oC (fresh_get hr (hne hn hx)) (fresh_get hr hself) (by simp) (by rfl) ?_
    walk_at "pt"
    refine i_setAttr (es' := [(Str.ofString "a", .ref la), (Str.ofString "c", .ref lc), (Str.ofString "width", .int width), (Str.ofString "state", .ref r), (Str.ofString "w", .int w)]) oC (hne hn (fresh_get hr (hne hn hx))) hself (by simp) (by rfl) ?_
    rw [hset2]
    walk_at "pt"
    refine i_setAttr (es' := [(Str.ofString "a", .ref la), (Str.ofString "c", .ref lc), (Str.ofString "width", .int width), (Str.ofString "state", .ref r), (Str.ofString "w", .int w), (Str.ofString "mul", .ref 263)]) oC (hne hn (fresh_get hr (hne hn hx))) hself (by simp) (by rfl) ?_
    rw [hset2]
    walk_at "pt"
    exact i_endN (hk r hr0) (drop_swap (ne_of_fresh hr0 hd) (Drop.refl _))
end
section
-- level 3
noncomputable def rcount (many n : Nat) : Nat := (n + many - 1) / many
noncomputable def rjoin (zs : List Nat) (many at_ : Nat) : Nat → Nat
  | 0 => 0
  | i + 1 => rjoin zs many at_ i + tk zs (at_ + i) * 2 ^ (many * i)
noncomputable def rbits (zs : List Nat) (many n at_ : Nat) : Nat := rjoin zs many at_ (rcount many n) % 2 ^ n
theorem rcount_eq {many n i : Nat} (hm : 1 ≤ many) (h1 : n ≤ many * i) (h2 : ∀ k, i = k + 1 → many * k < n) : rcount many n = i := by
  unfold rcount
  have h3 : n + many - 1 < many * (i + 1) := by rw [Nat.mul_add]; lia
  have h4 : many * i ≤ n + many - 1 := by
    cases i with
    | zero => simp
    | succ k => have := h2 k rfl; rw [Nat.mul_add]; lia
  refine Nat.le_antisymm (Nat.le_of_lt_succ ?_) ?_
  · rw [Nat.div_lt_iff_lt_mul hm, Nat.mul_comm]; exact h3
  · rw [Nat.le_div_iff_mul_le hm, Nat.mul_comm]; exact h4
theorem rjoin_lt {zs : List Nat} {many at_ : Nat} (hm : 1 ≤ many) (hb : ∀ i, tk zs i < 2 ^ 20) : ∀ i, rjoin zs many at_ i < 2 ^ (many * i + 20)
  | 0 => by simp [rjoin]
  | i + 1 => by
    have h1 := rjoin_lt (zs := zs) (at_ := at_) hm hb i
    have h2 : tk zs (at_ + i) * 2 ^ (many * i) < 2 ^ 20 * 2 ^ (many * i) := Nat.mul_lt_mul_of_pos_right (hb _) (pow_pos2 _)
    rw [← Nat.pow_add] at h2
    have h3 : 2 ^ (many * i + 20) + 2 ^ (many * i + 20) ≤ 2 ^ (many * (i + 1) + 20) := by
      rw [← Nat.mul_two, ← Nat.pow_succ]
      exact pow_le2 (by rw [Nat.mul_add]; lia)
    rw [Nat.add_comm 20] at h2
    show rjoin zs many at_ i + tk zs (at_ + i) * 2 ^ (many * i) < _
    lia
noncomputable def spec_random_bits : SpecT := fun vs H k => ∃ x dx l w zs many at_ n, vs = [.ref x, .int (n : Nat), .int (w : Nat)] ∧ 2 ≤ w ∧ w ≤ 60 ∧ 1 ≤ many ∧ many ≤ 20 ∧ n ≤ 100 ∧ Told H x dx l w zs many at_ ∧
  ∀ r, H r = none → k (.ref r) ((H.set dx (toldO l many (at_ + rcount many n : Nat))).set r (LI (dig w (rbits zs many n at_))))
theorem con_random_bits {S : Sy} (hK : GoodK S.K) : Con S 3 193 spec_random_bits := by
  refine con_of_fn (n := 2) (ns := [Str.ofString "source", Str.ofString "n", Str.ofString "w"]) (f_random_bits hK) (fun A h₀ L mL P hF =>
     (exs_cons (ex_assignSwap (names := [Str.ofString "found", Str.ofString "have"]) hF (ev_tuple (evl_cons (ev_list evl_nil) (evl_cons ev_constInt evl_nil))) (.cons (as_bind (ev_storeLocal hF rfl (by rfl))) (.cons (as_bind (ev_storeLocal hF rfl (by rfl))) .nil)))
      (exs_cons (ex_while (it_compare1 hF (ev_local hF (by rfl)) (ev_local hF (by rfl))) (exs_cons (ex_assignTs hF (ev_meth0 hF (m_ToldRow_take hK) (con_ToldRow_take hK) (by decide) (ev_local hF (by rfl))) (ast_cons (as_name (ev_storeLocal hF rfl (by rfl))) (ast_cons (as_name (ev_storeLocal hF rfl (by rfl))) ast_nil)))
      (exs_cons (ex_assignName (ev_storeLocal hF rfl (by rfl)) (ev_callDef hF (by rfl) (g_add hK) (k_add hK) (con_add hK) (by decide) (evl_cons (ev_local hF (by rfl)) (evl_cons (ev_callDef hF (by rfl) (g_shift_left hK) (k_shift_left hK) (con_shift_left hK) (by decide) (evl_cons (ev_local hF (by rfl)) (evl_cons (ev_local hF (by rfl)) (evl_cons (ev_local hF (by rfl)) evl_nil)))) (evl_cons (ev_local hF (by rfl)) evl_nil)))))
      (exs_cons (ex_augName (ev_loadLocal hF rfl (by rfl)) (ev_storeLocal hF rfl (by rfl)) (ev_local hF (by rfl)))
      exs_nil))))
      (exs_cons (ex_return (ev_callDef hF (by rfl) (g_low hK) (k_low hK) (con_low hK) (by decide) (evl_cons (ev_local hF (by rfl)) (evl_cons (ev_local hF (by rfl)) (evl_cons (ev_local hF (by rfl)) evl_nil)))))
      exs_nil)))) rfl ?spec ?bind (by rfl) (by decide) rfl rfl rfl
  case bind => exact fun _ _ _ _ => fn3 fun _ _ _ => rfl
  case spec =>
    rintro vs H k ⟨x, dx, l, w, zs, many, at_, n, rfl, hw, hw2, hm, hm2, hn, hT, hk⟩
    refine ⟨rfl, in3 ?_⟩
    walk_at "pt"
    refine i_newl (by simp) fun r0 hr0 => ?_
    walk_at "pt"
    refine i_newt (by simp) fun q hq => ?_
    walk_at "pt"
    refine i_unpack hself rfl ?_
    simp only [List.reverse, List.reverseAux]
    walk_at "pt"
    refine while_to (fun j m2 H2 => ∃ i r, j = n - many * i ∧ H r = none ∧ Drop ((H.set dx (toldO l many (at_ + i : Nat))).set r (LI (dig w (rjoin zs many at_ i)))) H2 ∧ m2 (Str.ofString "source") = some (.ref x) ∧ m2 (Str.ofString "n") = some (.int n) ∧ m2 (Str.ofString "w") = some (.int w) ∧ m2 (Str.ofString "found") = some (.ref r) ∧ m2 (Str.ofString "have") = some (.int (many * i : Nat)) ∧ ∀ k, i = k + 1 → many * k < n)
      (fun m2 H2 => ∃ r, H r = none ∧ Drop ((H.set dx (toldO l many (at_ + rcount many n : Nat))).set r (LI (dig w (rjoin zs many at_ (rcount many n))))) H2 ∧ m2 (Str.ofString "n") = some (.int n) ∧ m2 (Str.ofString "w") = some (.int w) ∧ m2 (Str.ofString "found") = some (.ref r) ∧ many * rcount many n ≤ 200) ?_ ?_ n _ _ ⟨0, r0, by simp, hr0, drop_new hq (drop_both hT.self), by (repeat (first | with_reducible exact lk_self | with_reducible assumption | refine lk_hop (by kernel_rfl) ?_)), by (repeat (first | with_reducible exact lk_self | with_reducible assumption | refine lk_hop (by kernel_rfl) ?_)), by (repeat (first | with_reducible exact lk_self | with_reducible assumption | refine lk_hop (by kernel_rfl) ?_)), by (repeat (first | with_reducible exact lk_self | with_reducible assumption | refine lk_hop (by kernel_rfl) ?_)), lk_int (by (repeat (first | with_reducible exact lk_self | with_reducible assumption | refine lk_hop (by kernel_rfl) ?_))) (by simp), fun k h => by cases h⟩
    · rintro j m2 H2 ⟨i, r, rfl, hr, d2, j1, j2, j3, j4, j5, j6⟩ K kn kb kr
      walk_at "pt"
      · intro hlt
        have hlt' : many * i < n := by lia
        have hdr : (H.set dx (toldO l many (at_ + i : Nat))) r = none := none_set hr hT.hd
        have d3 : Drop (H.set dx (toldO l many (at_ + i : Nat))) H2 := drop_trans (drop_set hdr) d2
        have T2 := hT.at_ d3
        have hlt2 := rjoin_lt (zs := zs) (at_ := at_) hm hT.bd i
        have hb := hT.bd (at_ + i)
        walk_at "pt"
        refine i_meth T2.hx T2.hd (by rfl) ?_
        refine ⟨x, dx, l, w, zs, many, at_ + i, rfl, T2, fun rp t hp ht => ?_⟩
        walk_at "pt"
        refine i_unpack hself rfl ?_
        walk_at "pt"
        have d4 : Drop (H.set dx (toldO l many (at_ + i + 1 : Nat))) ((H2.set dx (toldO l many (at_ + i + 1 : Nat))).set t (.tup [.ref rp, .int many])) := drop_new (none_set ht T2.hd) (drop_step d3)
        have hp4 : ((H2.set dx (toldO l many (at_ + i + 1 : Nat))).set t (.tup [.ref rp, .int many])) rp = some (LI (dig w (tk zs (at_ + i)))) := fresh_get (none_set ht T2.hd) (hne (ne_list hp T2.hd) hp)
        have hr4 : ((H2.set dx (toldO l many (at_ + i + 1 : Nat))).set t (.tup [.ref rp, .int many])) r = some (LI (dig w (rjoin zs many at_ i))) := fresh_get (none_set ht T2.hd) (hne (ne_list (dself d2) T2.hd) (dself d2))
        refine ⟨rp, many * i, w, _, rfl, hw, by lia, by lia, hp4, nlb hw hb (by lia), fun r3 h3 => ?_⟩
        walk_at "pt"
        have hz : tk zs (at_ + i) * 2 ^ (many * i) < 2 ^ (20 + 100) := by
          have := Nat.mul_lt_mul_of_pos_right hb (pow_pos2 (many * i))
          rw [← Nat.pow_add] at this
          exact pow_lt_of this (by lia)
        refine ⟨r, r3, w, _, _, rfl, hw, by lia, fresh_get h3 hr4, hself, nlb hw hlt2 (by lia), nlb hw hz (by lia), fun r4 h4 => ?_⟩
        walk_at "pt"
        refine kn (n - many * (i + 1)) (by rw [Nat.mul_add]; lia) _ _ ⟨i + 1, r4, rfl, ?_, ?_, by (repeat (first | with_reducible exact lk_self | with_reducible assumption | refine lk_hop (by kernel_rfl) ?_)), by (repeat (first | with_reducible exact lk_self | with_reducible assumption | refine lk_hop (by kernel_rfl) ?_)), by (repeat (first | with_reducible exact lk_self | with_reducible assumption | refine lk_hop (by kernel_rfl) ?_)), by (repeat (first | with_reducible exact lk_self | with_reducible assumption | refine lk_hop (by kernel_rfl) ?_)), lk_int (by (repeat (first | with_reducible exact lk_self | with_reducible assumption | refine lk_hop (by kernel_rfl) ?_))) (by rw [Nat.mul_add]; lia), fun k hk => ?_⟩
        · exact none_of (d4.none (none_of h4))
        · exact drop_both (drop_new h3 d4)
        · obtain rfl : i = k := by lia
          exact hlt'
      · intro hge
        have e := rcount_eq (i := i) hm (by lia) j6
        walk_at "pt"
        refine fun h => h ⟨r, hr, by rw [e]; exact d2, j2, j3, j4, ?_⟩
        rw [e]
        cases i with
        | zero => simp
        | succ k => have := j6 k rfl; rw [Nat.mul_add]; lia
    · rintro m2 H2 ⟨r, hr, d2, j2, j3, j4, j7⟩
      have hlt2 := rjoin_lt (zs := zs) (at_ := at_) hm hT.bd (rcount many n)
      walk_at "pt"
      refine ⟨r, n, w, _, rfl, hw, by lia, by lia, dself d2, nlb hw hlt2 (by lia), fun r3 h3 => ?_⟩
      walk_at "pt"
      have hdr : (H.set dx (toldO l many (at_ + rcount many n : Nat))) r = none := none_set hr hT.hd
      exact i_endL (r := r3) (H0 := H.set dx (toldO l many (at_ + rcount many n : Nat))) (fun r hr => hk r (none_of hr)) (none_of (d2.none h3)) (drop_both (drop_trans (drop_set hdr) d2))
end
section
-- level 3
structure Cong (H : HH) (x dx la lc ls : Addr) (w width a c s : Nat) : Prop where
  hx : H x = some (.inst 126 dx)
  hd : H dx = some (congO la lc width ls w)
  ga : H la = some (LI (dig w a))
  gc : H lc = some (LI (dig w c))
  gs : H ls = some (LI (dig w s))
  ba : a < 2 ^ 40
  bc : c < 2 ^ 40
  bs : s < 2 ^ 40
  w1 : 2 ≤ width
  w2 : width ≤ 40
theorem Cong.mono {H H' : HH} {x dx la lc ls : Addr} {w width a c s : Nat} (h : Cong H x dx la lc ls w width a c s) (hd : Drop H H') : Cong H' x dx la lc ls w width a c s :=
  ⟨hd _ _ h.hx, hd _ _ h.hd, hd _ _ h.ga, hd _ _ h.gc, hd _ _ h.gs, h.ba, h.bc, h.bs, h.w1, h.w2⟩
theorem lt_mod40 {z width : Nat} (h : width ≤ 40) : z % 2 ^ width < 2 ^ 40 := pow_lt_of (Nat.mod_lt _ (pow_pos2 _)) h
theorem Cong.step {H : HH} {x dx la lc ls r : Addr} {w width a c s z : Nat} (h : Cong H x dx la lc ls w width a c s) (hr : H r = none) : Cong ((H.set r (LI (dig w (z % 2 ^ width)))).set dx (congO la lc width r w)) x dx la lc r w width a c (z % 2 ^ width) := by
  have hdr := fresh_get (o' := LI (dig w (z % 2 ^ width))) hr h.hd
  exact ⟨hne (ne_inst h.hx h.hd) (fresh_get hr h.hx), hself, hne (ne_list h.ga h.hd) (fresh_get hr h.ga), hne (ne_list h.gc h.hd) (fresh_get hr h.gc), hne (ne_list hself hdr) hself, h.ba, h.bc, lt_mod40 h.w2, h.w1, h.w2⟩
noncomputable def spec_Congruence_step : SpecT := fun vs H k => ∃ x dx la lc ls w width a c s, vs = [.ref x] ∧ 2 ≤ w ∧ w ≤ 60 ∧ Cong H x dx la lc ls w width a c s ∧
  ∀ r, H r = none → k .none ((H.set r (LI (dig w ((s * a + c) % 2 ^ width)))).set dx (congO la lc width r w))
theorem con_Congruence_step {S : Sy} (hK : GoodK S.K) : Con S 3 116 spec_Congruence_step := by
  refine con_of_fn (n := 2) (ns := [Str.ofString "self"]) (f_Congruence_step hK) (fun A h₀ L mL P hF =>
     (exs_cons (ex_assignAttr hF (a_state hK) (ev_local hF (by rfl)) (ev_callDef hF (by rfl) (g_low hK) (k_low hK) (con_low hK) (by decide) (evl_cons (ev_callDef hF (by rfl) (g_add hK) (k_add hK) (con_add hK) (by decide) (evl_cons (ev_held hF (a_mul hK) (k_law_mul hK) (con_law_mul hK) (by decide) (ev_local hF (by rfl)) (evl_cons (ev_attr hF (a_state hK) (ev_local hF (by rfl))) (evl_cons (ev_attr hF (a_a hK) (ev_local hF (by rfl))) (evl_cons (ev_attr hF (a_w hK) (ev_local hF (by rfl))) evl_nil)))) (evl_cons (ev_attr hF (a_c hK) (ev_local hF (by rfl))) (evl_cons (ev_attr hF (a_w hK) (ev_local hF (by rfl))) evl_nil)))) (evl_cons (ev_attr hF (a_width hK) (ev_local hF (by rfl))) (evl_cons (ev_attr hF (a_w hK) (ev_local hF (by rfl))) evl_nil)))))
      exs_nil)) rfl ?spec ?bind (by rfl) (by decide) rfl rfl rfl
  case bind => exact fun _ _ _ _ => fn1 fun _ => rfl
  case spec =>
    rintro vs H k ⟨x, dx, la, lc, ls, w, width, a, c, s, rfl, hw, hw2, hC, hk⟩
    refine ⟨rfl, in1 ?_⟩
    have hx := hC.hx
    have hd := hC.hd
    have ba := nlb (c := 20) hw hC.ba (by lia)
    have bc := nlb (c := 20) hw hC.bc (by lia)
    have bs := nlb (c := 20) hw hC.bs (by lia)
    have hsa : s * a < 2 ^ 80 := by
      have := Nat.mul_lt_mul'' hC.bs hC.ba
      lia
    have hsc : s * a + c < 2 ^ 81 := by have := hC.bc; lia
    walk_at "pt"
    refine ⟨x, 126, dx, _, rfl, oC, hx, hd, by rfl, ?_⟩
    walk_at "pt"
    refine i_attr (v := .ref ls) oC hx hd (by rfl) trivial ?_
    walk_at "pt"
    refine i_attr (v := .ref la) oC hx hd (by rfl) trivial ?_
    walk_at "pt"
    refine i_attr (v := .int w) oC hx hd (by rfl) trivial ?_
    walk_at "pt"
    refine ⟨ls, la, w, s, a, rfl, hw, hw2, hC.gs, hC.ga, by lia, fun r1 h1 => ?_⟩
    have C1 := hC.mono (drop_set (o := LI (dig w (s * a))) h1)
    walk_at "pt"
    refine i_attr (v := .ref lc) oC C1.hx C1.hd (by rfl) trivial ?_
    walk_at "pt"
    refine i_attr (v := .int w) oC C1.hx C1.hd (by rfl) trivial ?_
    walk_at "pt"
    refine ⟨r1, lc, w, s * a, c, rfl, hw, by lia, hself, C1.gc, nlb hw hsa (by lia), by lia, fun r2 h2 => ?_⟩
    have C2 := C1.mono (drop_set (o := LI (dig w (s * a + c))) h2)
    walk_at "pt"
    refine i_attr (v := .int width) oC C2.hx C2.hd (by rfl) trivial ?_
    walk_at "pt"
    refine i_attr (v := .int w) oC C2.hx C2.hd (by rfl) trivial ?_
    walk_at "pt"
    refine ⟨r2, width, w, s * a + c, rfl, hw, by lia, by have := hC.w2; lia, hself, nlb hw hsc (by lia), fun r3 h3 => ?_⟩
    have C3 := C2.mono (drop_set (o := LI (dig w ((s * a + c) % 2 ^ width))) h3)
    walk_at "pt"
    refine i_setAttr (es' := [(Str.ofString "a", .ref la), (Str.ofString "c", .ref lc), (Str.ofString "width", .int width), (Str.ofString "state", .ref r3), (Str.ofString "w", .int w), (Str.ofString "mul", .ref 263)]) oC C3.hx C3.hd (by simp) (by rfl) ?_
    walk_at "pt"
    refine i_endN (hk r3 (none_of (none_of h3))) ?_
    exact drop_both (drop_both (drop_new h2 (drop_new h1 (Drop.refl _))))
end
section
-- level 4
noncomputable def rbel (zs : List Nat) (many m bound : Nat) : Nat → Nat → Nat → Nat × Nat
  | 0, f, a => (if bound ≤ f then f - bound else f, a)
  | t + 1, f, a => if f < bound then (f, a) else rbel zs many m bound t (rbits zs many m a) (a + rcount many m)
noncomputable def rbw (zs : List Nat) (many bound a : Nat) : Nat × Nat := rbel zs many (nb (bound - 1)) bound 80 (rbits zs many (nb (bound - 1)) a) (a + rcount many (nb (bound - 1)))
theorem lt_nb {x : Nat} : x < 2 ^ nb x := by
  unfold nb
  split
  · rename_i h; rw [h]; decide
  · exact Nat.lt_log2_self
theorem nb_le {x n : Nat} (h : x < 2 ^ n) : nb x ≤ n := by
  unfold nb
  split
  · exact Nat.zero_le _
  · rename_i h0
    have := (Nat.log2_lt h0).mpr h
    lia
noncomputable def spec_random_below : SpecT := fun vs H k => ∃ x dx l b w zs many at_ bound, vs = [.ref x, .ref b, .int (w : Nat)] ∧ 2 ≤ w ∧ w ≤ 60 ∧ 1 ≤ many ∧ many ≤ 20 ∧ Told H x dx l w zs many at_ ∧ H b = some (LI (dig w bound)) ∧ 1 ≤ bound ∧ bound < 2 ^ 30 ∧
  ∀ r, H r = none → k (.ref r) ((H.set dx (toldO l many (rbw zs many bound at_).2)).set r (LI (dig w (rbw zs many bound at_).1)))
theorem con_random_below {S : Sy} (hK : GoodK S.K) : Con S 4 200 spec_random_below := by
  refine con_of_fn (n := 3) (ns := [Str.ofString "source", Str.ofString "bound", Str.ofString "w"]) (f_random_below hK) (fun A h₀ L mL P hF =>
     (exs_cons (ex_if (it_compare1 hF (ev_callB hF (by rfl) (n_len hK) PyProof.Rows.Boot.«len» bi_len (evl_cons (ev_local hF (by rfl)) evl_nil)) ev_constInt) (exs_cons ex_dead
      exs_nil) exs_nil)
      (exs_cons (ex_assignName (ev_storeLocal hF rfl (by rfl)) (ev_callDef hF (by rfl) (g_bits hK) (k_bits hK) (con_bits hK) (by decide) (evl_cons (ev_callDef hF (by rfl) (g_sub hK) (k_sub hK) (con_sub hK) (by decide) (evl_cons (ev_local hF (by rfl)) (evl_cons (ev_list (evl_cons ev_constInt evl_nil)) (evl_cons (ev_local hF (by rfl)) evl_nil)))) (evl_cons (ev_local hF (by rfl)) evl_nil))))
      (exs_cons (ex_assignName (ev_storeLocal hF rfl (by rfl)) (ev_callDef hF (by rfl) (g_random_bits hK) (k_random_bits hK) (con_random_bits hK) (by decide) (evl_cons (ev_local hF (by rfl)) (evl_cons (ev_local hF (by rfl)) (evl_cons (ev_local hF (by rfl)) evl_nil)))))
      (exs_cons (ex_forRange hF (fun p1 => (ev_storeLocal (hF.withP p1) rfl (by rfl))) (by rfl) (n_range hK) PyProof.Rows.Boot.«range» (evl_cons (ev_TRIES hK hF (by rfl)) evl_nil) (fun p1 => (exs_cons (ex_if (it_compare1 (hF.withP p1) (ev_callDef (hF.withP p1) (by rfl) (g_compare hK) (k_compare hK) (con_compare hK) (by decide) (evl_cons (ev_local (hF.withP p1) (by rfl)) (evl_cons (ev_local (hF.withP p1) (by rfl)) evl_nil))) ev_constInt) (exs_cons (ex_return (ev_local (hF.withP p1) (by rfl)))
      exs_nil) exs_nil)
      (exs_cons (ex_assignName (ev_storeLocal (hF.withP p1) rfl (by rfl)) (ev_callDef (hF.withP p1) (by rfl) (g_random_bits hK) (k_random_bits hK) (con_random_bits hK) (by decide) (evl_cons (ev_local (hF.withP p1) (by rfl)) (evl_cons (ev_local (hF.withP p1) (by rfl)) (evl_cons (ev_local (hF.withP p1) (by rfl)) evl_nil)))))
      exs_nil))))
      (exs_cons (ex_return (ev_ifexp (it_compare1 hF (ev_callDef hF (by rfl) (g_compare hK) (k_compare hK) (con_compare hK) (by decide) (evl_cons (ev_local hF (by rfl)) (evl_cons (ev_local hF (by rfl)) evl_nil))) ev_constInt) (ev_callDef hF (by rfl) (g_sub hK) (k_sub hK) (con_sub hK) (by decide) (evl_cons (ev_local hF (by rfl)) (evl_cons (ev_local hF (by rfl)) (evl_cons (ev_local hF (by rfl)) evl_nil)))) (ev_local hF (by rfl))))
      exs_nil)))))) rfl ?spec ?bind (by rfl) (by decide) rfl rfl rfl
  case bind => exact fun _ _ _ _ => fn3 fun _ _ _ => rfl
  case spec =>
    rintro vs H k ⟨x, dx, l, b, w, zs, many, at_, bound, rfl, hw, hw2, hm, hm2, hT, hb, hb1, hb2, hk⟩
    refine ⟨rfl, in3 ?_⟩
    have hnb : nl w bound ≤ 30 := nlb hw hb2 (by lia)
    have hnz : nl w bound ≠ 0 := by have := nl_pos (w := w) (x := bound) (by lia); lia
    have hM : nb (bound - 1) ≤ 30 := nb_le (by lia)
    walk_at "pt"
    refine i_lenI hb dig_len (by lia) ?_
    walk_at "pt"
    · intro h; lia
    intro _
    walk_at "pt"
    refine i_newl (by simp) fun q hq => ?_
    have d0 : Drop H (H.set q (LI (dig w 1))) := drop_set hq
    walk_at "pt"
    rw [LI_one (w := w) (by lia)]
    refine ⟨b, q, w, bound, 1, rfl, hw, by lia, d0 _ _ hb, hself, by lia, hb1, fun q2 hq2 => ?_⟩
    have d1 : Drop H ((H.set q (LI (dig w 1))).set q2 (LI (dig w (bound - 1)))) := drop_new hq2 d0
    walk_at "pt"
    refine ⟨q2, w, bound - 1, rfl, hw, by lia, hself, nlb hw (show bound - 1 < 2 ^ 30 by lia) (by lia), ?_⟩
    walk_at "pt"
    have T1 := hT.mono d1
    refine ⟨x, dx, l, w, zs, many, at_, nb (bound - 1), rfl, hw, hw2, hm, hm2, by lia, T1, fun r hr => ?_⟩
    walk_at "pt"
    refine for1 (n := 80) (fun t m2 H2 => ∃ f a r, rbw zs many bound at_ = rbel zs many (nb (bound - 1)) bound (80 - t) f a ∧ H r = none ∧ Drop ((H.set dx (toldO l many a)).set r (LI (dig w f))) H2 ∧ f < 2 ^ nb (bound - 1) ∧ m2 (Str.ofString "source") = some (.ref x) ∧ m2 (Str.ofString "bound") = some (.ref b) ∧ m2 (Str.ofString "w") = some (.int w) ∧ m2 (Str.ofString "many") = some (.int (nb (bound - 1))) ∧ m2 (Str.ofString "found") = some (.ref r)) rfl (by lia) ⟨_, _, r, rfl, d1.none hr, drop_both (drop_step (drop_trans hT.self d1)), Nat.mod_lt _ (pow_pos2 _), by (repeat (first | with_reducible exact lk_self | with_reducible assumption | refine lk_hop (by kernel_rfl) ?_)), by (repeat (first | with_reducible exact lk_self | with_reducible assumption | refine lk_hop (by kernel_rfl) ?_)), by (repeat (first | with_reducible exact lk_self | with_reducible assumption | refine lk_hop (by kernel_rfl) ?_)), by (repeat (first | with_reducible exact lk_self | with_reducible assumption | refine lk_hop (by kernel_rfl) ?_)), by (repeat (first | with_reducible exact lk_self | with_reducible assumption | refine lk_hop (by kernel_rfl) ?_))⟩ ?_ ?_
    · rintro t m2 H2 ht ⟨f, a, r, e, hr, d2, hf, j1, j2, j3, j4, j5⟩ K kn kr
      have hdr : (H.set dx (toldO l many a)) r = none := none_set hr hT.hd
      have d3 : Drop (H.set dx (toldO l many a)) H2 := drop_trans (drop_set hdr) d2
      have T2 := hT.at_ d3
      obtain ⟨s, hs⟩ : ∃ s, 80 - t = s + 1 := ⟨80 - t - 1, by lia⟩
      have hs2 : 80 - (t + 1) = s := by lia
      walk_at "pt"
      refine ⟨r, b, w, f, bound, rfl, by lia, dself d2, d3 _ _ (hne (ne_list hb hT.hd) hb), nlb hw hf (by lia), by lia, ?_⟩
      walk_at "pt"
      · intro hlt
        have hlt' : f < bound := by
          unfold cmpN at hlt
          split at hlt
          · assumption
          · split at hlt <;> lia
        walk_at "pt"
        rw [hs] at e
        unfold rbel at e
        rw [if_pos hlt'] at e
        rw [e] at hk
        exact kr _ _ _ (i_ret (i_endL (H0 := H.set dx (toldO l many a)) (fun r hr => hk r (none_of hr)) hdr d2))
      · intro hge
        have hge' : ¬ f < bound := by
          intro h
          apply hge
          unfold cmpN
          rw [if_pos h]; decide
        walk_at "pt"
        refine ⟨x, dx, l, w, zs, many, a, nb (bound - 1), rfl, hw, hw2, hm, hm2, by lia, T2, fun r' hr' => ?_⟩
        walk_at "pt"
        refine kn _ _ ⟨_, _, r', ?_, none_of (d3.none hr'), drop_both (drop_step d3), Nat.mod_lt _ (pow_pos2 _), by (repeat (first | with_reducible exact lk_self | with_reducible assumption | refine lk_hop (by kernel_rfl) ?_)), by (repeat (first | with_reducible exact lk_self | with_reducible assumption | refine lk_hop (by kernel_rfl) ?_)), by (repeat (first | with_reducible exact lk_self | with_reducible assumption | refine lk_hop (by kernel_rfl) ?_)), by (repeat (first | with_reducible exact lk_self | with_reducible assumption | refine lk_hop (by kernel_rfl) ?_)), by (repeat (first | with_reducible exact lk_self | with_reducible assumption | refine lk_hop (by kernel_rfl) ?_))⟩
        rw [e, hs, hs2]
        conv => lhs; unfold rbel
        rw [if_neg hge']
    · rintro m2 H2 ⟨f, a, r, e, hr, d2, hf, j1, j2, j3, j4, j5⟩
      have hdr : (H.set dx (toldO l many a)) r = none := none_set hr hT.hd
      have d3 : Drop (H.set dx (toldO l many a)) H2 := drop_trans (drop_set hdr) d2
      have gb := d3 _ _ (hne (ne_list hb hT.hd) hb)
      rw [Nat.sub_self] at e
      unfold rbel at e
      walk_at "pt"
      refine ⟨r, b, w, f, bound, rfl, by lia, dself d2, gb, nlb hw hf (by lia), by lia, ?_⟩
      walk_at "pt"
      · intro hge
        have hge' : bound ≤ f := by
          unfold cmpN at hge
          split at hge
          · lia
          · lia
        rw [if_pos hge'] at e
        rw [e] at hk
        walk_at "pt"
        refine ⟨r, b, w, f, bound, rfl, hw, by lia, dself d2, gb, nlb hw hf (by lia), hge', fun r2 h2 => ?_⟩
        walk_at "pt"
        exact i_endL (r := r2) (H0 := H.set dx (toldO l many a)) (fun r hr => hk r (none_of hr)) (d3.none h2) (drop_both d3)
      · intro hlt
        have hlt' : ¬ bound ≤ f := by
          intro h
          apply hlt
          unfold cmpN
          rw [if_neg (by lia)]
          split <;> decide
        rw [if_neg hlt'] at e
        rw [e] at hk
        walk_at "pt"
        exact i_endL (H0 := H.set dx (toldO l many a)) (fun r hr => hk r (none_of hr)) hdr d2
end
section
-- level 4
noncomputable def spec_Congruence_take : SpecT := fun vs H k => ∃ x dx la lc ls w width a c s, vs = [.ref x] ∧ 2 ≤ w ∧ w ≤ 60 ∧ Cong H x dx la lc ls w width a c s ∧
  ∀ r, H r = none → ∀ r2, ((H.set r (LI (dig w ((s * a + c) % 2 ^ width)))).set dx (congO la lc width r w)) r2 = none →
   ∀ t, (((H.set r (LI (dig w ((s * a + c) % 2 ^ width)))).set dx (congO la lc width r w)).set r2 (LI (dig w ((s * a + c) % 2 ^ width / 2 ^ (width - width / 2))))) t = none →
   k (.ref t) ((((H.set r (LI (dig w ((s * a + c) % 2 ^ width)))).set dx (congO la lc width r w)).set r2 (LI (dig w ((s * a + c) % 2 ^ width / 2 ^ (width - width / 2))))).set t (.tup [.ref r2, .int (width / 2 : Nat)]))
theorem con_Congruence_take {S : Sy} (hK : GoodK S.K) : Con S 4 123 spec_Congruence_take := by
  refine con_of_fn (n := 3) (ns := [Str.ofString "self"]) (f_Congruence_take hK) (fun A h₀ L mL P hF =>
     (exs_cons (ex_expr (ev_meth0 hF (m_Congruence_step hK) (con_Congruence_step hK) (by decide) (ev_local hF (by rfl))))
      (exs_cons (ex_assignName (ev_storeLocal hF rfl (by rfl)) (ev_binop (ev_attr hF (a_width hK) (ev_local hF (by rfl))) ev_constInt))
      (exs_cons (ex_return (ev_tuple (evl_cons (ev_callDef hF (by rfl) (g_shift_right hK) (k_shift_right hK) (con_shift_right hK) (by decide) (evl_cons (ev_attr hF (a_state hK) (ev_local hF (by rfl))) (evl_cons (ev_binop (ev_attr hF (a_width hK) (ev_local hF (by rfl))) (ev_local hF (by rfl))) (evl_cons (ev_attr hF (a_w hK) (ev_local hF (by rfl))) evl_nil)))) (evl_cons (ev_local hF (by rfl)) evl_nil))))
      exs_nil)))) rfl ?spec ?bind (by rfl) (by decide) rfl rfl rfl
  case bind => exact fun _ _ _ _ => fn1 fun _ => rfl
  case spec =>
    rintro vs H k ⟨x, dx, la, lc, ls, w, width, a, c, s, rfl, hw, hw2, hC, hk⟩
    refine ⟨rfl, in1 ?_⟩
    walk_at "pt"
    refine i_meth hC.hx hC.hd (by rfl) ?_
    refine ⟨x, dx, la, lc, ls, w, width, a, c, s, rfl, hw, hw2, hC, fun r hr => ?_⟩
    have C1 := hC.step (z := s * a + c) hr
    walk_at "pt"
    refine i_attr (v := .int width) oC C1.hx C1.hd (by rfl) trivial ?_
    walk_at "pt"
    refine i_fdiv (by lia) (by lia) ?_
    have e : ((width : Nat) : Int).fdiv 2 = ((width / 2 : Nat) : Int) := fdiv_nat width 2
    rw [e]
    walk_at "pt"
    refine i_attr (v := .ref r) oC C1.hx C1.hd (by rfl) trivial ?_
    walk_at "pt"
    refine i_attr (v := .int width) oC C1.hx C1.hd (by rfl) trivial ?_
    walk_at "pt"
    refine i_attr (v := .int w) oC C1.hx C1.hd (by rfl) trivial ?_
    walk_at "pt"
    have e2 : ((width : Nat) : Int) - ((width / 2 : Nat) : Int) = ((width - width / 2 : Nat) : Int) := by lia
    rw [e2]
    refine ⟨r, width - width / 2, w, _, rfl, hw, by lia, by have := hC.w2; lia, C1.gs, nlb hw C1.bs (by lia), fun r2 h2 => ?_⟩
    walk_at "pt"
    refine i_newt (by simp) fun t ht => ?_
    walk_at "pt"
    exact ⟨_, Drop.refl _, hk r hr r2 h2 t ht⟩
end
section
-- level 5
theorem rbits_lt {zs : List Nat} {many n a : Nat} : rbits zs many n a < 2 ^ n := Nat.mod_lt _ (pow_pos2 _)
theorem rbel_lt {zs : List Nat} {many m bound : Nat} : ∀ t f a, f < 2 ^ m → (rbel zs many m bound t f a).1 < 2 ^ m
  | 0, f, a, h => by
    show (if bound ≤ f then f - bound else f) < 2 ^ m
    split <;> lia
  | t + 1, f, a, h => by
    unfold rbel
    split
    · exact h
    · exact rbel_lt t _ _ rbits_lt
theorem rbel_bd {zs : List Nat} {many m bound : Nat} (hb : 2 ^ m ≤ 2 * bound) : ∀ t f a, f < 2 ^ m → (rbel zs many m bound t f a).1 < bound
  | 0, f, a, h => by
    show (if bound ≤ f then f - bound else f) < bound
    split <;> lia
  | t + 1, f, a, h => by
    unfold rbel
    split
    · assumption
    · exact rbel_bd hb t _ _ rbits_lt
theorem rbw_lt {zs : List Nat} {many bound a : Nat} (hb : bound < 2 ^ 30) : (rbw zs many bound a).1 < 2 ^ 30 :=
  pow_lt_of (rbel_lt 80 _ _ rbits_lt) (nb_le (by lia))
theorem two_nb {x : Nat} (h : x ≠ 0) : 2 ^ nb x ≤ 2 * x := by
  unfold nb
  rw [if_neg h, Nat.pow_succ, Nat.mul_comm]
  exact Nat.mul_le_mul_left 2 (Nat.log2_self_le h)
theorem rbw_bd {zs : List Nat} {many bound a : Nat} (hb : 1 ≤ bound) : (rbw zs many bound a).1 < bound := by
  refine rbel_bd ?_ 80 _ _ rbits_lt
  by_cases h : bound - 1 = 0
  · rw [h]; show 2 ^ 0 ≤ 2 * bound; lia
  · have := two_nb h; lia
noncomputable def spec_small_below : SpecT := fun vs H k => ∃ x dx l w zs many at_ n, vs = [.ref x, .int (n : Nat), .int (w : Nat)] ∧ 2 ≤ w ∧ w ≤ 60 ∧ 1 ≤ many ∧ many ≤ 20 ∧ Told H x dx l w zs many at_ ∧ 1 ≤ n ∧ n < 2 ^ 30 ∧
  k (.int (rbw zs many n at_).1) (H.set dx (toldO l many (rbw zs many n at_).2))
theorem con_small_below {S : Sy} (hK : GoodK S.K) : Con S 5 207 spec_small_below := by
  refine con_of_fn (n := 4) (ns := [Str.ofString "source", Str.ofString "n", Str.ofString "w"]) (f_small_below hK) (fun A h₀ L mL P hF =>
     (exs_cons (ex_assignName (ev_storeLocal hF rfl (by rfl)) (ev_callDef hF (by rfl) (g_random_below hK) (k_random_below hK) (con_random_below hK) (by decide) (evl_cons (ev_local hF (by rfl)) (evl_cons (ev_callDef hF (by rfl) (g_small_number hK) (k_small_number hK) (con_small_number hK) (by decide) (evl_cons (ev_local hF (by rfl)) (evl_cons (ev_local hF (by rfl)) evl_nil))) (evl_cons (ev_local hF (by rfl)) evl_nil)))))
      (exs_cons (ex_assignName (ev_storeLocal hF rfl (by rfl)) ev_constInt)
      (exs_cons (ex_forRev hF (fun p1 => (ev_storeLocal (hF.withP p1) rfl (by rfl))) (by rfl) (n_reversed hK) PyProof.Rows.Boot.«reversed» (evl_cons (ev_local hF (by rfl)) evl_nil) (fun p1 => (exs_cons (ex_assignName (ev_storeLocal (hF.withP p1) rfl (by rfl)) (ev_binop (ev_binop (ev_local (hF.withP p1) (by rfl)) (ev_local (hF.withP p1) (by rfl))) (ev_local (hF.withP p1) (by rfl))))
      exs_nil)))
      (exs_cons (ex_return (ev_local hF (by rfl)))
      exs_nil))))) rfl ?spec ?bind (by rfl) (by decide) rfl rfl rfl
  case bind => exact fun _ _ _ _ => fn3 fun _ _ _ => rfl
  case spec =>
    rintro vs H k ⟨x, dx, l, w, zs, many, at_, n, rfl, hw, hw2, hm, hm2, hT, hn1, hn2, hk⟩
    refine ⟨rfl, in3 ?_⟩
    walk_at "pt"
    refine ⟨n, w, rfl, hw, by lia, nlb hw hn2 (by lia), fun q hq => ?_⟩
    walk_at "pt"
    refine ⟨x, dx, l, q, w, zs, many, at_, n, rfl, hw, hw2, hm, hm2, hT.mono (drop_set hq), hself, hn1, hn2, fun r hr => ?_⟩
    have hf := rbw_lt (zs := zs) (many := many) (a := at_) hn2
    revert hk hr hf
    generalize (rbw zs many n at_).1 = f
    generalize (rbw zs many n at_).2 = a
    intro hk hr hf
    have hnf : nl w f ≤ 100 := nlb hw hf (by lia)
    have d1 : Drop ((H.set dx (toldO l many a)).set r (LI (dig w f))) (((H.set q (LI (dig w n))).set dx (toldO l many a)).set r (LI (dig w f))) := drop_both (drop_step (drop_trans hT.self (drop_set hq)))
    walk_at "pt"
    refine forR (fun t m2 H2 => H2 = (((H.set q (LI (dig w n))).set dx (toldO l many a)).set r (LI (dig w f))) ∧ m2 (Str.ofString "w") = some (.int w) ∧ m2 (Str.ofString "value") = some (.int (f / 2 ^ (w * (nl w f - t)) : Nat))) hself (fun i m H hi => by obtain ⟨rfl, _⟩ := hi; exact hself) ⟨rfl, by (repeat (first | with_reducible exact lk_self | with_reducible assumption | refine lk_hop (by kernel_rfl) ?_)), lk_int (by (repeat (first | with_reducible exact lk_self | with_reducible assumption | refine lk_hop (by kernel_rfl) ?_))) (by rw [Nat.sub_zero, div_out (by lia) (Nat.le_refl _)]; rfl)⟩ ?_ ?_
    · rintro t v m2 H2 ht hv ⟨rfl, j1, j2⟩ K kn kr
      rw [List.length_map, dig_len] at ht hv
      obtain ⟨p, hp⟩ : ∃ p, nl w f = p + t + 1 := ⟨nl w f - t - 1, by lia⟩
      have e1 : nl w f - 1 - t = p := by lia
      rw [e1, li_get (dig_get (by lia))] at hv
      cases hv
      have hcp := cast_pow w
      walk_at "pt"
      refine i_shl (n := w) rfl (by lia) (small_of (Nat.lt_of_le_of_lt (Nat.div_le_self _ _) (Nat.lt_trans hf (by decide)))) ?_
      walk_at "pt"
      refine kn _ _ ⟨rfl, by (repeat (first | with_reducible exact lk_self | with_reducible assumption | refine lk_hop (by kernel_rfl) ?_)), lk_int (by (repeat (first | with_reducible exact lk_self | with_reducible assumption | refine lk_hop (by kernel_rfl) ?_))) ?_⟩
      have e2 : nl w f - t = p + 1 := by lia
      have e3 : nl w f - (t + 1) = p := by lia
      rw [e2, e3, ← hcp]
      have := div_split (w := w) (x := f) (i := p)
      rw [this]; push_cast; rw [Int.mul_comm]
    · rintro m2 H2 ⟨rfl, j1, j2⟩
      rw [List.length_map, dig_len, Nat.sub_self, Nat.mul_zero, Nat.pow_zero, Nat.div_one] at j2
      walk_at "pt"
      have hdr : (H.set dx (toldO l many a)) r = none := none_set (none_of hr) hT.hd
      exact i_endV hk (drop_trans (drop_set hdr) d1)
end
section
-- level 6
noncomputable def rlGo (zs : List Nat) (many most : Nat) : Nat → Nat → Nat → List Nat × Nat
  | 0, _, a => ([], a)
  | fuel + 1, left, a => if left = 0 then ([], a) else
    (min (1 + (rbw zs many most a).1) left :: (rlGo zs many most fuel (left - min (1 + (rbw zs many most a).1) left) (rbw zs many most a).2).1,
     (rlGo zs many most fuel (left - min (1 + (rbw zs many most a).1) left) (rbw zs many most a).2).2)
noncomputable def rmost (zs : List Nat) (many n a : Nat) : Nat := max (n / ((rbw zs many 4 a).1 + 1)) 1
noncomputable def rlw (zs : List Nat) (many n a : Nat) : List Nat × Nat := rlGo zs many (rmost zs many n a) n n (rbw zs many 4 a).2
noncomputable abbrev LN (xs : List Nat) : O := LI (xs.map Int.ofNat)
noncomputable def spec_row_lengths : SpecT := fun vs H k => ∃ x dx l w zs many at_ n, vs = [.ref x, .int (n : Nat), .int (w : Nat)] ∧ 2 ≤ w ∧ w ≤ 60 ∧ 1 ≤ many ∧ many ≤ 20 ∧ Told H x dx l w zs many at_ ∧ n ≤ 100 ∧
  ∀ r, H r = none → k (.ref r) ((H.set dx (toldO l many (rlw zs many n at_).2)).set r (LN (rlw zs many n at_).1))
theorem con_row_lengths {S : Sy} (hK : GoodK S.K) : Con S 6 221 spec_row_lengths := by
  refine con_of_fn (n := 5) (ns := [Str.ofString "source", Str.ofString "n", Str.ofString "w"]) (f_row_lengths hK) (fun A h₀ L mL P hF =>
     (exs_cons (ex_assignName (ev_storeLocal hF rfl (by rfl)) (ev_callB hF (by rfl) (n_max hK) PyProof.Rows.Boot.«max» (bi_max hF) (evl_cons (ev_binop (ev_local hF (by rfl)) (ev_binop (ev_callDef hF (by rfl) (g_small_below hK) (k_small_below hK) (con_small_below hK) (by decide) (evl_cons (ev_local hF (by rfl)) (evl_cons ev_constInt (evl_cons (ev_local hF (by rfl)) evl_nil)))) ev_constInt)) (evl_cons ev_constInt evl_nil))))
      (exs_cons (ex_assignSwap (names := [Str.ofString "found", Str.ofString "left"]) hF (ev_tuple (evl_cons (ev_list evl_nil) (evl_cons (ev_local hF (by rfl)) evl_nil))) (.cons (as_bind (ev_storeLocal hF rfl (by rfl))) (.cons (as_bind (ev_storeLocal hF rfl (by rfl))) .nil)))
      (exs_cons (ex_while (it_compare1 hF (ev_local hF (by rfl)) ev_constInt) (exs_cons (ex_assignName (ev_storeLocal hF rfl (by rfl)) (ev_callB hF (by rfl) (n_min hK) PyProof.Rows.Boot.«min» (bi_min hF) (evl_cons (ev_binop ev_constInt (ev_callDef hF (by rfl) (g_small_below hK) (k_small_below hK) (con_small_below hK) (by decide) (evl_cons (ev_local hF (by rfl)) (evl_cons (ev_local hF (by rfl)) (evl_cons (ev_local hF (by rfl)) evl_nil))))) (evl_cons (ev_local hF (by rfl)) evl_nil))))
      (exs_cons (ex_expr (ev_append (ev_local hF (by rfl)) (ev_local hF (by rfl))))
      (exs_cons (ex_augName (ev_loadLocal hF rfl (by rfl)) (ev_storeLocal hF rfl (by rfl)) (ev_local hF (by rfl)))
      exs_nil))))
      (exs_cons (ex_return (ev_local hF (by rfl)))
      exs_nil))))) rfl ?spec ?bind (by rfl) (by decide) rfl rfl rfl
  case bind => exact fun _ _ _ _ => fn3 fun _ _ _ => rfl
  case spec =>
    rintro vs H k ⟨x, dx, l, w, zs, many, at_, n, rfl, hw, hw2, hm, hm2, hT, hn, hk⟩
    refine ⟨rfl, in3 ?_⟩
    walk_at "pt"
    refine ⟨x, dx, l, w, zs, many, at_, 4, rfl, hw, hw2, hm, hm2, hT, by lia, by lia, ?_⟩
    walk_at "pt"
    have hb4 := rbw_bd (zs := zs) (many := many) (bound := 4) (a := at_) (by lia)
    refine i_fdiv (by lia) (by lia) ?_
    have e1 : ((rbw zs many 4 at_).1 : Int) + 1 = (((rbw zs many 4 at_).1 + 1 : Nat) : Int) := by lia
    rw [e1, fdiv_nat]
    walk_at "pt"
    have hM1 : 1 ≤ rmost zs many n at_ := Nat.le_max_right _ _
    have hM2 : rmost zs many n at_ ≤ 100 := by
      unfold rmost
      have := Nat.div_le_self n ((rbw zs many 4 at_).1 + 1)
      lia
    have e2 : (if ((n / ((rbw zs many 4 at_).1 + 1) : Nat) : Int) < 1 then (1 : Int) else ((n / ((rbw zs many 4 at_).1 + 1) : Nat) : Int)) = (rmost zs many n at_ : Nat) := by
      unfold rmost
      split <;> lia
    refine i_max ?_
    rw [e2]
    walk_at "pt"
    refine i_newl (by simp) fun r0 hr0 => ?_
    walk_at "pt"
    refine i_newt (by simp) fun q hq => ?_
    walk_at "pt"
    refine i_unpack hself rfl ?_
    simp only [List.reverse, List.reverseAux]
    walk_at "pt"
    have hr0' : H r0 = none := none_of hr0
    refine while_to (fun left m2 H2 => ∃ acc fuel a, left ≤ fuel ∧ (rlw zs many n at_).1 = acc ++ (rlGo zs many (rmost zs many n at_) fuel left a).1 ∧ (rlw zs many n at_).2 = (rlGo zs many (rmost zs many n at_) fuel left a).2 ∧ acc.length + left ≤ n ∧
      Drop ((H.set dx (toldO l many a)).set r0 (LN acc)) H2 ∧ m2 (Str.ofString "source") = some (.ref x) ∧ m2 (Str.ofString "w") = some (.int w) ∧ m2 (Str.ofString "most") = some (.int (rmost zs many n at_)) ∧ m2 (Str.ofString "found") = some (.ref r0) ∧ m2 (Str.ofString "left") = some (.int left))
      (fun m2 H2 => Drop ((H.set dx (toldO l many (rlw zs many n at_).2)).set r0 (LN (rlw zs many n at_).1)) H2 ∧ m2 (Str.ofString "found") = some (.ref r0)) ?_ ?_ n _ _ ⟨[], n, _, Nat.le_refl _, rfl, rfl, by simp, drop_new hq (drop_both (Drop.refl _)), by (repeat (first | with_reducible exact lk_self | with_reducible assumption | refine lk_hop (by kernel_rfl) ?_)), by (repeat (first | with_reducible exact lk_self | with_reducible assumption | refine lk_hop (by kernel_rfl) ?_)), by (repeat (first | with_reducible exact lk_self | with_reducible assumption | refine lk_hop (by kernel_rfl) ?_)), by (repeat (first | with_reducible exact lk_self | with_reducible assumption | refine lk_hop (by kernel_rfl) ?_)), by (repeat (first | with_reducible exact lk_self | with_reducible assumption | refine lk_hop (by kernel_rfl) ?_))⟩
    · rintro left m2 H2 ⟨acc, fuel, a, hfu, q1, q2, hlen, d2, j1, j2, j3, j4, j5⟩ K kn kb kr
      have hdr : (H.set dx (toldO l many a)) r0 = none := none_set hr0' hT.hd
      have d3 : Drop (H.set dx (toldO l many a)) H2 := drop_trans (drop_set hdr) d2
      have T2 := hT.at_ d3
      walk_at "pt"
      · intro hpos
        obtain ⟨fuel, rfl⟩ : ∃ f, fuel = f + 1 := ⟨fuel - 1, by lia⟩
        unfold rlGo at q1 q2
        rw [if_neg (by lia)] at q1 q2
        walk_at "pt"
        refine ⟨x, dx, l, w, zs, many, a, rmost zs many n at_, rfl, hw, hw2, hm, hm2, T2, hM1, by lia, ?_⟩
        walk_at "pt"
        refine i_min ?_
        have e3 : (if (left : Int) < 1 + ((rbw zs many (rmost zs many n at_) a).1 : Nat) then (left : Int) else 1 + ((rbw zs many (rmost zs many n at_) a).1 : Nat)) = (min (1 + (rbw zs many (rmost zs many n at_) a).1) left : Nat) := by
          split <;> lia
        rw [e3]
        revert q1 q2
        have hmin : 1 ≤ min (1 + (rbw zs many (rmost zs many n at_) a).1) left ∧ min (1 + (rbw zs many (rmost zs many n at_) a).1) left ≤ left := by lia
        revert hmin
        generalize min (1 + (rbw zs many (rmost zs many n at_) a).1) left = len
        intro hmin q1 q2
        walk_at "pt"
        have gr := hne (b := dx) (o' := toldO l many (rbw zs many (rmost zs many n at_) a).2) (ne_list (dself d2) T2.hd) (dself d2)
        refine ⟨r0, _, rfl, gr, ?_⟩
        walk_at "pt"
        refine i_append gr (by rw [List.length_map, List.length_map]; lia) ?_
        walk_at "pt"
        have e4 : (left : Int) - (len : Nat) = ((left - len : Nat) : Int) := by lia
        rw [e4]
        have e5 : (acc.map Int.ofNat).map V.int ++ [V.int (len : Nat)] = ((acc ++ [len]).map Int.ofNat).map V.int := by simp
        rw [e5]
        refine kn (left - len) (by lia) _ _ ⟨acc ++ [len], fuel, _, by lia, by rw [q1]; simp, q2, by rw [List.length_append]; simp; lia, ?_, by (repeat (first | with_reducible exact lk_self | with_reducible assumption | refine lk_hop (by kernel_rfl) ?_)), by (repeat (first | with_reducible exact lk_self | with_reducible assumption | refine lk_hop (by kernel_rfl) ?_)), by (repeat (first | with_reducible exact lk_self | with_reducible assumption | refine lk_hop (by kernel_rfl) ?_)), by (repeat (first | with_reducible exact lk_self | with_reducible assumption | refine lk_hop (by kernel_rfl) ?_)), by (repeat (first | with_reducible exact lk_self | with_reducible assumption | refine lk_hop (by kernel_rfl) ?_))⟩
        exact drop_both (drop_step d3)
      · intro hz
        have e0 : left = 0 := by lia
        subst e0
        have e1 : rlGo zs many (rmost zs many n at_) fuel 0 a = ([], a) := by cases fuel <;> rfl
        rw [e1] at q1 q2
        simp only [List.append_nil] at q1
        walk_at "pt"
        exact fun h => h ⟨by rw [q1, q2]; exact d2, j4⟩
    · rintro m2 H2 ⟨d2, j4⟩
      walk_at "pt"
      exact i_endL (H0 := H.set dx (toldO l many (rlw zs many n at_).2)) (fun r hr => hk r (none_of hr)) (none_set hr0' hT.hd) d2
end
section
-- level 6
noncomputable def swapV (xs : List V) (i j : Nat) : List V := (xs.set i ((xs[j]?).getD .none)).set j ((xs[i]?).getD .none)
noncomputable def shGo (zs : List Nat) (many : Nat) : Nat → List V → Nat → List V × Nat
  | 0, xs, a => (xs, a)
  | i + 1, xs, a => shGo zs many i (swapV xs (i + 1) (rbw zs many (i + 2) a).1) (rbw zs many (i + 2) a).2
noncomputable def shw (zs : List Nat) (many : Nat) (xs : List V) (a : Nat) : List V × Nat := shGo zs many (xs.length - 1) xs a
theorem swapV_len {xs : List V} {i j : Nat} : (swapV xs i j).length = xs.length := by simp [swapV]
noncomputable def spec_shuffled : SpecT := fun vs H k => ∃ x dx l li w zs many at_ xs, vs = [.ref x, .ref li, .int (w : Nat)] ∧ 2 ≤ w ∧ w ≤ 60 ∧ 1 ≤ many ∧ many ≤ 20 ∧ Told H x dx l w zs many at_ ∧ H li = some (.list xs) ∧ xs.length ≤ 100 ∧ 1 ≤ xs.length ∧
  ∀ r, H r = none → k (.ref r) ((H.set dx (toldO l many (shw zs many xs at_).2)).set r (.list (shw zs many xs at_).1))
theorem con_shuffled {S : Sy} (hK : GoodK S.K) : Con S 6 242 spec_shuffled := by
  refine con_of_fn (n := 5) (ns := [Str.ofString "source", Str.ofString "items", Str.ofString "w"]) (f_shuffled hK) (fun A h₀ L mL P hF =>
     (exs_cons (ex_assignName (ev_storeLocal hF rfl (by rfl)) (ev_callT hF (by rfl) (n_list hK) PyProof.Rows.Boot.«list» bi_list (evl_cons (ev_local hF (by rfl)) evl_nil)))
      (exs_cons (ex_forRange hF (fun p1 => (ev_storeLocal (hF.withP p1) rfl (by rfl))) (by rfl) (n_range hK) PyProof.Rows.Boot.«range» (evl_cons (ev_binop (ev_callB hF (by rfl) (n_len hK) PyProof.Rows.Boot.«len» bi_len (evl_cons (ev_local hF (by rfl)) evl_nil)) ev_constInt) (evl_cons ev_constInt (evl_cons (ev_neg ev_constInt) evl_nil))) (fun p1 => (exs_cons (ex_assignName (ev_storeLocal (hF.withP p1) rfl (by rfl)) (ev_callDef (hF.withP p1) (by rfl) (g_small_below hK) (k_small_below hK) (con_small_below hK) (by decide) (evl_cons (ev_local (hF.withP p1) (by rfl)) (evl_cons (ev_binop (ev_local (hF.withP p1) (by rfl)) ev_constInt) (evl_cons (ev_local (hF.withP p1) (by rfl)) evl_nil)))))
      (exs_cons (ex_assignTs (hF.withP p1) (ev_tuple (evl_cons (ev_sub (ev_local (hF.withP p1) (by rfl)) (ev_local (hF.withP p1) (by rfl))) (evl_cons (ev_sub (ev_local (hF.withP p1) (by rfl)) (ev_local (hF.withP p1) (by rfl))) evl_nil))) (ast_cons (as_sub (ev_local (hF.withP p1) (by rfl)) (ev_local (hF.withP p1) (by rfl))) (ast_cons (as_sub (ev_local (hF.withP p1) (by rfl)) (ev_local (hF.withP p1) (by rfl))) ast_nil)))
      exs_nil))))
      (exs_cons (ex_return (ev_local hF (by rfl)))
      exs_nil)))) rfl ?spec ?bind (by rfl) (by decide) rfl rfl rfl
  case bind => exact fun _ _ _ _ => fn3 fun _ _ _ => rfl
  case spec =>
    rintro vs H k ⟨x, dx, l, li, w, zs, many, at_, xs, rfl, hw, hw2, hm, hm2, hT, hli, hxs, hxs1, hk⟩
    refine ⟨rfl, in3 ?_⟩
    walk_at "pt"
    refine ⟨xs, .inl hli, i_newl (by lia) fun r hr => ?_⟩
    walk_at "pt"
    refine i_len hself (by lia) ?_
    walk_at "pt"
    refine for3 (n := xs.length - 1) (fun t m2 H2 => ∃ ys a, shw zs many xs at_ = shGo zs many (xs.length - 1 - t) ys a ∧ ys.length = xs.length ∧ Drop ((H.set dx (toldO l many a)).set r (.list ys)) H2 ∧ m2 (Str.ofString "source") = some (.ref x) ∧ m2 (Str.ofString "w") = some (.int w) ∧ m2 (Str.ofString "found") = some (.ref r)) (by lia) (by lia) (by lia) (by lia) (by lia) ⟨xs, at_, rfl, rfl, drop_both hT.self, by (repeat (first | with_reducible exact lk_self | with_reducible assumption | refine lk_hop (by kernel_rfl) ?_)), by (repeat (first | with_reducible exact lk_self | with_reducible assumption | refine lk_hop (by kernel_rfl) ?_)), by (repeat (first | with_reducible exact lk_self | with_reducible assumption | refine lk_hop (by kernel_rfl) ?_))⟩ ?_ ?_
    · rintro t m2 H2 ht ⟨ys, a, e, hl, d2, j1, j2, j3⟩ K kn kr
      have hdr : (H.set dx (toldO l many a)) r = none := none_set hr hT.hd
      have d3 : Drop (H.set dx (toldO l many a)) H2 := drop_trans (drop_set hdr) d2
      have T2 := hT.at_ d3
      obtain ⟨i, hi⟩ : ∃ i, xs.length - 1 - t = i + 1 := ⟨xs.length - 1 - t - 1, by lia⟩
      have hi2 : xs.length - 1 - (t + 1) = i := by lia
      have ei : (xs.length : Int) - 1 - (t : Nat) = ((i + 1 : Nat) : Int) := by lia
      rw [ei]
      walk_at "pt"
      have ei2 : ((i + 1 : Nat) : Int) + 1 = ((i + 2 : Nat) : Int) := by lia
      rw [ei2]
      have hbd := rbw_bd (zs := zs) (many := many) (bound := i + 2) (a := a) (by lia)
      refine ⟨x, dx, l, w, zs, many, a, i + 2, rfl, hw, hw2, hm, hm2, T2, by lia, by lia, ?_⟩
      rw [hi] at e
      unfold shGo at e
      revert e hbd
      generalize (rbw zs many (i + 2) a).1 = s
      generalize (rbw zs many (i + 2) a).2 = a'
      intro hbd e
      have gr := hne (b := dx) (o' := toldO l many a') (ne_list (dself d2) T2.hd) (dself d2)
      have g1 : ys[i + 1]? = some ((ys[i + 1]?).getD .none) := by rw [List.getElem?_eq_getElem (by lia)]; rfl
      have g2 : ys[s]? = some ((ys[s]?).getD .none) := by rw [List.getElem?_eq_getElem (by lia)]; rfl
      walk_at "pt"
      refine i_sub (n := s) gr rfl (by lia) g2 ?_
      walk_at "pt"
      refine i_sub (n := i + 1) gr rfl (by lia) g1 ?_
      walk_at "pt"
      refine i_newt (by simp) fun q hq => ?_
      walk_at "pt"
      refine i_unpack hself rfl ?_
      walk_at "pt"
      refine i_setItem (n := i + 1) (fresh_get hq gr) rfl (by lia) (by lia) ?_
      walk_at "pt"
      refine i_setItem (n := s) hself rfl (by rw [List.length_set]; lia) (by rw [List.length_set]; lia) ?_
      walk_at "pt"
      refine kn _ _ ⟨swapV ys (i + 1) s, a', by rw [hi2]; exact e, by rw [swapV_len]; exact hl, ?_, by (repeat (first | with_reducible exact lk_self | with_reducible assumption | refine lk_hop (by kernel_rfl) ?_)), by (repeat (first | with_reducible exact lk_self | with_reducible assumption | refine lk_hop (by kernel_rfl) ?_)), by (repeat (first | with_reducible exact lk_self | with_reducible assumption | refine lk_hop (by kernel_rfl) ?_))⟩
      rw [hset2]
      exact drop_both (drop_new hq (drop_step d3))
    · rintro m2 H2 ⟨ys, a, e, hl, d2, j1, j2, j3⟩
      rw [Nat.sub_self] at e
      unfold shGo at e
      rw [e] at hk
      walk_at "pt"
      exact i_endL (H0 := H.set dx (toldO l many a)) (fun r hr => hk r (none_of hr)) (none_set hr hT.hd) d2
end
section
-- level 7
noncomputable def rowsv : List Nat → Bool → Nat → Nat
  | [], _, v => v
  | len :: r, b, v => rowsv r (!b) (v * 2 ^ len + if b = true then 2 ^ len - 1 else 0)
theorem rowsv_cons {len : Nat} {r : List Nat} {b : Bool} {v : Nat} : rowsv (len :: r) b v = rowsv r (!b) (v * 2 ^ len + if b = true then 2 ^ len - 1 else 0) := rfl
theorem rlGo_sum {zs : List Nat} {many most : Nat} : ∀ fuel left a, left ≤ fuel → (rlGo zs many most fuel left a).1.sum = left
  | 0, left, a, h => by
    obtain rfl : left = 0 := by lia
    rfl
  | fuel + 1, left, a, h => by
    unfold rlGo
    split
    · rename_i h0; subst h0; rfl
    · show (min (1 + (rbw zs many most a).1) left :: _).sum = left
      rw [List.sum_cons, rlGo_sum fuel _ _ (by lia)]; lia
theorem rlGo_pos {zs : List Nat} {many most : Nat} : ∀ fuel left a, ∀ z ∈ (rlGo zs many most fuel left a).1, 1 ≤ z
  | 0, left, a => by intro z hz; cases hz
  | fuel + 1, left, a => by
    unfold rlGo
    split
    · intro z hz; cases hz
    · rename_i h0
      intro z hz
      rcases List.mem_cons.mp hz with rfl | hz
      · lia
      · exact rlGo_pos fuel _ _ z hz
theorem rlw_sum {zs : List Nat} {many n a : Nat} : (rlw zs many n a).1.sum = n := rlGo_sum n n _ (Nat.le_refl _)
theorem rlw_pos {zs : List Nat} {many n a : Nat} : ∀ z ∈ (rlw zs many n a).1, 1 ≤ z := rlGo_pos n n _
noncomputable def spec_random_rows : SpecT := fun vs H k => ∃ x dx l w zs many at_ n, vs = [.ref x, .int (n : Nat), .int (w : Nat)] ∧ 2 ≤ w ∧ w ≤ 60 ∧ 1 ≤ many ∧ many ≤ 20 ∧ Told H x dx l w zs many at_ ∧ n ≤ 100 ∧
  ∀ r, H r = none → k (.ref r) ((H.set dx (toldO l many (rlw zs many n at_).2)).set r (LI (dig w (rowsv (rlw zs many n at_).1 true 0))))
theorem con_random_rows {S : Sy} (hK : GoodK S.K) : Con S 7 228 spec_random_rows := by
  refine con_of_fn (n := 6) (ns := [Str.ofString "source", Str.ofString "n", Str.ofString "w"]) (f_random_rows hK) (fun A h₀ L mL P hF =>
     (exs_cons (ex_assignSwap (names := [Str.ofString "found", Str.ofString "is_one"]) hF (ev_tuple (evl_cons (ev_list evl_nil) (evl_cons ev_constBool evl_nil))) (.cons (as_bind (ev_storeLocal hF rfl (by rfl))) (.cons (as_bind (ev_storeLocal hF rfl (by rfl))) .nil)))
      (exs_cons (ex_forList hF (fun p1 => (ev_storeLocal (hF.withP p1) rfl (by rfl))) (ev_callDef hF (by rfl) (g_row_lengths hK) (k_row_lengths hK) (con_row_lengths hK) (by decide) (evl_cons (ev_local hF (by rfl)) (evl_cons (ev_local hF (by rfl)) (evl_cons (ev_local hF (by rfl)) evl_nil)))) (fun p1 => (exs_cons (ex_assignName (ev_storeLocal (hF.withP p1) rfl (by rfl)) (ev_callDef (hF.withP p1) (by rfl) (g_shift_left hK) (k_shift_left hK) (con_shift_left hK) (by decide) (evl_cons (ev_local (hF.withP p1) (by rfl)) (evl_cons (ev_local (hF.withP p1) (by rfl)) (evl_cons (ev_local (hF.withP p1) (by rfl)) evl_nil)))))
      (exs_cons (ex_if (it_plain (ev_local (hF.withP p1) (by rfl))) (exs_cons (ex_assignName (ev_storeLocal (hF.withP p1) rfl (by rfl)) (ev_callDef (hF.withP p1) (by rfl) (g_add hK) (k_add hK) (con_add hK) (by decide) (evl_cons (ev_local (hF.withP p1) (by rfl)) (evl_cons (ev_callDef (hF.withP p1) (by rfl) (g_ones hK) (k_ones hK) (con_ones hK) (by decide) (evl_cons (ev_local (hF.withP p1) (by rfl)) (evl_cons (ev_local (hF.withP p1) (by rfl)) evl_nil))) (evl_cons (ev_local (hF.withP p1) (by rfl)) evl_nil)))))
      exs_nil) exs_nil)
      (exs_cons (ex_assignName (ev_storeLocal (hF.withP p1) rfl (by rfl)) (ev_not (ct := PT.pure true) (ev_local (hF.withP p1) (by rfl))))
      exs_nil)))))
      (exs_cons (ex_return (ev_local hF (by rfl)))
      exs_nil)))) rfl ?spec ?bind (by rfl) (by decide) rfl rfl rfl
  case bind => exact fun _ _ _ _ => fn3 fun _ _ _ => rfl
  case spec =>
    rintro vs H k ⟨x, dx, l, w, zs, many, at_, n, rfl, hw, hw2, hm, hm2, hT, hn, hk⟩
    refine ⟨rfl, in3 ?_⟩
    walk_at "pt"
    refine i_newl (by simp) fun r0 hr0 => ?_
    walk_at "pt"
    refine i_newt (by simp) fun q hq => ?_
    walk_at "pt"
    refine i_unpack hself rfl ?_
    simp only [List.reverse, List.reverseAux]
    walk_at "pt"
    have d0 : Drop (H.set r0 (LI (dig w 0))) ((H.set r0 (.list [])).set q (.tup [.ref r0, .bool true])) := drop_new hq (Drop.refl _)
    refine ⟨x, dx, l, w, zs, many, at_, n, rfl, hw, hw2, hm, hm2, hT.mono (drop_trans (drop_set hr0) d0), hn, fun rl hrl => ?_⟩
    have hsum := rlw_sum (zs := zs) (many := many) (n := n) (a := at_)
    revert hsum hk hrl
    generalize (rlw zs many n at_).2 = a
    generalize (rlw zs many n at_).1 = lens
    intro hk hrl hsum
    have hrl0 : H rl = none := none_of (none_of hrl)
    have hrl1 : (H.set dx (toldO l many a)) rl = none := none_set hrl0 hT.hd
    have hr1 : (H.set dx (toldO l many a)) r0 = none := none_set hr0 hT.hd
    have hr2 : ((H.set dx (toldO l many a)).set rl (LN lens)) r0 = none := by
      have : r0 ≠ rl := by
        rintro rfl
        have := d0.none hrl
        rw [hself] at this; cases this
      rw [hset_ne _ _ _ _ this]; exact hr1
    have d1 : Drop (((H.set dx (toldO l many a)).set rl (LN lens)).set r0 (LI (dig w 0))) ((((H.set r0 (.list [])).set q (.tup [.ref r0, .bool true])).set dx (toldO l many a)).set rl (LN lens)) := by
      intro b ob hb
      have hn0 : r0 ≠ dx := by rintro rfl; rw [hT.hd] at hr0; cases hr0
      have hnl : rl ≠ dx := by rintro rfl; rw [hT.hd] at hrl0; cases hrl0
      have hn3 : r0 ≠ rl := by
        rintro rfl
        have := d0.none hrl
        rw [hself] at this; cases this
      unfold HH.set at hb ⊢
      unfold HH.set at hq
      by_cases e1 : b = r0
      · rw [if_pos e1] at hb
        subst e1
        have e2 : ¬ b = q := by rintro rfl; simp at hq
        rw [if_neg hn3, if_neg hn0, if_neg e2, if_pos rfl]; exact hb
      · rw [if_neg e1] at hb
        by_cases e2 : b = rl
        · rw [if_pos e2] at hb ⊢; exact hb
        · rw [if_neg e2] at hb ⊢
          by_cases e3 : b = dx
          · rw [if_pos e3] at hb ⊢; exact hb
          · rw [if_neg e3] at hb ⊢
            have e4 : ¬ b = q := by
              rintro rfl
              rw [if_neg e1] at hq
              rw [hq] at hb; cases hb
            rw [if_neg e4, if_neg e1]; exact hb
    walk_at "pt"
    refine forL (xs := (lens.map Int.ofNat).map V.int) (fun t m2 H2 => ∃ v b r, ((H.set dx (toldO l many a)).set rl (LN lens)) r = none ∧ rowsv (lens.drop t) b v = rowsv lens true 0 ∧ v < 2 ^ (lens.take t).sum ∧ Drop (((H.set dx (toldO l many a)).set rl (LN lens)).set r (LI (dig w v))) H2 ∧ m2 (Str.ofString "w") = some (.int w) ∧ m2 (Str.ofString "found") = some (.ref r) ∧ m2 (Str.ofString "is_one") = some (.bool b)) hself (fun i m H hi => by obtain ⟨v, b, r, g0, _, _, d, _⟩ := hi; exact dget d g0 hself) ⟨0, true, r0, hr2, rfl, pow_pos2 _, d1, by (repeat (first | with_reducible exact lk_self | with_reducible assumption | refine lk_hop (by kernel_rfl) ?_)), by (repeat (first | with_reducible exact lk_self | with_reducible assumption | refine lk_hop (by kernel_rfl) ?_)), by (repeat (first | with_reducible exact lk_self | with_reducible assumption | refine lk_hop (by kernel_rfl) ?_))⟩ ?_ ?_
    · rintro t z m2 H2 hz ⟨v, b, r, g0, g1, g2, d2, j1, j2, j3⟩ K kn kr
      have ht : t < lens.length := by
        have := (List.getElem?_eq_some_iff.mp hz).1
        simpa using this
      have e : lens.drop t = lens[t] :: lens.drop (t + 1) := List.drop_eq_getElem_cons ht
      have ez : z = .int (lens[t] : Nat) := by
        simp [ht] at hz
        exact hz.symm
      subst ez
      rw [e, rowsv_cons] at g1
      have es : (lens.take (t + 1)).sum = (lens.take t).sum + lens[t] := by
        rw [List.take_succ_eq_append_getElem ht, List.sum_append]; simp
      have hle : (lens.take t).sum + lens[t] ≤ n := by
        rw [← es, ← hsum]
        have h1 := congrArg List.sum (List.take_append_drop (t + 1) lens)
        rw [List.sum_append] at h1
        lia
      revert g1 es hle
      generalize lens[t] = len
      intro g1 es hle
      have hv1 : v * 2 ^ len < 2 ^ ((lens.take t).sum + len) := by
        rw [Nat.pow_add]; exact Nat.mul_lt_mul_of_pos_right g2 (pow_pos2 _)
      have hpl := pow_pos2 len
      have hv2 : v * 2 ^ len + (2 ^ len - 1) < 2 ^ ((lens.take t).sum + len) := by
        have h1 : (v + 1) * 2 ^ len ≤ 2 ^ (lens.take t).sum * 2 ^ len := Nat.mul_le_mul_right _ g2
        rw [← Nat.pow_add, Nat.add_mul, Nat.one_mul] at h1
        lia
      have d3 : Drop ((H.set dx (toldO l many a)).set rl (LN lens)) H2 := drop_trans (drop_set g0) d2
      walk_at "pt"
      refine ⟨r, len, w, v, rfl, hw, by lia, by lia, dself d2, nlb hw g2 (by lia), fun r3 h3 => ?_⟩
      have d4 : Drop (((H.set dx (toldO l many a)).set rl (LN lens)).set r3 (LI (dig w (v * 2 ^ len)))) (H2.set r3 (LI (dig w (v * 2 ^ len)))) := drop_both d3
      walk_at "pt"
      cases b with
      | true =>
        walk_at "pt"
        refine ⟨len, w, rfl, hw, by lia, by lia, fun r4 h4 => ?_⟩
        walk_at "pt"
        refine ⟨r3, r4, w, _, _, rfl, hw, by lia, fresh_get h4 hself, hself, nlb hw hv1 (by lia), nlb (b := len) hw (by lia) (by lia), fun r5 h5 => ?_⟩
        walk_at "pt"
        refine kn _ _ ⟨_, !true, r5, d3.none (none_of (none_of h5)), g1, ?_, drop_both (drop_new h4 (drop_new h3 d3)), by (repeat (first | with_reducible exact lk_self | with_reducible assumption | refine lk_hop (by kernel_rfl) ?_)), by (repeat (first | with_reducible exact lk_self | with_reducible assumption | refine lk_hop (by kernel_rfl) ?_)), by (repeat (first | with_reducible exact lk_self | with_reducible assumption | refine lk_hop (by kernel_rfl) ?_))⟩
        rw [es]; simpa using hv2
      | false =>
        walk_at "pt"
        refine kn _ _ ⟨_, !false, r3, d3.none h3, g1, ?_, d4, by (repeat (first | with_reducible exact lk_self | with_reducible assumption | refine lk_hop (by kernel_rfl) ?_)), by (repeat (first | with_reducible exact lk_self | with_reducible assumption | refine lk_hop (by kernel_rfl) ?_)), by (repeat (first | with_reducible exact lk_self | with_reducible assumption | refine lk_hop (by kernel_rfl) ?_))⟩
        rw [es]; simpa using hv1
    · rintro m2 H2 ⟨v, b, r, g0, g1, g2, d2, j1, j2, j3⟩
      rw [List.length_map, List.length_map, List.drop_length] at g1
      have ev : v = rowsv lens true 0 := g1
      subst ev
      walk_at "pt"
      exact i_endL (H0 := H.set dx (toldO l many a)) (fun r hr => hk r (none_of hr)) (none_of g0) (drop_trans (drop_both (drop_set hrl1)) d2)
end
section
-- level 2
structure Lag (H : HH) (x dx lr : Addr) (w place : Nat) (row : List Nat) : Prop where
  hx : H x = some (.inst 154 dx)
  hd : H dx = some (lagO lr place w)
  gr : H lr = some (LN row)
  p1 : 1 ≤ place
  p2 : place < row.length
  p3 : row.length ≤ 100
noncomputable def lagf (w place : Nat) (row : List Nat) : Nat := ((row[0]?).getD 0 + (row[place]?).getD 0) % 2 ^ w
theorem Lag.mono {H H' : HH} {x dx lr : Addr} {w place : Nat} {row : List Nat} (h : Lag H x dx lr w place row) (hd : Drop H H') : Lag H' x dx lr w place row :=
  ⟨hd _ _ h.hx, hd _ _ h.hd, hd _ _ h.gr, h.p1, h.p2, h.p3⟩
theorem Lag.step {H : HH} {x dx lr r : Addr} {w place : Nat} {row row' : List Nat} (h : Lag H x dx lr w place row) (hr : H r = none) (hl : row'.length = row.length) : Lag ((H.set r (LN row')).set dx (lagO r place w)) x dx r w place row' := by
  have hdr := fresh_get (o' := LN row') hr h.hd
  exact ⟨hne (ne_inst h.hx h.hd) (fresh_get hr h.hx), hself, hne (ne_list hself hdr) hself, h.p1, by rw [hl]; exact h.p2, by rw [hl]; exact h.p3⟩
theorem fd_one {w f : Nat} (h : f < 2 ^ w) : fd w f 1 = [(f : Int)] := by
  show [((dg w f 0 : Nat) : Int)] = [(f : Int)]
  unfold dg
  rw [Nat.mul_zero, Nat.pow_zero, Nat.div_one, Nat.mod_eq_of_lt h]
noncomputable def spec_Lagged_take : SpecT := fun vs H k => ∃ x dx lr w place row, vs = [.ref x] ∧ 2 ≤ w ∧ w ≤ 60 ∧ Lag H x dx lr w place row ∧
  ∀ r, H r = none → ∀ r2, ((H.set r (LN (row.drop 1 ++ [lagf w place row]))).set dx (lagO r place w)) r2 = none →
   ∀ t, (((H.set r (LN (row.drop 1 ++ [lagf w place row]))).set dx (lagO r place w)).set r2 (LI (dig w (lagf w place row)))) t = none →
   k (.ref t) ((((H.set r (LN (row.drop 1 ++ [lagf w place row]))).set dx (lagO r place w)).set r2 (LI (dig w (lagf w place row)))).set t (.tup [.ref r2, .int w]))
theorem con_Lagged_take {S : Sy} (hK : GoodK S.K) : Con S 2 151 spec_Lagged_take := by
  refine con_of_fn (n := 1) (ns := [Str.ofString "self"]) (f_Lagged_take hK) (fun A h₀ L mL P hF =>
     (exs_cons (ex_assignName (ev_storeLocal hF rfl (by rfl)) (ev_binop (ev_binop (ev_sub (ev_attr hF (a_row hK) (ev_local hF (by rfl))) ev_constInt) (ev_sub (ev_attr hF (a_row hK) (ev_local hF (by rfl))) (ev_attr hF (a_place hK) (ev_local hF (by rfl))))) (ev_binop ev_constInt (ev_attr hF (a_w hK) (ev_local hF (by rfl))))))
      (exs_cons (ex_assignAttr hF (a_row hK) (ev_local hF (by rfl)) (ev_binop (ev_slice (ev_attr hF (a_row hK) (ev_local hF (by rfl))) (evo_some ev_constInt) evo_none evo_none) (ev_list (evl_cons (ev_local hF (by rfl)) evl_nil))))
      (exs_cons (ex_return (ev_tuple (evl_cons (ev_callDef hF (by rfl) (g_normal hK) (k_normal hK) (con_normal hK) (by decide) (evl_cons (ev_list (evl_cons (ev_local hF (by rfl)) evl_nil)) evl_nil)) (evl_cons (ev_attr hF (a_w hK) (ev_local hF (by rfl))) evl_nil))))
      exs_nil)))) rfl ?spec ?bind (by rfl) (by decide) rfl rfl rfl
  case bind => exact fun _ _ _ _ => fn1 fun _ => rfl
  case spec =>
    rintro vs H k ⟨x, dx, lr, w, place, row, rfl, hw, hw2, hL, hk⟩
    refine ⟨rfl, in1 ?_⟩
    have hx := hL.hx
    have hd := hL.hd
    have gr := hL.gr
    have p1 := hL.p1
    have p2 := hL.p2
    have p3 := hL.p3
    have g0 : row[0]? = some ((row[0]?).getD 0) := by rw [List.getElem?_eq_getElem (by lia)]; rfl
    have g1 : row[place]? = some ((row[place]?).getD 0) := by rw [List.getElem?_eq_getElem (by lia)]; rfl
    have lni : ∀ {i z : Nat}, row[i]? = some z → ((row.map Int.ofNat).map V.int)[i]? = some (V.int (z : Int)) := by
      intro i z h; rw [List.getElem?_map, List.getElem?_map, h]; rfl
    walk_at "pt"
    refine i_attr (v := .ref lr) oL hx hd (by rfl) trivial ?_
    walk_at "pt"
    refine i_sub (n := 0) gr rfl (by lia) (lni g0) ?_
    walk_at "pt"
    refine i_attr (v := .ref lr) oL hx hd (by rfl) trivial ?_
    walk_at "pt"
    refine i_attr (v := .int place) oL hx hd (by rfl) trivial ?_
    walk_at "pt"
    refine i_sub (n := place) gr rfl (by lia) (lni g1) ?_
    walk_at "pt"
    refine i_attr (v := .int w) oL hx hd (by rfl) trivial ?_
    walk_at "pt"
    refine i_shl (n := w) rfl (by lia) ⟨by lia, by lia⟩ ?_
    walk_at "pt"
    have hcp := cast_pow w
    have hpp := pow_pos2 w
    refine i_mod (by rw [Int.one_mul, ← hcp]; lia) ?_
    have e1 : (((row[0]?).getD 0 : Nat) : Int) + (((row[place]?).getD 0 : Nat) : Int) = (((row[0]?).getD 0 + (row[place]?).getD 0 : Nat) : Int) := by lia
    rw [e1, fmod_pow]
    have hf : lagf w place row < 2 ^ w := Nat.mod_lt _ hpp
    revert hf hk
    show (∀ r, _) → _
    unfold lagf
    generalize ((row[0]?).getD 0 + (row[place]?).getD 0) % 2 ^ w = f
    intro hk hf
    walk_at "pt"
    refine i_attr (v := .ref lr) oL hx hd (by rfl) trivial ?_
    walk_at "pt"
    refine i_slice (ys := ((row.drop 1).map Int.ofNat).map V.int) gr ?_ (by rw [List.length_map, List.length_map]; lia) fun s1 h1 => ?_
    · simp only [sliceVs]
      rw [if_pos (by lia)]
      simp [List.map_drop]
    walk_at "pt"
    refine i_newl (by simp) fun s2 h2 => ?_
    walk_at "pt"
    refine i_addl (fresh_get h2 hself) hself ?_
    have e2 : ((row.drop 1).map Int.ofNat).map V.int ++ [V.int (f : Nat)] = ((row.drop 1 ++ [f]).map Int.ofNat).map V.int := by simp
    rw [e2]
    refine i_newl (by rw [List.length_map, List.length_map, List.length_append, List.length_drop]; simp; lia) fun r hr => ?_
    have hr0 : H r = none := none_of (none_of hr)
    have d1 : Drop (H.set r (LN (row.drop 1 ++ [f]))) (((H.set s1 (.list (((row.drop 1).map Int.ofNat).map V.int))).set s2 (.list [V.int (f : Nat)])).set r (LN (row.drop 1 ++ [f]))) := drop_both (drop_new h2 (drop_set h1))
    walk_at "pt"
    refine i_setAttr (es' := [(Str.ofString "row", .ref r), (Str.ofString "place", .int place), (Str.ofString "w", .int w)]) oL (fresh_get hr (fresh_get h2 (fresh_get h1 hx))) (fresh_get hr (fresh_get h2 (fresh_get h1 hd))) (by simp) (by rfl) ?_
    have hl : (row.drop 1 ++ [f]).length = row.length := by rw [List.length_append, List.length_drop]; simp; lia
    have L1 := (hL.step hr0 hl).mono (drop_both (a := dx) (o := lagO r place w) d1)
    have d2 := drop_both (a := dx) (o := lagO r place w) d1
    walk_at "pt"
    refine i_newl (by simp) fun s3 h3 => ?_
    walk_at "pt"
    refine ⟨s3, w, f, 1, rfl, by lia, ?_, by rw [Nat.mul_one]; exact hf, by lia, fun r2 h4 => ?_⟩
    · rw [hself, LI, fd_one hf]; rfl
    walk_at "pt"
    have L2 := (L1.mono (drop_set (o := .list [V.int (f : Nat)]) h3)).mono (drop_set (o := LI (dig w f)) h4)
    refine i_attr (v := .int w) oL L2.hx L2.hd (by rfl) trivial ?_
    walk_at "pt"
    refine i_newt (by simp) fun t ht => ?_
    walk_at "pt"
    refine ⟨_, drop_both (drop_both (drop_new h3 d2)), hk r hr0 r2 ?_ t ?_⟩
    · exact (drop_new h3 d2).none h4
    · exact (drop_both (drop_new h3 d2)).none ht
end
section
theorem con_ToldRow {S : Sy} (hK : GoodK S.K) : Con S 2 182 (specMake 182 spec_ToldRow___init__) := con_class (mk_ToldRow hK) (in_ToldRow hK) (fn_ToldRow hK) (con_ToldRow___init__ hK)
theorem con_Congruence {S : Sy} (hK : GoodK S.K) : Con S 4 126 (specMake 126 spec_Congruence___init__) := con_class (mk_Congruence hK) (in_Congruence hK) (fn_Congruence hK) (con_Congruence___init__ hK)
theorem con_Lagged {S : Sy} (hK : GoodK S.K) : Con S 2 154 (specMake 154 spec_Lagged___init__) := con_class (mk_Lagged hK) (in_Lagged hK) (fn_Lagged hK) (con_Lagged___init__ hK)
theorem drop_over {H H' : HH} {a : Addr} {o : O} (h : H a = none) (d : Drop H H') : Drop H (H'.set a o) := fun b ob hb => by
  rw [hset_ne _ _ _ _ (fun e => by rw [e, h] at hb; cases hb)]; exact d b ob hb
/-- a told row made of rows that stand -/
theorem make_told {H : HH} {k : V → HH → Prop} {l : Addr} {w many : Nat} {zs : List Nat} {rs : List Addr} (hl : H l = some (.list (rs.map V.ref))) (hlen : rs.length = zs.length)
    (hrow : ∀ (i : Nat) (r : Addr) (z : Nat), rs[i]? = some r → zs[i]? = some z → H r = some (LI (dig w z))) (h1 : 0 < zs.length) (h2 : zs.length ≤ 100) (hb : ∀ i, tk zs i < 2 ^ 20) (hm : 1 ≤ many)
    (hk : ∀ x dx H', H x = none → H dx = none → Drop H H' → Told H' x dx l w zs many 0 → k (.ref x) H') : specMake 182 spec_ToldRow___init__ [.ref l, .int (many : Nat)] H k := by
  intro x dx hx hdx hne
  have d1 : Drop H ((H.set dx (.dict [])).set x (.inst 182 dx)) := drop_over hx (drop_set hdx)
  have hd1 : ((H.set dx (.dict [])).set x (.inst 182 dx)) dx = some (.dict []) := by rw [hset_ne _ _ _ _ (Ne.symm hne)]; exact hself
  refine ⟨x, dx, l, rs.map V.ref, many, rfl, hself, hd1, d1 _ _ hl, ?_, by rw [List.length_map]; lia, by lia, rfl, ?_⟩
  · intro e
    have := congrArg List.length e
    rw [List.length_map] at this
    simp at this; subst this; simp at hlen; lia
  · have d2 := drop_over (o := toldO l many 0) hdx d1
    refine hk x dx _ hx hdx d2 ⟨?_, hself, ⟨rs, d2 _ _ hl, hlen, fun i r z a b => d2 _ _ (hrow i r z a b)⟩, h1, h2, hb⟩
    rw [hset_ne _ _ _ _ hne]; exact hself
end
section
-- level 5
noncomputable def spec_law_congruence_right : SpecT := fun vs H k => ∃ ls w xs, vs = [.ref ls, .int (w : Nat)] ∧ 2 ≤ w ∧ w ≤ 60 ∧ H ls = some (LN xs) ∧ 1 ≤ xs.length ∧ xs.length ≤ 100 ∧ k (.bool true) H
theorem ln_get {xs : List Nat} {i : Nat} (h : i < xs.length) : ((xs.map Int.ofNat).map V.int)[i]? = some (V.int (((xs[i]?).getD 0 : Nat) : Int)) := by
  rw [List.getElem?_map, List.getElem?_map, List.getElem?_eq_getElem h]; rfl
theorem con_law_congruence_right {S : Sy} (hK : GoodK S.K) : Con S 5 270 spec_law_congruence_right := by
  refine con_of_fn (n := 4) (ns := [Str.ofString "some", Str.ofString "w"]) (f_law_congruence_right hK) (fun A h₀ L mL P hF =>
     (exs_cons (ex_assignTs hF (ev_tuple (evl_cons (ev_binop ev_constInt (ev_binop (ev_sub (ev_local hF (by rfl)) ev_constInt) ev_constInt)) (evl_cons (ev_binop (ev_sub (ev_local hF (by rfl)) (ev_binop ev_constInt (ev_callB hF (by rfl) (n_len hK) PyProof.Rows.Boot.«len» bi_len (evl_cons (ev_local hF (by rfl)) evl_nil)))) ev_constInt) (evl_cons (ev_binop (ev_sub (ev_local hF (by rfl)) (ev_binop ev_constInt (ev_callB hF (by rfl) (n_len hK) PyProof.Rows.Boot.«len» bi_len (evl_cons (ev_local hF (by rfl)) evl_nil)))) ev_constInt) (evl_cons (ev_binop (ev_sub (ev_local hF (by rfl)) (ev_binop ev_constInt (ev_callB hF (by rfl) (n_len hK) PyProof.Rows.Boot.«len» bi_len (evl_cons (ev_local hF (by rfl)) evl_nil)))) (ev_binop ev_constInt ev_constInt)) evl_nil))))) (ast_cons (as_name (ev_storeLocal hF rfl (by rfl))) (ast_cons (as_name (ev_storeLocal hF rfl (by rfl))) (ast_cons (as_name (ev_storeLocal hF rfl (by rfl))) (ast_cons (as_name (ev_storeLocal hF rfl (by rfl))) ast_nil)))))
      (exs_cons (ex_assignName (ev_storeLocal hF rfl (by rfl)) (ev_callDef hF (by rfl) (g_Congruence hK) (k_Congruence hK) (con_Congruence hK) (by decide) (evl_cons (ev_callDef hF (by rfl) (g_law_nat hK) (k_law_nat hK) (con_law_nat hK) (by decide) (evl_cons (ev_local hF (by rfl)) (evl_cons (ev_local hF (by rfl)) evl_nil))) (evl_cons (ev_callDef hF (by rfl) (g_law_nat hK) (k_law_nat hK) (con_law_nat hK) (by decide) (evl_cons (ev_local hF (by rfl)) (evl_cons (ev_local hF (by rfl)) evl_nil))) (evl_cons (ev_local hF (by rfl)) (evl_cons (ev_callDef hF (by rfl) (g_law_nat hK) (k_law_nat hK) (con_law_nat hK) (by decide) (evl_cons (ev_local hF (by rfl)) (evl_cons (ev_local hF (by rfl)) evl_nil))) (evl_cons (ev_local hF (by rfl)) (evl_cons (ev_global hF (by rfl) (g_law_mul hK)) evl_nil))))))))
      (exs_cons (ex_assignName (ev_storeLocal hF rfl (by rfl)) (ev_binop (ev_local hF (by rfl)) (ev_binop ev_constInt (ev_local hF (by rfl)))))
      (exs_cons (ex_forRange hF (fun p1 => (ev_storeLocal (hF.withP p1) rfl (by rfl))) (by rfl) (n_range hK) PyProof.Rows.Boot.«range» (evl_cons ev_constInt evl_nil) (fun p1 => (exs_cons (ex_assignName (ev_storeLocal (hF.withP p1) rfl (by rfl)) (ev_binop (ev_binop (ev_binop (ev_local (hF.withP p1) (by rfl)) (ev_local (hF.withP p1) (by rfl))) (ev_local (hF.withP p1) (by rfl))) (ev_binop ev_constInt (ev_local (hF.withP p1) (by rfl)))))
      (exs_cons (ex_assignName (ev_storeLocal (hF.withP p1) rfl (by rfl)) (ev_tuple (evl_cons (ev_binop (ev_local (hF.withP p1) (by rfl)) (ev_binop (ev_local (hF.withP p1) (by rfl)) (ev_binop (ev_local (hF.withP p1) (by rfl)) ev_constInt))) (evl_cons (ev_binop (ev_local (hF.withP p1) (by rfl)) ev_constInt) evl_nil))))
      (exs_cons (ex_assignTs (hF.withP p1) (ev_meth0 (hF.withP p1) (m_Congruence_take hK) (con_Congruence_take hK) (by decide) (ev_local (hF.withP p1) (by rfl))) (ast_cons (as_name (ev_storeLocal (hF.withP p1) rfl (by rfl))) (ast_cons (as_name (ev_storeLocal (hF.withP p1) rfl (by rfl))) ast_nil)))
      (exs_cons (ex_if (it_or (it_compare1 (hF.withP p1) (ev_tuple (evl_cons (ev_callDef (hF.withP p1) (by rfl) (g_law_value hK) (k_law_value hK) (con_law_value hK) (by decide) (evl_cons (ev_local (hF.withP p1) (by rfl)) (evl_cons (ev_local (hF.withP p1) (by rfl)) evl_nil))) (evl_cons (ev_local (hF.withP p1) (by rfl)) evl_nil))) (ev_local (hF.withP p1) (by rfl))) (it_or (it_compare1 (hF.withP p1) (ev_callDef (hF.withP p1) (by rfl) (g_law_value hK) (k_law_value hK) (con_law_value hK) (by decide) (evl_cons (ev_attr (hF.withP p1) (a_state hK) (ev_local (hF.withP p1) (by rfl))) (evl_cons (ev_local (hF.withP p1) (by rfl)) evl_nil))) (ev_local (hF.withP p1) (by rfl))) it_orNil)) (exs_cons (ex_return ev_constBool)
      exs_nil) exs_nil)
      exs_nil))))))
      (exs_cons (ex_return ev_constBool)
      exs_nil)))))) rfl ?spec ?bind (by rfl) (by decide) rfl rfl rfl
  case bind => exact fun _ _ _ _ => fn2 fun _ _ => rfl
  case spec =>
    rintro vs H k ⟨ls, w, xs, rfl, hw, hw2, hl, h1, h2, hk⟩
    refine ⟨rfl, in2 ?_⟩
    have hm : ∀ i, i % xs.length < xs.length := fun i => Nat.mod_lt _ h1
    have lenI : ∀ {m : MM} {H' : HH} {k : V → MM → HH → Prop}, H' ls = some (LN xs) → k (.int (xs.length : Nat)) m H' → lenPT [.ref ls] m H' k := fun h hk => i_lenI h (by simp) (by lia) hk
    have g : ∀ i, xs.length ≤ 1000000 := fun _ => by omega
    walk_at "pt"
    refine i_sub (n := 0) hl rfl (by lia) (ln_get h1) ?_
    walk_at "pt"
    refine i_mod (by lia) ?_
    walk_at "pt"
    refine lenI hl ?_
    walk_at "pt"
    refine i_mod (by lia) ?_
    refine i_sub (n := 1 % xs.length) hl (fmod_nat 1 _) (by have := hm 1; lia) (ln_get (hm 1)) ?_
    walk_at "pt"
    refine i_mod (by lia) ?_
    walk_at "pt"
    refine lenI hl ?_
    walk_at "pt"
    refine i_mod (by lia) ?_
    refine i_sub (n := 2 % xs.length) hl (fmod_nat 2 _) (by have := hm 2; lia) (ln_get (hm 2)) ?_
    walk_at "pt"
    refine i_mod (by lia) ?_
    walk_at "pt"
    refine lenI hl ?_
    walk_at "pt"
    refine i_mod (by lia) ?_
    refine i_sub (n := 3 % xs.length) hl (fmod_nat 3 _) (by have := hm 3; lia) (ln_get (hm 3)) ?_
    walk_at "pt"
    refine i_pow (n := 9) rfl (by lia) ⟨by lia, by lia⟩ ?_
    refine i_mod (by lia) ?_
    have f1 : ∀ (a b : Nat), ((a : Nat) : Int).fmod (b : Int) = ((a % b : Nat) : Int) := fmod_nat
    have e1 := fmod_nat ((xs[0]?).getD 0) 23
    have e2 := fmod_nat ((xs[1 % xs.length]?).getD 0) 99991
    have e3 := fmod_nat ((xs[2 % xs.length]?).getD 0) 9973
    have e4 := fmod_nat ((xs[3 % xs.length]?).getD 0) 1000000000
    have b1 := Nat.mod_lt ((xs[0]?).getD 0) (show 0 < 23 by decide)
    have b2 := Nat.mod_lt ((xs[1 % xs.length]?).getD 0) (show 0 < 99991 by decide)
    have b3 := Nat.mod_lt ((xs[2 % xs.length]?).getD 0) (show 0 < 9973 by decide)
    have b4 := Nat.mod_lt ((xs[3 % xs.length]?).getD 0) (show 0 < 1000000000 by decide)
    have e10 : (10 : Int) ^ 9 = ((1000000000 : Nat) : Int) := by decide
    rw [e10]
    revert e1 e2 e3 e4 b1 b2 b3 b4
    generalize (xs[0]?).getD 0 % 23 = z0
    generalize (xs[1 % xs.length]?).getD 0 % 99991 = a
    generalize (xs[2 % xs.length]?).getD 0 % 9973 = c
    generalize (xs[3 % xs.length]?).getD 0 % 1000000000 = s0
    intro e1 e2 e3 e4 b1 b2 b3 b4
    have e1' : (4 : Int) + (((xs[0]?).getD 0 : Nat) : Int).fmod 23 = ((4 + z0 : Nat) : Int) := by rw [show (23 : Int) = ((23 : Nat) : Int) from rfl, e1]; lia
    have e2' : (((xs[1 % xs.length]?).getD 0 : Nat) : Int).fmod 99991 = (a : Nat) := e2
    have e3' : (((xs[2 % xs.length]?).getD 0 : Nat) : Int).fmod 9973 = (c : Nat) := e3
    rw [e1', e2', e3', e4]
    clear e1 e2 e3 e4 e1' e2' e3'
    obtain ⟨width, hwd⟩ : ∃ width, width = 4 + z0 := ⟨_, rfl⟩
    rw [← hwd]
    walk_at "pt"
    refine i_newt (by simp) fun q hq => ?_
    walk_at "pt"
    refine i_unpack hself rfl ?_
    walk_at "pt"
    have d0 : Drop H (H.set q (.tup [.int width, .int a, .int c, .int s0])) := drop_set hq
    refine ⟨a, w, rfl, hw, by lia, nlb (b := 20) hw (by lia) (by lia), fun la hla => ?_⟩
    have d1 := drop_new (o := LI (dig w a)) hla d0
    walk_at "pt"
    refine ⟨c, w, rfl, hw, by lia, nlb (b := 20) hw (by lia) (by lia), fun lc hlc => ?_⟩
    have d2 := drop_new (o := LI (dig w c)) hlc d1
    walk_at "pt"
    refine ⟨s0, w, rfl, hw, by lia, nlb (b := 40) hw (by lia) (by lia), fun lst hls => ?_⟩
    have d3 := drop_new (o := LI (dig w s0)) hls d2
    walk_at "pt"
    intro x dx hx hdx hxd
    have ga := fresh_get (o' := LI (dig w s0)) hls (fresh_get (o' := LI (dig w c)) hlc (hself (H := H.set q (.tup [.int width, .int a, .int c, .int s0])) (a := la) (o := LI (dig w a))))
    have gc := fresh_get (o' := LI (dig w s0)) hls (hself (H := (H.set q (.tup [.int width, .int a, .int c, .int s0])).set la (LI (dig w a))) (a := lc) (o := LI (dig w c)))
    revert d3 ga gc hx hdx
    have gs := hself (H := (((H.set q (.tup [.int width, .int a, .int c, .int s0])).set la (LI (dig w a))).set lc (LI (dig w c)))) (a := lst) (o := LI (dig w s0))
    revert gs
    generalize ((((H.set q (.tup [.int width, .int a, .int c, .int s0])).set la (LI (dig w a))).set lc (LI (dig w c))).set lst (LI (dig w s0))) = H1
    intro gs d3 hx hdx ga gc
    have hdn : H dx = none := d3.none hdx
    have d4 : Drop H1 ((H1.set dx (.dict [])).set x (.inst 126 dx)) := drop_over hx (drop_set hdx)
    have hd1 : ((H1.set dx (.dict [])).set x (.inst 126 dx)) dx = some (.dict []) := by rw [hset_ne _ _ _ _ (Ne.symm hxd)]; exact hself
    refine ⟨x, dx, la, lc, lst, w, width, s0, rfl, hw, hw2, by lia, by lia, by lia, hself, hd1, d4 _ _ gs, fun r hr => ⟨rfl, ?_⟩⟩
    have hr0 := d4.none hr
    have d5 := drop_over (o := congO la lc width r w) hdx (drop_new (o := LI (dig w (s0 % 2 ^ width))) hr d4)
    have C0 : Cong ((((H1.set dx (.dict [])).set x (.inst 126 dx)).set r (LI (dig w (s0 % 2 ^ width)))).set dx (congO la lc width r w)) x dx la lc r w width a c (s0 % 2 ^ width) :=
      ⟨hne hxd (fresh_get hr hself), hself, d5 _ _ ga, d5 _ _ gc, hne (fun e => by rw [e, hd1] at hr; cases hr) hself, by lia, by lia, lt_mod40 (by lia), by lia, by lia⟩
    have d6 := drop_trans d3 d5
    revert C0 d6
    generalize ((((H1.set dx (.dict [])).set x (.inst 126 dx)).set r (LI (dig w (s0 % 2 ^ width)))).set dx (congO la lc width r w)) = H2
    intro C0 d6
    walk_at "pt"
    have hcp := cast_pow width
    have hpp := pow_pos2 width
    refine i_shl (n := width) rfl (by lia) ⟨by lia, by lia⟩ ?_
    refine i_mod (by rw [Int.one_mul, ← hcp]; lia) ?_
    rw [fmod_pow]
    walk_at "pt"
    refine for1 (n := 4) (fun t m3 H3 => ∃ s lst, Drop H H3 ∧ Cong H3 x dx la lc lst w width a c s ∧ m3 (Str.ofString "w") = some (.int w) ∧ m3 (Str.ofString "width") = some (.int width) ∧ m3 (Str.ofString "a") = some (.int a) ∧ m3 (Str.ofString "c") = some (.int c) ∧ m3 (Str.ofString "state") = some (.int s) ∧ m3 (Str.ofString "source") = some (.ref x)) rfl (by lia) ⟨_, r, d6, C0, by (repeat (first | with_reducible exact lk_self | with_reducible assumption | refine lk_hop (by kernel_rfl) ?_)), by (repeat (first | with_reducible exact lk_self | with_reducible assumption | refine lk_hop (by kernel_rfl) ?_)), by (repeat (first | with_reducible exact lk_self | with_reducible assumption | refine lk_hop (by kernel_rfl) ?_)), by (repeat (first | with_reducible exact lk_self | with_reducible assumption | refine lk_hop (by kernel_rfl) ?_)), by (repeat (first | with_reducible exact lk_self | with_reducible assumption | refine lk_hop (by kernel_rfl) ?_)), by (repeat (first | with_reducible exact lk_self | with_reducible assumption | refine lk_hop (by kernel_rfl) ?_))⟩ ?_ ?_
    · clear C0 d6 d5 d4 d3 d2 d1 d0 gs ga gc hr hr0 hd1 hx hdx hla hlc hls hq
      rintro t m3 H3 ht ⟨s, lst, d6, C0, j1, j2, j3, j4, j5, j6⟩ K kn kr
      walk_at "pt"
      refine i_mul (small_of (Nat.lt_trans C0.bs (by decide))) ?_
      walk_at "pt"
      refine i_shl (n := width) rfl (by lia) ⟨by lia, by lia⟩ ?_
      walk_at "pt"
      refine i_mod (by rw [Int.one_mul, ← hcp]; lia) ?_
      have e5 : (s : Int) * a + c = ((s * a + c : Nat) : Int) := by push_cast; rfl
      rw [e5, fmod_pow]
      obtain ⟨s', hs'⟩ : ∃ s', s' = (s * a + c) % 2 ^ width := ⟨_, rfl⟩
      have hs40 : s' < 2 ^ 40 := by rw [hs']; exact lt_mod40 (by lia)
      rw [← hs']
      walk_at "pt"
      have e6 : ((width : Nat) : Int).fdiv 2 = ((width / 2 : Nat) : Int) := fdiv_nat width 2
      refine i_fdiv (by lia) (by lia) ?_
      rw [e6]
      walk_at "pt"
      refine i_shr (n := width - width / 2) (by lia) ?_
      rw [shr_nat]
      walk_at "pt"
      refine i_fdiv (by lia) (by lia) ?_
      rw [e6]
      walk_at "pt"
      refine i_newt (by simp) fun qd hqd => ?_
      walk_at "pt"
      have C1 := C0.mono (drop_set (o := .tup [.int (s' / 2 ^ (width - width / 2) : Nat), .int (width / 2 : Nat)]) hqd)
      have d7 := drop_new (o := .tup [.int (s' / 2 ^ (width - width / 2) : Nat), .int (width / 2 : Nat)]) hqd d6
      have gd := hself (H := H3) (a := qd) (o := .tup [.int (s' / 2 ^ (width - width / 2) : Nat), .int (width / 2 : Nat)])
      revert C1 d7 gd
      generalize H3.set qd (.tup [.int (s' / 2 ^ (width - width / 2) : Nat), .int (width / 2 : Nat)]) = H4
      intro C1 d7 gd
      refine i_meth C1.hx C1.hd (by rfl) ?_
      refine ⟨x, dx, la, lc, lst, w, width, a, c, s, rfl, hw, hw2, C1, ?_⟩
      rw [← hs']
      intro r hr r2 hr2 t ht
      have C2 := C1.step (z := s * a + c) hr
      rw [← hs'] at C2
      have gd2 := hne (o' := congO la lc width r w) (show qd ≠ dx by rintro rfl; rw [C1.hd] at gd; cases gd) (fresh_get (o' := LI (dig w s')) hr gd)
      have d8 : Drop H ((H4.set r (LI (dig w s'))).set dx (congO la lc width r w)) := drop_over hdn (drop_new hr d7)
      have C3 := (C2.mono (drop_set (o := LI (dig w (s' / 2 ^ (width - width / 2)))) hr2)).mono (drop_set (o := .tup [.ref r2, .int (width / 2 : Nat)]) ht)
      have d9 := drop_new (o := .tup [.ref r2, .int (width / 2 : Nat)]) ht (drop_new (o := LI (dig w (s' / 2 ^ (width - width / 2)))) hr2 d8)
      have gd3 := fresh_get (o' := .tup [.ref r2, .int (width / 2 : Nat)]) ht (fresh_get (o' := LI (dig w (s' / 2 ^ (width - width / 2)))) hr2 gd2)
      have gr2 := fresh_get (o' := .tup [.ref r2, .int (width / 2 : Nat)]) ht (hself (H := (H4.set r (LI (dig w s'))).set dx (congO la lc width r w)) (a := r2) (o := LI (dig w (s' / 2 ^ (width - width / 2)))))
      have gt := hself (H := ((H4.set r (LI (dig w s'))).set dx (congO la lc width r w)).set r2 (LI (dig w (s' / 2 ^ (width - width / 2))))) (a := t) (o := .tup [.ref r2, .int (width / 2 : Nat)])
      revert C3 d9 gd3 gr2 gt
      generalize (((H4.set r (LI (dig w s'))).set dx (congO la lc width r w)).set r2 (LI (dig w (s' / 2 ^ (width - width / 2))))).set t (.tup [.ref r2, .int (width / 2 : Nat)]) = H5
      intro C3 d9 gd3 gr2 gt
      walk_at "pt"
      refine i_unpack gt rfl ?_
      walk_at "pt"
      have hv : s' / 2 ^ (width - width / 2) < 2 ^ 40 := Nat.lt_of_le_of_lt (Nat.div_le_self _ _) hs40
      refine ⟨r2, w, s' / 2 ^ (width - width / 2), rfl, hw, by lia, gr2, nlb hw hv (by lia), Nat.lt_trans hv (by decide), ?_⟩
      walk_at "pt"
      refine i_newt (by simp) fun q2 hq2 => ?_
      have C4 := C3.mono (drop_set (o := .tup [.int (s' / 2 ^ (width - width / 2) : Nat), .int (width / 2 : Nat)]) hq2)
      have d10 := drop_new (o := .tup [.int (s' / 2 ^ (width - width / 2) : Nat), .int (width / 2 : Nat)]) hq2 d9
      walk_at "pt"
      refine i_net (xs := [((s' / 2 ^ (width - width / 2) : Nat) : Int), ((width / 2 : Nat) : Int)]) (ys := [((s' / 2 ^ (width - width / 2) : Nat) : Int), ((width / 2 : Nat) : Int)]) hself (fresh_get hq2 gd3) ?_
      walk_at "pt"
      · intro h; exact absurd rfl h
      intro _
      walk_at "pt"
      refine i_attr (v := .ref r) oC C4.hx C4.hd (by rfl) trivial ?_
      walk_at "pt"
      refine ⟨r, w, s', rfl, hw, by lia, C4.gs, nlb hw hs40 (by lia), Nat.lt_trans hs40 (by decide), ?_⟩
      walk_at "pt"
      · intro h; exact absurd rfl h
      intro _
      walk_at "pt"
      exact kn _ _ ⟨s', r, d10, C4, by (repeat (first | with_reducible exact lk_self | with_reducible assumption | refine lk_hop (by kernel_rfl) ?_)), by (repeat (first | with_reducible exact lk_self | with_reducible assumption | refine lk_hop (by kernel_rfl) ?_)), by (repeat (first | with_reducible exact lk_self | with_reducible assumption | refine lk_hop (by kernel_rfl) ?_)), by (repeat (first | with_reducible exact lk_self | with_reducible assumption | refine lk_hop (by kernel_rfl) ?_)), by (repeat (first | with_reducible exact lk_self | with_reducible assumption | refine lk_hop (by kernel_rfl) ?_)), by (repeat (first | with_reducible exact lk_self | with_reducible assumption | refine lk_hop (by kernel_rfl) ?_))⟩
    · rintro m3 H3 ⟨s, lst, d6, C0, _⟩
      walk_at "pt"
      exact i_endV hk d6
end
section
-- level 6
theorem tk_lt {zs : List Nat} {b : Nat} (hb : 0 < b) (h : ∀ z ∈ zs, z < b) (i : Nat) : tk zs i < b := by
  unfold tk
  cases q : zs[i % zs.length]? with
  | none => exact hb
  | some z => exact h z (List.mem_of_getElem? q)
theorem tk_at {zs : List Nat} {i : Nat} (h : i < zs.length) : zs[i]? = some (tk zs i) := by
  unfold tk
  rw [Nat.mod_eq_of_lt h, List.getElem?_eq_getElem h]; rfl
theorem rbits5 {zs : List Nat} {a : Nat} (h : tk zs a < 32) : rbits zs 5 5 a = tk zs a := by
  unfold rbits
  have e : rcount 5 5 = 1 := by decide
  rw [e]
  show (0 + tk zs (a + 0) * 2 ^ (5 * 0)) % 2 ^ 5 = tk zs a
  rw [Nat.add_zero, Nat.mul_zero, Nat.pow_zero, Nat.mul_one, Nat.zero_add]
  exact Nat.mod_eq_of_lt h
theorem first_of {zs : List Nat} {bound : Nat} (h32 : ∀ i, tk zs i < 32) (hl : tk zs (zs.length - 1) < bound) : ∀ t i, i < zs.length → zs.length ≤ i + t →
    ((zs.drop i).filter fun z => decide (z < bound))[0]? = some (rbel zs 5 5 bound t (tk zs i) (i + 1)).1
  | 0, i, h1, h2 => by lia
  | t + 1, i, h1, h2 => by
    have e1 : zs[i] = tk zs i := by
      have := tk_at h1
      rw [List.getElem?_eq_getElem h1] at this; exact Option.some.inj this
    rw [List.drop_eq_getElem_cons h1, e1, List.filter_cons]
    unfold rbel
    by_cases hp : tk zs i < bound
    · rw [if_pos (by simpa using hp), if_pos hp]; rfl
    · rw [if_neg (by simpa using hp), if_neg hp, rbits5 (h32 _)]
      have hi : i + 1 < zs.length := by
        rcases Nat.lt_or_ge (i + 1) zs.length with q | q
        · exact q
        · have : zs.length - 1 = i := by lia
          rw [this] at hl; exact absurd hl hp
      have e5 : rcount 5 5 = 1 := by decide
      rw [e5]
      exact first_of h32 hl t (i + 1) hi (by lia)
theorem nb16 {x : Nat} (h1 : 16 ≤ x) (h2 : x < 32) : nb x = 5 := by
  unfold nb
  rw [if_neg (by lia)]
  have := (Nat.log2_eq_iff (n := x) (k := 4) (by lia)).mpr ⟨by lia, by lia⟩
  lia
noncomputable def spec_law_draws_right : SpecT := fun vs H k => ∃ ls w xs, vs = [.ref ls, .int (w : Nat)] ∧ 2 ≤ w ∧ w ≤ 60 ∧ H ls = some (LN xs) ∧ 1 ≤ xs.length ∧ xs.length ≤ 50 ∧ k (.bool true) H
theorem con_law_draws_right {S : Sy} (hK : GoodK S.K) : Con S 6 287 spec_law_draws_right := by
  refine con_of_fnC (n := 5) (ns := [Str.ofString "some", Str.ofString "w"]) (f_law_draws_right hK) (fun A h₀ L mL P hF =>
     (exs_cons (ex_assignComp hF rfl (fun p1 => (ev_storeLocal (hF.withP p1) rfl (by rfl))) (ev_local hF (by rfl)) .nil (fun _ _ _ hc4 => te_nil) (fun _ _ _ hc4 => (ev_binop (ev_local hc4 (by rfl)) ev_constInt)))
      (exs_cons (ex_assignTs hF (ev_tuple (evl_cons (ev_binop (ev_sub (ev_local hF (by rfl)) ev_constInt) ev_constInt) (evl_cons (ev_binop ev_constInt (ev_binop (ev_sub (ev_local hF (by rfl)) ev_constInt) ev_constInt)) evl_nil))) (ast_cons (as_name (ev_storeLocal hF rfl (by rfl))) (ast_cons (as_name (ev_storeCell hF rfl (by rfl) (by rfl))) ast_nil)))
      (exs_cons (ex_assignTs hF (ev_tuple (evl_cons ev_constInt (evl_cons ev_constInt (evl_cons ev_constInt evl_nil)))) (ast_cons (as_name (ev_storeLocal hF rfl (by rfl))) (ast_cons (as_name (ev_storeLocal hF rfl (by rfl))) (ast_cons (as_name (ev_storeLocal hF rfl (by rfl))) ast_nil))))
      (exs_cons (ex_while (it_compare1 hF (ev_local hF (by rfl)) (ev_local hF (by rfl))) (exs_cons (ex_assignSwap (names := [Str.ofString "due", Str.ofString "have", Str.ofString "at"]) hF (ev_tuple (evl_cons (ev_binop (ev_local hF (by rfl)) (ev_binop (ev_sub (ev_local hF (by rfl)) (ev_binop (ev_local hF (by rfl)) (ev_callB hF (by rfl) (n_len hK) PyProof.Rows.Boot.«len» bi_len (evl_cons (ev_local hF (by rfl)) evl_nil)))) (ev_local hF (by rfl)))) (evl_cons (ev_binop (ev_local hF (by rfl)) ev_constInt) (evl_cons (ev_binop (ev_local hF (by rfl)) ev_constInt) evl_nil)))) (.cons (as_bind (ev_storeLocal hF rfl (by rfl))) (.cons (as_bind (ev_storeLocal hF rfl (by rfl))) (.cons (as_bind (ev_storeLocal hF rfl (by rfl))) .nil))))
      exs_nil))
      (exs_cons (ex_if (it_compare1 hF (ev_callDef hF (by rfl) (g_law_value hK) (k_law_value hK) (con_law_value hK) (by decide) (evl_cons (ev_callDef hF (by rfl) (g_random_bits hK) (k_random_bits hK) (con_random_bits hK) (by decide) (evl_cons (ev_callDef hF (by rfl) (g_ToldRow hK) (k_ToldRow hK) (con_ToldRow hK) (by decide) (evl_cons (ev_comp hF rfl (ev_local hF (by rfl)) (.cons (x := Str.ofString "w") (by rfl) (by rfl) .nil) (fun _ _ _ hc3 => te_nil) (fun _ _ _ hc3 => (ev_callDef hc3 (by rfl) (g_law_nat hK) (k_law_nat hK) (con_law_nat hK) (by decide) (evl_cons (ev_local hc3 (by rfl)) (evl_cons (ev_cellName hc3 (by rfl) (by rfl)) evl_nil))))) (evl_cons ev_constInt evl_nil))) (evl_cons (ev_local hF (by rfl)) (evl_cons (ev_cellName hF (by rfl) (by rfl)) evl_nil)))) (evl_cons (ev_cellName hF (by rfl) (by rfl)) evl_nil))) (ev_binop (ev_local hF (by rfl)) (ev_binop ev_constInt (ev_local hF (by rfl))))) (exs_cons (ex_return ev_constBool)
      exs_nil) exs_nil)
      (exs_cons (ex_assignName (ev_storeLocal hF rfl (by rfl)) (ev_binop (ev_local hF (by rfl)) (ev_list (evl_cons ev_constInt evl_nil))))
      (exs_cons (ex_assignName (ev_storeLocal hF rfl (by rfl)) (ev_sub (ev_comp hF rfl (ev_local hF (by rfl)) (.cons (x := Str.ofString "bound") (by rfl) (by rfl) .nil) (fun _ _ _ hc2 => (te_one (it_compare1 hc2 (ev_local hc2 (by rfl)) (ev_cellName hc2 (by rfl) (by rfl))))) (fun _ _ _ hc2 => (ev_local hc2 (by rfl)))) ev_constInt))
      (exs_cons (ex_return (ev_compare1 hF (ev_callDef hF (by rfl) (g_law_value hK) (k_law_value hK) (con_law_value hK) (by decide) (evl_cons (ev_callDef hF (by rfl) (g_random_below hK) (k_random_below hK) (con_random_below hK) (by decide) (evl_cons (ev_callDef hF (by rfl) (g_ToldRow hK) (k_ToldRow hK) (con_ToldRow hK) (by decide) (evl_cons (ev_comp hF rfl (ev_local hF (by rfl)) (.cons (x := Str.ofString "w") (by rfl) (by rfl) .nil) (fun _ _ _ hc1 => te_nil) (fun _ _ _ hc1 => (ev_callDef hc1 (by rfl) (g_law_nat hK) (k_law_nat hK) (con_law_nat hK) (by decide) (evl_cons (ev_local hc1 (by rfl)) (evl_cons (ev_cellName hc1 (by rfl) (by rfl)) evl_nil))))) (evl_cons ev_constInt evl_nil))) (evl_cons (ev_callDef hF (by rfl) (g_law_nat hK) (k_law_nat hK) (con_law_nat hK) (by decide) (evl_cons (ev_cellName hF (by rfl) (by rfl)) (evl_cons (ev_cellName hF (by rfl) (by rfl)) evl_nil))) (evl_cons (ev_cellName hF (by rfl) (by rfl)) evl_nil)))) (evl_cons (ev_cellName hF (by rfl) (by rfl)) evl_nil))) (ev_local hF (by rfl))))
      exs_nil))))))))) rfl ?spec ?bind (by rfl) (by rfl) rfl rfl rfl
  case bind => exact fun _ _ _ _ => fn2 fun _ _ => rfl
  case spec =>
    rintro vs H k ⟨ls, w, xs, rfl, hw, hw2, hl, h1, h2, hk⟩
    refine ⟨rfl, in2 ?_⟩
    walk_at "pt"
    refine i_comp hl (by simp; lia) fun l1 hl1 => ?_
    refine comp_ints (fun z => z.fmod 32) (fun H' hd => hd _ _ hl) hl1 ?_ ?_
    · intro m H' z K hz hm hx hd hK
      walk_at "pt"
      refine i_mod (by lia) ?_
      exact hK
    intro H1 d1
    obtain ⟨zs, hzs⟩ : ∃ zs, zs = xs.map (· % 32) := ⟨_, rfl⟩
    have ez : (xs.map Int.ofNat).map (fun z => z.fmod 32) = zs.map Int.ofNat := by
      rw [hzs, List.map_map, List.map_map]
      exact List.map_congr_left fun z _ => fmod_nat z 32
    rw [ez] at d1
    have hzl : zs.length = xs.length := by rw [hzs, List.length_map]
    have hzb : ∀ z ∈ zs, z < 32 := by
      intro z hz
      rw [hzs] at hz
      obtain ⟨y, _, rfl⟩ := List.mem_map.mp hz
      exact Nat.mod_lt _ (by decide)
    have d1' : Drop H H1 := drop_trans (drop_set hl1) d1
    have g1 := dself d1
    have gl := d1' _ _ hl
    clear ez hzs
    walk_at "pt"
    refine i_sub (n := 0) gl rfl (by lia) (ln_get h1) ?_
    walk_at "pt"
    refine i_mod (by lia) ?_
    walk_at "pt"
    refine i_sub (n := 0) gl rfl (by lia) (ln_get h1) ?_
    walk_at "pt"
    refine i_mod (by lia) ?_
    have e1 := fmod_nat ((xs[0]?).getD 0) 14
    have e2 := fmod_nat ((xs[0]?).getD 0) 16
    have b1 := Nat.mod_lt ((xs[0]?).getD 0) (show 0 < 14 by decide)
    have b2 := Nat.mod_lt ((xs[0]?).getD 0) (show 0 < 16 by decide)
    revert e1 e2 b1 b2
    generalize (xs[0]?).getD 0 % 14 = many
    generalize (xs[0]?).getD 0 % 16 = z0
    intro e1 e2 b1 b2
    have e1' : (((xs[0]?).getD 0 : Nat) : Int).fmod 14 = (many : Nat) := e1
    have e2' : (17 : Int) + (((xs[0]?).getD 0 : Nat) : Int).fmod 16 = ((17 + z0 : Nat) : Int) := by rw [show (16 : Int) = ((16 : Nat) : Int) from rfl, e2]; lia
    rw [e1']
    walk_at "pt"
    rw [e2']
    clear e1 e2 e1' e2'
    obtain ⟨bound, hbd⟩ : ∃ bound, bound = 17 + z0 := ⟨_, rfl⟩
    rw [← hbd]
    walk_at "pt"
    refine i_newt (by simp) fun q hq => ?_
    walk_at "pt"
    refine i_unpack hself rfl ?_
    walk_at "pt"
    have d2 := drop_new (o := .tup [.int many, .int bound]) hq d1'
    have g2 := fresh_get (o' := .tup [.int many, .int bound]) hq g1
    revert d2 g2
    generalize H1.set q (.tup [.int many, .int bound]) = H2
    intro d2 g2
    refine i_newt (by simp) fun q hq => ?_
    walk_at "pt"
    refine i_unpack hself rfl ?_
    walk_at "pt"
    have d3 := drop_new (o := .tup [.int 0, .int 0, .int 0]) hq d2
    have g3 := fresh_get (o' := .tup [.int 0, .int 0, .int 0]) hq g2
    revert d3 g3
    generalize H2.set q (.tup [.int 0, .int 0, .int 0]) = H3
    intro d3 g3
    clear d2 g2 hq q d1 d1' g1 gl
    have lenI : ∀ {m : MM} {H' : HH} {k : V → MM → HH → Prop}, H' l1 = some (LN zs) → k (.int (zs.length : Nat)) m H' → lenPT [.ref l1] m H' k := fun h hk => i_lenI h (by simp) (by lia) hk
    have hz0 : 0 < zs.length := by lia
    have hz20 : ∀ i, tk zs i < 2 ^ 20 := fun i => Nat.lt_trans (tk_lt (by decide) hzb i) (by decide)
    refine while_to (fun j m4 H4 => ∃ i, j = many - 5 * i ∧ Drop H H4 ∧ H4 l1 = some (LN zs) ∧ m4 (Str.ofString "told") = some (.ref l1) ∧ m4 (Str.ofString "w") = some (.int w) ∧ m4 (Str.ofString "many") = some (.int many) ∧ m4 (Str.ofString "bound") = some (.int bound) ∧
        m4 (Str.ofString "due") = some (.int (rjoin zs 5 0 i)) ∧ m4 (Str.ofString "have") = some (.int (5 * i : Nat)) ∧ m4 (Str.ofString "at") = some (.int i) ∧ ∀ k, i = k + 1 → 5 * k < many)
      (fun m4 H4 => Drop H H4 ∧ H4 l1 = some (LN zs) ∧ m4 (Str.ofString "told") = some (.ref l1) ∧ m4 (Str.ofString "w") = some (.int w) ∧ m4 (Str.ofString "many") = some (.int many) ∧ m4 (Str.ofString "bound") = some (.int bound) ∧
        m4 (Str.ofString "due") = some (.int (rjoin zs 5 0 (rcount 5 many)))) ?_ ?_ many _ _ ⟨0, by lia, d3, g3, by (repeat (first | with_reducible exact lk_self | with_reducible assumption | refine lk_hop (by kernel_rfl) ?_)), by (repeat (first | with_reducible exact lk_self | with_reducible assumption | refine lk_hop (by kernel_rfl) ?_)), by (repeat (first | with_reducible exact lk_self | with_reducible assumption | refine lk_hop (by kernel_rfl) ?_)), by (repeat (first | with_reducible exact lk_self | with_reducible assumption | refine lk_hop (by kernel_rfl) ?_)), lk_int (by (repeat (first | with_reducible exact lk_self | with_reducible assumption | refine lk_hop (by kernel_rfl) ?_))) (by rfl), lk_int (by (repeat (first | with_reducible exact lk_self | with_reducible assumption | refine lk_hop (by kernel_rfl) ?_))) (by rfl), lk_int (by (repeat (first | with_reducible exact lk_self | with_reducible assumption | refine lk_hop (by kernel_rfl) ?_))) (by rfl), fun k h => by cases h⟩
    · clear d3 g3 H3
      rintro j m4 H4 ⟨i, rfl, d3, g3, j1, j2, j3, j4, j5, j6, j7, j8⟩ K kn kb kr
      walk_at "pt"
      · intro hlt
        walk_at "pt"
        refine lenI g3 ?_
        walk_at "pt"
        refine i_mod (by lia) ?_
        rw [fmod_nat]
        refine i_sub (n := i % zs.length) g3 rfl (by have := Nat.mod_lt i hz0; lia) (ln_get (Nat.mod_lt i hz0)) ?_
        walk_at "pt"
        have et : (zs[i % zs.length]?).getD 0 = tk zs i := rfl
        rw [et]
        refine i_shl (n := 5 * i) rfl (by lia) (small_of (Nat.lt_trans (hz20 i) (by decide))) ?_
        walk_at "pt"
        refine i_newt (by simp) fun q hq => ?_
        walk_at "pt"
        refine i_unpack hself rfl ?_
        simp only [List.reverse, List.reverseAux]
        walk_at "pt"
        refine kn (many - 5 * (i + 1)) (by lia) _ _ ⟨i + 1, rfl, drop_new hq d3, fresh_get hq g3, by (repeat (first | with_reducible exact lk_self | with_reducible assumption | refine lk_hop (by kernel_rfl) ?_)), by (repeat (first | with_reducible exact lk_self | with_reducible assumption | refine lk_hop (by kernel_rfl) ?_)), by (repeat (first | with_reducible exact lk_self | with_reducible assumption | refine lk_hop (by kernel_rfl) ?_)), by (repeat (first | with_reducible exact lk_self | with_reducible assumption | refine lk_hop (by kernel_rfl) ?_)), lk_int (by (repeat (first | with_reducible exact lk_self | with_reducible assumption | refine lk_hop (by kernel_rfl) ?_))) ?_, lk_int (by (repeat (first | with_reducible exact lk_self | with_reducible assumption | refine lk_hop (by kernel_rfl) ?_))) (by lia), lk_int (by (repeat (first | with_reducible exact lk_self | with_reducible assumption | refine lk_hop (by kernel_rfl) ?_))) (by lia), fun k hk => by lia⟩
        show _ = ((rjoin zs 5 0 i + tk zs (0 + i) * 2 ^ (5 * i) : Nat) : Int)
        rw [Nat.zero_add]
        push_cast
        rfl
      · intro hge
        walk_at "pt"
        have e := rcount_eq (many := 5) (n := many) (i := i) (by decide) (by lia) j8
        exact fun h => h ⟨d3, g3, j1, j2, j3, j4, by rw [e]; exact j5⟩
    clear d3 g3 H3
    rintro m4 H3 ⟨d3, g3, j1, j2, j3, j4, j5⟩
    walk_at "pt"
    refine i_comp g3 (by simp; lia) fun D hD => ?_
    refine comp_rows (w := w) zs (by simp) (fun H' hd => hd _ _ g3) hD ?_ ?_
    · intro m H' i v z K hv hz hm hx hd hK
      have ev : v = .int z := by
        rw [List.getElem?_map, List.getElem?_map, hz] at hv
        exact (Option.some.inj hv).symm
      subst ev
      have hww : m (Str.ofString "w") = some (.int w) := by rw [hm _ (by decide)]; exact mIn_ne (by decide) j2
      have hz32 := hzb z (List.mem_of_getElem? hz)
      walk_at "pt"
      exact ⟨z, w, rfl, hw, by lia, nlb (b := 5) hw hz32 (by lia), hK⟩
    intro H5 rs hrl hrs d5
    walk_at "pt"
    have d6 : Drop H H5 := drop_trans d3 (drop_trans (drop_set hD) d5)
    have g6 : H5 l1 = some (LN zs) := (drop_trans (drop_set hD) d5) _ _ g3
    refine make_told (many := 5) (dself d5) hrl hrs hz0 (by lia) hz20 (by decide) fun x dx H6 hx hdx d7 T => ?_
    walk_at "pt"
    refine ⟨x, dx, D, w, zs, 5, 0, many, rfl, hw, hw2, by decide, by decide, by lia, T, fun r hr => ?_⟩
    have d8 : Drop H5 ((H6.set dx (toldO D (5 : Nat) (0 + rcount 5 many : Nat))).set r (LI (dig w (rbits zs 5 many 0)))) := drop_new (none_set hr T.hd) (drop_over hdx d7)
    have g8 := hself (H := H6.set dx (toldO D (5 : Nat) (0 + rcount 5 many : Nat))) (a := r) (o := LI (dig w (rbits zs 5 many 0)))
    revert d8 g8
    generalize (H6.set dx (toldO D (5 : Nat) (0 + rcount 5 many : Nat))).set r (LI (dig w (rbits zs 5 many 0))) = H7
    intro d8 g8
    have hv : rbits zs 5 many 0 < 2 ^ 14 := pow_lt_of rbits_lt (by lia)
    walk_at "pt"
    refine ⟨r, w, rbits zs 5 many 0, rfl, hw, by lia, g8, nlb hw hv (by lia), Nat.lt_trans hv (by decide), ?_⟩
    walk_at "pt"
    refine i_shl (n := many) rfl (by lia) ⟨by lia, by lia⟩ ?_
    refine i_mod (by rw [Int.one_mul, ← cast_pow]; have := pow_pos2 many; lia) ?_
    rw [fmod_pow]
    walk_at "pt"
    · intro h; exact absurd rfl h
    intro _
    walk_at "pt"
    refine i_newl (by simp) fun q hq => ?_
    have d9 := drop_new (o := .list [.int 3]) hq (drop_trans d6 d8)
    have g9 := fresh_get (o' := .list [.int 3]) hq (d8 _ _ g6)
    walk_at "pt"
    refine i_addl g9 hself ?_
    have e3 : (zs.map Int.ofNat).map V.int ++ [V.int 3] = ((zs ++ [3]).map Int.ofNat).map V.int := by simp
    rw [e3]
    refine i_newl (by simp; lia) fun l2 hl2 => ?_
    have d10 := drop_new (o := LN (zs ++ [3])) hl2 d9
    have g10 := hself (H := H7.set q (.list [.int 3])) (a := l2) (o := LN (zs ++ [3]))
    revert d10 g10
    generalize (H7.set q (.list [.int 3])).set l2 (LN (zs ++ [3])) = H8
    intro d10 g10
    obtain ⟨ys, hys⟩ : ∃ ys, ys = zs ++ [3] := ⟨_, rfl⟩
    rw [← hys] at g10
    have hyl : ys.length = zs.length + 1 := by rw [hys]; simp
    have hyb : ∀ z ∈ ys, z < 32 := by
      intro z hz
      rw [hys] at hz
      rcases List.mem_append.mp hz with h | h
      · exact hzb z h
      · simp at h; lia
    have hy32 : ∀ i, tk ys i < 32 := tk_lt (by decide) hyb
    have hylast : tk ys (ys.length - 1) < bound := by
      have h := tk_at (zs := ys) (i := ys.length - 1) (by lia)
      rw [hyl, Nat.add_sub_cancel] at h ⊢
      rw [hys] at h ⊢
      rw [List.getElem?_append_right (Nat.le_refl _), Nat.sub_self] at h
      have h' : (3 : Nat) = tk (zs ++ [3]) zs.length := Option.some.inj h
      lia
    have hfirst := first_of hy32 hylast 80 0 (by lia) (by lia)
    rw [List.drop_zero] at hfirst
    clear hys e3
    walk_at "pt"
    refine i_comp g10 (by simp; lia) fun D2 hD2 => ?_
    refine comp_filter (fun z => decide (z < bound)) (fun H' hd => hd _ _ g10) hD2 ?_ ?_ ?_
    · intro m H' z K hm hx hK
      have hbb : m (Str.ofString "bound") = some (.int bound) := by rw [hm _ (by decide)]; exact mIn_ne (by decide) (by (repeat (first | with_reducible exact lk_self | with_reducible assumption | refine lk_hop (by kernel_rfl) ?_)))
      walk_at "pt"
      exact hK
    · intro m H' z K hx hK
      walk_at "pt"
      exact hK
    intro H9 d11
    have d12 := drop_trans (drop_set hD2) d11
    have d13 := drop_trans d10 d12
    have ef : (ys.map Int.ofNat).filter (fun z => decide (z < (bound : Int))) = (ys.filter fun z => decide (z < bound)).map Int.ofNat := by
      rw [List.filter_map]
      congr 1
      refine List.filter_congr fun z _ => ?_
      simp [Function.comp]
    rw [ef] at d11
    obtain ⟨f, hf⟩ : ∃ f, f = (rbel ys 5 5 bound 80 (tk ys 0) (0 + 1)).1 := ⟨_, rfl⟩
    rw [← hf] at hfirst
    walk_at "pt"
    refine i_sub (n := 0) (v := .int f) (dself d11) rfl (by lia) (by rw [List.getElem?_map, List.getElem?_map, hfirst]; rfl) ?_
    walk_at "pt"
    have g12 := d12 _ _ g10
    refine i_comp g12 (by simp; lia) fun D3 hD3 => ?_
    refine comp_rows (w := w) ys (by simp) (fun H' hd => hd _ _ g12) hD3 ?_ ?_
    · intro m H' i v z K hv hz hm hx hd hK
      have ev : v = .int z := by
        rw [List.getElem?_map, List.getElem?_map, hz] at hv
        exact (Option.some.inj hv).symm
      subst ev
      have hww : m (Str.ofString "w") = some (.int w) := by rw [hm _ (by decide)]; exact mIn_ne (by decide) (by (repeat (first | with_reducible exact lk_self | with_reducible assumption | refine lk_hop (by kernel_rfl) ?_)))
      have hz32 := hyb z (List.mem_of_getElem? hz)
      walk_at "pt"
      exact ⟨z, w, rfl, hw, by lia, nlb (b := 5) hw hz32 (by lia), hK⟩
    intro H10 rs2 hrl2 hrs2 d14
    walk_at "pt"
    have d15 : Drop H H10 := drop_trans d13 (drop_trans (drop_set hD3) d14)
    refine make_told (many := 5) (dself d14) hrl2 hrs2 (by lia) (by lia) (fun i => Nat.lt_trans (hy32 i) (by decide)) (by decide) fun x2 dx2 H11 hx2 hdx2 d16 T2 => ?_
    walk_at "pt"
    refine ⟨bound, w, rfl, hw, by lia, nlb (b := 6) hw (by lia) (by lia), fun lb hlb => ?_⟩
    have T3 := T2.mono (drop_set (o := LI (dig w bound)) hlb)
    walk_at "pt"
    refine ⟨x2, dx2, D3, lb, w, ys, 5, 0, bound, rfl, hw, hw2, by decide, by decide, T3, hself, by lia, by lia, fun r2 hr2 => ?_⟩
    have efin : (rbw ys 5 bound 0).1 = f := by
      unfold rbw
      rw [nb16 (x := bound - 1) (by lia) (by lia), rbits5 (hy32 _), hf]
      rfl
    rw [efin]
    have hfb : f < 32 := by
      rw [← efin]
      have := rbw_bd (zs := ys) (many := 5) (bound := bound) (a := 0) (by lia)
      lia
    walk_at "pt"
    refine ⟨r2, w, f, rfl, hw, by lia, hself, nlb (b := 5) hw hfb (by lia), Nat.lt_trans hfb (by decide), ?_⟩
    walk_at "pt"
    have et : (decide ((f : Int) = (f : Int))) = true := by simp
    rw [et]
    refine i_endV hk ?_
    exact drop_new (none_set hr2 T3.hd) (drop_over (d15.none hdx2) (drop_new hlb (drop_trans d15 d16)))
end
section
-- level 8
noncomputable def spec_law_rows_right : SpecT := fun vs H k => ∃ ls w xs, vs = [.ref ls, .int (w : Nat)] ∧ 2 ≤ w ∧ w ≤ 60 ∧ H ls = some (LN xs) ∧ 1 ≤ xs.length ∧ xs.length ≤ 50 ∧ k (.bool true) H
theorem con_law_rows_right {S : Sy} (hK : GoodK S.K) : Con S 8 297 spec_law_rows_right := by
  refine con_of_fnC (n := 7) (ns := [Str.ofString "some", Str.ofString "w"]) (f_law_rows_right hK) (fun A h₀ L mL P hF =>
     (exs_cons (ex_assignSwap (names := [Str.ofString "told", Str.ofString "n"]) hF (ev_tuple (evl_cons (ev_binop (ev_comp hF rfl (ev_local hF (by rfl)) (.cons (x := Str.ofString "w") (by rfl) (by rfl) .nil) (fun _ _ _ hc2 => te_nil) (fun _ _ _ hc2 => (ev_callDef hc2 (by rfl) (g_law_nat hK) (k_law_nat hK) (con_law_nat hK) (by decide) (evl_cons (ev_binop (ev_local hc2 (by rfl)) ev_constInt) (evl_cons (ev_cellName hc2 (by rfl) (by rfl)) evl_nil))))) (ev_list (evl_cons (ev_list evl_nil) evl_nil))) (evl_cons (ev_binop (ev_sub (ev_local hF (by rfl)) ev_constInt) ev_constInt) evl_nil))) (.cons (as_bind (ev_storeLocal hF rfl (by rfl))) (.cons (as_bind (ev_storeLocal hF rfl (by rfl))) .nil)))
      (exs_cons (ex_assignName (ev_storeLocal hF rfl (by rfl)) (ev_callDef hF (by rfl) (g_row_lengths hK) (k_row_lengths hK) (con_row_lengths hK) (by decide) (evl_cons (ev_callDef hF (by rfl) (g_ToldRow hK) (k_ToldRow hK) (con_ToldRow hK) (by decide) (evl_cons (ev_local hF (by rfl)) (evl_cons ev_constInt evl_nil))) (evl_cons (ev_local hF (by rfl)) (evl_cons (ev_cellName hF (by rfl) (by rfl)) evl_nil)))))
      (exs_cons (ex_if (it_or (it_compare1 hF (ev_callB hF (by rfl) (n_sum hK) PyProof.Rows.Boot.«sum» (bi_sum hF) (evl_cons (ev_local hF (by rfl)) evl_nil)) (ev_local hF (by rfl))) (it_or (it_compare1 hF (ev_comp hF rfl (ev_local hF (by rfl)) .nil (fun _ _ _ hc1 => (te_one (it_compare1 hc1 (ev_local hc1 (by rfl)) ev_constInt))) (fun _ _ _ hc1 => (ev_local hc1 (by rfl)))) (ev_list evl_nil)) it_orNil)) (exs_cons (ex_return ev_constBool)
      exs_nil) exs_nil)
      (exs_cons (ex_assignName (ev_storeLocal hF rfl (by rfl)) ev_constInt)
      (exs_cons (ex_forEnum hF (fun p1 q1 => (ast_cons (as_name (ev_storeLocal ((hF.withP p1).withP q1) rfl (by rfl))) (ast_cons (as_name (ev_storeLocal ((hF.withP p1).withP q1) rfl (by rfl))) ast_nil))) (by rfl) (n_enumerate hK) PyProof.Rows.Boot.«enumerate» (evl_cons (ev_local hF (by rfl)) evl_nil) (fun p1 q1 => (exs_cons (ex_assignName (ev_storeLocal ((hF.withP p1).withP q1) rfl (by rfl)) (ev_binop (ev_binop (ev_local ((hF.withP p1).withP q1) (by rfl)) (ev_local ((hF.withP p1).withP q1) (by rfl))) (ev_ifexp (it_compare1 ((hF.withP p1).withP q1) (ev_binop (ev_local ((hF.withP p1).withP q1) (by rfl)) ev_constInt) ev_constInt) (ev_binop (ev_binop ev_constInt (ev_local ((hF.withP p1).withP q1) (by rfl))) ev_constInt) ev_constInt)))
      exs_nil)))
      (exs_cons (ex_return (ev_compare1 hF (ev_callDef hF (by rfl) (g_law_value hK) (k_law_value hK) (con_law_value hK) (by decide) (evl_cons (ev_callDef hF (by rfl) (g_random_rows hK) (k_random_rows hK) (con_random_rows hK) (by decide) (evl_cons (ev_callDef hF (by rfl) (g_ToldRow hK) (k_ToldRow hK) (con_ToldRow hK) (by decide) (evl_cons (ev_local hF (by rfl)) (evl_cons ev_constInt evl_nil))) (evl_cons (ev_local hF (by rfl)) (evl_cons (ev_cellName hF (by rfl) (by rfl)) evl_nil)))) (evl_cons (ev_cellName hF (by rfl) (by rfl)) evl_nil))) (ev_local hF (by rfl))))
      exs_nil))))))) rfl ?spec ?bind (by rfl) (by rfl) rfl rfl rfl
  case bind => exact fun _ _ _ _ => fn2 fun _ _ => rfl
  case spec =>
    rintro vs H k ⟨ls, w, xs, rfl, hw, hw2, hl, h1, h2, hk⟩
    refine ⟨rfl, in2 ?_⟩
    walk_at "pt"
    refine i_comp hl (by simp; lia) fun D hD => ?_
    refine comp_rows (w := w) (xs.map (· % 16)) (by simp) (fun H' hd => hd _ _ hl) hD ?_ ?_
    · intro m H' i v z K hv hz hm hx hd hK
      rw [List.getElem?_map] at hz
      obtain ⟨y, hy, rfl⟩ := Option.map_eq_some_iff.mp hz
      have ev : v = .int y := by
        rw [List.getElem?_map, List.getElem?_map, hy] at hv
        exact (Option.some.inj hv).symm
      subst ev
      have hww : m (Str.ofString "w") = some (.int w) := by rw [hm _ (by decide)]; exact mIn_ne (by decide) (by (repeat (first | with_reducible exact lk_self | with_reducible assumption | refine lk_hop (by kernel_rfl) ?_)))
      have hz16 := Nat.mod_lt y (show 0 < 16 by decide)
      walk_at "pt"
      refine i_mod (by lia) ?_
      have e16 := fmod_nat y 16
      rw [show (16 : Int) = ((16 : Nat) : Int) from rfl, e16]
      walk_at "pt"
      exact ⟨y % 16, w, rfl, hw, by lia, nlb (b := 4) hw hz16 (by lia), hK⟩
    intro H1 rs hrl hrs d1
    have hD1 : Drop H H1 := drop_trans (drop_set hD) d1
    walk_at "pt"
    refine i_newl (by simp) fun q hq => ?_
    walk_at "pt"
    refine i_newl (by simp) fun q2 hq2 => ?_
    walk_at "pt"
    have g1 := fresh_get (o' := .list [.ref q]) hq2 (fresh_get (o' := .list []) hq (dself d1))
    refine i_addl g1 hself ?_
    refine i_newl (by simp at hrl ⊢; lia) fun lt hlt => ?_
    obtain ⟨zs, hzs⟩ : ∃ zs, zs = xs.map (· % 16) ++ [0] := ⟨_, rfl⟩
    obtain ⟨rs', hrs'⟩ : ∃ rs', rs' = rs ++ [q] := ⟨_, rfl⟩
    have er' : rs.map V.ref ++ [V.ref q] = rs'.map V.ref := by rw [hrs']; simp
    rw [er']
    have hrl' : rs'.length = zs.length := by rw [hrs', hzs]; simp at hrl ⊢; exact hrl
    have hzl : zs.length = xs.length + 1 := by rw [hzs]; simp
    have hzb : ∀ z ∈ zs, z < 16 := by
      intro z hz
      rw [hzs] at hz
      rcases List.mem_append.mp hz with h | h
      · obtain ⟨y, _, rfl⟩ := List.mem_map.mp h
        exact Nat.mod_lt _ (by decide)
      · simp at h; lia
    have hz20 : ∀ i, tk zs i < 2 ^ 20 := fun i => Nat.lt_trans (tk_lt (by decide) hzb i) (by decide)
    have d2 : Drop H1 (((H1.set q (.list [])).set q2 (.list [.ref q])).set lt (.list (rs'.map V.ref))) := drop_new hlt (drop_new hq2 (drop_set hq))
    have hrows : ∀ (i : Nat) (r : Addr) (z : Nat), rs'[i]? = some r → zs[i]? = some z → (((H1.set q (.list [])).set q2 (.list [.ref q])).set lt (.list (rs'.map V.ref))) r = some (LI (dig w z)) := by
      intro i r z h1 h2
      rw [hrs'] at h1
      rw [hzs] at h2
      rcases Nat.lt_or_ge i rs.length with hi | hi
      · rw [List.getElem?_append_left hi] at h1
        rw [List.getElem?_append_left (by rw [← hrl]; exact hi)] at h2
        exact d2 _ _ (hrs i r z h1 h2)
      · rw [List.getElem?_append_right hi] at h1
        rw [List.getElem?_append_right (by rw [← hrl]; exact hi), ← hrl] at h2
        have hj : i - rs.length = 0 := by
          rcases Nat.eq_zero_or_pos (i - rs.length) with h | h
          · exact h
          · rw [List.getElem?_eq_none (by simp; lia)] at h1; cases h1
        rw [hj] at h1 h2
        simp at h1 h2
        subst h1 h2
        exact fresh_get hlt (fresh_get hq2 hself)
    have g2 := hself (H := (H1.set q (.list [])).set q2 (.list [.ref q])) (a := lt) (o := .list (rs'.map V.ref))
    have d3 := drop_trans hD1 d2
    revert hrows g2 d3
    generalize ((H1.set q (.list [])).set q2 (.list [.ref q])).set lt (.list (rs'.map V.ref)) = H2
    intro hrows g2 d3
    clear d2 er' hrs' hzs hrs hrl hlt g1 hq2 q2 hq q hD1 d1 rs H1 hD
    walk_at "pt"
    refine i_sub (n := 0) (d3 _ _ hl) rfl (by lia) (ln_get h1) ?_
    walk_at "pt"
    refine i_mod (by lia) ?_
    have e1 := fmod_nat ((xs[0]?).getD 0) 30
    have b1 := Nat.mod_lt ((xs[0]?).getD 0) (show 0 < 30 by decide)
    revert e1 b1
    generalize (xs[0]?).getD 0 % 30 = n
    intro e1 b1
    rw [show (30 : Int) = ((30 : Nat) : Int) from rfl, e1]
    clear e1
    walk_at "pt"
    refine i_newt (by simp) fun q hq => ?_
    walk_at "pt"
    refine i_unpack hself rfl ?_
    simp only [List.reverse, List.reverseAux]
    walk_at "pt"
    have d4 := drop_set (o := .tup [.ref lt, .int n]) hq
    have d5 := drop_trans d3 d4
    refine make_told (many := 4) (w := w) (zs := zs) (d4 _ _ g2) hrl' (fun i r z a b => d4 _ _ (hrows i r z a b)) (by lia) (by lia) hz20 (by decide) fun x dx H3 hx hdx d6 T => ?_
    walk_at "pt"
    refine ⟨x, dx, lt, w, zs, 4, 0, n, rfl, hw, hw2, by decide, by decide, T, by lia, fun r hr => ?_⟩
    have d7 : Drop H ((H3.set dx (toldO lt (4 : Nat) (rlw zs 4 n 0).2)).set r (LN (rlw zs 4 n 0).1)) := drop_new (none_set hr T.hd) (drop_over (d5.none hdx) (drop_trans d5 d6))
    have d8 : Drop (H2.set q (.tup [.ref lt, .int n])) ((H3.set dx (toldO lt (4 : Nat) (rlw zs 4 n 0).2)).set r (LN (rlw zs 4 n 0).1)) := drop_new (none_set hr T.hd) (drop_over hdx d6)
    have g8 := hself (H := H3.set dx (toldO lt (4 : Nat) (rlw zs 4 n 0).2)) (a := r) (o := LN (rlw zs 4 n 0).1)
    revert d7 d8 g8
    generalize (H3.set dx (toldO lt (4 : Nat) (rlw zs 4 n 0).2)).set r (LN (rlw zs 4 n 0).1) = H4
    intro d7 d8 g8
    have d9 := drop_trans d4 d8
    clear d6 T hx hdx hr H3 dx x
    have hsum := rlw_sum (zs := zs) (many := 4) (n := n) (a := 0)
    have hpos := rlw_pos (zs := zs) (many := 4) (n := n) (a := 0)
    obtain ⟨lens, hlens⟩ : ∃ lens, lens = (rlw zs 4 n 0).1 := ⟨_, rfl⟩
    rw [← hlens] at hsum hpos g8
    walk_at "pt"
    refine i_sum g8 (by lia) ?_
    rw [hsum]
    walk_at "pt"
    · intro h; exact absurd rfl h
    intro _
    walk_at "pt"
    have hll : ∀ l : List Nat, (∀ z ∈ l, 1 ≤ z) → l.length ≤ l.sum := by
      intro l
      induction l with
      | nil => intro _; exact Nat.le_refl _
      | cons z l ih =>
        intro h
        rw [List.length_cons, List.sum_cons]
        have := ih fun y hy => h y (.tail _ hy)
        have := h z (.head _)
        lia
    have hlen30 := hll lens hpos
    refine i_comp g8 (by simp; lia) fun D2 hD2 => ?_
    refine comp_filter (fun z => decide (z < 1)) (fun H' hd => hd _ _ g8) hD2 ?_ ?_ ?_
    · intro m H' z K hm hx hK
      walk_at "pt"
      exact hK
    · intro m H' z K hx hK
      walk_at "pt"
      exact hK
    intro H5 d10
    have ef : (lens.map Int.ofNat).filter (fun z => decide (z < 1)) = [] := by
      rw [List.filter_eq_nil_iff]
      intro z hz
      obtain ⟨y, hy, rfl⟩ := List.mem_map.mp hz
      have := hpos y hy
      simp; lia
    rw [ef] at d10
    have d11 := drop_trans (drop_set hD2) d10
    walk_at "pt"
    refine i_newl (by simp) fun q3 hq3 => ?_
    walk_at "pt"
    refine i_nel (xs := []) (ys := []) (fresh_get hq3 (dself d10)) hself ?_
    walk_at "pt"
    · intro h; exact absurd rfl h
    intro _
    walk_at "pt"
    have g12 := fresh_get (o' := .list []) hq3 (d11 _ _ g8)
    have d12 := drop_new (o := .list []) hq3 (drop_trans d7 d11)
    have d13 := drop_new (o := .list []) hq3 (drop_trans d9 d11)
    revert g12 d12 d13
    generalize H5.set q3 (.list []) = H6
    intro g12 d12 d13
    refine forE (xs := (lens.map Int.ofNat).map V.int) (fun t m2 H7 => ∃ v, H7 = H6 ∧ rowsv (lens.drop t) (decide (t % 2 = 0)) v = rowsv lens true 0 ∧ v < 2 ^ (lens.take t).sum ∧ m2 (Str.ofString "w") = some (.int w) ∧ m2 (Str.ofString "told") = some (.ref lt) ∧ m2 (Str.ofString "n") = some (.int n) ∧ m2 (Str.ofString "due") = some (.int v)) g12 (fun i m H h => by obtain ⟨v, rfl, _⟩ := h; exact g12) ⟨0, rfl, rfl, pow_pos2 _, by (repeat (first | with_reducible exact lk_self | with_reducible assumption | refine lk_hop (by kernel_rfl) ?_)), by (repeat (first | with_reducible exact lk_self | with_reducible assumption | refine lk_hop (by kernel_rfl) ?_)), by (repeat (first | with_reducible exact lk_self | with_reducible assumption | refine lk_hop (by kernel_rfl) ?_)), lk_int (by (repeat (first | with_reducible exact lk_self | with_reducible assumption | refine lk_hop (by kernel_rfl) ?_))) (by rfl)⟩ ?_ ?_
    · rintro t z m2 H7 hz ⟨v, rfl, g1, g2', j1, j2, j3, j4⟩ K kn kr
      have ht : t < lens.length := by
        have := (List.getElem?_eq_some_iff.mp hz).1
        simpa using this
      have e : lens.drop t = lens[t] :: lens.drop (t + 1) := List.drop_eq_getElem_cons ht
      have ez : z = .int (lens[t] : Nat) := by
        simp [ht] at hz
        exact hz.symm
      subst ez
      rw [e, rowsv_cons] at g1
      have es : (lens.take (t + 1)).sum = (lens.take t).sum + lens[t] := by
        rw [List.take_succ_eq_append_getElem ht, List.sum_append]; simp
      have hle : (lens.take t).sum + lens[t] ≤ n := by
        rw [← es, ← hsum]
        exact sum_take_le lens (t + 1)
      revert g1 es hle
      generalize lens[t] = len
      intro g1 es hle
      have hv1 : v * 2 ^ len < 2 ^ ((lens.take t).sum + len) := by
        rw [Nat.pow_add]; exact Nat.mul_lt_mul_of_pos_right g2' (pow_pos2 _)
      have hpl := pow_pos2 len
      have hcp := cast_pow len
      have hv2 : v * 2 ^ len + (2 ^ len - 1) < 2 ^ ((lens.take t).sum + len) := by
        have h1 : (v + 1) * 2 ^ len ≤ 2 ^ (lens.take t).sum * 2 ^ len := Nat.mul_le_mul_right _ g2'
        rw [← Nat.pow_add, Nat.add_mul, Nat.one_mul] at h1
        lia
      have hv60 : v < 2 ^ 62 := pow_lt_of g2' (by lia)
      walk_at "pt"
      refine i_shl (n := len) rfl (by lia) (small_of hv60) ?_
      walk_at "pt"
      refine i_mod (by lia) ?_
      have em := fmod_nat t 2
      rw [show (2 : Int) = ((2 : Nat) : Int) from rfl, em]
      walk_at "pt"
      · intro h0
        have h0' : t % 2 = 0 := by lia
        have h0'' : (t + 1) % 2 = 1 := by lia
        walk_at "pt"
        refine i_shl (n := len) rfl (by lia) ⟨by lia, by lia⟩ ?_
        walk_at "pt"
        refine kn _ _ ⟨v * 2 ^ len + (2 ^ len - 1), rfl, ?_, by rw [es]; exact hv2, by (repeat (first | with_reducible exact lk_self | with_reducible assumption | refine lk_hop (by kernel_rfl) ?_)), by (repeat (first | with_reducible exact lk_self | with_reducible assumption | refine lk_hop (by kernel_rfl) ?_)), by (repeat (first | with_reducible exact lk_self | with_reducible assumption | refine lk_hop (by kernel_rfl) ?_)), lk_int (by (repeat (first | with_reducible exact lk_self | with_reducible assumption | refine lk_hop (by kernel_rfl) ?_))) ?_⟩
        · rw [h0'] at g1
          rw [h0'']
          simpa using g1
        · rw [show ((2 : Nat) : Int) = 2 from rfl, ← hcp]
          push_cast
          have : ((2 ^ len - 1 : Nat) : Int) = (2 : Int) ^ len - 1 := by rw [← hcp]; lia
          rw [this]
          lia
      · intro h0
        have h0' : t % 2 = 1 := by lia
        have h0'' : (t + 1) % 2 = 0 := by lia
        walk_at "pt"
        refine kn _ _ ⟨v * 2 ^ len, rfl, ?_, by rw [es]; exact hv1, by (repeat (first | with_reducible exact lk_self | with_reducible assumption | refine lk_hop (by kernel_rfl) ?_)), by (repeat (first | with_reducible exact lk_self | with_reducible assumption | refine lk_hop (by kernel_rfl) ?_)), by (repeat (first | with_reducible exact lk_self | with_reducible assumption | refine lk_hop (by kernel_rfl) ?_)), lk_int (by (repeat (first | with_reducible exact lk_self | with_reducible assumption | refine lk_hop (by kernel_rfl) ?_))) ?_⟩
        · rw [h0'] at g1
          rw [h0'']
          simpa using g1
        · rw [show ((2 : Nat) : Int) = 2 from rfl, ← hcp]
          push_cast
          lia
    rintro m2 H7 ⟨v, rfl, g1, g2', j1, j2, j3, j4⟩
    rw [List.length_map, List.length_map, List.drop_length] at g1
    rw [List.length_map, List.length_map, List.take_length, hsum] at g2'
    have ev : v = rowsv lens true 0 := g1
    walk_at "pt"
    refine make_told (many := 4) (w := w) (zs := zs) (d13 _ _ g2) hrl' (fun i r z a b => d13 _ _ (hrows i r z a b)) (by lia) (by lia) hz20 (by decide) fun x dx H8 hx hdx d14 T => ?_
    walk_at "pt"
    refine ⟨x, dx, lt, w, zs, 4, 0, n, rfl, hw, hw2, by decide, by decide, T, by lia, fun r2 hr2 => ?_⟩
    rw [← hlens, ← ev]
    have hv60 : v < 2 ^ 30 := pow_lt_of g2' (by lia)
    walk_at "pt"
    refine ⟨r2, w, v, rfl, hw, by lia, hself, nlb hw hv60 (by lia), Nat.lt_trans hv60 (by decide), ?_⟩
    walk_at "pt"
    have et : (decide ((v : Int) = (v : Int))) = true := by simp
    rw [et]
    refine i_endV hk ?_
    exact drop_new (none_set hr2 T.hd) (drop_over (d12.none hdx) (drop_trans d12 d14))
end
section
-- level 7
noncomputable def evStep (l : List Nat) (f s : Nat) : List Nat :=
  if f < 5 ∨ s < 5 then l.set (rbw [f, s, 0] 3 5 0).1 ((l[(rbw [f, s, 0] 3 5 0).1]?).getD 0 + 1) else l
noncomputable def evRow (l : List Nat) (f : Nat) : Nat → List Nat
  | 0 => l
  | s + 1 => evStep (evRow l f s) f s
noncomputable def evAll : Nat → List Nat
  | 0 => [0, 0, 0, 0, 0]
  | f + 1 => evRow (evAll f) f 8
theorem evStep_len {l : List Nat} {f s : Nat} : (evStep l f s).length = l.length := by
  unfold evStep
  split <;> simp
theorem evRow_len {l : List Nat} {f : Nat} : ∀ s, (evRow l f s).length = l.length
  | 0 => rfl
  | s + 1 => by show (evStep _ _ _).length = _; rw [evStep_len, evRow_len s]
theorem evAll_len : ∀ f, (evAll f).length = 5
  | 0 => rfl
  | f + 1 => by show (evRow _ _ _).length = _; rw [evRow_len, evAll_len f]
theorem evAll_8 : evAll 8 = [11, 11, 11, 11, 11] := by decide +kernel
noncomputable def sX : Str := Str.ofString "x"
noncomputable def sY : Str := Str.ofString "y"
noncomputable def sZ : Str := Str.ofString "z"
noncomputable def K6 : List (List Str) := [[sY, sZ, sX], [sZ, sY, sX], [sZ, sX, sY], [sX, sZ, sY], [sY, sX, sZ], [sX, sY, sZ]]
theorem K6_nodup : K6.Nodup := by decide +kernel
theorem shw_0_0 : (shw [0, 0] 2 [V.str sX, V.str sY, V.str sZ] 0).1 = [V.str sY, V.str sZ, V.str sX] := by kernel_rfl
theorem shw_0_1 : (shw [0, 1] 2 [V.str sX, V.str sY, V.str sZ] 0).1 = [V.str sZ, V.str sY, V.str sX] := by kernel_rfl
theorem shw_1_0 : (shw [1, 0] 2 [V.str sX, V.str sY, V.str sZ] 0).1 = [V.str sZ, V.str sX, V.str sY] := by kernel_rfl
theorem shw_1_1 : (shw [1, 1] 2 [V.str sX, V.str sY, V.str sZ] 0).1 = [V.str sX, V.str sZ, V.str sY] := by kernel_rfl
theorem shw_2_0 : (shw [2, 0] 2 [V.str sX, V.str sY, V.str sZ] 0).1 = [V.str sY, V.str sX, V.str sZ] := by kernel_rfl
theorem shw_2_1 : (shw [2, 1] 2 [V.str sX, V.str sY, V.str sZ] 0).1 = [V.str sX, V.str sY, V.str sZ] := by kernel_rfl
theorem shw_key {f s : Nat} (hf : f < 3) (hs : s < 2) : ∃ ks, K6[2 * f + s]? = some ks ∧ (shw [f, s] 2 [V.str sX, V.str sY, V.str sZ] 0).1 = ks.map V.str := by
  have h1 : f = 0 ∨ f = 1 ∨ f = 2 := by lia
  have h2 : s = 0 ∨ s = 1 := by lia
  rcases h1 with rfl | rfl | rfl <;> rcases h2 with rfl | rfl
  · exact ⟨_, rfl, shw_0_0⟩
  · exact ⟨_, rfl, shw_0_1⟩
  · exact ⟨_, rfl, shw_1_0⟩
  · exact ⟨_, rfl, shw_1_1⟩
  · exact ⟨_, rfl, shw_2_0⟩
  · exact ⟨_, rfl, shw_2_1⟩
theorem K6_all : ∀ i : Fin 6, (K6[i.1]?).all (fun ks => !(K6.take i.1).contains ks && ks.length == 3) = true := by decide +kernel
theorem K6_fresh {i : Nat} {ks : List Str} (hi : i < 6) (h : K6[i]? = some ks) : ks ∉ K6.take i ∧ ks.length = 3 := by
  have h1 := K6_all ⟨i, hi⟩
  rw [show K6[(⟨i, hi⟩ : Fin 6).1]? = some ks from h] at h1
  simp only [Option.all_some, Bool.and_eq_true, Bool.not_eq_true', beq_iff_eq] at h1
  refine ⟨fun hm => ?_, h1.2⟩
  have := h1.1
  rw [List.contains_eq_mem] at this
  simp [hm] at this
/-- what the dict holds after i orders -/
structure Ords (S : Sy) (H : HH) (D : Addr) (i : Nat) (xs : List (List Str × Addr × Value)) : Prop where
  at_ : OrdAt S H D xs
  keys : xs.map (·.1) = K6.take i
  ones : ∀ x ∈ xs, er x.2.2 = .int 1
theorem flat_one {n : Nat} {z : Int} : (List.replicate n [V.int z]).flatten = (List.replicate n z).map V.int := by
  induction n with
  | zero => rfl
  | succ n ih => rw [List.replicate_succ, List.flatten_cons, ih]; rfl
theorem tk_small {f s b : Nat} (hf : f < b) (hs : s < b) (hb : 0 < b) (i : Nat) : tk [f, s, 0] i < b := tk_lt hb (fun z hz => by
  simp at hz; rcases hz with rfl | rfl | rfl <;> lia) i
theorem tk_small2 {f s b : Nat} (hf : f < b) (hs : s < b) (hb : 0 < b) (i : Nat) : tk [f, s] i < b := tk_lt hb (fun z hz => by
  simp at hz; rcases hz with rfl | rfl <;> lia) i
noncomputable def spec_law_even : SpecT := fun vs H k => ∃ w, vs = [.int (w : Nat)] ∧ 2 ≤ w ∧ w ≤ 60 ∧ k (.bool true) H
theorem con_law_even {S : Sy} (hK : GoodK S.K) : Con S 7 292 spec_law_even := by
  refine con_of_fnC (n := 6) (ns := [Str.ofString "w"]) (f_law_even hK) (fun A h₀ L mL P hF =>
     (exs_cons (ex_assignSwap (names := [Str.ofString "tally", Str.ofString "orders"]) hF (ev_tuple (evl_cons (ev_binop (ev_list (evl_cons ev_constInt evl_nil)) ev_constInt) (evl_cons (ev_dict0 hF) evl_nil))) (.cons (as_bind (ev_storeLocal hF rfl (by rfl))) (.cons (as_bind (ev_storeLocal hF rfl (by rfl))) .nil)))
      (exs_cons (ex_forRange hF (fun p3 => (ev_storeLocal (hF.withP p3) rfl (by rfl))) (by rfl) (n_range hK) PyProof.Rows.Boot.«range» (evl_cons ev_constInt evl_nil) (fun p3 => (exs_cons (ex_forRange (hF.withP p3) (fun p4 => (ev_storeLocal ((hF.withP p3).withP p4) rfl (by rfl))) (by rfl) (n_range hK) PyProof.Rows.Boot.«range» (evl_cons ev_constInt evl_nil) (fun p4 => (exs_cons (ex_assignComp ((hF.withP p3).withP p4) rfl (fun p5 => (ev_storeLocal (((hF.withP p3).withP p4).withP p5) rfl (by rfl))) (ev_tuple (evl_cons (ev_local ((hF.withP p3).withP p4) (by rfl)) (evl_cons (ev_local ((hF.withP p3).withP p4) (by rfl)) (evl_cons ev_constInt evl_nil)))) (.cons (x := Str.ofString "w") (by rfl) (by rfl) .nil) (fun _ _ _ hc1 => te_nil) (fun _ _ _ hc1 => (ev_callDef hc1 (by rfl) (g_law_nat hK) (k_law_nat hK) (con_law_nat hK) (by decide) (evl_cons (ev_local hc1 (by rfl)) (evl_cons (ev_cellName hc1 (by rfl) (by rfl)) evl_nil)))))
      (exs_cons (ex_if (it_or (it_compare1 ((hF.withP p3).withP p4) (ev_local ((hF.withP p3).withP p4) (by rfl)) ev_constInt) (it_or (it_compare1 ((hF.withP p3).withP p4) (ev_local ((hF.withP p3).withP p4) (by rfl)) ev_constInt) it_orNil)) (exs_cons (ex_augSub (ev_local ((hF.withP p3).withP p4) (by rfl)) (ev_callDef ((hF.withP p3).withP p4) (by rfl) (g_small_below hK) (k_small_below hK) (con_small_below hK) (by decide) (evl_cons (ev_callDef ((hF.withP p3).withP p4) (by rfl) (g_ToldRow hK) (k_ToldRow hK) (con_ToldRow hK) (by decide) (evl_cons (ev_local ((hF.withP p3).withP p4) (by rfl)) (evl_cons ev_constInt evl_nil))) (evl_cons ev_constInt (evl_cons (ev_cellName ((hF.withP p3).withP p4) (by rfl) (by rfl)) evl_nil)))) ev_constInt (fun h => wpAny_AugAssign_Subscript_any h))
      exs_nil) exs_nil)
      exs_nil))))
      exs_nil)))
      (exs_cons (ex_forRange hF (fun p1 => (ev_storeLocal (hF.withP p1) rfl (by rfl))) (by rfl) (n_range hK) PyProof.Rows.Boot.«range» (evl_cons ev_constInt evl_nil) (fun p1 => (exs_cons (ex_forRange (hF.withP p1) (fun p2 => (ev_storeLocal ((hF.withP p1).withP p2) rfl (by rfl))) (by rfl) (n_range hK) PyProof.Rows.Boot.«range» (evl_cons ev_constInt evl_nil) (fun p2 => (exs_cons (ex_if (it_compare1 ((hF.withP p1).withP p2) (ev_local ((hF.withP p1).withP p2) (by rfl)) ev_constInt) (exs_cons (ex_assignName (ev_storeLocal ((hF.withP p1).withP p2) rfl (by rfl)) (ev_callT ((hF.withP p1).withP p2) (by rfl) (n_tuple hK) PyProof.Rows.Boot.«tuple» bi_tuple (evl_cons (ev_callDef ((hF.withP p1).withP p2) (by rfl) (g_shuffled hK) (k_shuffled hK) (con_shuffled hK) (by decide) (evl_cons (ev_callDef ((hF.withP p1).withP p2) (by rfl) (g_ToldRow hK) (k_ToldRow hK) (con_ToldRow hK) (by decide) (evl_cons (ev_list (evl_cons (ev_callDef ((hF.withP p1).withP p2) (by rfl) (g_law_nat hK) (k_law_nat hK) (con_law_nat hK) (by decide) (evl_cons (ev_local ((hF.withP p1).withP p2) (by rfl)) (evl_cons (ev_cellName ((hF.withP p1).withP p2) (by rfl) (by rfl)) evl_nil))) (evl_cons (ev_callDef ((hF.withP p1).withP p2) (by rfl) (g_law_nat hK) (k_law_nat hK) (con_law_nat hK) (by decide) (evl_cons (ev_local ((hF.withP p1).withP p2) (by rfl)) (evl_cons (ev_cellName ((hF.withP p1).withP p2) (by rfl) (by rfl)) evl_nil))) evl_nil))) (evl_cons ev_constInt evl_nil))) (evl_cons (ev_list (evl_cons ev_constStr (evl_cons ev_constStr (evl_cons ev_constStr evl_nil)))) (evl_cons (ev_cellName ((hF.withP p1).withP p2) (by rfl) (by rfl)) evl_nil)))) evl_nil)))
      (exs_cons (ex_assignKey ((hF.withP p1).withP p2) (ev_local ((hF.withP p1).withP p2) (by rfl)) (ev_local ((hF.withP p1).withP p2) (by rfl)) (ev_binop (ev_get ((hF.withP p1).withP p2) (ev_local ((hF.withP p1).withP p2) (by rfl)) (evl_cons (ev_local ((hF.withP p1).withP p2) (by rfl)) (evl_cons ev_constInt evl_nil))) ev_constInt))
      exs_nil)) exs_nil)
      exs_nil)))
      exs_nil)))
      (exs_cons (ex_return (ev_boolAnd (ev_compare1 hF (ev_local hF (by rfl)) (ev_binop (ev_list (evl_cons (ev_sub (ev_local hF (by rfl)) ev_constInt) evl_nil)) ev_constInt)) (ev_boolOne (ev_compare1 hF (ev_callB hF (by rfl) (n_sorted hK) PyProof.Rows.Boot.«sorted» (bi_sorted hF) (evl_cons (ev_values hF (ev_local hF (by rfl))) evl_nil)) (ev_binop (ev_list (evl_cons ev_constInt evl_nil)) ev_constInt)))))
      exs_nil))))) rfl ?spec ?bind (by rfl) (by rfl) rfl rfl rfl
  case bind => exact fun _ _ _ _ => fn1 fun _ => rfl
  case spec =>
    rintro vs H k ⟨w, rfl, hw, hw2, hk⟩
    refine ⟨rfl, in1 ?_⟩
    walk_at "pt"
    refine i_newl (by simp) fun q hq => ?_
    walk_at "pt"
    refine i_mull (n := 5) rfl hself (by simp) (by simp) ?_
    rw [flat_one]
    refine i_newl (by simp) fun rt hrt => ?_
    walk_at "pt"
    intro D ob0 hD loD hob0
    walk_at "pt"
    refine i_newt (by simp) fun q2 hq2 => ?_
    walk_at "pt"
    refine i_unpack hself rfl ?_
    simp only [List.reverse, List.reverseAux]
    walk_at "pt"
    have hrt0 : H rt = none := none_of hrt
    have hD0 : H D = none := none_of (none_of hD)
    have hDt : D ≠ rt := by rintro rfl; rw [hself] at hD; cases hD
    have dq : Drop H (H.set q (.list [.int 0])) := drop_set hq
    have d0 : Drop ((H.set rt (LN (evAll 0))).set D (.raw ob0)) ((((H.set q (.list [.int 0])).set rt (.list ((List.replicate 5 (0 : Int)).map V.int))).set D (.raw ob0)).set q2 (.tup [.ref rt, .ref D])) :=
      drop_new hq2 (drop_both (drop_both dq))
    revert d0
    generalize ((((H.set q (.list [.int 0])).set rt (.list ((List.replicate 5 (0 : Int)).map V.int))).set D (.raw ob0)).set q2 (.tup [.ref rt, .ref D])) = H1
    intro d0
    have hDr : ∀ l : List Nat, (H.set rt (LN l)) D = none := fun l => by rw [hset_ne _ _ _ _ hDt]; exact hD0
    have keepD : ∀ {l l' : List Nat} {o : O} {H2 : HH}, Drop ((H.set rt (LN l)).set D o) H2 → Drop ((H.set rt (LN l')).set D o) (H2.set rt (LN l')) := by
      intro l l' o H2 d b ob hb
      unfold HH.set at *
      by_cases e1 : b = D
      · rw [if_pos e1] at hb
        have e2 : ¬ b = rt := fun e => hDt (e1 ▸ e)
        rw [if_neg e2]
        exact d b ob (by show (if b = D then some o else _) = some ob; rw [if_pos e1]; exact hb)
      · rw [if_neg e1] at hb
        by_cases e2 : b = rt
        · rw [if_pos e2] at hb ⊢; exact hb
        · rw [if_neg e2] at hb ⊢
          exact d b ob (by show (if b = D then some o else if b = rt then _ else H b) = some ob; rw [if_neg e1, if_neg e2]; exact hb)
    have gT : ∀ {l : List Nat} {o : O} {H2 : HH}, Drop ((H.set rt (LN l)).set D o) H2 → H2 rt = some (LN l) := fun d => d _ _ (by rw [hset_ne _ _ _ _ (Ne.symm hDt)]; exact hself)
    refine for1 (n := 8) (fun f m2 H2 => Drop ((H.set rt (LN (evAll f))).set D (.raw ob0)) H2 ∧ m2 (Str.ofString "w") = some (.int w) ∧ m2 (Str.ofString "tally") = some (.ref rt) ∧ m2 (Str.ofString "orders") = some (.ref D)) rfl (by lia) ⟨d0, by (repeat (first | with_reducible exact lk_self | with_reducible assumption | refine lk_hop (by kernel_rfl) ?_)), by (repeat (first | with_reducible exact lk_self | with_reducible assumption | refine lk_hop (by kernel_rfl) ?_)), by (repeat (first | with_reducible exact lk_self | with_reducible assumption | refine lk_hop (by kernel_rfl) ?_))⟩ ?_ ?_
    · clear d0 H1
      rintro f m2 H2 hf ⟨d2, j1, j2, j3⟩ K kn kr
      walk_at "pt"
      refine for1 (n := 8) (fun s m3 H3 => Drop ((H.set rt (LN (evRow (evAll f) f s))).set D (.raw ob0)) H3 ∧ m3 (Str.ofString "w") = some (.int w) ∧ m3 (Str.ofString "tally") = some (.ref rt) ∧ m3 (Str.ofString "orders") = some (.ref D) ∧ m3 (Str.ofString "first") = some (.int f)) rfl (by lia) ⟨d2, by (repeat (first | with_reducible exact lk_self | with_reducible assumption | refine lk_hop (by kernel_rfl) ?_)), by (repeat (first | with_reducible exact lk_self | with_reducible assumption | refine lk_hop (by kernel_rfl) ?_)), by (repeat (first | with_reducible exact lk_self | with_reducible assumption | refine lk_hop (by kernel_rfl) ?_)), by (repeat (first | with_reducible exact lk_self | with_reducible assumption | refine lk_hop (by kernel_rfl) ?_))⟩ ?_ ?_
      · clear d2 j1 j2 j3 m2 H2
        rintro s m3 H3 hs ⟨d3, j1, j2, j3, j4⟩ K2 kn2 kr2
        obtain ⟨l, hl⟩ : ∃ l, l = evRow (evAll f) f s := ⟨_, rfl⟩
        have hll : l.length = 5 := by rw [hl, evRow_len, evAll_len]
        have hnx : evRow (evAll f) f (s + 1) = evStep l f s := by rw [hl]; rfl
        rw [← hl] at d3
        rw [hnx] at kn2
        clear hnx hl
        walk_at "pt"
        refine i_newt (by simp) fun q hq => ?_
        walk_at "pt"
        refine i_compT hself (by simp) fun E hE => ?_
        have gt := hself (H := H3) (a := q) (o := .tup [.int f, .int s, .int 0])
        refine comp_rows (w := w) [f, s, 0] (by simp) (fun H' hd => hd _ _ gt) hE ?_ ?_
        · intro m H' i v z K hv hz hm hx hd hK
          have hww : m (Str.ofString "w") = some (.int w) := by rw [hm _ (by decide)]; exact mIn_ne (by decide) (by (repeat (first | with_reducible exact lk_self | with_reducible assumption | refine lk_hop (by kernel_rfl) ?_)))
          have hi : v = .int z ∧ z < 8 := by
            match i, hv, hz with
            | 0, hv, hz => simp at hv hz; subst hv hz; exact ⟨rfl, hf⟩
            | 1, hv, hz => simp at hv hz; subst hv hz; exact ⟨rfl, hs⟩
            | 2, hv, hz => simp at hv hz; subst hv hz; exact ⟨rfl, by lia⟩
            | i + 3, hv, hz => simp at hv
          obtain ⟨rfl, hz8⟩ := hi
          walk_at "pt"
          exact ⟨z, w, rfl, hw, by lia, nlb (b := 3) hw hz8 (by lia), hK⟩
        intro H4 rs hrl hrs d4
        have d5 : Drop H3 H4 := drop_trans (drop_set hq) (drop_trans (drop_set hE) d4)
        have d6 := drop_trans d3 d5
        have gr := dself d4
        clear d4 gt hE hq
        have g5 := rbw_bd (zs := [f, s, 0]) (many := 3) (bound := 5) (a := 0) (by lia)
        have tkb : ∀ i, tk [f, s, 0] i < 2 ^ 20 := fun i => Nat.lt_trans (tk_small (b := 8) hf hs (by lia) i) (by decide)
        walk_at "pt"
        · intro hf5
          have hc : f < 5 ∨ s < 5 := .inl (by lia)
          walk_at "pt"
          refine make_told (many := 3) (w := w) (zs := [f, s, 0]) gr hrl hrs (by simp) (by simp) tkb (by decide) fun x dx H5 hx hdx d7 Tl => ?_
          walk_at "pt"
          refine ⟨x, dx, E, w, [f, s, 0], 3, 0, 5, rfl, hw, hw2, by decide, by decide, Tl, by lia, by lia, ?_⟩
          have d8 : Drop ((H.set rt (LN l)).set D (.raw ob0)) (H5.set dx (toldO E (3 : Nat) (rbw [f, s, 0] 3 5 0).2)) := drop_over (d6.none hdx) (drop_trans d6 d7)
          have hstep : evStep l f s = l.set (rbw [f, s, 0] 3 5 0).1 ((l[(rbw [f, s, 0] 3 5 0).1]?).getD 0 + 1) := by unfold evStep; rw [if_pos hc]
          rw [hstep] at kn2
          revert g5 d8 kn2
          generalize (rbw [f, s, 0] 3 5 0).1 = j
          generalize (rbw [f, s, 0] 3 5 0).2 = a'
          intro kn2 g5 d8
          have g9 := gT d8
          walk_at "pt"
          refine i_sub (n := j) g9 rfl (by lia) (ln_get (by lia)) ?_
          walk_at "pt"
          refine i_setItem (n := j) g9 rfl (by simp; lia) (by simp; lia) ?_
          have e9 : ((l.map Int.ofNat).map V.int).set j (V.int ((((l[j]?).getD 0 : Nat) : Int) + 1)) = ((l.set j ((l[j]?).getD 0 + 1)).map Int.ofNat).map V.int := by
            rw [List.map_set, List.map_set]; rfl
          rw [e9]
          walk_at "pt"
          exact kn2 _ _ ⟨keepD d8, by (repeat (first | with_reducible exact lk_self | with_reducible assumption | refine lk_hop (by kernel_rfl) ?_)), by (repeat (first | with_reducible exact lk_self | with_reducible assumption | refine lk_hop (by kernel_rfl) ?_)), by (repeat (first | with_reducible exact lk_self | with_reducible assumption | refine lk_hop (by kernel_rfl) ?_)), by (repeat (first | with_reducible exact lk_self | with_reducible assumption | refine lk_hop (by kernel_rfl) ?_))⟩
        · intro hf5
          walk_at "pt"
          · intro hs5
            have hc : f < 5 ∨ s < 5 := .inr (by lia)
            walk_at "pt"
            refine make_told (many := 3) (w := w) (zs := [f, s, 0]) gr hrl hrs (by simp) (by simp) tkb (by decide) fun x dx H5 hx hdx d7 Tl => ?_
            walk_at "pt"
            refine ⟨x, dx, E, w, [f, s, 0], 3, 0, 5, rfl, hw, hw2, by decide, by decide, Tl, by lia, by lia, ?_⟩
            have d8 : Drop ((H.set rt (LN l)).set D (.raw ob0)) (H5.set dx (toldO E (3 : Nat) (rbw [f, s, 0] 3 5 0).2)) := drop_over (d6.none hdx) (drop_trans d6 d7)
            have hstep : evStep l f s = l.set (rbw [f, s, 0] 3 5 0).1 ((l[(rbw [f, s, 0] 3 5 0).1]?).getD 0 + 1) := by unfold evStep; rw [if_pos hc]
            rw [hstep] at kn2
            revert g5 d8 kn2
            generalize (rbw [f, s, 0] 3 5 0).1 = j
            generalize (rbw [f, s, 0] 3 5 0).2 = a'
            intro kn2 g5 d8
            have g9 := gT d8
            walk_at "pt"
            refine i_sub (n := j) g9 rfl (by lia) (ln_get (by lia)) ?_
            walk_at "pt"
            refine i_setItem (n := j) g9 rfl (by simp; lia) (by simp; lia) ?_
            have e9 : ((l.map Int.ofNat).map V.int).set j (V.int ((((l[j]?).getD 0 : Nat) : Int) + 1)) = ((l.set j ((l[j]?).getD 0 + 1)).map Int.ofNat).map V.int := by
              rw [List.map_set, List.map_set]; rfl
            rw [e9]
            walk_at "pt"
            exact kn2 _ _ ⟨keepD d8, by (repeat (first | with_reducible exact lk_self | with_reducible assumption | refine lk_hop (by kernel_rfl) ?_)), by (repeat (first | with_reducible exact lk_self | with_reducible assumption | refine lk_hop (by kernel_rfl) ?_)), by (repeat (first | with_reducible exact lk_self | with_reducible assumption | refine lk_hop (by kernel_rfl) ?_)), by (repeat (first | with_reducible exact lk_self | with_reducible assumption | refine lk_hop (by kernel_rfl) ?_))⟩
          · intro hs5
            walk_at "pt"
            have hstep : evStep l f s = l := by unfold evStep; rw [if_neg (by lia)]
            rw [hstep] at kn2
            exact kn2 _ _ ⟨d6, by (repeat (first | with_reducible exact lk_self | with_reducible assumption | refine lk_hop (by kernel_rfl) ?_)), by (repeat (first | with_reducible exact lk_self | with_reducible assumption | refine lk_hop (by kernel_rfl) ?_)), by (repeat (first | with_reducible exact lk_self | with_reducible assumption | refine lk_hop (by kernel_rfl) ?_)), by (repeat (first | with_reducible exact lk_self | with_reducible assumption | refine lk_hop (by kernel_rfl) ?_))⟩
      · rintro m3 H3 ⟨d3, j1, j2, j3, j4⟩
        walk_at "pt"
        exact kn _ _ ⟨d3, j1, j2, j3⟩
    clear d0 H1
    rintro m2 H2 ⟨d2, j1, j2, j3⟩
    rw [evAll_8] at d2
    have gD : ∀ {o : O} {H2 : HH}, Drop ((H.set rt (LN [11, 11, 11, 11, 11])).set D o) H2 → H2 D = some o := fun d => d _ _ hself
    walk_at "pt"
    refine for1 (n := 4) (fun f m3 H3 => ∃ ob xs, Drop ((H.set rt (LN [11, 11, 11, 11, 11])).set D (.raw ob)) H3 ∧ Ords S H3 D (2 * f) xs ∧ m3 (Str.ofString "w") = some (.int w) ∧ m3 (Str.ofString "tally") = some (.ref rt) ∧ m3 (Str.ofString "orders") = some (.ref D)) rfl (by lia) ⟨ob0, [], d2, ⟨⟨⟨ob0, gD d2, hob0⟩, fun x hx => (by cases hx), loD⟩, rfl, fun x hx => (by cases hx)⟩, j1, j2, j3⟩ ?_ ?_
    · clear d2 j1 j2 j3 m2 H2
      rintro f m2 H2 hf ⟨ob, xs, d2, hO, j1, j2, j3⟩ K kn kr
      walk_at "pt"
      refine for1 (n := 2) (fun s m3 H3 => ∃ ob xs, Drop ((H.set rt (LN [11, 11, 11, 11, 11])).set D (.raw ob)) H3 ∧ Ords S H3 D (2 * f + s) xs ∧ m3 (Str.ofString "w") = some (.int w) ∧ m3 (Str.ofString "tally") = some (.ref rt) ∧ m3 (Str.ofString "orders") = some (.ref D) ∧ m3 (Str.ofString "first") = some (.int f)) rfl (by lia) ⟨ob, xs, d2, hO, by (repeat (first | with_reducible exact lk_self | with_reducible assumption | refine lk_hop (by kernel_rfl) ?_)), by (repeat (first | with_reducible exact lk_self | with_reducible assumption | refine lk_hop (by kernel_rfl) ?_)), by (repeat (first | with_reducible exact lk_self | with_reducible assumption | refine lk_hop (by kernel_rfl) ?_)), by (repeat (first | with_reducible exact lk_self | with_reducible assumption | refine lk_hop (by kernel_rfl) ?_))⟩ ?_ ?_
      · clear d2 j1 j2 j3 m2 H2 hO ob xs
        rintro s m3 H3 hs ⟨ob, xs, d3, hO, j1, j2, j3, j4⟩ K2 kn2 kr2
        walk_at "pt"
        · intro hf3
          have hf3' : f < 3 := by lia
          obtain ⟨ks, hks, eks⟩ := shw_key hf3' hs
          obtain ⟨hnew, hkl⟩ := K6_fresh (by lia) hks
          have hnone : atKey xs ks = none := atKey_none_of_get fun j p hj => hnew (by
            rw [← hO.keys]
            exact List.mem_map.mpr ⟨_, List.mem_of_getElem? hj, rfl⟩)
          have hxl : xs.length ≤ 6 := by
            have := congrArg List.length hO.keys
            rw [List.length_map, List.length_take] at this
            have h6 : K6.length = 6 := rfl
            lia
          walk_at "pt"
          refine ⟨f, w, rfl, hw, by lia, nlb (b := 2) hw (by lia) (by lia), fun r1 h1 => ?_⟩
          walk_at "pt"
          refine ⟨s, w, rfl, hw, by lia, nlb (b := 2) hw (by lia) (by lia), fun r2 h2 => ?_⟩
          walk_at "pt"
          refine i_newl (by simp) fun E hE => ?_
          walk_at "pt"
          have d4 : Drop H3 (((H3.set r1 (LI (dig w f))).set r2 (LI (dig w s))).set E (.list [.ref r1, .ref r2])) := drop_new hE (drop_new h2 (drop_set h1))
          refine make_told (many := 2) (w := w) (zs := [f, s]) (rs := [r1, r2]) hself rfl (fun i r z a b => ?_) (by simp) (by simp) (fun i => Nat.lt_trans (tk_small2 (b := 4) (by lia) (by lia) (by lia) i) (by decide)) (by decide) fun x dx H5 hx hdx d7 Tl => ?_
          · match i, a, b with
            | 0, a, b => simp at a b; subst a b; exact fresh_get hE (fresh_get h2 hself)
            | 1, a, b => simp at a b; subst a b; exact fresh_get hE hself
            | i + 2, a, b => simp at a
          walk_at "pt"
          refine i_newl (by simp) fun li hli => ?_
          walk_at "pt"
          refine ⟨x, dx, E, li, w, [f, s], 2, 0, [V.str sX, V.str sY, V.str sZ], rfl, hw, hw2, by decide, by decide, Tl.mono (drop_set hli), hself, by simp, by simp, fun r hr => ?_⟩
          rw [eks]
          have d5 : Drop H3 (((H5.set li (.list [V.str (Str.ofString "x"), V.str (Str.ofString "y"), V.str (Str.ofString "z")])).set dx (toldO E (2 : Nat) (shw [f, s] 2 [V.str sX, V.str sY, V.str sZ] 0).2)).set r (.list (ks.map V.str))) :=
            drop_new (none_set hr (fresh_get hli Tl.hd)) (drop_over (d4.none hdx) (drop_new hli (drop_trans d4 d7)))
          have g5 := hself (H := (H5.set li (.list [V.str (Str.ofString "x"), V.str (Str.ofString "y"), V.str (Str.ofString "z")])).set dx (toldO E (2 : Nat) (shw [f, s] 2 [V.str sX, V.str sY, V.str sZ] 0).2)) (a := r) (o := .list (ks.map V.str))
          clear Tl hr hli d7 hx hdx d4 hE h1 h2
          revert d5 g5
          generalize (((H5.set li (.list [V.str (Str.ofString "x"), V.str (Str.ofString "y"), V.str (Str.ofString "z")])).set dx (toldO E (2 : Nat) (shw [f, s] 2 [V.str sX, V.str sY, V.str sZ] 0).2)).set r (.list (ks.map V.str))) = H6
          intro d5 g5
          walk_at "pt"
          refine ⟨_, g5, i_newt (by rw [List.length_map]; lia) fun t ht => ?_⟩
          have d6 : Drop H3 (H6.set t (.tup (ks.map V.str))) := drop_new ht d5
          have g6 := hself (H := H6) (a := t) (o := .tup (ks.map V.str))
          revert d6 g6
          generalize H6.set t (.tup (ks.map V.str)) = H7
          intro d6 g6
          have hO7 := hO.at_.mono d6
          walk_at "pt"
          refine ⟨D, xs, rfl, hO7, ?_⟩
          walk_at "pt"
          refine ⟨xs, ks, hO7, g6, ?_⟩
          rw [hnone]
          simp only [Option.map_none, Option.getD_none]
          walk_at "pt"
          refine ⟨xs, ks, hO7, g6, by lia, fun u ob' hu hob' => ?_⟩
          rw [storedH_new hnone] at hob'
          walk_at "pt"
          have gD7 := gD (drop_trans d3 d6)
          refine kn2 _ _ ⟨ob', xs ++ [(ks, t, u)], drop_step (drop_trans d3 d6), ⟨⟨⟨ob', hself, hob'⟩, fun y hy => ?_, loD⟩, ?_, fun y hy => ?_⟩, by (repeat (first | with_reducible exact lk_self | with_reducible assumption | refine lk_hop (by kernel_rfl) ?_)), by (repeat (first | with_reducible exact lk_self | with_reducible assumption | refine lk_hop (by kernel_rfl) ?_)), by (repeat (first | with_reducible exact lk_self | with_reducible assumption | refine lk_hop (by kernel_rfl) ?_)), by (repeat (first | with_reducible exact lk_self | with_reducible assumption | refine lk_hop (by kernel_rfl) ?_))⟩
          · have key : H7 y.2.1 = some (.tup (y.1.map V.str)) := by
              rcases List.mem_append.mp hy with hy | hy
              · exact hO7.keys y hy
              · simp at hy; subst hy; exact g6
            exact hne (fun e => by rw [e, gD7] at key; cases key) key
          · rw [List.map_append, hO.keys, ← Nat.add_assoc, List.take_succ, hks]; rfl
          · rcases List.mem_append.mp hy with hy | hy
            · exact hO.ones y hy
            · simp at hy; subst hy; exact hu
        · intro hf3
          walk_at "pt"
          refine kn2 _ _ ⟨ob, xs, d3, ⟨hO.at_, ?_, hO.ones⟩, by (repeat (first | with_reducible exact lk_self | with_reducible assumption | refine lk_hop (by kernel_rfl) ?_)), by (repeat (first | with_reducible exact lk_self | with_reducible assumption | refine lk_hop (by kernel_rfl) ?_)), by (repeat (first | with_reducible exact lk_self | with_reducible assumption | refine lk_hop (by kernel_rfl) ?_)), by (repeat (first | with_reducible exact lk_self | with_reducible assumption | refine lk_hop (by kernel_rfl) ?_))⟩
          rw [hO.keys]
          have h1 : K6.length = 6 := rfl
          rw [List.take_of_length_le (by lia), List.take_of_length_le (by lia)]
      · rintro m3 H3 ⟨ob, xs, d3, hO, j1, j2, j3, j4⟩
        walk_at "pt"
        exact kn _ _ ⟨ob, xs, d3, hO, j1, j2, j3⟩
    clear d2 j1 j2 j3 m2 H2
    rintro m2 H2 ⟨ob, xs, d2, hO, j1, j2, j3⟩
    walk_at "pt"
    have g2 := gT d2
    refine i_sub (n := 0) (v := .int (11 : Nat)) g2 rfl (by lia) rfl ?_
    walk_at "pt"
    refine i_newl (by simp) fun q3 hq3 => ?_
    walk_at "pt"
    refine i_mull (n := 5) rfl hself (by simp) (by simp) ?_
    rw [flat_one]
    refine i_newl (by simp) fun q4 hq4 => ?_
    refine i_eql (xs := [11, 11, 11, 11, 11].map Int.ofNat) (ys := List.replicate 5 ((11 : Nat) : Int)) (fresh_get hq4 (fresh_get hq3 g2)) hself ?_
    have et : decide ([11, 11, 11, 11, 11].map Int.ofNat = List.replicate 5 ((11 : Nat) : Int)) = true := by decide
    rw [et]
    walk_at "pt"
    have d3 : Drop H2 ((H2.set q3 (.list [V.int (11 : Nat)])).set q4 (.list ((List.replicate 5 ((11 : Nat) : Int)).map V.int))) := drop_new hq4 (drop_set hq3)
    have d4 := drop_trans (drop_trans (drop_set (hDr _)) d2) d3
    have hO3 := hO.at_.mono d3
    revert d4 hO3
    generalize ((H2.set q3 (.list [V.int (11 : Nat)])).set q4 (.list ((List.replicate 5 ((11 : Nat) : Int)).map V.int))) = H3
    intro d4 hO3
    refine ⟨xs, hO3, fun v hv => ?_⟩
    walk_at "pt"
    have hx1 : xs.map (fun x => er x.2.2) = (List.replicate 6 (1 : Int)).map V.int := by
      rw [List.map_replicate]
      have hl : xs.length = 6 := by
        have := congrArg List.length hO.keys
        rw [List.length_map] at this
        rw [this]; rfl
      rw [← hl, List.eq_replicate_iff]
      refine ⟨by rw [List.length_map], fun b hb => ?_⟩
      obtain ⟨y, hy, rfl⟩ := List.mem_map.mp hb
      exact hO.ones y hy
    refine ⟨D, xs, List.replicate 6 1, hself, hO3.mono (drop_set hv), hx1, by simp, fun r2 ns' hr2 hp hpw => ?_⟩
    have hns : ns' = List.replicate 6 1 := List.perm_replicate.mp hp
    subst hns
    walk_at "pt"
    refine i_newl (by simp) fun q5 hq5 => ?_
    walk_at "pt"
    refine i_mull (n := 6) rfl hself (by simp) (by simp) ?_
    rw [flat_one]
    refine i_newl (by simp) fun q6 hq6 => ?_
    refine i_eql (xs := List.replicate 6 1) (ys := List.replicate 6 1) (fresh_get hq6 (fresh_get hq5 hself)) hself ?_
    have et2 : decide (List.replicate 6 (1 : Int) = List.replicate 6 1) = true := by decide
    rw [et2]
    walk_at "pt"
    exact i_endV hk (drop_new hq6 (drop_new hq5 (drop_new hr2 (drop_new hv (drop_trans (drop_set hrt0) d4)))))
end
section
variable {S : Sy}
noncomputable def rs_Lagged : RSpec := fun vs H k => ∃ x l p w xs, vs = [x, .ref l, .int p, w] ∧ H l = some (.list xs) ∧ xs.length ≤ 100 ∧ ¬ (0 < p ∧ p < (xs.length : Int)) ∧ k H
theorem conR_Lagged0 (hK : GoodK S.K) : ConR S 1 144 rs_Lagged := by
  refine conR_of_fn (n := 0) (ns := [Str.ofString "self", Str.ofString "row", Str.ofString "place", Str.ofString "w"]) (f_Lagged___init__ hK) (fun A h₀ L mL P hh hF =>
    evm_head (evm_if (it_not (it_compare2 hF ev_constInt (ev_local hF (by rfl)) (ev_callB hF (by rfl) (n_len hK) PyProof.Rows.Boot.«len» bi_len (evl_cons (ev_local hF (by rfl)) evl_nil)))) (evm_head (evm_raise hF hh (g_OutOfRange hK) (x_OutOfRange hK))))) rfl ?spec ?bind (by rfl) (by decide) rfl rfl rfl
  case bind => exact fun _ _ _ _ => fn4 fun _ _ _ _ => rfl
  case spec =>
    rintro vs H k ⟨x, l, p, w, xs, rfl, hl, h1, h2, hk⟩
    refine ⟨rfl, in4 ?_⟩
    walk_at "pt"
    · intro h0
      walk_at "pt"
      refine i_len hl (by lia) ?_
      walk_at "pt"
      refine ⟨?_, hk⟩
      have h3 : ¬ (p < (xs.length : Int)) := fun h => h2 ⟨h0, h⟩
      rw [decide_eq_false h3]; rfl
    · intro h
      walk_at "pt"
      exact ⟨rfl, hk⟩
noncomputable def rs_Congruence : RSpec := fun vs H k => ∃ x a c wd st w f, vs = [x, a, c, .int wd, st, w, f] ∧ wd < 2 ∧ k H
theorem conR_Congruence0 (hK : GoodK S.K) : ConR S 1 109 rs_Congruence := by
  refine conR_of_fn (n := 0) (ns := [Str.ofString "self", Str.ofString "a", Str.ofString "c", Str.ofString "width", Str.ofString "state", Str.ofString "w", Str.ofString "mul"]) (f_Congruence___init__ hK) (fun A h₀ L mL P hh hF =>
    evm_head (evm_if (it_compare1 hF (ev_local hF (by rfl)) ev_constInt) (evm_head (evm_raise hF hh (g_OutOfRange hK) (x_OutOfRange hK))))) rfl ?spec ?bind (by rfl) (by decide) rfl rfl rfl
  case bind => exact fun _ _ _ _ => fn7 fun _ _ _ _ _ _ _ => rfl
  case spec =>
    rintro vs H k ⟨x, a, c, wd, st, w, f, rfl, h1, hk⟩
    refine ⟨rfl, in7 ?_⟩
    walk_at "pt"
    exact ⟨by simpa using h1, hk⟩
noncomputable def rs_ToldRow : RSpec := fun vs H k => ∃ x l xs many, vs = [x, .ref l, .int many] ∧ H l = some (.list xs) ∧ xs.length ≤ 100 ∧ (many < 1 ∨ xs = []) ∧ k H
theorem conR_ToldRow0 (hK : GoodK S.K) : ConR S 1 172 rs_ToldRow := by
  refine conR_of_fn (n := 0) (ns := [Str.ofString "self", Str.ofString "numbers", Str.ofString "many"]) (f_ToldRow___init__ hK) (fun A h₀ L mL P hh hF =>
    evm_head (evm_if (it_or (it_compare1 hF (ev_local hF (by rfl)) ev_constInt) (it_or (it_compare1 hF (ev_callB hF (by rfl) (n_len hK) PyProof.Rows.Boot.«len» bi_len (evl_cons (ev_local hF (by rfl)) evl_nil)) ev_constInt) it_orNil)) (evm_head (evm_raise hF hh (g_OutOfRange hK) (x_OutOfRange hK))))) rfl ?spec ?bind (by rfl) (by decide) rfl rfl rfl
  case bind => exact fun _ _ _ _ => fn3 fun _ _ _ => rfl
  case spec =>
    rintro vs H k ⟨x, l, xs, many, rfl, hl, h1, h2, hk⟩
    refine ⟨rfl, in3 ?_⟩
    walk_at "pt"
    · intro h0
      walk_at "pt"
      exact ⟨rfl, hk⟩
    · intro h0
      walk_at "pt"
      refine i_len hl (by lia) ?_
      walk_at "pt"
      · intro h
        walk_at "pt"
        exact ⟨rfl, hk⟩
      · intro h
        rcases h2 with h2 | h2
        · exact absurd h2 h0
        · subst h2; exact absurd rfl h
noncomputable def rs_random_below : RSpec := fun vs H k => ∃ x b w, vs = [x, .ref b, w] ∧ H b = some (.list []) ∧ k H
theorem conR_random_below (hK : GoodK S.K) : ConR S 1 200 rs_random_below := by
  refine conR_of_fn (n := 0) (ns := [Str.ofString "source", Str.ofString "bound", Str.ofString "w"]) (f_random_below hK) (fun A h₀ L mL P hh hF =>
    evm_head (evm_if (it_compare1 hF (ev_callB hF (by rfl) (n_len hK) PyProof.Rows.Boot.«len» bi_len (evl_cons (ev_local hF (by rfl)) evl_nil)) ev_constInt) (evm_head (evm_raise hF hh (g_OutOfRange hK) (x_OutOfRange hK))))) rfl ?spec ?bind (by rfl) (by decide) rfl rfl rfl
  case bind => exact fun _ _ _ _ => fn3 fun _ _ _ => rfl
  case spec =>
    rintro vs H k ⟨x, b, w, rfl, hb, hk⟩
    refine ⟨rfl, in3 ?_⟩
    walk_at "pt"
    refine i_len hb (by simp) ?_
    walk_at "pt"
    exact ⟨by simp, hk⟩
theorem conR_Lagged (hK : GoodK S.K) : ConR S 2 154 (specMakeR 154 rs_Lagged) := conR_class (mk_Lagged hK) (in_Lagged hK) (fn_Lagged hK) (conR_Lagged0 hK)
theorem conR_Congruence (hK : GoodK S.K) : ConR S 2 126 (specMakeR 126 rs_Congruence) := conR_class (mk_Congruence hK) (in_Congruence hK) (fn_Congruence hK) (conR_Congruence0 hK)
theorem conR_ToldRow (hK : GoodK S.K) : ConR S 2 182 (specMakeR 182 rs_ToldRow) := conR_class (mk_ToldRow hK) (in_ToldRow hK) (fn_ToldRow hK) (conR_ToldRow0 hK)
theorem tests_refused (hK : GoodK S.K) : Tests S 4 277 := by
  cases f_law_refused hK
  rename_i ho hcd
  exact fun F A₀ base outer fenv hF cx hP m H s f R st rf hR =>
  con_refused_of (fa := 277) (S := S) (n := 3) ho hcd rfl (fun v => rfl) (by rfl) (fun L => by rfl) (by decide) rfl rfl rfl (g_OutOfRange hK) (t_OutOfRange hK) (by decide) (by decide) (fun L => by rfl) (fun L => by rfl) hF cx hP st rf hR
end
section
section
variable {S : Sy} {F : Fx} {n : Nat} {x : Str} {pos : Pos}
theorem ev_freeName (hF : Fok S n F) (hk : F.env.scope.names.lookup x = some .free) (hc : (F.env.cells.lookup x).isSome = true) (hd : (x == ("__debug__" : Str)) = false := by decide) (hd2 : (x == ("__classdict__" : Str)) = false := by decide) : Ev S F (eval (.Name x pos) F.env) er (PT.get x) := by
  intro m H k s E st ⟨v, hv, hkv⟩
  refine wpAny_Name ?_ hd
  obtain ⟨ca, hca⟩ := Option.isSome_iff_exists.mp hc
  obtain ⟨ob, u, h1, h2, h3, _⟩ := st.ce x ca hca
  rw [hv] at h3
  cases u with
  | none => cases h3
  | some u =>
    cases h3
    exact wpAny_loadName_free hF.kind hk hca ⟨ob, h1, h2⟩ ⟨m, H, st, .refl _, hkv⟩ hd2
end
noncomputable abbrev noPar : Arguments := { posonlyargs := [], args := [], vararg := none, kwonlyargs := [], kw_defaults := [], kwarg := none, defaults := [] }
noncomputable abbrev lagSc : Scope := { kind := .function, names := [(Str.ofString "w", .free), (Str.ofString "Lagged", .globalImplicit)], isGenerator := false, isCoroutine := false }
noncomputable abbrev conSc : Scope := { kind := .function, names := [(Str.ofString "w", .free), (Str.ofString "Congruence", .globalImplicit), (Str.ofString "_law_mul", .globalImplicit)], isGenerator := false, isCoroutine := false }
noncomputable abbrev tolSc : Scope := { kind := .function, names := [(Str.ofString "ToldRow", .globalImplicit)], isGenerator := false, isCoroutine := false }
noncomputable def CodeOf (H : HH) (c' : Addr) (lq : Str) : Prop := ∃ oc vs t, H c' = some (.raw oc) ∧ oc.data = .fields vs ∧ vs[1]? = some (.str lq t)
theorem one_lookup {x y : Str} {ca cb : Addr} (h : List.lookup x [(y, ca)] = some cb) : x = y ∧ cb = ca := by
  rw [List.lookup_cons] at h
  by_cases e : x = y
  · subst e; simp at h; exact ⟨rfl, h.symm⟩
  · have e2 : (x == y) = false := by simpa using e
    rw [e2] at h; cases h
theorem no_local {names : List (Str × NameKind)} (h : names.all (fun p => decide (p.2 ≠ .local)) = true) {x : Str} (hx : names.lookup x = some .local) : False := by
  have := of_decide_eq_true (List.all_eq_true.mp h _ (lookup_some_mem hx))
  exact this rfl
variable {S : Sy} {H : HH} {f c' ca : Addr} {ctv : Value} {lq : Str} {v : V} {p1 p2 p3 p4 p5 p6 p7 p8 p9 : Pos}
theorem refuses_LaggedC (hK : GoodK S.K) {j : Int} (hj : ¬ (0 < j ∧ j < 2)) (hf : H f = some (.raw (lamObj S lq noPar (.Call (.Name (Str.ofString "Lagged") p1) [.List [.Constant (.int 1) 0 p2, .Constant (.int 1) 0 p3] p4, .Constant (.int j) 0 p7, .Name (Str.ofString "w") p5] [] p6) lagSc [(Str.ofString "w", ca)] c' ctv)))
    (hc : CodeOf H c' lq) (hca : H ca = some (.cell v)) : Refuses S 3 H f := by
  refine ⟨⟨_, _, hf, rfl⟩, fun F A₀ base outer fenv hF cx m s R st hR => lam_raise (n := 2) (M := MM.set (fun _ => none) (Str.ofString "w") v) hF cx st hf hc ?_ ?_ ?_ ?_ ?_ rfl (fun L' g hF' cx' =>
    evr_callDef hF' cx' (by rfl) (g_Lagged hK) (k_Lagged hK) (conR_Lagged hK) (by decide) (evl_cons (ev_list (evl_cons ev_constInt (evl_cons ev_constInt evl_nil))) (evl_cons ev_constInt (evl_cons (ev_freeName hF' (by rfl) (by rfl)) evl_nil)))) ?_ hR rfl rfl rfl (by decide)⟩
  · intro x cb hx
    obtain ⟨rfl, rfl⟩ := one_lookup hx
    exact ⟨v, hca, lk_self⟩
  · intro p hp
    rcases List.mem_singleton.mp hp with rfl
    simp
  · intro x y cb hx hy
    rw [(one_lookup hx).1, (one_lookup hy).1]
  · intro x cb _ h
    exact no_local (by decide) h
  · intro x h
    exact (no_local (by decide) h).elim
  · generalize hideH H ([(Str.ofString "w", ca)].map (·.2)) = H3
    walk_at "pt"
    refine i_newl (by simp) fun r hr => ?_
    walk_at "pt"
    refine fun x dx hx hdx hne => ⟨.ref x, r, _, v, [.int 1, .int 1], rfl, ?_, by simp, hj, rfl, ?_⟩
    · have hrx : r ≠ x := by rintro rfl; rw [hself] at hx; cases hx
      have hrd : r ≠ dx := by rintro rfl; rw [hself] at hdx; cases hdx
      rw [hset_ne _ _ _ _ hrx, hset_ne _ _ _ _ hrd]; exact hself
    · exact drop_over (none_of hx) (drop_over (none_of hdx) (drop_set hr))
theorem refuses_LaggedB (hK : GoodK S.K) {j : Int} (hj : ¬ (0 < ((0:Int) - j) ∧ ((0:Int) - j) < 2)) (hf : H f = some (.raw (lamObj S lq noPar (.Call (.Name (Str.ofString "Lagged") p1) [.List [.Constant (.int 1) 0 p2, .Constant (.int 1) 0 p3] p4, .BinOp (.Constant (.int 0) 0 p7) .Sub (.Constant (.int j) 0 p8) p9, .Name (Str.ofString "w") p5] [] p6) lagSc [(Str.ofString "w", ca)] c' ctv)))
    (hc : CodeOf H c' lq) (hca : H ca = some (.cell v)) : Refuses S 3 H f := by
  refine ⟨⟨_, _, hf, rfl⟩, fun F A₀ base outer fenv hF cx m s R st hR => lam_raise (n := 2) (M := MM.set (fun _ => none) (Str.ofString "w") v) hF cx st hf hc ?_ ?_ ?_ ?_ ?_ rfl (fun L' g hF' cx' =>
    evr_callDef hF' cx' (by rfl) (g_Lagged hK) (k_Lagged hK) (conR_Lagged hK) (by decide) (evl_cons (ev_list (evl_cons ev_constInt (evl_cons ev_constInt evl_nil))) (evl_cons (ev_binop ev_constInt ev_constInt) (evl_cons (ev_freeName hF' (by rfl) (by rfl)) evl_nil)))) ?_ hR rfl rfl rfl (by decide)⟩
  · intro x cb hx
    obtain ⟨rfl, rfl⟩ := one_lookup hx
    exact ⟨v, hca, lk_self⟩
  · intro p hp
    rcases List.mem_singleton.mp hp with rfl
    simp
  · intro x y cb hx hy
    rw [(one_lookup hx).1, (one_lookup hy).1]
  · intro x cb _ h
    exact no_local (by decide) h
  · intro x h
    exact (no_local (by decide) h).elim
  · generalize hideH H ([(Str.ofString "w", ca)].map (·.2)) = H3
    walk_at "pt"
    refine i_newl (by simp) fun r hr => ?_
    walk_at "pt"
    refine fun x dx hx hdx hne => ⟨.ref x, r, _, v, [.int 1, .int 1], rfl, ?_, by simp, hj, rfl, ?_⟩
    · have hrx : r ≠ x := by rintro rfl; rw [hself] at hx; cases hx
      have hrd : r ≠ dx := by rintro rfl; rw [hself] at hdx; cases hdx
      rw [hset_ne _ _ _ _ hrx, hset_ne _ _ _ _ hrd]; exact hself
    · exact drop_over (none_of hx) (drop_over (none_of hdx) (drop_set hr))
theorem refuses_Congruence (hK : GoodK S.K) (hf : H f = some (.raw (lamObj S lq noPar (.Call (.Name (Str.ofString "Congruence") p1) [.List [] p2, .List [] p3, .Constant (.int 1) 0 p4, .List [] p5, .Name (Str.ofString "w") p6, .Name (Str.ofString "_law_mul") p7] [] p8) conSc [(Str.ofString "w", ca)] c' ctv)))
    (hc : CodeOf H c' lq) (hca : H ca = some (.cell v)) : Refuses S 3 H f := by
  refine ⟨⟨_, _, hf, rfl⟩, fun F A₀ base outer fenv hF cx m s R st hR => lam_raise (n := 2) (M := MM.set (fun _ => none) (Str.ofString "w") v) hF cx st hf hc ?_ ?_ ?_ ?_ ?_ rfl (fun L' g hF' cx' =>
    evr_callDef hF' cx' (by rfl) (g_Congruence hK) (k_Congruence hK) (conR_Congruence hK) (by decide) (evl_cons (ev_list evl_nil) (evl_cons (ev_list evl_nil) (evl_cons ev_constInt (evl_cons (ev_list evl_nil) (evl_cons (ev_freeName hF' (by rfl) (by rfl)) (evl_cons (ev_global hF' (by rfl) (g_law_mul hK)) evl_nil))))))) ?_ hR rfl rfl rfl (by decide)⟩
  · intro x cb hx
    obtain ⟨rfl, rfl⟩ := one_lookup hx
    exact ⟨v, hca, lk_self⟩
  · intro p hp
    rcases List.mem_singleton.mp hp with rfl
    simp
  · intro x y cb hx hy
    rw [(one_lookup hx).1, (one_lookup hy).1]
  · intro x cb _ h
    exact no_local (by decide) h
  · intro x h
    exact (no_local (by decide) h).elim
  · generalize hideH H ([(Str.ofString "w", ca)].map (·.2)) = H3
    walk_at "pt"
    refine i_newl (by simp) fun r hr => ?_
    walk_at "pt"
    refine i_newl (by simp) fun r2 hr2 => ?_
    walk_at "pt"
    refine i_newl (by simp) fun r3 hr3 => ?_
    walk_at "pt"
    refine fun x dx hx hdx hne => ⟨.ref x, _, _, 1, _, _, _, rfl, by decide, rfl, ?_⟩
    exact drop_over (none_of (none_of (none_of hx))) (drop_over (none_of (none_of (none_of hdx))) (drop_new hr3 (drop_new hr2 (drop_set hr))))
theorem refuses_ToldRowA (hK : GoodK S.K) (hf : H f = some (.raw (lamObj S lq noPar (.Call (.Name (Str.ofString "ToldRow") p1) [.List [] p2, .Constant (.int 3) 0 p4] [] p5) tolSc [] c' ctv)))
    (hc : CodeOf H c' lq) : Refuses S 3 H f := by
  refine ⟨⟨_, _, hf, rfl⟩, fun F A₀ base outer fenv hF cx m s R st hR => lam_raise (n := 2) (M := fun _ => none) hF cx st hf hc (fun x ca h => nomatch h) (fun p h => nomatch h) (fun x y ca h => nomatch h) (fun x ca h => nomatch h) (fun x h => rfl) rfl (fun L' g hF' cx' =>
    evr_callDef hF' cx' (by rfl) (g_ToldRow hK) (k_ToldRow hK) (conR_ToldRow hK) (by decide) (evl_cons (ev_list evl_nil) (evl_cons ev_constInt evl_nil))) ?_ hR rfl rfl rfl (by decide)⟩
  generalize hideH H (([] : List (Str × Addr)).map (·.2)) = H3
  walk_at "pt"
  refine i_newl (by simp) fun r hr => ?_
  walk_at "pt"
  refine fun x dx hx hdx hne => ⟨.ref x, r, _, _, rfl, ?_, ?_, .inr rfl, rfl, ?_⟩
  · have hrx : r ≠ x := by rintro rfl; rw [hself] at hx; cases hx
    have hrd : r ≠ dx := by rintro rfl; rw [hself] at hdx; cases hdx
    rw [hset_ne _ _ _ _ hrx, hset_ne _ _ _ _ hrd]; exact hself
  · simp
  · exact drop_over (none_of hx) (drop_over (none_of hdx) (drop_set hr))
theorem refuses_ToldRowB (hK : GoodK S.K) (hf : H f = some (.raw (lamObj S lq noPar (.Call (.Name (Str.ofString "ToldRow") p1) [.List [.List [.Constant (.int 1) 0 p2] p3] p6, .Constant (.int 0) 0 p4] [] p5) tolSc [] c' ctv)))
    (hc : CodeOf H c' lq) : Refuses S 3 H f := by
  refine ⟨⟨_, _, hf, rfl⟩, fun F A₀ base outer fenv hF cx m s R st hR => lam_raise (n := 2) (M := fun _ => none) hF cx st hf hc (fun x ca h => nomatch h) (fun p h => nomatch h) (fun x y ca h => nomatch h) (fun x ca h => nomatch h) (fun x h => rfl) rfl (fun L' g hF' cx' =>
    evr_callDef hF' cx' (by rfl) (g_ToldRow hK) (k_ToldRow hK) (conR_ToldRow hK) (by decide) (evl_cons (ev_list (evl_cons (ev_list (evl_cons ev_constInt evl_nil)) evl_nil)) (evl_cons ev_constInt evl_nil))) ?_ hR rfl rfl rfl (by decide)⟩
  generalize hideH H (([] : List (Str × Addr)).map (·.2)) = H3
  walk_at "pt"
  refine i_newl (by simp) fun r hr => ?_
  walk_at "pt"
  refine i_newl (by simp) fun r2 hr2 => ?_
  walk_at "pt"
  refine fun x dx hx hdx hne => ⟨.ref x, r2, [.ref r], _, rfl, ?_, ?_, .inl (by decide), rfl, ?_⟩
  · have hrx : r2 ≠ x := by rintro rfl; rw [hself] at hx; cases hx
    have hrd : r2 ≠ dx := by rintro rfl; rw [hself] at hdx; cases hdx
    rw [hset_ne _ _ _ _ hrx, hset_ne _ _ _ _ hrd]; exact hself
  · simp
  · exact drop_over (none_of (none_of hx)) (drop_over (none_of (none_of hdx)) (drop_new hr2 (drop_set hr)))
end
section
noncomputable def rowE (f : Nat → Nat → Nat) : Nat → List Nat → List Nat
  | _, [] => []
  | i, z :: r => f i z :: rowE f (i + 1) r
theorem rowE_len (f : Nat → Nat → Nat) : ∀ i r, (rowE f i r).length = r.length
  | _, [] => rfl
  | i, z :: r => by rw [rowE, List.length_cons, List.length_cons, rowE_len f (i + 1) r]
noncomputable def Dr9 (H H' : HH) : Prop := ∀ a o, a ≠ 279 → H a = some o → H' a = some o
theorem Dr9.trans {H1 H2 H3 : HH} (a : Dr9 H1 H2) (b : Dr9 H2 H3) : Dr9 H1 H3 := fun x o n h => b x o n (a x o n h)
theorem Dr9.of {H1 H2 : HH} (a : Drop H1 H2) : Dr9 H1 H2 := fun x o _ h => a x o h
theorem CodeOf.mono {H H' : HH} {c : Addr} {lq : Str} (h : CodeOf H c lq) (d : Dr9 H H') (hn : c ≠ 279) : CodeOf H' c lq := by
  obtain ⟨oc, vs, t, h1, h2⟩ := h
  exact ⟨oc, vs, t, d _ _ hn h1, h2⟩
theorem CodeOf.drop {H H' : HH} {c : Addr} {lq : Str} (h : CodeOf H c lq) (d : Drop H H') : CodeOf H' c lq := by
  obtain ⟨oc, vs, t, h1, h2⟩ := h
  exact ⟨oc, vs, t, d _ _ h1, h2⟩
theorem among_app {pos : Pos} {a b : Int} {c : Value} (h : (a == (pos.line : Int)) = false) (l : List Value) (ht : TriplesOk l) (hn : codeAmong pos l = none) : codeAmong pos (l ++ [rawInt a, rawInt b, c]) = none := by
  fun_induction TriplesOk l with
  | case1 => simp only [List.nil_append, rawInt, codeAmong, h, Bool.false_and, Bool.false_eq_true, if_false]
  | case2 x t y u z r ih =>
    rw [codeAmong] at hn
    split at hn
    · cases hn
    · rename_i hne
      rw [List.cons_append, List.cons_append, List.cons_append, codeAmong, if_neg hne]
      exact ih ht hn
  | case3 => exact ht.elim
noncomputable def Tab (H : HH) (n : Nat) : Prop := ∃ ps : Array Value, H 279 = some (.raw (tabObj ps)) ∧ TriplesOk ps.toList ∧ ∀ pos : Pos, n ≤ pos.line → codeAmong pos ps.toList = none
theorem i_lam {S : Sy} {lq : Str} {par : Arguments} {body : Expr} {sc : Scope} {clos : List (Str × Addr)} {pos : Pos} {m : MM} {H : HH} {k : V → MM → HH → Prop} {n : Nat} (hT : Tab H n) (hl : n ≤ pos.line)
    (h : ∀ f c' H' ctv, Dr9 H H' → Tab H' (pos.line + 1) → H' f = some (.raw (lamObj S lq par body sc clos c' ctv)) → CodeOf H' c' lq → f ≠ 279 → c' ≠ 279 → k (.ref f) m H') : lamPT S 279 lq par body sc clos pos m H k := by
  obtain ⟨ps, hP, ht, hn⟩ := hT
  refine ⟨ps, hP, ht, hn _ hl, fun f c' oc vs t ctv hf hc hfc hd hv => ?_⟩
  have f9 : f ≠ 279 := by rintro rfl; rw [hP] at hf; cases hf
  have c9 : c' ≠ 279 := by rintro rfl; rw [hP] at hc; cases hc
  refine h f c' _ ctv (fun a o hn' ha => ?_) ⟨ps ++ #[rawInt (pos.line : Nat), rawInt (pos.col : Nat), .ref c'], ?_, ?_, fun q hq => ?_⟩ (hset_self _ _ _) ⟨oc, vs, t, ?_, hd, hv⟩ f9 c9
  · rw [hset_ne _ _ _ _ (fun e => by rw [e, hf] at ha; cases ha), hset_ne _ _ _ _ (fun e => by rw [e, hc] at ha; cases ha), hset_ne _ _ _ _ hn']; exact ha
  · rw [hset_ne _ _ _ _ (Ne.symm f9), hset_ne _ _ _ _ (Ne.symm c9)]; exact hset_self _ _ _
  · rw [Array.toList_append]
    exact TriplesOk_snoc _ _ _ _ ht
  · rw [Array.toList_append]
    refine among_app ?_ _ ht (hn q (by lia))
    have : (pos.line : Int) ≠ (q.line : Int) := by lia
    simpa using this
  · rw [hset_ne _ _ _ _ (Ne.symm hfc)]; exact hset_self _ _ _
theorem Lag.other {H : HH} {x dx lr rr : Addr} {w place : Nat} {row : List Nat} {o : O} (h : Lag H x dx lr w place row) (h1 : rr ≠ x) (h2 : rr ≠ dx) (h3 : rr ≠ lr) : Lag (H.set rr o) x dx lr w place row :=
  ⟨by rw [hset_ne _ _ _ _ (Ne.symm h1)]; exact h.hx, by rw [hset_ne _ _ _ _ (Ne.symm h2)]; exact h.hd, by rw [hset_ne _ _ _ _ (Ne.symm h3)]; exact h.gr, h.p1, h.p2, h.p3⟩
theorem lagf_drop {w place t : Nat} {full : List Nat} : lagf w place (full.drop t) = ((full[t]?).getD 0 + (full[t + place]?).getD 0) % 2 ^ w := by
  unfold lagf
  rw [List.getElem?_drop, List.getElem?_drop, Nat.add_zero]
theorem compE_nat {g : HH → Prop} {x1 x2 : Str} {ce : PT V} {D : Addr} {k : HH → Prop} {H0 : HH} {M0 : MM} (f : Nat → Nat → Nat) (hx : x1 ≠ x2) (hg : ∀ H, Drop H0 H → g H) (hD : H0 D = none)
    (hce : ∀ (i z : Nat) (m : MM) (H : HH) (K : V → MM → HH → Prop), Drop H0 H → m x1 = some (.int (i : Nat)) → m x2 = some (.int (z : Nat)) → (∀ y, y ≠ x1 → y ≠ x2 → m y = M0 y) → K (.int ((f i z : Nat) : Int)) m H → ce m H K) :
    ∀ (r : List Nat) (i : Nat) (acc : List Nat) (m : MM) (H : HH), (∀ y, y ≠ x1 → y ≠ x2 → m y = M0 y) → Drop (H0.set D (LN acc)) H → (∀ H, Drop (H0.set D (LN (acc ++ rowE f i r))) H → k H) → compGoE g x1 x2 ce D k i ((r.map Int.ofNat).map V.int) ((acc.map Int.ofNat).map V.int) m H := by
  intro r
  induction r with
  | nil =>
    intro i acc m H hm hd hend
    have h0 : Drop H0 H := drop_trans (drop_set hD) hd
    refine ⟨hg _ h0, hend _ ?_⟩
    simpa [rowE] using hd
  | cons z r ih =>
    intro i acc m H hm hd hend
    have h0 : Drop H0 H := drop_trans (drop_set hD) hd
    have hm' : ∀ y, y ≠ x1 → y ≠ x2 → ((m.set x1 (.int (i : Nat))).set x2 (.int (z : Nat))) y = M0 y := fun y h1 h2 => by
      unfold MM.set; rw [if_neg h2, if_neg h1]; exact hm y h1 h2
    refine ⟨hg _ h0, hce i z _ H _ h0 ?_ (set_self _ _ _) hm' ⟨rfl, hd _ _ hself, ?_⟩⟩
    · unfold MM.set; rw [if_neg hx, if_pos rfl]
    · have e : ((acc.map Int.ofNat).map V.int) ++ [V.int ((f i z : Nat) : Int)] = ((acc ++ [f i z]).map Int.ofNat).map V.int := by simp
      show compGoE g x1 x2 ce D k (i + 1) ((r.map Int.ofNat).map V.int) (((acc.map Int.ofNat).map V.int) ++ [V.int ((f i z : Nat) : Int)]) _ (H.set D (.list (((acc.map Int.ofNat).map V.int) ++ [V.int ((f i z : Nat) : Int)])))
      rw [e]
      refine ih (i + 1) (acc ++ [f i z]) _ _ hm' (drop_step hd) ?_
      intro H' h'
      refine hend H' ?_
      have e2 : acc ++ [f i z] ++ rowE f (i + 1) r = acc ++ rowE f i (z :: r) := by simp [rowE]
      rw [e2] at h'
      exact h'
noncomputable def spec_law_lagged_right (S : Sy) : SpecT := fun vs H k => ∃ ls w xs, vs = [.ref ls, .int (w : Nat)] ∧ 2 ≤ w ∧ w ≤ 60 ∧ H ls = some (LN xs) ∧ 1 ≤ xs.length ∧ xs.length ≤ 100 ∧ H 279 = some (.raw (tabObj #[])) ∧ ∀ ps, k (.bool true) (H.set 279 (.raw (tabObj ps)))
set_option maxHeartbeats 4000000 in
theorem con_law_lagged_right {S : Sy} (hK : GoodK S.K) : Con0 S 5 282 (spec_law_lagged_right S) := by
  refine con_of_fnCT (n := 4) (ns := [Str.ofString "some", Str.ofString "w"]) (f_law_lagged_right hK) (fun A₀ base outer h₀ L hF cx =>
     (exsT_cons (ex_assignName (ev_storeLocal hF rfl (by rfl)) (ev_binop (ev_compE hF rfl (by rfl) (n_enumerate hK) PyProof.Rows.Boot.«enumerate» (evl_cons (ev_slice (ev_local hF (by rfl)) evo_none (evo_some ev_constInt) evo_none) evl_nil) (.cons (x := Str.ofString "w") (by rfl) (by rfl) .nil) (fun _ _ _ hc1 => (ev_binop (ev_binop (ev_local hc1 (by rfl)) (ev_local hc1 (by rfl))) (ev_binop ev_constInt (ev_cellName hc1 (by rfl) (by rfl)))))) (ev_list (evl_cons ev_constInt evl_nil))))
      (exsT_cons (ex_assignName (ev_storeLocal hF rfl (by rfl)) (ev_binop ev_constInt (ev_binop (ev_sub (ev_local hF (by rfl)) ev_constInt) (ev_binop (ev_callB hF (by rfl) (n_len hK) PyProof.Rows.Boot.«len» bi_len (evl_cons (ev_local hF (by rfl)) evl_nil)) ev_constInt))))
      (exsT_cons (ex_assignName (ev_storeLocal hF rfl (by rfl)) (ev_callDef hF (by rfl) (g_Lagged hK) (k_Lagged hK) (con_Lagged hK) (by decide) (evl_cons (ev_local hF (by rfl)) (evl_cons (ev_local hF (by rfl)) (evl_cons (ev_cellName hF (by rfl) (by rfl)) evl_nil)))))
      (exsT_cons (ex_forRange hF (fun p1 => (ev_storeLocal (hF.withP p1) rfl (by rfl))) (by rfl) (n_range hK) PyProof.Rows.Boot.«range» (evl_cons ev_constInt evl_nil) (fun p1 => (exs_cons (ex_assignName (ev_storeLocal (hF.withP p1) rfl (by rfl)) (ev_binop (ev_binop (ev_sub (ev_local (hF.withP p1) (by rfl)) (ev_local (hF.withP p1) (by rfl))) (ev_sub (ev_local (hF.withP p1) (by rfl)) (ev_binop (ev_local (hF.withP p1) (by rfl)) (ev_local (hF.withP p1) (by rfl))))) (ev_binop ev_constInt (ev_cellName (hF.withP p1) (by rfl) (by rfl)))))
      (exs_cons (ex_expr (ev_append (ev_local (hF.withP p1) (by rfl)) (ev_local (hF.withP p1) (by rfl))))
      (exs_cons (ex_assignTs (hF.withP p1) (ev_meth0 (hF.withP p1) (m_Lagged_take hK) (con_Lagged_take hK) (by decide) (ev_local (hF.withP p1) (by rfl))) (ast_cons (as_name (ev_storeLocal (hF.withP p1) rfl (by rfl))) (ast_cons (as_name (ev_storeLocal (hF.withP p1) rfl (by rfl))) ast_nil)))
      (exs_cons (ex_if (it_compare1 (hF.withP p1) (ev_tuple (evl_cons (ev_callDef (hF.withP p1) (by rfl) (g_law_value hK) (k_law_value hK) (con_law_value hK) (by decide) (evl_cons (ev_local (hF.withP p1) (by rfl)) (evl_cons (ev_cellName (hF.withP p1) (by rfl) (by rfl)) evl_nil))) (evl_cons (ev_local (hF.withP p1) (by rfl)) evl_nil))) (ev_tuple (evl_cons (ev_local (hF.withP p1) (by rfl)) (evl_cons (ev_cellName (hF.withP p1) (by rfl) (by rfl)) evl_nil)))) (exs_cons (ex_return ev_constBool)
      exs_nil) exs_nil)
      exs_nil))))))
      (exsT_cons (ex_assignName (ev_storeLocal hF rfl (by rfl)) (ev_list (evl_cons (ev_lambda (c := 281) (P := 279) hF (hd_lam hK) rfl rfl) (evl_cons (ev_lambda (c := 281) (P := 279) hF (hd_lam hK) rfl rfl) (evl_cons (ev_lambda (c := 281) (P := 279) hF (hd_lam hK) rfl rfl) evl_nil)))))
      (exsT_cons (ex_assignName (ev_storeLocal hF rfl (by rfl)) (ev_binop (ev_local hF (by rfl)) (ev_list (evl_cons (ev_lambda (c := 281) (P := 279) hF (hd_lam hK) rfl rfl) (evl_cons (ev_lambda (c := 281) (P := 279) hF (hd_lam hK) rfl rfl) (evl_cons (ev_lambda (c := 281) (P := 279) hF (hd_lam hK) rfl rfl) evl_nil))))))
      (exsT_last (retT (n := 4) (hF.mono (by decide)) cx rfl rfl rfl (by rfl) (by decide) (by rfl) (g_law_refused hK) (k_law_refused hK) (tests_refused hK)))))))))) rfl ?spec ?bind (by rfl) (by rfl) rfl rfl rfl
  case bind => exact fun _ _ _ _ => fn2 fun _ _ => rfl
  case spec =>
    rintro vs H k ⟨ls, w, xs, rfl, hw, hw2, hl, h1, h2, hP, hk⟩
    refine ⟨rfl, fun L => in2 (c := _) ?_⟩
    have hcp := cast_pow w
    have hpp := pow_pos2 w
    walk_at "pt"
    refine i_slice (ys := ((xs.take 7).map Int.ofNat).map V.int) hl (by simp [sliceVs, List.map_take]) (by simp; lia) fun s1 hs1 => ?_
    walk_at "pt"
    refine ⟨_, hself, by simp; lia, fun D hD => ?_⟩
    have d1 := drop_set (o := LN (xs.take 7)) hs1
    refine compE_nat (fun i z => (z + i) % 2 ^ w) (H0 := H.set s1 (LN (xs.take 7))) (by decide) (fun H' h => h _ _ hself) hD ?_ (xs.take 7) 0 [] _ _ (fun y _ _ => rfl) (Drop.refl _) ?_
    · intro i z m H' K hd g1 g2 g3 hK'
      have jw : m (Str.ofString "w") = some (.int w) := (g3 _ (by decide) (by decide)).trans (mIn_ne (by decide) (by (repeat (first | with_reducible exact lk_self | with_reducible assumption | refine lk_hop (by kernel_rfl) ?_))))
      walk_at "pt"
      refine i_shl (n := w) rfl (by lia) ⟨by lia, by lia⟩ ?_
      refine i_mod (by rw [Int.one_mul, ← hcp]; lia) ?_
      have e1 : ((z : Nat) : Int) + ((i : Nat) : Int) = ((z + i : Nat) : Int) := by lia
      rw [e1, fmod_pow]
      exact hK'
    rw [List.nil_append]
    intro H1 d2
    have d3 : Drop H H1 := drop_trans d1 (drop_trans (drop_set hD) d2)
    have gD : H1 D = some (LN (rowE (fun i z => (z + i) % 2 ^ w) 0 (xs.take 7))) := d2 _ _ hself
    have hlen0 : (rowE (fun i z => (z + i) % 2 ^ w) 0 (xs.take 7)).length = (xs.take 7).length := rowE_len _ _ _
    rw [List.length_take] at hlen0
    clear d1 d2 hs1 hD
    revert gD hlen0
    generalize rowE (fun i z => (z + i) % 2 ^ w) 0 (xs.take 7) = r0
    intro gD hlen0
    walk_at "pt"
    refine i_newl (by simp) fun s2 hs2 => ?_
    refine i_addl (fresh_get hs2 gD) hself ?_
    have e2 : ((r0.map Int.ofNat).map V.int) ++ [V.int 1] = ((r0 ++ [1]).map Int.ofNat).map V.int := by simp
    rw [e2]
    refine i_newl (by simp; lia) fun rr hrr => ?_
    have d4 : Drop H ((H1.set s2 (.list [.int 1])).set rr (LN (r0 ++ [1]))) := drop_new hrr (drop_new hs2 d3)
    have grr : ((H1.set s2 (.list [.int 1])).set rr (LN (r0 ++ [1]))) rr = some (LN (r0 ++ [1])) := hself
    have hrH : H rr = none := d3.none (none_of hrr)
    revert d4 grr
    show (Drop H ((H1.set s2 (.list [.int 1])).set rr (LN (r0 ++ [1])))) → _
    generalize ((H1.set s2 (.list [.int 1])).set rr (LN (r0 ++ [1]))) = H2
    intro d4 grr
    have hL0 : (r0 ++ [1]).length = min 7 xs.length + 1 := by rw [List.length_append, hlen0]; rfl
    revert grr hL0
    generalize r0 ++ [1] = row
    intro grr hL0
    have hL1 : 2 ≤ row.length := by lia
    have hL2 : row.length ≤ 8 := by lia
    clear hL0 hlen0 gD d3 hs2 hrr e2
    walk_at "pt"
    refine ⟨rfl, ?_⟩
    walk_at "pt"
    refine i_sub (n := 0) (d4 _ _ hl) rfl (by lia) (ln_get h1) ?_
    walk_at "pt"
    refine i_lenI (n := row.length) grr (by simp) (by lia) ?_
    walk_at "pt"
    refine i_mod (by lia) ?_
    have e3 : ((row.length : Nat) : Int) - 1 = ((row.length - 1 : Nat) : Int) := by lia
    rw [e3, fmod_nat]
    have e4 : (1 : Int) + (((xs[0]?).getD 0 % (row.length - 1) : Nat) : Int) = ((1 + (xs[0]?).getD 0 % (row.length - 1) : Nat) : Int) := by lia
    refine i_add ?_
    rw [e4]
    have hp1 : 1 ≤ 1 + (xs[0]?).getD 0 % (row.length - 1) := by lia
    have hp2 : 1 + (xs[0]?).getD 0 % (row.length - 1) < row.length := by have := Nat.mod_lt ((xs[0]?).getD 0) (show 0 < row.length - 1 by lia); lia
    revert hp1 hp2
    generalize 1 + (xs[0]?).getD 0 % (row.length - 1) = place
    intro hp1 hp2
    clear e3 e4
    walk_at "pt"
    refine ⟨rfl, ?_⟩
    walk_at "pt"
    intro x dx hx hdx hxd
    have d5 : Drop H2 ((H2.set dx (.dict [])).set x (.inst 154 dx)) := drop_over hx (drop_set hdx)
    have hd1 : ((H2.set dx (.dict [])).set x (.inst 154 dx)) dx = some (.dict []) := by rw [hset_ne _ _ _ _ (Ne.symm hxd)]; exact hself
    refine ⟨x, dx, rr, w, place, (row.map Int.ofNat).map V.int, rfl, hp1, by simpa using hp2, by simp; lia, hself, hd1, d5 _ _ grr, fun r hr => ⟨rfl, ?_⟩⟩
    have hrd : r ≠ dx := fun e => by rw [e, hd1] at hr; cases hr
    have hrr : rr ≠ r := fun e => by rw [← e, d5 _ _ grr] at hr; cases hr
    have d6 := drop_over (o := lagO r place w) hdx (drop_new (o := LN row) hr d5)
    have L0 : Lag ((((H2.set dx (.dict [])).set x (.inst 154 dx)).set r (LN row)).set dx (lagO r place w)) x dx r w place row :=
      ⟨hne hxd (fresh_get hr hself), hself, hne hrd hself, hp1, hp2, by lia⟩
    have d7 := drop_trans d4 d6
    have grr2 := d6 _ _ grr
    have hdH : H dx = none := d4.none hdx
    revert L0 d7 grr2
    show (Lag ((((H2.set dx (.dict [])).set x (.inst 154 dx)).set r (LN row)).set dx (lagO r place w)) x dx r w place row) → _
    generalize ((((H2.set dx (.dict [])).set x (.inst 154 dx)).set r (LN row)).set dx (lagO r place w)) = H3
    intro L0 d7 grr2
    clear d6 hrd hd1 d5 hx hdx hr grr d4
    walk_at "pt"
    refine ⟨rfl, ?_⟩
    walk_at "pt"
    refine for1 (n := 6) (fun t m3 H3 => ∃ full lr, full.length = row.length + t ∧ Drop H H3 ∧ Lag H3 x dx lr w place (full.drop t) ∧ H3 rr = some (LN full) ∧ rr ≠ lr ∧ m3 (Str.ofString "w") = some (.int w) ∧ m3 (Str.ofString "place") = some (.int place) ∧ m3 (Str.ofString "row") = some (.ref rr) ∧ m3 (Str.ofString "source") = some (.ref x)) rfl (by lia) ⟨row, r, rfl, d7, L0, grr2, hrr, by (repeat (first | with_reducible exact lk_self | with_reducible assumption | refine lk_hop (by kernel_rfl) ?_)), by (repeat (first | with_reducible exact lk_self | with_reducible assumption | refine lk_hop (by kernel_rfl) ?_)), by (repeat (first | with_reducible exact lk_self | with_reducible assumption | refine lk_hop (by kernel_rfl) ?_)), by (repeat (first | with_reducible exact lk_self | with_reducible assumption | refine lk_hop (by kernel_rfl) ?_))⟩ ?_ ?_
    · clear L0 d7 grr2 hrr
      rintro t m3 H3 ht ⟨full, lr, hfl, d7, L0, grr2, hrr, j1, j2, j3, j4⟩ K kn kr
      walk_at "pt"
      refine i_sub (n := t) grr2 rfl (by lia) (ln_get (by lia)) ?_
      walk_at "pt"
      refine i_sub (n := t + place) grr2 (by lia) (by lia) (ln_get (by lia)) ?_
      walk_at "pt"
      refine i_shl (n := w) rfl (by lia) ⟨by lia, by lia⟩ ?_
      refine i_mod (by rw [Int.one_mul, ← hcp]; lia) ?_
      have e1 : (((full[t]?).getD 0 : Nat) : Int) + (((full[t + place]?).getD 0 : Nat) : Int) = (((full[t]?).getD 0 + (full[t + place]?).getD 0 : Nat) : Int) := by lia
      rw [e1, fmod_pow]
      have hlag := lagf_drop (w := w) (place := place) (t := t) (full := full)
      have hdue : ((full[t]?).getD 0 + (full[t + place]?).getD 0) % 2 ^ w < 2 ^ w := Nat.mod_lt _ hpp
      revert hlag hdue
      generalize ((full[t]?).getD 0 + (full[t + place]?).getD 0) % 2 ^ w = due
      intro hlag hdue
      have hd60 : due < 2 ^ 60 := Nat.lt_of_lt_of_le hdue (Nat.pow_le_pow_right (by decide) hw2)
      walk_at "pt"
      refine ⟨rr, _, rfl, grr2, ?_⟩
      walk_at "pt"
      refine i_append grr2 (by simp; lia) ?_
      have e2 : ((full.map Int.ofNat).map V.int) ++ [V.int ((due : Nat) : Int)] = ((full ++ [due]).map Int.ofNat).map V.int := by simp
      rw [e2]
      have hx1 : rr ≠ x := by rintro rfl; rw [L0.hx] at grr2; cases grr2
      have hx2 : rr ≠ dx := by rintro rfl; rw [L0.hd] at grr2; cases grr2
      have L1 := L0.other (o := LN (full ++ [due])) hx1 hx2 hrr
      have d8 : Drop H (H3.set rr (LN (full ++ [due]))) := drop_over hrH d7
      have g8 := hself (H := H3) (a := rr) (o := LN (full ++ [due]))
      revert L1 d8 g8
      show (Lag (H3.set rr (LN (full ++ [due]))) x dx lr w place (full.drop t)) → _
      generalize H3.set rr (LN (full ++ [due])) = H4
      intro L1 d8 g8
      walk_at "pt"
      refine i_meth L1.hx L1.hd (by rfl) ?_
      refine ⟨x, dx, lr, w, place, full.drop t, rfl, hw, hw2, L1, fun r hr r2 hr2 tt htt => ?_⟩
      rw [hlag] at hr2 htt ⊢
      have hlen : ((full.drop t).drop 1 ++ [due]).length = (full.drop t).length := by rw [List.length_append, List.length_drop, List.length_drop]; simp; lia
      have L2 := L1.step (row' := (full.drop t).drop 1 ++ [due]) hr hlen
      have e3 : (full.drop t).drop 1 ++ [due] = (full ++ [due]).drop (t + 1) := by rw [List.drop_drop, List.drop_append_of_le_length (by lia)]
      have hrr2 : rr ≠ r := by rintro rfl; rw [g8] at hr; cases hr
      have g9 := hne (o' := lagO r place w) hx2 (fresh_get (o' := LN ((full.drop t).drop 1 ++ [due])) hr g8)
      have d9 : Drop H ((H4.set r (LN ((full.drop t).drop 1 ++ [due]))).set dx (lagO r place w)) := drop_over hdH (drop_new hr d8)
      have L3 := (L2.mono (drop_set (o := LI (dig w due)) hr2)).mono (drop_set (o := .tup [.ref r2, .int (w : Nat)]) htt)
      have d10 := drop_new (o := .tup [.ref r2, .int (w : Nat)]) htt (drop_new (o := LI (dig w due)) hr2 d9)
      have g10 := fresh_get (o' := .tup [.ref r2, .int (w : Nat)]) htt (fresh_get (o' := LI (dig w due)) hr2 g9)
      have gr2 := fresh_get (o' := .tup [.ref r2, .int (w : Nat)]) htt (hself (H := (H4.set r (LN ((full.drop t).drop 1 ++ [due]))).set dx (lagO r place w)) (a := r2) (o := LI (dig w due)))
      have gt := hself (H := ((H4.set r (LN ((full.drop t).drop 1 ++ [due]))).set dx (lagO r place w)).set r2 (LI (dig w due))) (a := tt) (o := .tup [.ref r2, .int (w : Nat)])
      revert L3 d10 g10 gr2 gt
      show (Lag ((((H4.set r (LN ((full.drop t).drop 1 ++ [due]))).set dx (lagO r place w)).set r2 (LI (dig w due))).set tt (.tup [.ref r2, .int (w : Nat)])) x dx r w place ((full.drop t).drop 1 ++ [due])) → _
      generalize ((((H4.set r (LN ((full.drop t).drop 1 ++ [due]))).set dx (lagO r place w)).set r2 (LI (dig w due))).set tt (.tup [.ref r2, .int (w : Nat)])) = H5
      intro L3 d10 g10 gr2 gt
      rw [e3] at L3
      walk_at "pt"
      refine i_unpack gt rfl ?_
      walk_at "pt"
      refine ⟨r2, w, due, rfl, hw, by lia, gr2, nlb (b := 60) hw hd60 (by lia), hd60, ?_⟩
      walk_at "pt"
      refine i_newt (by simp) fun q1 hq1 => ?_
      have L4 := L3.mono (drop_set (o := .tup [.int (due : Nat), .int (w : Nat)]) hq1)
      have d11 := drop_new (o := .tup [.int (due : Nat), .int (w : Nat)]) hq1 d10
      have g11 := fresh_get (o' := .tup [.int (due : Nat), .int (w : Nat)]) hq1 g10
      walk_at "pt"
      refine i_newt (by simp) fun q2 hq2 => ?_
      have L5 := L4.mono (drop_set (o := .tup [.int (due : Nat), .int (w : Nat)]) hq2)
      have d12 := drop_new (o := .tup [.int (due : Nat), .int (w : Nat)]) hq2 d11
      have g12 := fresh_get (o' := .tup [.int (due : Nat), .int (w : Nat)]) hq2 g11
      walk_at "pt"
      refine i_net (xs := [((due : Nat) : Int), ((w : Nat) : Int)]) (ys := [((due : Nat) : Int), ((w : Nat) : Int)]) (fresh_get hq2 hself) hself ?_
      walk_at "pt"
      · intro h; exact absurd rfl h
      intro _
      walk_at "pt"
      exact kn _ _ ⟨full ++ [due], r, by rw [List.length_append, hfl]; rfl, d12, L5, g12, hrr2, by (repeat (first | with_reducible exact lk_self | with_reducible assumption | refine lk_hop (by kernel_rfl) ?_)), by (repeat (first | with_reducible exact lk_self | with_reducible assumption | refine lk_hop (by kernel_rfl) ?_)), by (repeat (first | with_reducible exact lk_self | with_reducible assumption | refine lk_hop (by kernel_rfl) ?_)), by (repeat (first | with_reducible exact lk_self | with_reducible assumption | refine lk_hop (by kernel_rfl) ?_))⟩
    · clear L0 d7 grr2 hrr
      rintro m3 H3 ⟨full, lr, hfl, d7, L0, grr2, hrr, j1, j2, j3, j4⟩
      clear L0 grr2 hrr hfl
      walk_at "pt"
      refine ⟨rfl, ?_⟩
      walk_at "pt"
      refine i_lam (n := 0) ⟨#[], d7 _ _ hP, trivial, fun _ _ => rfl⟩ (by decide) fun f1 c1 H4 v1 D1 P1 G1 C1 n1 q1 => ?_
      walk_at "pt"
      refine i_lam P1 (by decide) fun f2 c2 H5 v2 D2 P2 G2 C2 n2 q2 => ?_
      walk_at "pt"
      refine i_lam P2 (by decide) fun f3 c3 H6 v3 D3 P3 G3 C3 n3 q3 => ?_
      walk_at "pt"
      refine i_newl (by simp) fun ma hma => ?_
      have D4 : Dr9 H6 (H6.set ma (.list [.ref f1, .ref f2, .ref f3])) := Dr9.of (drop_set hma)
      have P4 : Tab (H6.set ma (.list [.ref f1, .ref f2, .ref f3])) 225 := by
        obtain ⟨ps, hp1, hp2, hp3⟩ := P3
        exact ⟨ps, (drop_set hma) _ _ hp1, hp2, hp3⟩
      have gma := hself (H := H6) (a := ma) (o := .list [.ref f1, .ref f2, .ref f3])
      have nma : ma ≠ 279 := by
        obtain ⟨ps, hp1, _⟩ := P3
        rintro rfl; rw [hp1] at hma; cases hma
      revert D4 P4 gma
      show (Dr9 H6 (H6.set ma (.list [.ref f1, .ref f2, .ref f3]))) → _
      generalize H6.set ma (.list [.ref f1, .ref f2, .ref f3]) = H7
      intro D4 P4 gma
      walk_at "pt"
      refine ⟨rfl, ?_⟩
      walk_at "pt"
      refine i_lam P4 (by decide) fun f4 c4 H8 v4 D5 P5 G4 C4 n4 q4 => ?_
      walk_at "pt"
      refine i_lam P5 (by decide) fun f5 c5 H9 v5 D6 P6 G5 C5 n5 q5 => ?_
      walk_at "pt"
      refine i_lam P6 (by decide) fun f6 c6 H10 v6 D7 P7 G6 C6 n6 q6 => ?_
      walk_at "pt"
      refine i_newl (by simp) fun mb hmb => ?_
      have e810 : Dr9 H7 H10 := (D5.trans D6).trans D7
      refine i_addl (xs := [.ref f1, .ref f2, .ref f3]) (ys := [.ref f4, .ref f5, .ref f6]) (fresh_get hmb (e810 _ _ nma gma)) hself ?_
      refine i_newl (by simp) fun mc hmc => ?_
      have d9n : Drop H10 ((H10.set mb (.list [.ref f4, .ref f5, .ref f6])).set mc (.list ([.ref f1, .ref f2, .ref f3] ++ [.ref f4, .ref f5, .ref f6]))) := drop_new hmc (drop_set hmb)
      have D8 : Dr9 H10 ((H10.set mb (.list [.ref f4, .ref f5, .ref f6])).set mc (.list ([.ref f1, .ref f2, .ref f3] ++ [.ref f4, .ref f5, .ref f6]))) := Dr9.of (drop_new hmc (drop_set hmb))
      have gmc : ((H10.set mb (.list [.ref f4, .ref f5, .ref f6])).set mc (.list ([.ref f1, .ref f2, .ref f3] ++ [.ref f4, .ref f5, .ref f6]))) mc = some (.list ([f1, f2, f3, f4, f5, f6].map V.ref)) := hself
      revert d9n D8 gmc
      show (Drop H10 ((H10.set mb (.list [.ref f4, .ref f5, .ref f6])).set mc (.list ([.ref f1, .ref f2, .ref f3] ++ [.ref f4, .ref f5, .ref f6])))) → _
      generalize ((H10.set mb (.list [.ref f4, .ref f5, .ref f6])).set mc (.list ([.ref f1, .ref f2, .ref f3] ++ [.ref f4, .ref f5, .ref f6]))) = H11
      intro d9n D8 gmc
      walk_at "pt"
      refine ⟨rfl, ?_⟩
      have A6 : Dr9 H10 H11 := D8
      have A5 : Dr9 H9 H11 := D7.trans A6
      have A4 : Dr9 H8 H11 := D6.trans A5
      have A3 : Dr9 H6 H11 := (D4.trans D5).trans A4
      have A2 : Dr9 H5 H11 := D3.trans A3
      have A1 : Dr9 H4 H11 := D2.trans A2
      refine ⟨mc, [f1, f2, f3, f4, f5, f6], .int (w : Nat), by (repeat (first | with_reducible exact lk_self | with_reducible assumption | refine lk_hop (by kernel_rfl) ?_)), gmc, by simp, by (repeat (first | with_reducible exact lk_self | with_reducible assumption | refine lk_hop (by kernel_rfl) ?_)), fun hca H' hd f hf => ?_, ?_⟩
      · have get : ∀ a o, H11 a = some o → H' a = some o := fun a o h => hd _ _ (by rw [hset_ne _ _ _ _ (fun e => by rw [e, hca] at h; cases h)]; exact h)
        have gca := hd _ _ (hself (H := H11) (a := L + 1) (o := .cell (.int (w : Nat))))
        simp only [List.mem_cons, List.not_mem_nil, or_false] at hf
        rcases hf with rfl | rfl | rfl | rfl | rfl | rfl
        · exact refuses_LaggedC hK (by decide) (get _ _ (A1 _ _ n1 G1)) ((C1.mono A1 q1).drop get) gca
        · exact refuses_LaggedC hK (by decide) (get _ _ (A2 _ _ n2 G2)) ((C2.mono A2 q2).drop get) gca
        · exact refuses_LaggedB hK (by decide) (get _ _ (A3 _ _ n3 G3)) ((C3.mono A3 q3).drop get) gca
        · exact refuses_Congruence hK (get _ _ (A4 _ _ n4 G4)) ((C4.mono A4 q4).drop get) gca
        · exact refuses_ToldRowA hK (get _ _ (A5 _ _ n5 G5)) ((C5.mono A5 q5).drop get)
        · exact refuses_ToldRowB hK (get _ _ (A6 _ _ n6 G6)) ((C6.mono A6 q6).drop get)
      · obtain ⟨ps, hp9, _⟩ := P7
        refine ⟨H.set 279 (.raw (tabObj ps)), fun a o ha => ?_, hk ps⟩
        by_cases hn' : a = 279
        · rw [hn', hset_self] at ha
          cases ha
          have := d9n _ _ hp9
          rw [hn']
          exact this
        · rw [hset_ne _ _ _ _ hn'] at ha
          exact A1 _ _ hn' (D1 _ _ hn' (d7 _ _ ha))
end
section
theorem rbw_a : (rbw [1] 3 1 0).1 = 0 := by decide
theorem rbw_b : (rbw [0] 2 1 0).1 = 0 := by decide
set_option maxHeartbeats 4000000 in
theorem con_law {S : Sy} (hK : GoodK S.K) : LawOk S (dBody (stm 34)) (dScope (stm 34)) "law" := by
  refine law_of (S := S) (c := fun _ _ _ _ => True) rfl (fun fa cdv A₀ h₀ L a its hF cx li zs hz hlen m H s st hm => ?main)
  case main =>
    refine (exsL_cons (ex_assignName (ev_storeLocal hF rfl (by rfl)) (ev_binop (ev_comp hF rfl (ev_slice0 (N := 16) hF (by rfl) li) .nil (fun _ _ _ hc1 => te_nil) (fun _ _ _ hc1 => (ev_callB hc1 (by rfl) (n_abs hK) PyProof.Rows.Boot.«abs» bi_abs (evl_cons (ev_local hc1 (by rfl)) evl_nil)))) (ev_list (evl_cons (ev_binop (ev_callB hF (by rfl) (n_len hK) PyProof.Rows.Boot.«len» (bi_len0 li) (evl_cons (ev_local hF (by rfl)) evl_nil)) ev_constInt) evl_nil))))
      (exsL_cons (ex_assignName (ev_storeLocal hF rfl (by rfl)) (ev_binop ev_constInt (ev_binop (ev_sub (ev_local hF (by rfl)) ev_constInt) ev_constInt)))
      (exsL_cons (ex_if (it_or (it_not (it_plain (ev_callDef hF (by rfl) (g_law_congruence_right hK) (k_law_congruence_right hK) (con_law_congruence_right hK) (by decide) (evl_cons (ev_local hF (by rfl)) (evl_cons (ev_local hF (by rfl)) evl_nil))))) (it_or (it_not (it_plain (ev_callDef0 hF cx (fun _ h => nomatch h) (by rfl) (g_law_lagged_right hK) (k_law_lagged_right hK) (con_law_lagged_right hK) (by decide) (evl_cons (ev_local hF (by rfl)) (evl_cons (ev_local hF (by rfl)) evl_nil))))) (it_or (it_not (it_plain (ev_callDef hF (by rfl) (g_law_draws_right hK) (k_law_draws_right hK) (con_law_draws_right hK) (by decide) (evl_cons (ev_local hF (by rfl)) (evl_cons (ev_local hF (by rfl)) evl_nil))))) it_orNil))) (exs_cons (ex_return ev_constBool)
      exs_nil) exs_nil)
      (exsL_cons (ex_if (it_or (it_compare1 hF (ev_callDef hF (by rfl) (g_random_below hK) (k_random_below hK) (con_random_below hK) (by decide) (evl_cons (ev_callDef hF (by rfl) (g_ToldRow hK) (k_ToldRow hK) (con_ToldRow hK) (by decide) (evl_cons (ev_list (evl_cons (ev_list (evl_cons ev_constInt evl_nil)) evl_nil)) (evl_cons ev_constInt evl_nil))) (evl_cons (ev_list (evl_cons ev_constInt evl_nil)) (evl_cons (ev_local hF (by rfl)) evl_nil)))) (ev_list evl_nil)) (it_or (it_compare1 hF (ev_callDef hF (by rfl) (g_small_below hK) (k_small_below hK) (con_small_below hK) (by decide) (evl_cons (ev_callDef hF (by rfl) (g_ToldRow hK) (k_ToldRow hK) (con_ToldRow hK) (by decide) (evl_cons (ev_list (evl_cons (ev_list evl_nil) evl_nil)) (evl_cons ev_constInt evl_nil))) (evl_cons ev_constInt (evl_cons (ev_local hF (by rfl)) evl_nil)))) ev_constInt) it_orNil)) (exs_cons (ex_return ev_constBool)
      exs_nil) exs_nil)
      (exsL_try hF cx rfl (evr_expr (evr_callDef hF cx (by rfl) (g_random_below hK) (k_random_below hK) (conR_random_below hK) (by decide) (evl_cons (ev_callDef hF (by rfl) (g_ToldRow hK) (k_ToldRow hK) (con_ToldRow hK) (by decide) (evl_cons (ev_list (evl_cons (ev_list (evl_cons ev_constInt evl_nil)) evl_nil)) (evl_cons ev_constInt evl_nil))) (evl_cons (ev_list evl_nil) (evl_cons (ev_local hF (by rfl)) evl_nil))))) (fun e oe hC => (exs_cons (ex_return (ev_boolAnd (evW_callDef hC rfl rfl (by rfl) (g_law_even hK) (k_law_even hK) (con_law_even hK) (by decide) (evl_cons (evW_local rfl rfl (by rfl)) evl_nil)) (ev_boolOne (evW_callDef hC rfl rfl (by rfl) (g_law_rows_right hK) (k_law_rows_right hK) (con_law_rows_right hK) (by decide) (evl_cons (evW_local rfl rfl (by rfl)) (evl_cons (evW_local rfl rfl (by rfl)) evl_nil))))))
      exs_nil)) (g_OutOfRange hK) (x_OutOfRange hK) rfl))))) m H s st ?spec
    clear st hF cx
    obtain ⟨hs, hP⟩ := hm
    have hsz : its.size = zs.length := by have := congrArg List.length hz; simpa using this
    refine ⟨hs, by lia, ?_⟩
    rw [hz, ← List.map_take]
    refine i_newl (by simp; lia) fun s1 hs1 => ?_
    refine i_comp hself (by simp; lia) fun D hD => ?_
    refine comp_ints (fun z => (z.natAbs : Int)) (fun H' hd => hd _ _ hself) hD ?_ ?_
    · intro m H' z K hz hm hx hd hK
      walk_at "pt"
      refine i_abs ?_
      exact hK
    intro H1 d1
    have d2 : Drop H H1 := drop_trans (drop_new hD (drop_set hs1)) d1
    have gD := dself d1
    clear d1
    walk_at "pt"
    refine ⟨rfl, by lia, ?_⟩
    walk_at "pt"
    refine i_newl (by simp) fun s2 hs2 => ?_
    refine i_addl (fresh_get hs2 gD) hself ?_
    obtain ⟨xs, hxs⟩ : ∃ xs, xs = (zs.take 16).map Int.natAbs ++ [zs.length + 11] := ⟨_, rfl⟩
    have ex : ((zs.take 16).map (fun z => (z.natAbs : Int))).map V.int ++ [V.int ((its.size : Nat) + 11)] = (xs.map Int.ofNat).map V.int := by
      rw [hxs, hsz]
      simp
      rfl
    rw [ex]
    have h1 : 1 ≤ xs.length := by rw [hxs]; simp
    have h2 : xs.length ≤ 17 := by rw [hxs]; simp; lia
    clear ex hxs hsz
    refine i_newl (by simp; lia) fun ls hls => ?_
    have d3 : Drop H ((H1.set s2 (.list [.int ((its.size : Nat) + 11)])).set ls (LN xs)) := drop_new hls (drop_new hs2 d2)
    have gl : ((H1.set s2 (.list [.int ((its.size : Nat) + 11)])).set ls (LN xs)) ls = some (LN xs) := hself
    revert d3 gl
    show (Drop H ((H1.set s2 (.list [.int ((its.size : Nat) + 11)])).set ls (LN xs))) → _
    generalize ((H1.set s2 (.list [.int ((its.size : Nat) + 11)])).set ls (LN xs)) = H2
    intro d3 gl
    clear d2 gD hls hs2 hD hs1
    have hP2 := d3 _ _ hP
    clear d3 hP
    walk_at "pt"
    refine ⟨rfl, ?_⟩
    walk_at "pt"
    refine i_sub (n := 0) gl rfl (by lia) (ln_get h1) ?_
    walk_at "pt"
    refine i_mod (by lia) ?_
    have e1 := fmod_nat ((xs[0]?).getD 0) 7
    have b1 := Nat.mod_lt ((xs[0]?).getD 0) (show 0 < 7 by decide)
    revert e1 b1
    generalize (xs[0]?).getD 0 % 7 = z0
    intro e1 b1
    have e2 : (2 : Int) + (((xs[0]?).getD 0 : Nat) : Int).fmod 7 = ((2 + z0 : Nat) : Int) := by rw [show (7 : Int) = ((7 : Nat) : Int) from rfl, e1]; lia
    refine i_add ?_
    rw [e2]
    obtain ⟨w, hw⟩ : ∃ w, w = 2 + z0 := ⟨_, rfl⟩
    rw [← hw]
    clear e1 e2
    have hw1 : 2 ≤ w := by lia
    have hw2 : w ≤ 8 := by lia
    clear hw b1
    walk_at "pt"
    refine ⟨rfl, ?_⟩
    walk_at "pt"
    refine ⟨ls, w, xs, rfl, hw1, by lia, gl, h1, by lia, ?_⟩
    walk_at "pt"
    refine ⟨ls, w, xs, rfl, hw1, by lia, gl, h1, by lia, hP2, fun ps => ?_⟩
    have hn9 : ls ≠ 279 := by rintro rfl; rw [hP2] at gl; cases gl
    have gl3 : (H2.set 279 (.raw (tabObj ps))) ls = some (LN xs) := by rw [hset_ne _ _ _ _ hn9]; exact gl
    have hP3 : (H2.set 279 (.raw (tabObj ps))) 279 = some (.raw (tabObj ps)) := hself
    revert gl3 hP3
    show ((H2.set 279 (.raw (tabObj ps))) ls = some (LN xs)) → _
    generalize (H2.set 279 (.raw (tabObj ps))) = H3
    intro gl3 hP3
    clear gl hP2
    walk_at "pt"
    refine ⟨ls, w, xs, rfl, hw1, by lia, gl3, h1, by lia, ?_⟩
    walk_at "pt"
    refine ⟨rfl, ?_⟩
    walk_at "pt"
    refine i_newl (by simp) fun q1 hq1 => ?_
    walk_at "pt"
    rw [LI_one (w := w) (by lia)]
    refine i_newl (by simp) fun q2 hq2 => ?_
    walk_at "pt"
    have d4 : Drop H3 ((H3.set q1 (LI (dig w 1))).set q2 (.list [.ref q1])) := drop_new hq2 (drop_set hq1)
    refine make_told (w := w) (zs := [1]) (rs := [q1]) (many := 3) hself rfl ?_ (by decide) (by decide) ?_ (by decide) ?_
    · intro i r z a b
      match i, a, b with
      | 0, a, b =>
        cases a
        cases b
        exact fresh_get hq2 hself
    · intro i
      exact tk_lt (by decide) (by decide) i
    intro x dx H4 hx hdx d5 hT
    walk_at "pt"
    refine i_newl (by simp) fun q3 hq3 => ?_
    walk_at "pt"
    rw [LI_one (w := w) (by lia)]
    have hT2 := hT.mono (drop_set (o := LI (dig w 1)) hq3)
    have d6 : Drop H3 (H4.set q3 (LI (dig w 1))) := drop_new hq3 (drop_trans d4 d5)
    have hdx3 : H3 dx = none := d4.none hdx
    refine ⟨x, dx, q2, q3, w, [1], 3, 0, 1, rfl, hw1, by lia, by decide, by decide, hT2, hself, by decide, by decide, fun r hr => ?_⟩
    rw [rbw_a]
    have d7 : Drop H3 (((H4.set q3 (LI (dig w 1))).set dx (toldO q2 3 (rbw [1] 3 1 0).2)).set r (LI (dig w 0))) := drop_over (d6.none hr) (drop_over hdx3 d6)
    have gr : (((H4.set q3 (LI (dig w 1))).set dx (toldO q2 3 (rbw [1] 3 1 0).2)).set r (LI (dig w 0))) r = some (LI []) := hself
    revert d7 gr
    show (Drop H3 (((H4.set q3 (LI (dig w 1))).set dx (toldO q2 3 (rbw [1] 3 1 0).2)).set r (LI (dig w 0)))) → _
    generalize (((H4.set q3 (LI (dig w 1))).set dx (toldO q2 3 (rbw [1] 3 1 0).2)).set r (LI (dig w 0))) = H5
    intro d7 gr
    clear d6 d5 d4 hT hT2 hx hdx hq1 hq2 hq3 hr hdx3
    walk_at "pt"
    refine i_newl (by simp) fun q4 hq4 => ?_
    have d8 := drop_new (o := .list []) hq4 d7
    have gr2 := fresh_get (o' := .list []) hq4 gr
    have gq : (H5.set q4 (.list [])) q4 = some (LI []) := hself
    revert d8 gr2 gq
    show (Drop H3 (H5.set q4 (.list []))) → _
    generalize H5.set q4 (.list []) = H6
    intro d8 gr2 gq
    walk_at "pt"
    refine i_nel gr2 gq ?_
    walk_at "pt"
    · intro h; exact absurd rfl h
    intro _
    clear gr2 gq gr d7 hq4
    walk_at "pt"
    refine i_newl (by simp) fun q1 hq1 => ?_
    walk_at "pt"
    rw [LI_nil (w := w)]
    refine i_newl (by simp) fun q2 hq2 => ?_
    walk_at "pt"
    have d9 : Drop H6 ((H6.set q1 (LI (dig w 0))).set q2 (.list [.ref q1])) := drop_new hq2 (drop_set hq1)
    refine make_told (w := w) (zs := [0]) (rs := [q1]) (many := 2) hself rfl ?_ (by decide) (by decide) ?_ (by decide) ?_
    · intro i r z a b
      match i, a, b with
      | 0, a, b =>
        cases a
        cases b
        exact fresh_get hq2 hself
    · intro i
      exact tk_lt (by decide) (by decide) i
    intro x2 dx2 H7 hx2 hdx2 d10 hT
    walk_at "pt"
    have hdx6 : H6 dx2 = none := d9.none hdx2
    refine ⟨x2, dx2, q2, w, [0], 2, 0, 1, rfl, hw1, by lia, by decide, by decide, hT, by decide, by decide, ?_⟩
    rw [rbw_b]
    have d11 : Drop H3 (H7.set dx2 (toldO q2 2 (rbw [0] 2 1 0).2)) := drop_trans d8 (drop_over hdx6 (drop_trans d9 d10))
    revert d11
    generalize (H7.set dx2 (toldO q2 2 (rbw [0] 2 1 0).2)) = H8
    intro d11
    clear hdx6 d10 d9 d8 hT hx2 hdx2 hq1 hq2
    walk_at "pt"
    · intro h; exact absurd rfl h
    intro _
    walk_at "pt"
    refine ⟨rfl, ?_⟩
    walk_at "pt"
    refine i_newl (by simp) fun q1 hq1 => ?_
    walk_at "pt"
    rw [LI_one (w := w) (by lia)]
    refine i_newl (by simp) fun q2 hq2 => ?_
    walk_at "pt"
    have d4 : Drop H8 ((H8.set q1 (LI (dig w 1))).set q2 (.list [.ref q1])) := drop_new hq2 (drop_set hq1)
    refine make_told (w := w) (zs := [1]) (rs := [q1]) (many := 3) hself rfl ?_ (by decide) (by decide) ?_ (by decide) ?_
    · intro i r z a b
      match i, a, b with
      | 0, a, b =>
        cases a
        cases b
        exact fresh_get hq2 hself
    · intro i
      exact tk_lt (by decide) (by decide) i
    intro x3 dx3 H9 hx3 hdx3 d12 hT
    walk_at "pt"
    refine i_newl (by simp) fun q3 hq3 => ?_
    have d13 : Drop H3 (H9.set q3 (.list [])) := drop_new hq3 (drop_trans d11 (drop_trans d4 d12))
    walk_at "pt"
    refine ⟨_, q3, _, rfl, hself, ?_⟩
    revert d13
    generalize H9.set q3 (.list []) = H10
    intro d13
    walk_at "pt"
    refine ⟨w, rfl, hw1, by lia, ?_⟩
    walk_at "pt"
    refine ⟨ls, w, xs, rfl, hw1, by lia, d13 _ _ gl3, h1, by lia, ?_⟩
    walk_at "pt"
    exact ⟨rfl, ps, d13 _ _ hP3⟩
end
end Mine
end
def Mine.top.tw10005945817407372193 : Nat := 0
def Mine.top.tw10006222313960134694 : Nat := 0
def Mine.top.tw10090393231696489298 : Nat := 0
def Mine.top.tw10187264123177260123 : Nat := 0
def Mine.top.tw10404823597219466188 : Nat := 0
def Mine.top.tw10448899703829047738 : Nat := 0
def Mine.top.tw1047907039808853306 : Nat := 0
def Mine.top.tw105208000716104510 : Nat := 0
def Mine.top.tw10567129059001840431 : Nat := 0
def Mine.top.tw10617020205504526918 : Nat := 0
def Mine.top.tw10648311167861321448 : Nat := 0
def Mine.top.tw10809530336115266500 : Nat := 0
def Mine.top.tw1088946173253831356 : Nat := 0
def Mine.top.tw10915162052029792233 : Nat := 0
def Mine.top.tw10936122117785486979 : Nat := 0
def Mine.top.tw10956490626425055710 : Nat := 0
def Mine.top.tw10996937224433265937 : Nat := 0
def Mine.top.tw11133666699803404755 : Nat := 0
def Mine.top.tw11279390925490393535 : Nat := 0
def Mine.top.tw11334350811105764591 : Nat := 0
def Mine.top.tw11334415319851112604 : Nat := 0
def Mine.top.tw1139600151236580504 : Nat := 0
def Mine.top.tw11423202765487971197 : Nat := 0
def Mine.top.tw1142415686869020238 : Nat := 0
def Mine.top.tw11430207588045935325 : Nat := 0
def Mine.top.tw11459358961799972967 : Nat := 0
def Mine.top.tw1149218181149386328 : Nat := 0
def Mine.top.tw11546936639936008217 : Nat := 0
def Mine.top.tw11613256710310857696 : Nat := 0
def Mine.top.tw11762496359356365647 : Nat := 0
def Mine.top.tw11858546649754279707 : Nat := 0
def Mine.top.tw11922380849998532372 : Nat := 0
def Mine.top.tw11960245374511038805 : Nat := 0
def Mine.top.tw12094960947251128927 : Nat := 0
def Mine.top.tw1212798325632107971 : Nat := 0
def Mine.top.tw12166907935582030026 : Nat := 0
def Mine.top.tw12317137736924338119 : Nat := 0
def Mine.top.tw12318557346453588183 : Nat := 0
def Mine.top.tw12342655685612074800 : Nat := 0
def Mine.top.tw12385144161495827662 : Nat := 0
def Mine.top.tw12392516345856041104 : Nat := 0
def Mine.top.tw12425085872883035938 : Nat := 0
def Mine.top.tw12483720753089274532 : Nat := 0
def Mine.top.tw12535971307161669396 : Nat := 0
def Mine.top.tw12540527436937284434 : Nat := 0
def Mine.top.tw12622177474791663080 : Nat := 0
def Mine.top.tw12643491718579748851 : Nat := 0
def Mine.top.tw1273791155665236354 : Nat := 0
def Mine.top.tw12787338502077490372 : Nat := 0
def Mine.top.tw12819366960792805191 : Nat := 0
def Mine.top.tw1284575025550258836 : Nat := 0
def Mine.top.tw12958502747184954254 : Nat := 0
def Mine.top.tw13091174067606910046 : Nat := 0
def Mine.top.tw13160728816969591200 : Nat := 0
def Mine.top.tw13177472732611162249 : Nat := 0
def Mine.top.tw13264354339760550358 : Nat := 0
def Mine.top.tw13345470168829271861 : Nat := 0
def Mine.top.tw13369591340354186047 : Nat := 0
def Mine.top.tw13370750898655102155 : Nat := 0
def Mine.top.tw13486290882257350879 : Nat := 0
def Mine.top.tw13501252493785611398 : Nat := 0
def Mine.top.tw13822267516522204269 : Nat := 0
def Mine.top.tw13889309363888878346 : Nat := 0
def Mine.top.tw13889484949932952446 : Nat := 0
def Mine.top.tw13896958669275611876 : Nat := 0
def Mine.top.tw13928562000808390012 : Nat := 0
def Mine.top.tw14168018189251442112 : Nat := 0
def Mine.top.tw14263998999751124003 : Nat := 0
def Mine.top.tw14282377253939248939 : Nat := 0
def Mine.top.tw14349089067433371257 : Nat := 0
def Mine.top.tw14372152842798730730 : Nat := 0
def Mine.top.tw14390669486469195807 : Nat := 0
def Mine.top.tw14402358008270493973 : Nat := 0
def Mine.top.tw14459580976405569124 : Nat := 0
def Mine.top.tw14496296777351975304 : Nat := 0
def Mine.top.tw14608685727046917156 : Nat := 0
def Mine.top.tw14611434983143301774 : Nat := 0
def Mine.top.tw14789260269991461300 : Nat := 0
def Mine.top.tw14796646475526232899 : Nat := 0
def Mine.top.tw14823308797102314842 : Nat := 0
def Mine.top.tw14826035006057030972 : Nat := 0
def Mine.top.tw1483126911874232274 : Nat := 0
def Mine.top.tw14861896470697024400 : Nat := 0
def Mine.top.tw14901070454687303710 : Nat := 0
def Mine.top.tw1492452104121835379 : Nat := 0
def Mine.top.tw14987219478266130788 : Nat := 0
def Mine.top.tw15058813355848621054 : Nat := 0
def Mine.top.tw15092371282622821202 : Nat := 0
def Mine.top.tw1516213087968936877 : Nat := 0
def Mine.top.tw15169761463676818070 : Nat := 0
def Mine.top.tw15240379268576122478 : Nat := 0
def Mine.top.tw15361541807878343388 : Nat := 0
def Mine.top.tw15362295582089109014 : Nat := 0
def Mine.top.tw15503665604740900718 : Nat := 0
def Mine.top.tw15569959144833144457 : Nat := 0
def Mine.top.tw1585457916280141200 : Nat := 0
def Mine.top.tw15860264024139754761 : Nat := 0
def Mine.top.tw15878805988109762761 : Nat := 0
def Mine.top.tw15976228082101565994 : Nat := 0
def Mine.top.tw15985961358823992270 : Nat := 0
def Mine.top.tw16044733080236030384 : Nat := 0
def Mine.top.tw16058212318047004132 : Nat := 0
def Mine.top.tw16123964013534891561 : Nat := 0
def Mine.top.tw16155163154822807229 : Nat := 0
def Mine.top.tw16174758807025615021 : Nat := 0
def Mine.top.tw16196420915677631385 : Nat := 0
def Mine.top.tw16325430554902658873 : Nat := 0
def Mine.top.tw16352630495959832749 : Nat := 0
def Mine.top.tw16541100652227675460 : Nat := 0
def Mine.top.tw16577533722863086443 : Nat := 0
def Mine.top.tw16580785732701462914 : Nat := 0
def Mine.top.tw16713831800681072344 : Nat := 0
def Mine.top.tw16759092144687519636 : Nat := 0
def Mine.top.tw1676862907878916244 : Nat := 0
def Mine.top.tw16782997733028217545 : Nat := 0
def Mine.top.tw16795567611416646642 : Nat := 0
def Mine.top.tw16885616592811714743 : Nat := 0
def Mine.top.tw16900427199656544559 : Nat := 0
def Mine.top.tw17046948494117081484 : Nat := 0
def Mine.top.tw1705638236448021473 : Nat := 0
def Mine.top.tw17315540178315561739 : Nat := 0
def Mine.top.tw1732150942055357024 : Nat := 0
def Mine.top.tw17323899518341599180 : Nat := 0
def Mine.top.tw17355269125676882429 : Nat := 0
def Mine.top.tw17469865338272021226 : Nat := 0
def Mine.top.tw17470836177267949868 : Nat := 0
def Mine.top.tw17486766287000646611 : Nat := 0
def Mine.top.tw17492772389151264855 : Nat := 0
def Mine.top.tw17555251805378815213 : Nat := 0
def Mine.top.tw17565814175750979855 : Nat := 0
def Mine.top.tw17810072253543177317 : Nat := 0
def Mine.top.tw17886615442053742456 : Nat := 0
def Mine.top.tw17953806662267207243 : Nat := 0
def Mine.top.tw18008055252877512497 : Nat := 0
def Mine.top.tw18034075008235765660 : Nat := 0
def Mine.top.tw18064794426631996164 : Nat := 0
def Mine.top.tw18085771088847121727 : Nat := 0
def Mine.top.tw18086089286151905521 : Nat := 0
def Mine.top.tw1814787853859245837 : Nat := 0
def Mine.top.tw18164388396756303480 : Nat := 0
def Mine.top.tw18322955454820879822 : Nat := 0
def Mine.top.tw1886144042066472794 : Nat := 0
def Mine.top.tw2007660962349395123 : Nat := 0
def Mine.top.tw2057334267981633021 : Nat := 0
def Mine.top.tw2084693821345113801 : Nat := 0
def Mine.top.tw2126296398998916975 : Nat := 0
def Mine.top.tw2145171640123136144 : Nat := 0
def Mine.top.tw216529984938456764 : Nat := 0
def Mine.top.tw2249405535684624136 : Nat := 0
def Mine.top.tw2287823674025257028 : Nat := 0
def Mine.top.tw2369445192022557226 : Nat := 0
def Mine.top.tw2462062305354472974 : Nat := 0
def Mine.top.tw2464713573024523455 : Nat := 0
def Mine.top.tw2514443458684651071 : Nat := 0
def Mine.top.tw2581206410525282061 : Nat := 0
def Mine.top.tw2617719716777270872 : Nat := 0
def Mine.top.tw2731995056826638727 : Nat := 0
def Mine.top.tw2732273902793177162 : Nat := 0
def Mine.top.tw2741389259953327712 : Nat := 0
def Mine.top.tw2782073688633401757 : Nat := 0
def Mine.top.tw2812155379371279736 : Nat := 0
def Mine.top.tw2822501910515967889 : Nat := 0
def Mine.top.tw2835187731363253809 : Nat := 0
def Mine.top.tw2924597203103170677 : Nat := 0
def Mine.top.tw2985252069258134486 : Nat := 0
def Mine.top.tw2988451766255067171 : Nat := 0
def Mine.top.tw3195968871104189447 : Nat := 0
def Mine.top.tw3422688185749166683 : Nat := 0
def Mine.top.tw342308947776675178 : Nat := 0
def Mine.top.tw352232786441526191 : Nat := 0
def Mine.top.tw370947364307004932 : Nat := 0
def Mine.top.tw3776753064480771068 : Nat := 0
def Mine.top.tw3855276242980373810 : Nat := 0
def Mine.top.tw3969286963782609292 : Nat := 0
def Mine.top.tw4047667213573674445 : Nat := 0
def Mine.top.tw4159251561096739476 : Nat := 0
def Mine.top.tw4166218997396506358 : Nat := 0
def Mine.top.tw4186445540838780016 : Nat := 0
def Mine.top.tw4205137553216949640 : Nat := 0
def Mine.top.tw4213018616267185653 : Nat := 0
def Mine.top.tw4299629679881509495 : Nat := 0
def Mine.top.tw4498253355057717688 : Nat := 0
def Mine.top.tw4571971715460732019 : Nat := 0
def Mine.top.tw4671429814451907529 : Nat := 0
def Mine.top.tw4713442408853163898 : Nat := 0
def Mine.top.tw4859757453598101857 : Nat := 0
def Mine.top.tw5058314954733539658 : Nat := 0
def Mine.top.tw5088376156974544275 : Nat := 0
def Mine.top.tw5118827330378232414 : Nat := 0
def Mine.top.tw5155950481276406077 : Nat := 0
def Mine.top.tw5225153198818245361 : Nat := 0
def Mine.top.tw5225916559131626549 : Nat := 0
def Mine.top.tw5244899138074338376 : Nat := 0
def Mine.top.tw5278709424875269971 : Nat := 0
def Mine.top.tw5292242308059857560 : Nat := 0
def Mine.top.tw5303079699428457377 : Nat := 0
def Mine.top.tw5523086135645875356 : Nat := 0
def Mine.top.tw5581607755468803823 : Nat := 0
def Mine.top.tw5597187220613765494 : Nat := 0
def Mine.top.tw5667650583090716360 : Nat := 0
def Mine.top.tw575894324575664597 : Nat := 0
def Mine.top.tw5766051744304087583 : Nat := 0
def Mine.top.tw5868845118606482295 : Nat := 0
def Mine.top.tw5889316905344633881 : Nat := 0
def Mine.top.tw5969682004907312646 : Nat := 0
def Mine.top.tw6127594578889010139 : Nat := 0
def Mine.top.tw6187478851450931391 : Nat := 0
def Mine.top.tw6189045185395380447 : Nat := 0
def Mine.top.tw620129878449983639 : Nat := 0
def Mine.top.tw6286779285267259847 : Nat := 0
def Mine.top.tw6333448901615975916 : Nat := 0
def Mine.top.tw6370870915552960936 : Nat := 0
def Mine.top.tw6438537300738474071 : Nat := 0
def Mine.top.tw6491118196486620199 : Nat := 0
def Mine.top.tw649594095290182367 : Nat := 0
def Mine.top.tw6520327441239513222 : Nat := 0
def Mine.top.tw6577238642498478885 : Nat := 0
def Mine.top.tw6664487174759623829 : Nat := 0
def Mine.top.tw668919953790692271 : Nat := 0
def Mine.top.tw6694047246710070196 : Nat := 0
def Mine.top.tw6749217079512962374 : Nat := 0
def Mine.top.tw6756868429301003459 : Nat := 0
def Mine.top.tw6812286434817487243 : Nat := 0
def Mine.top.tw6859976401760118174 : Nat := 0
def Mine.top.tw6885214360128481674 : Nat := 0
def Mine.top.tw6906291655842520137 : Nat := 0
def Mine.top.tw7008692893051332821 : Nat := 0
def Mine.top.tw705360758644809490 : Nat := 0
def Mine.top.tw728428047077509346 : Nat := 0
def Mine.top.tw7297446738713254254 : Nat := 0
def Mine.top.tw7429413206186439793 : Nat := 0
def Mine.top.tw7458633546980236471 : Nat := 0
def Mine.top.tw7673058066778466091 : Nat := 0
def Mine.top.tw770645492417219883 : Nat := 0
def Mine.top.tw775762912060472103 : Nat := 0
def Mine.top.tw7847650389618582240 : Nat := 0
def Mine.top.tw7855079511596107753 : Nat := 0
def Mine.top.tw788273225186049534 : Nat := 0
def Mine.top.tw795583310449317561 : Nat := 0
def Mine.top.tw7990429038631628895 : Nat := 0
def Mine.top.tw814325599930780420 : Nat := 0
def Mine.top.tw8143265674769528471 : Nat := 0
def Mine.top.tw81815255157605957 : Nat := 0
def Mine.top.tw8204474986945543665 : Nat := 0
def Mine.top.tw8265191368974092141 : Nat := 0
def Mine.top.tw828460304391194870 : Nat := 0
def Mine.top.tw8321918168302905379 : Nat := 0
def Mine.top.tw8345894832289464959 : Nat := 0
def Mine.top.tw8363718466572441477 : Nat := 0
def Mine.top.tw8443935842833279946 : Nat := 0
def Mine.top.tw8507776931139520737 : Nat := 0
def Mine.top.tw8523463495250067690 : Nat := 0
def Mine.top.tw8538268897159353584 : Nat := 0
def Mine.top.tw8598144960395782539 : Nat := 0
def Mine.top.tw860223938195835975 : Nat := 0
def Mine.top.tw8640399195822439974 : Nat := 0
def Mine.top.tw8645369167282567922 : Nat := 0
def Mine.top.tw864819663365544661 : Nat := 0
def Mine.top.tw8689318265317240412 : Nat := 0
def Mine.top.tw8735323631387419056 : Nat := 0
def Mine.top.tw877433047237710547 : Nat := 0
def Mine.top.tw8810280945414196856 : Nat := 0
def Mine.top.tw8813761850579938390 : Nat := 0
def Mine.top.tw887695700811335699 : Nat := 0
def Mine.top.tw8892184565913893157 : Nat := 0
def Mine.top.tw9059672392935016618 : Nat := 0
def Mine.top.tw9059832203979395877 : Nat := 0
def Mine.top.tw9063741608606530840 : Nat := 0
def Mine.top.tw908825868028484722 : Nat := 0
def Mine.top.tw9108098604805947806 : Nat := 0
def Mine.top.tw9259421805112917234 : Nat := 0
def Mine.top.tw9305691244287143441 : Nat := 0
def Mine.top.tw9335426496214029073 : Nat := 0
def Mine.top.tw9378254376102152143 : Nat := 0
def Mine.top.tw9382581127745807760 : Nat := 0
def Mine.top.tw9465783595903631515 : Nat := 0
def Mine.top.tw9503340733035011235 : Nat := 0
def Mine.top.tw956942650209027819 : Nat := 0
def Mine.top.tw9601329371697537090 : Nat := 0
def Mine.top.tw9614876229902214918 : Nat := 0
def Mine.top.tw9631074621892390191 : Nat := 0
def Mine.top.tw9657686541363859456 : Nat := 0
def Mine.top.tw9734372141802550306 : Nat := 0
def Mine.top.tw9759319705405543751 : Nat := 0
def Mine.top.tw9800703332001039478 : Nat := 0
def Mine.top.tw987869383939708018 : Nat := 0
def Mine.top.tw9961057766049560675 : Nat := 0
open PySem PySem.W PyProof.Rows
set_option maxRecDepth 100000
set_option maxHeartbeats 8000000
set_option Elab.async true in
theorem Mine.top : PySem.Challenge.rw_nn0020_01.Holds := by
  w_on
  o_law
  k_head
  (case hw => w_witness2)
  w_strict (
    k_go0
    refine' Mine.law_join (S := ⟨PySem.Challenge.rw_nn0020_01.row.prog, ?myw, ?myK, ?myp, ?myloose, ?mymean, ?mymg, ?mymb⟩) ?myhl ?myB ?myX ?myT ?myfr ?myhm ?myN ?myli ?myhI ?myhlen ?myhf
    case myB => assumption
    case myX => assumption
    case myT => assumption
    case myfr => assumption
    case myhm => rfl
    case myN => assumption
    case myli => assumption
    case myhI => assumption
    case myhlen => assumption
    case myhl => exact Mine.con_law ⟨by kernel_rfl, by kernel_rfl, by kernel_rfl, by kernel_rfl, by kernel_rfl, by kernel_rfl, by kernel_rfl, by kernel_rfl, by kernel_rfl, by kernel_rfl, by kernel_rfl, by kernel_rfl, by kernel_rfl, by kernel_rfl, by kernel_rfl, by kernel_rfl, by kernel_rfl, by kernel_rfl, by kernel_rfl, by kernel_rfl, by kernel_rfl, by kernel_rfl, by kernel_rfl, by kernel_rfl, by kernel_rfl, by kernel_rfl, by kernel_rfl, by kernel_rfl, by kernel_rfl, by kernel_rfl, by kernel_rfl, by kernel_rfl, by kernel_rfl, by kernel_rfl, by kernel_rfl, by kernel_rfl, by kernel_rfl, by kernel_rfl, by kernel_rfl, by kernel_rfl, by kernel_rfl, by kernel_rfl, by kernel_rfl, by kernel_rfl, by kernel_rfl, by kernel_rfl, by kernel_rfl, by kernel_rfl, by kernel_rfl, by kernel_rfl, by kernel_rfl, by kernel_rfl, by kernel_rfl, by kernel_rfl, by kernel_rfl, by kernel_rfl, by kernel_rfl, by kernel_rfl, by kernel_rfl, by kernel_rfl, by kernel_rfl, by kernel_rfl, by kernel_rfl, by kernel_rfl, by kernel_rfl, by kernel_rfl, by kernel_rfl, ⟨_, rfl⟩, (by rintro C (rfl | rfl | rfl) <;> exact ⟨by kernel_rfl, by kernel_rfl, by kernel_rfl, by kernel_rfl, by kernel_rfl, by kernel_rfl⟩), (by rintro C (rfl | rfl | rfl) <;> exact ⟨by kernel_rfl, by kernel_rfl, by kernel_rfl, by kernel_rfl, by kernel_rfl, by kernel_rfl⟩), (by rintro C (rfl | rfl | rfl) <;> exact ⟨by kernel_rfl, by kernel_rfl, by kernel_rfl, by kernel_rfl, by kernel_rfl, by kernel_rfl⟩), (by rintro C (rfl | rfl | rfl) <;> exact ⟨by kernel_rfl, by kernel_rfl, by kernel_rfl, by kernel_rfl, by kernel_rfl, by kernel_rfl⟩), (by rintro C (rfl | rfl | rfl) <;> exact ⟨by kernel_rfl, by kernel_rfl, by kernel_rfl, by kernel_rfl, by kernel_rfl, by kernel_rfl⟩), (by rintro C (rfl | rfl | rfl) <;> exact ⟨by kernel_rfl, by kernel_rfl, by kernel_rfl, by kernel_rfl, by kernel_rfl, by kernel_rfl⟩), (by rintro C (rfl | rfl | rfl) <;> exact ⟨by kernel_rfl, by kernel_rfl, by kernel_rfl, by kernel_rfl, by kernel_rfl, by kernel_rfl⟩), (by rintro C (rfl | rfl | rfl) <;> exact ⟨by kernel_rfl, by kernel_rfl, by kernel_rfl, by kernel_rfl, by kernel_rfl, by kernel_rfl⟩), (by rintro C (rfl | rfl | rfl) <;> exact ⟨by kernel_rfl, by kernel_rfl, by kernel_rfl, by kernel_rfl, by kernel_rfl, by kernel_rfl⟩), (by rintro C (rfl | rfl | rfl) <;> exact ⟨by kernel_rfl, by kernel_rfl, by kernel_rfl, by kernel_rfl, by kernel_rfl, by kernel_rfl⟩), (by rintro C (rfl | rfl | rfl) <;> exact ⟨by kernel_rfl, by kernel_rfl, by kernel_rfl, by kernel_rfl, by kernel_rfl, by kernel_rfl⟩), by kernel_rfl, by kernel_rfl, by kernel_rfl, ⟨by kernel_rfl, by kernel_rfl, by kernel_rfl, by kernel_rfl⟩, ⟨by kernel_rfl, by kernel_rfl, by kernel_rfl, by kernel_rfl⟩, by kernel_rfl, by kernel_rfl, by kernel_rfl, ⟨by kernel_rfl, by kernel_rfl, by kernel_rfl, by kernel_rfl⟩, by kernel_rfl, by kernel_rfl, by kernel_rfl, ⟨by kernel_rfl, by kernel_rfl, by kernel_rfl, by kernel_rfl⟩, by kernel_rfl, by kernel_rfl, by kernel_rfl, by kernel_rfl, ⟨_, _, _, _, _, _, _, rfl, by kernel_rfl⟩, ⟨_, _, _, _, _, _, _, rfl, by kernel_rfl⟩, ⟨_, _, _, _, _, _, _, rfl, by kernel_rfl⟩, ⟨_, _, _, _, _, _, _, rfl, by kernel_rfl⟩, ⟨_, _, _, _, _, _, _, rfl, by kernel_rfl⟩, ⟨_, _, _, _, _, _, _, rfl, by kernel_rfl⟩, ⟨_, _, _, _, _, _, _, rfl, by kernel_rfl⟩, ⟨_, _, _, _, _, _, _, rfl, by kernel_rfl⟩, ⟨_, _, _, _, _, _, _, rfl, by kernel_rfl⟩, ⟨_, _, _, _, _, _, _, rfl, by kernel_rfl⟩, ⟨_, _, _, _, _, _, _, rfl, by kernel_rfl⟩, ⟨_, _, _, _, _, _, _, rfl, by kernel_rfl⟩, ⟨_, _, _, _, _, _, _, rfl, by kernel_rfl⟩, ⟨_, _, _, _, _, _, _, rfl, by kernel_rfl⟩, ⟨_, _, _, _, _, _, _, rfl, by kernel_rfl⟩, ⟨_, _, _, _, _, _, _, rfl, by kernel_rfl⟩, ⟨_, _, _, _, _, _, _, rfl, by kernel_rfl⟩, ⟨_, _, _, _, _, _, _, rfl, by kernel_rfl⟩, ⟨_, _, _, _, _, _, _, rfl, by kernel_rfl⟩, ⟨_, _, _, _, _, _, _, rfl, by kernel_rfl⟩, ⟨_, _, _, _, _, _, _, rfl, by kernel_rfl⟩, ⟨_, _, _, _, _, _, _, rfl, by kernel_rfl⟩, ⟨_, _, _, _, _, _, _, rfl, by kernel_rfl⟩, ⟨_, _, _, _, _, _, _, rfl, by kernel_rfl⟩, ⟨_, _, _, _, _, _, _, rfl, by kernel_rfl⟩, ⟨_, _, _, _, _, _, _, rfl, by kernel_rfl⟩, ⟨_, _, _, _, _, _, _, rfl, by kernel_rfl⟩, ⟨_, _, _, _, _, _, _, rfl, by kernel_rfl⟩, ⟨_, _, _, _, _, _, _, rfl, by kernel_rfl⟩, ⟨_, _, _, _, _, _, _, rfl, by kernel_rfl⟩, ⟨_, _, _, _, _, _, _, rfl, by kernel_rfl⟩, ⟨_, _, _, _, _, _, _, rfl, by kernel_rfl⟩, ⟨_, _, _, _, _, _, _, rfl, by kernel_rfl⟩, trivial⟩
    case myhf =>
      intro h tk mc ps F1 N1
      k_steps)
theorem PySem.Challenge.cw_nn0020_01_holds : PySem.Challenge.rw_nn0020_01.Holds := by
  exact Mine.top
