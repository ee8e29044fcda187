import PyProof.Rows.All
import Wide.All
import OpenK.AllK
import Wide.FinOn
import HandS.ForMost
import HandS.ForExc
import HandS.Evl
import HandS.Nested
import HandS.Deep
import HandS.TupSets
import HandS.TupAny
import HandS.NoneIn
import KE.SortKeyHeap
import PySem.Challenge.RW_piecetrees_k48_whole_twisted_fours_and_f
import HandS.Zip0
import PyProof.Draws
import PyProof.EnumMake
import HandS.Conv
import PyProof.Rows.InDataRows
import KE.KSortKey
import HandS.Iter
import HandS.ExcValue
import HandS.Dict
import HandS.IsInst
import HandS.Style
import PyProof.ReprRoads
import PyProof.ReprBulk
import PyProof.Rows.ReprShort
import OpenK.KMore
import HandS.ExcIs
import HandS.Head0
import HandS.Head1
import HandS.Head2
import HandS.HeadEnd
import HandS.HeadHook1
import HandS.HeadHook2
import HandS.HeadHook3
import HandS.HeadHook4
import HandS.HeadWalk
import HandS.EndTab
set_option Elab.async false
set_option autoImplicit false
set_option linter.all false
set_option maxRecDepth 100000
set_option maxHeartbeats 4000000
/-! Layer A: tuple data over the abstract heap, canonical readings, shapes of slots. -/
namespace Pt
open PySem PySem.Spec PyProof.Rows L2
abbrev NTab := NdefX.NTab
abbrev TabsN := NdefX.TabsN
/-! ### tuple data -/
mutual
/-- v is, in H, the datum d (no lists within) -/
inductive Tp (H : Hp) : V → PyData → Prop
  | non : Tp H .non .none
  | bl (b : Bool) : Tp H (.bl b) (.bool b)
  | int (i : Int) : Tp H (.int i) (.int i)
  | str (x : Str) : Tp H (.str x) (.str x)
  | tup {a : Addr} {xs : List V} {ds : List PyData} : H a = some (.tup xs) → TpAll H xs ds → Tp H (.ref a) (.tuple ds)
inductive TpAll (H : Hp) : List V → List PyData → Prop
  | nil : TpAll H [] []
  | cons {v : V} {vs : List V} {d : PyData} {ds : List PyData} : Tp H v d → TpAll H vs ds → TpAll H (v :: vs) (d :: ds)
end
/-- the tuples stay -/
def Tx (H H' : Hp) : Prop := ∀ a xs, H a = some (.tup xs) → H' a = some (.tup xs)
theorem Tx.refl (H : Hp) : Tx H H := fun _ _ h => h
theorem Tx.trans {H H1 H2 : Hp} (a : Tx H H1) (b : Tx H1 H2) : Tx H H2 := fun c xs h => b c xs (a c xs h)
mutual
theorem Tp.mono {H H' : Hp} (t : Tx H H') : ∀ {v : V} {d : PyData}, Tp H v d → Tp H' v d
  | _, _, .non => .non
  | _, _, .bl b => .bl b
  | _, _, .int i => .int i
  | _, _, .str x => .str x
  | _, _, .tup h r => .tup (t _ _ h) (TpAll.mono t r)
theorem TpAll.mono {H H' : Hp} (t : Tx H H') : ∀ {vs : List V} {ds : List PyData}, TpAll H vs ds → TpAll H' vs ds
  | _, _, .nil => .nil
  | _, _, .cons h r => .cons (Tp.mono t h) (TpAll.mono t r)
end
section
variable {H : Hp} {v : V} {d : PyData} {vs : List V} {ds : List PyData}
theorem Tp.inv_int {i : Int} (h : Tp H v (.int i)) : v = .int i := by cases h; rfl
theorem Tp.inv_bl {b : Bool} (h : Tp H v (.bool b)) : v = .bl b := by cases h; rfl
theorem Tp.inv_str {x : Str} (h : Tp H v (.str x)) : v = .str x := by cases h; rfl
theorem Tp.inv_non (h : Tp H v .none) : v = .non := by cases h; rfl
theorem Tp.inv_tup (h : Tp H v (.tuple ds)) : ∃ a xs, v = .ref a ∧ H a = some (.tup xs) ∧ TpAll H xs ds := by
  cases h with
  | tup h1 h2 => exact ⟨_, _, rfl, h1, h2⟩
theorem TpAll.len : ∀ {vs : List V} {ds : List PyData}, TpAll H vs ds → vs.length = ds.length
  | _, _, .nil => rfl
  | _, _, .cons _ t => congrArg (· + 1) (TpAll.len t)
theorem TpAll.get : ∀ {vs : List V} {ds : List PyData} {i : Nat} {d : PyData}, TpAll H vs ds → ds[i]? = some d → ∃ x, vs[i]? = some x ∧ Tp H x d
  | _, _, _, _, .nil, e => by simp at e
  | _, _, 0, _, .cons a0 _, at0 => by simp at at0; subst at0; exact ⟨_, rfl, a0⟩
  | _, _, i + 1, _, .cons _ t, e => by
    obtain ⟨u, h1, h2⟩ := TpAll.get (i := i) t (by simpa using e)
    exact ⟨u, by simpa using h1, h2⟩
theorem TpAll.getV : ∀ {vs : List V} {ds : List PyData} {i : Nat} {x : V}, TpAll H vs ds → vs[i]? = some x → ∃ d, ds[i]? = some d ∧ Tp H x d
  | _, _, _, _, .nil, e => by simp at e
  | _, _, 0, _, .cons a0 _, at0 => by simp at at0; subst at0; exact ⟨_, rfl, a0⟩
  | _, _, i + 1, _, .cons _ t, e => by
    obtain ⟨u, h1, h2⟩ := TpAll.getV (i := i) t (by simpa using e)
    exact ⟨u, by simpa using h1, h2⟩
theorem TpAll.append : ∀ {vs ws : List V} {ds es : List PyData}, TpAll H vs ds → TpAll H ws es → TpAll H (vs ++ ws) (ds ++ es)
  | _, _, _, _, .nil, s => s
  | _, _, _, _, .cons r t, s => .cons r (TpAll.append t s)
theorem TpAll.take : ∀ {vs : List V} {ds : List PyData} (n : Nat), TpAll H vs ds → TpAll H (vs.take n) (ds.take n)
  | _, _, 0, _ => .nil
  | _, _, _ + 1, .nil => .nil
  | _, _, n + 1, .cons r t => .cons r (TpAll.take n t)
theorem TpAll.drop : ∀ {vs : List V} {ds : List PyData} (n : Nat), TpAll H vs ds → TpAll H (vs.drop n) (ds.drop n)
  | _, _, 0, r => r
  | _, _, _ + 1, .nil => .nil
  | _, _, n + 1, .cons _ t => TpAll.drop n t
theorem TpAll.one (h : Tp H v d) : TpAll H [v] [d] := .cons h .nil
theorem TpAll.set : ∀ {vs : List V} {ds : List PyData} (i : Nat), TpAll H vs ds → Tp H v d → TpAll H (vs.set i v) (ds.set i d)
  | _, _, _, .nil, _ => .nil
  | _, _, 0, .cons _ t, h => .cons h t
  | _, _, i + 1, .cons r t, h => .cons r (TpAll.set i t h)
theorem TpAll.reverse : ∀ {vs : List V} {ds : List PyData}, TpAll H vs ds → TpAll H vs.reverse ds.reverse
  | _, _, .nil => .nil
  | _, _, .cons r t => by
    rw [List.reverse_cons, List.reverse_cons]
    exact TpAll.append (TpAll.reverse t) (.one r)
theorem TpAll.ints : ∀ {vs : List V} {l : List Int}, TpAll H vs (l.map .int) → vs = l.map V.int
  | [], [], _ => rfl
  | _ :: _, [], h => by cases h
  | [], _ :: _, h => by cases h
  | v :: vs, i :: l, h => by
    have h' : TpAll H (v :: vs) (.int i :: l.map .int) := h
    cases h' with
    | cons a b => rw [a.inv_int, TpAll.ints b]; rfl
theorem tpAll_ints : ∀ (l : List Int), TpAll H (l.map V.int) (l.map .int)
  | [] => .nil
  | i :: l => .cons (.int i) (tpAll_ints l)
theorem TpAll.bools : ∀ {vs : List V} {l : List Bool}, TpAll H vs (l.map .bool) → vs = l.map V.bl
  | [], [], _ => rfl
  | _ :: _, [], h => by cases h
  | [], _ :: _, h => by cases h
  | v :: vs, i :: l, h => by
    have h' : TpAll H (v :: vs) (.bool i :: l.map .bool) := h
    cases h' with
    | cons a b => rw [a.inv_bl, TpAll.bools b]; rfl
end
mutual
theorem Tp.dp {K : PySem.W.Frag} {H : Hp} : ∀ {v : V} {d : PyData}, Tp H v d → Dp K H v d
  | _, _, .non => .non
  | _, _, .bl b => .bl b
  | _, _, .int i => .int i
  | _, _, .str x => .str x
  | _, _, .tup h r => .tup (.inl (.inl h)) (TpAll.dp r)
theorem TpAll.dp {K : PySem.W.Frag} {H : Hp} : ∀ {vs : List V} {ds : List PyData}, TpAll H vs ds → DpAll K H vs ds
  | _, _, .nil => .nil
  | _, _, .cons h r => .cons (Tp.dp h) (TpAll.dp r)
end
/-! ### what is kept -/
structure Ext (T : List NTab) (H H' : Hp) : Prop where
  keep : ∀ a o, H a = some o → (∀ ps, o ≠ .tbl ps) → H' a = some o
  free : ∀ a, H' a = none → H a = none
  tabs : TabsN T H → TabsN T H'
section
variable {T : List NTab} {H H1 H2 H' : Hp}
theorem Ext.refl (H : Hp) : Ext T H H := ⟨fun _ _ h _ => h, fun _ h => h, fun h => h⟩
theorem Ext.trans (a : Ext T H H1) (b : Ext T H1 H2) : Ext T H H2 := ⟨fun c o h n => b.keep c o (a.keep c o h n) n, fun c h => a.free c (b.free c h), fun h => b.tabs (a.tabs h)⟩
theorem Ext.tx (e : Ext T H H') : Tx H H' := fun a xs h => e.keep a _ h (fun _ z => by cases z)
theorem Ext.lst (e : Ext T H H') {p : Addr} {vs : List V} (h : H p = some (.lst vs)) : H' p = some (.lst vs) := e.keep p _ h (fun _ z => by cases z)
theorem upd_some {a p : Addr} {o : HO} (h : upd H p o a = none) : H a = none ∧ a ≠ p := by
  by_cases e : a = p
  · subst e; rw [upd_same] at h; cases h
  · rw [upd_ne e] at h; exact ⟨h, e⟩
theorem Ext.new {p : Addr} {o : HO} (h : H p = none) : Ext T H (upd H p o) :=
  ⟨fun a u e _ => by rw [upd_ne (ne_of_none e h)]; exact e, fun a e => (upd_some e).1, fun t => t.ext fun a u e => by rw [upd_ne (ne_of_none e h)]; exact e⟩
/-- an object that the base does not know may change -/
theorem tabs_mut {p : Addr} {o u : HO} (t : TabsN T H) (hp : H p = some u) (h1 : ∀ ps, u ≠ .tbl ps) (h2 : ∀ φ, u ≠ .ext φ) : TabsN T (upd H p o) := by
  refine fun q hq => ?_
  obtain ⟨ps, a1, a2, a3⟩ := t q hq
  have e1 : q.1 ≠ p := fun z => by
    rw [z, hp] at a1
    exact h1 _ (Option.some.inj a1)
  refine ⟨ps, by rw [upd_ne e1]; exact a1, a2, fun pos cv hc => ?_⟩
  obtain ⟨c, e, h4⟩ := a3 pos cv hc
  have e2 : c ≠ p := fun z => by
    rw [z, hp] at h4
    exact h2 _ (Option.some.inj h4)
  exact ⟨c, e, by rw [upd_ne e2]; exact h4⟩
theorem Ext.mutO {p : Addr} {o u : HO} (e : Ext T H H') (h : H p = none) (hp : H' p = some u) (h1 : ∀ ps, u ≠ .tbl ps) (h2 : ∀ φ, u ≠ .ext φ) : Ext T H (upd H' p o) := by
  refine ⟨fun a w ha n => ?_, fun a ha => e.free a (upd_some ha).1, fun t => tabs_mut (e.tabs t) hp h1 h2⟩
  rw [upd_ne (ne_of_none ha h)]
  exact e.keep a w ha n
theorem Ext.mut {p : Addr} {o : HO} {vs : List V} (e : Ext T H H') (h : H p = none) (hp : H' p = some (.lst vs)) : Ext T H (upd H' p o) := e.mutO h hp (fun _ z => by cases z) (fun _ z => by cases z)
theorem Tx.mut {p : Addr} {o : HO} {vs : List V} (hp : H p = some (.lst vs)) : Tx H (upd H p o) := fun a xs h => by
  rw [upd_ne (ne_of h hp (fun z => by cases z))]
  exact h
end
/-! ### the canonical readings -/
section
variable {X : Cx}
def wE (X : Cx) (e : Expr) : TE := fun σ H Q => ∀ pins s, Inv X pins σ H s → wpAny (model X.prog X.w) X.A (eval e X.env) (EP X pins σ Q) X.xe s
def wT (X : Cx) (e : Expr) : TT := fun σ H Q => ∀ pins s, Inv X pins σ H s → wpAny (model X.prog X.w) X.A (isTrue e X.env (eval e X.env)) (TP X pins σ Q) X.xe s
def wW (X : Cx) (e : Expr) : TT := fun σ H Q => ∀ whole pins s, Inv X pins σ H s → wpAny (model X.prog X.w) X.A (isTrue e X.env whole) (TP X pins σ Q) X.xe s
def wA (X : Cx) (es : List Expr) : TA := fun σ H Q => ∀ pos pins s, Inv X pins σ H s → wpAny (model X.prog X.w) X.A (spliced (backTo pos (starEach es X.env))) (AP X pins σ Q) X.xe s
def wS (X : Cx) (st : Stmt) : TS := fun D σ H => ∀ pins s, Inv X pins σ H s → wpAny (model X.prog X.w) X.A (exec st X.env) (SP X pins D) X.xe s
def wSs (X : Cx) (st : List Stmt) : TS := fun D σ H => ∀ pins s, Inv X pins σ H s → wpAny (model X.prog X.w) X.A (execs st X.env) (SP X pins D) X.xe s
def wTs (X : Cx) (ifs : List Expr) : TT := fun σ H Q => ∀ pins s, Inv X pins σ H s →
  wpAny (model X.prog X.w) X.A (forIn ifs true fun g b => if b = true then do let now ← isTrue g X.env (eval g X.env); pure (ForInStep.yield now) else pure (ForInStep.yield b)) (TP X pins σ Q) X.xe s
theorem pe_w {e : Expr} : PE X e (wE X e) := ⟨fun pins s _ _ _ I h => h pins s I⟩
theorem pt_w {e : Expr} : PT X e (wT X e) := ⟨fun pins s _ _ _ I h => h pins s I⟩
theorem pw_w {e : Expr} : PW X e (wW X e) := ⟨fun wh pins s _ _ _ I h => h wh pins s I⟩
theorem pa_w {es : List Expr} : PA X es (wA X es) := ⟨fun pos pins s _ _ _ I h => h pos pins s I⟩
theorem ps_w {st : Stmt} : PS X st (wS X st) := ⟨fun pins s _ _ _ I h => h pins s I⟩
theorem pss_w {st : List Stmt} : PSs X st (wSs X st) := ⟨fun pins s _ _ _ I h => h pins s I⟩
theorem pts_w {ifs : List Expr} : PTs X ifs (wTs X ifs) := ⟨fun pins s _ _ _ I h => h pins s I⟩
variable {σ : L2.St} {H : Hp}
theorem leE {e : Expr} {t : TE} {Q : VK} (h : PE X e t) (q : t σ H Q) : wE X e σ H Q := fun pins s I => h.run pins s σ H Q I q
theorem leT {e : Expr} {t : TT} {Q : Bool → Hp → Prop} (h : PT X e t) (q : t σ H Q) : wT X e σ H Q := fun pins s I => h.run pins s σ H Q I q
theorem leW {e : Expr} {t : TT} {Q : Bool → Hp → Prop} (h : PW X e t) (q : t σ H Q) : wW X e σ H Q := fun wh pins s I => h.run wh pins s σ H Q I q
theorem leA {es : List Expr} {t : TA} {Q : List V → Hp → Prop} (h : PA X es t) (q : t σ H Q) : wA X es σ H Q := fun pos pins s I => h.run pos pins s σ H Q I q
theorem leS {st : Stmt} {t : TS} {D : Ends} (h : PS X st t) (q : t D σ H) : wS X st D σ H := fun pins s I => h.run pins s σ H D I q
theorem leSs {st : List Stmt} {t : TS} {D : Ends} (h : PSs X st t) (q : t D σ H) : wSs X st D σ H := fun pins s I => h.run pins s σ H D I q
theorem leTs {ifs : List Expr} {t : TT} {Q : Bool → Hp → Prop} (h : PTs X ifs t) (q : t σ H Q) : wTs X ifs σ H Q := fun pins s I => h.run pins s σ H Q I q
theorem wT_of_wW {e : Expr} {Q : Bool → Hp → Prop} (h : wW X e σ H Q) : wT X e σ H Q := h _
theorem wE.mono {e : Expr} {Q Q' : VK} (h : wE X e σ H Q) (q : ∀ v H', Q v H' → Q' v H') : wE X e σ H Q' := fun pins s I =>
  thn (h pins s I) fun _ _ ⟨v, H', a, b, c⟩ => ⟨v, H', a, b, q v H' c⟩
theorem wT.mono {e : Expr} {Q Q' : Bool → Hp → Prop} (h : wT X e σ H Q) (q : ∀ v H', Q v H' → Q' v H') : wT X e σ H Q' := fun pins s I =>
  thn (h pins s I) fun _ _ ⟨H', a, c⟩ => ⟨H', a, q _ H' c⟩
theorem sp_mono {pins : List (Addr × Obj)} {D D' : Ends} (h1 : ∀ σ H, D.nx σ H → D'.nx σ H) (h2 : ∀ v H, D.rt v H → D'.rt v H) (h3 : ∀ σ H, D.bk σ H → D'.bk σ H) (h4 : ∀ σ H, D.ct σ H → D'.ct σ H) {f : Flow} {s : Shared} (h : SP X pins D f s) : SP X pins D' f s := by
  cases f with
  | next => obtain ⟨σ', H', a, b⟩ := h; exact ⟨σ', H', a, h1 _ _ b⟩
  | brk => obtain ⟨σ', H', a, b⟩ := h; exact ⟨σ', H', a, h3 _ _ b⟩
  | cont => obtain ⟨σ', H', a, b⟩ := h; exact ⟨σ', H', a, h4 _ _ b⟩
  | ret u => obtain ⟨v, σ', H', a, r, b⟩ := h; exact ⟨v, σ', H', a, r, h2 _ _ b⟩
theorem wS.mono {st : Stmt} {D D' : Ends} (h : wS X st D σ H) (h1 : ∀ σ H, D.nx σ H → D'.nx σ H) (h2 : ∀ v H, D.rt v H → D'.rt v H) (h3 : ∀ σ H, D.bk σ H → D'.bk σ H) (h4 : ∀ σ H, D.ct σ H → D'.ct σ H) : wS X st D' σ H := fun pins s I =>
  thn (h pins s I) fun _ _ q => sp_mono h1 h2 h3 h4 q
theorem wSs.mono {st : List Stmt} {D D' : Ends} (h : wSs X st D σ H) (h1 : ∀ σ H, D.nx σ H → D'.nx σ H) (h2 : ∀ v H, D.rt v H → D'.rt v H) (h3 : ∀ σ H, D.bk σ H → D'.bk σ H) (h4 : ∀ σ H, D.ct σ H → D'.ct σ H) : wSs X st D' σ H := fun pins s I =>
  thn (h pins s I) fun _ _ q => sp_mono h1 h2 h3 h4 q
end
/-! ### a well of numbers: what stands in it is untold -/
def WellO (p a0 a1 : Addr) : HO := .ext fun h => ∃ (c s : Nat) (t u : Tok) (n : Nat), h.get? p = some { cls := .type "list", data := .seq #[.ref a0, .ref a1, .int (c : Int) t, .int (s : Int) u] n }
def NumsO (a : Addr) (ne : Bool) : HO := .ext fun h => ∃ (ns : List Nat) (its : List Value) (n : Nat), Vals (ns.map fun (k : Nat) => V.int (k : Int)) its ∧ ns.length ≤ 200 ∧ (ne = true → ns ≠ []) ∧ h.get? a = some { cls := .type "list", data := .seq its.toArray n }
def WellAt (H : Hp) (p : Addr) : Prop := ∃ a0 a1, H p = some (WellO p a0 a1) ∧ H a0 = some (NumsO a0 false) ∧ H a1 = some (NumsO a1 true) ∧ p ≠ a0 ∧ p ≠ a1 ∧ a0 ≠ a1
theorem WellAt.ext {T : List NTab} {H H' : Hp} {p : Addr} (h : WellAt H p) (e : Ext T H H') : WellAt H' p := by
  obtain ⟨a0, a1, h1, h2, h3, h4⟩ := h
  exact ⟨a0, a1, e.keep _ _ h1 (fun _ z => by unfold WellO at z; cases z), e.keep _ _ h2 (fun _ z => by unfold NumsO at z; cases z), e.keep _ _ h3 (fun _ z => by unfold NumsO at z; cases z), h4⟩
theorem WellAt.mut {H : Hp} {p q : Addr} {o u : HO} (h : WellAt H q) (hp : H p = some u) (hu : ∀ φ, u ≠ .ext φ) : WellAt (upd H p o) q := by
  obtain ⟨a0, a1, h1, h2, h3, h4⟩ := h
  refine ⟨a0, a1, ?_, ?_, ?_, h4⟩
  · rw [upd_ne (ne_of h1 hp fun z => hu _ (by rw [← z]; rfl))]; exact h1
  · rw [upd_ne (ne_of h2 hp fun z => hu _ (by rw [← z]; rfl))]; exact h2
  · rw [upd_ne (ne_of h3 hp fun z => hu _ (by rw [← z]; rfl))]; exact h3
/-! ### shapes of slots -/
inductive Sh where
  /-- anything -/
  | any
  /-- the datum -/
  | d (x : PyData)
  /-- an own list of data, standing apart -/
  | l (xs : List PyData)
  /-- a frozen list of data, read only -/
  | r (xs : List PyData)
  /-- an own list of frozen lists -/
  | ll (xss : List (List PyData))
  /-- an own dict with tuple keys -/
  | t (kvs : List (List Key × V))
  /-- a well of numbers, its contents untold -/
  | wl
inductive RS where
  | d (x : PyData)
  /-- a new list -/
  | n (xs : List PyData)
  /-- a list to be read -/
  | q (xs : List PyData)
  /-- a frozen list -/
  | p (xs : List PyData)
  /-- a tuple: data, then a new list -/
  | w (ds xs : List PyData)
  /-- a well of numbers -/
  | wl
/-- frozen lists -/
abbrev Pins := List (Addr × List V)
def LsAt (H : Hp) (p : Addr) (xs : List PyData) : Prop := ∃ vs, H p = some (.lst vs) ∧ TpAll H vs xs
theorem LsAt.ext {T : List NTab} {H H' : Hp} {p : Addr} {xs : List PyData} (h : LsAt H p xs) (e : Ext T H H') : LsAt H' p xs := by
  obtain ⟨vs, a, b⟩ := h
  exact ⟨vs, e.lst a, b.mono e.tx⟩
/-- v is a frozen list -/
def PinAt (Θ : Pins) (H : Hp) (v : V) (xs : List PyData) : Prop := ∃ p vs, v = .ref p ∧ (p, vs) ∈ Θ ∧ TpAll H vs xs
theorem PinAt.tx {Θ : Pins} {H H' : Hp} {v : V} {xs : List PyData} (h : PinAt Θ H v xs) (e : Tx H H') : PinAt Θ H' v xs := by
  obtain ⟨p, vs, a, b, c⟩ := h
  exact ⟨p, vs, a, b, c.mono e⟩
theorem PinAt.sub {Θ Θ' : Pins} {H : Hp} {v : V} {xs : List PyData} (h : PinAt Θ H v xs) (e : ∀ q ∈ Θ, q ∈ Θ') : PinAt Θ' H v xs := by
  obtain ⟨p, vs, a, b, c⟩ := h
  exact ⟨p, vs, a, e _ b, c⟩
theorem Paired.mapQ {α β : Type} {F G : α → β → Prop} : ∀ {l₁ : List α} {l₂ : List β}, Paired F l₁ l₂ → (∀ a b, F a b → G a b) → Paired G l₁ l₂
  | _, _, .nil, _ => .nil
  | _, _, .cons r t, f => .cons (f _ _ r) (Paired.mapQ t f)
def Sat (H0 : Hp) (Θ : Pins) (H : Hp) : Option V → Sh → Prop
  | _, .any => True
  | o, .d x => ∃ v, o = some v ∧ Tp H v x
  | o, .l xs => ∃ p, o = some (.ref p) ∧ H0 p = none ∧ LsAt H p xs
  | o, .r xs => ∃ v, o = some v ∧ PinAt Θ H v xs
  | o, .ll xss => ∃ p vs, o = some (.ref p) ∧ H0 p = none ∧ H p = some (.lst vs) ∧ Paired (PinAt Θ H) vs xss
  | o, .t kvs => ∃ p, o = some (.ref p) ∧ H0 p = none ∧ H p = some (.dT kvs)
  | o, .wl => ∃ p, o = some (.ref p) ∧ WellAt H p
/-- what the slot holds is changed in place -/
def Sh.own : Sh → Bool
  | .l _ => true
  | .ll _ => true
  | .t _ => true
  | _ => false
def IsL (Γ : List Sh) (i : Nat) : Prop := ∃ s, Γ[i]? = some s ∧ s.own = true
theorem isL_set {Γ : List Sh} {i j : Nat} {s : Sh} (h : IsL (Γ.set i s) j) : (i = j ∧ s.own = true) ∨ (i ≠ j ∧ IsL Γ j) := by
  obtain ⟨u, h, w⟩ := h
  by_cases e : i = j
  · subst e
    have hi : i < Γ.length := by
      have := (List.getElem?_eq_some_iff.mp h).1
      rwa [List.length_set] at this
    rw [List.getElem?_set_self hi] at h
    cases h
    exact .inl ⟨rfl, w⟩
  · rw [List.getElem?_set_ne e] at h
    exact .inr ⟨e, u, h, w⟩
structure Ok (T : List NTab) (H0 : Hp) (Θ : Pins) (Γ : List Sh) (σ : L2.St) (H : Hp) : Prop where
  ext : Ext T H0 H
  tabs : TabsN T H
  len : σ.length = Γ.length
  pins : ∀ q ∈ Θ, H q.1 = some (.lst q.2)
  sat : ∀ (i : Nat) (o : Option V) (s : Sh), σ[i]? = some o → Γ[i]? = some s → Sat H0 Θ H o s
  sep : ∀ (i j : Nat) (p : Addr), IsL Γ i → IsL Γ j → σ[i]? = some (some (.ref p)) → σ[j]? = some (some (.ref p)) → i = j
  sepP : ∀ (i : Nat) (p : Addr) (vs : List V), IsL Γ i → σ[i]? = some (some (.ref p)) → (p, vs) ∉ Θ
def RsOk (Θ : Pins) (H H2 : Hp) : RS → V → Prop
  | .d x, v => Tp H2 v x
  | .n xs, v => ∃ p, v = .ref p ∧ H p = none ∧ LsAt H2 p xs
  | .q xs, v => ∃ p, v = .ref p ∧ LsAt H2 p xs
  | .p xs, v => PinAt Θ H2 v xs
  | .wl, v => ∃ p, v = .ref p ∧ WellAt H2 p
  | .w ds xs, v => ∃ t vs p, v = .ref t ∧ H2 t = some (.tup (vs ++ [V.ref p])) ∧ TpAll H2 vs ds ∧ H p = none ∧ LsAt H2 p xs
section
variable {T : List NTab} {H0 H H1 H2 : Hp} {Θ Θ' : Pins} {Γ : List Sh} {σ : L2.St}
theorem Sat.ext {o : Option V} {s : Sh} (h : Sat H0 Θ H o s) (e : Ext T H H1) : Sat H0 Θ H1 o s := by
  cases s with
  | any => trivial
  | d x => obtain ⟨v, a, b⟩ := h; exact ⟨v, a, b.mono e.tx⟩
  | l xs => obtain ⟨p, a, b, c⟩ := h; exact ⟨p, a, b, c.ext e⟩
  | r xs => obtain ⟨v, a, b⟩ := h; exact ⟨v, a, b.tx e.tx⟩
  | ll xss => obtain ⟨p, vs, a, b, c, d⟩ := h; exact ⟨p, vs, a, b, e.lst c, Paired.mapQ d fun _ _ z => z.tx e.tx⟩
  | t kvs => obtain ⟨p, a, b, c⟩ := h; exact ⟨p, a, b, e.keep _ _ c (fun _ z => by cases z)⟩
  | wl => obtain ⟨p, a, b⟩ := h; exact ⟨p, a, b.ext e⟩
theorem Ok.mono (k : Ok T H0 Θ Γ σ H) (e : Ext T H H1) : Ok T H0 Θ Γ σ H1 :=
  ⟨k.ext.trans e, e.tabs k.tabs, k.len, fun q hq => e.lst (k.pins q hq), fun i o s a b => (k.sat i o s a b).ext e, k.sep, k.sepP⟩
theorem RsOk.ext {r : RS} {v : V} (h : RsOk Θ H H1 r v) (e : Ext T H1 H2) : RsOk Θ H H2 r v := by
  cases r with
  | d x => exact Tp.mono e.tx h
  | n xs => obtain ⟨p, a, b, c⟩ := h; exact ⟨p, a, b, c.ext e⟩
  | q xs => obtain ⟨p, a, c⟩ := h; exact ⟨p, a, c.ext e⟩
  | p xs => exact PinAt.tx h e.tx
  | w ds xs => obtain ⟨t, vs, p, a, b, c, d, f⟩ := h; exact ⟨t, vs, p, a, e.tx _ _ b, c.mono e.tx, d, f.ext e⟩
  | wl => obtain ⟨p, a, b⟩ := h; exact ⟨p, a, b.ext e⟩
theorem RsOk.back {r : RS} {v : V} (h : RsOk Θ H1 H2 r v) (e : Ext T H H1) : RsOk Θ H H2 r v := by
  cases r with
  | d x => exact h
  | n xs => obtain ⟨p, a, b, c⟩ := h; exact ⟨p, a, e.free _ b, c⟩
  | q xs => exact h
  | p xs => exact h
  | w ds xs => obtain ⟨t, vs, p, a, b, c, d, f⟩ := h; exact ⟨t, vs, p, a, b, c, e.free _ d, f⟩
  | wl => exact h
theorem Ok.slot (k : Ok T H0 Θ Γ σ H) {i : Nat} {s : Sh} (h : Γ[i]? = some s) : ∃ o, σ[i]? = some o ∧ Sat H0 Θ H o s := by
  have hi : i < σ.length := by
    rw [k.len]
    exact (List.getElem?_eq_some_iff.mp h).1
  exact ⟨σ[i], List.getElem?_eq_getElem hi, k.sat i _ s (List.getElem?_eq_getElem hi) h⟩
theorem Ok.dat (k : Ok T H0 Θ Γ σ H) {i : Nat} {x : PyData} (h : Γ[i]? = some (.d x)) : ∃ v, σ[i]? = some (some v) ∧ Tp H v x := by
  obtain ⟨o, a, v, b, c⟩ := k.slot h
  subst b
  exact ⟨v, a, c⟩
theorem Ok.own (k : Ok T H0 Θ Γ σ H) {i : Nat} {xs : List PyData} (h : Γ[i]? = some (.l xs)) : ∃ p, σ[i]? = some (some (.ref p)) ∧ H0 p = none ∧ LsAt H p xs := by
  obtain ⟨o, a, p, b, c, d⟩ := k.slot h
  subst b
  exact ⟨p, a, c, d⟩
theorem Ok.own2 (k : Ok T H0 Θ Γ σ H) {i : Nat} {xss : List (List PyData)} (h : Γ[i]? = some (.ll xss)) : ∃ p vs, σ[i]? = some (some (.ref p)) ∧ H0 p = none ∧ H p = some (.lst vs) ∧ Paired (PinAt Θ H) vs xss := by
  obtain ⟨o, a, p, vs, b, c, d, e⟩ := k.slot h
  subst b
  exact ⟨p, vs, a, c, d, e⟩
theorem Ok.tab (k : Ok T H0 Θ Γ σ H) {i : Nat} {kvs : List (List Key × V)} (h : Γ[i]? = some (.t kvs)) : ∃ p, σ[i]? = some (some (.ref p)) ∧ H0 p = none ∧ H p = some (.dT kvs) := by
  obtain ⟨o, a, p, b, c, d⟩ := k.slot h
  subst b
  exact ⟨p, a, c, d⟩
theorem Ok.frz (k : Ok T H0 Θ Γ σ H) {i : Nat} {xs : List PyData} (h : Γ[i]? = some (.r xs)) : ∃ v, σ[i]? = some (some v) ∧ PinAt Θ H v xs := by
  obtain ⟨o, a, v, b, c⟩ := k.slot h
  subst b
  exact ⟨v, a, c⟩
/-- what an own slot holds stands in the heap -/
theorem Ok.ownAt (k : Ok T H0 Θ Γ σ H) {i : Nat} {p : Addr} (h : IsL Γ i) (a : σ[i]? = some (some (.ref p))) : ∃ o, H p = some o ∧ H0 p = none ∧ (∀ ps, o ≠ .tbl ps) ∧ (∀ φ, o ≠ .ext φ) ∧ ∀ xs, o ≠ .tup xs := by
  obtain ⟨s, h, w⟩ := h
  obtain ⟨o, b, c⟩ := k.slot h
  rw [a] at b
  cases b
  cases s with
  | l xs =>
    obtain ⟨q, e, f, vs, g, _⟩ := c
    cases e
    exact ⟨_, g, f, (fun _ z => by cases z), (fun _ z => by cases z), (fun _ z => by cases z)⟩
  | ll xss =>
    obtain ⟨q, vs, e, f, g, _⟩ := c
    cases e
    exact ⟨_, g, f, (fun _ z => by cases z), (fun _ z => by cases z), (fun _ z => by cases z)⟩
  | t kvs =>
    obtain ⟨q, e, f, g⟩ := c
    cases e
    exact ⟨_, g, f, (fun _ z => by cases z), (fun _ z => by cases z), (fun _ z => by cases z)⟩
  | any => cases w
  | d x => cases w
  | r xs => cases w
  | wl => cases w
theorem Ok.notNew (k : Ok T H0 Θ Γ σ H) {p : Addr} (hp : H p = none) : ∀ i, IsL Γ i → σ[i]? ≠ some (some (.ref p)) := fun j a b => by
  obtain ⟨o, c, _⟩ := k.ownAt a b
  rw [hp] at c
  cases c
/-- what is stored is not an own thing -/
theorem Ok.setX (k : Ok T H0 Θ Γ σ H) {i : Nat} {o : Option V} {s : Sh} (hs : s.own = false) (h : Sat H0 Θ H o s) : Ok T H0 Θ (Γ.set i s) (σ.set i o) H := by
  refine ⟨k.ext, k.tabs, by rw [List.length_set, List.length_set]; exact k.len, k.pins, fun j o' s' a b => ?_, fun a b p h1 h2 h3 h4 => ?_, fun a p vs h1 h2 => ?_⟩
  · by_cases e : i = j
    · subst e
      by_cases hi : i < σ.length
      · rw [List.getElem?_set_self hi] at a
        rw [List.getElem?_set_self (by rw [← k.len]; exact hi)] at b
        cases a; cases b
        exact h
      · rw [List.getElem?_eq_none (by rw [List.length_set]; omega)] at a
        cases a
    · rw [List.getElem?_set_ne e] at a b
      exact k.sat j o' s' a b
  · rcases isL_set h1 with ⟨_, z⟩ | ⟨na, h1⟩
    · rw [hs] at z; cases z
    · rcases isL_set h2 with ⟨_, z⟩ | ⟨nb, h2⟩
      · rw [hs] at z; cases z
      · rw [List.getElem?_set_ne na] at h3
        rw [List.getElem?_set_ne nb] at h4
        exact k.sep a b p h1 h2 h3 h4
  · rcases isL_set h1 with ⟨_, z⟩ | ⟨na, h1⟩
    · rw [hs] at z; cases z
    · rw [List.getElem?_set_ne na] at h2
      exact k.sepP a p vs h1 h2
theorem Ok.setD (k : Ok T H0 Θ Γ σ H) {i : Nat} {v : V} {x : PyData} (h : Tp H v x) : Ok T H0 Θ (Γ.set i (.d x)) (σ.set i (some v)) H := k.setX rfl ⟨v, rfl, h⟩
theorem Ok.setAny (k : Ok T H0 Θ Γ σ H) {i : Nat} {o : Option V} : Ok T H0 Θ (Γ.set i .any) (σ.set i o) H := k.setX rfl trivial
/-- weaker knowledge of a slot, σ as it is -/
theorem Ok.forget (k : Ok T H0 Θ Γ σ H) {i : Nat} : Ok T H0 Θ (Γ.set i .any) σ H := by
  by_cases hi : i < σ.length
  · have := k.setAny (i := i) (o := σ[i])
    rwa [List.set_getElem_self] at this
  · rw [List.set_eq_of_length_le (by rw [← k.len]; omega)]
    exact k
/-- a new own thing is stored -/
theorem Ok.setN (k : Ok T H0 Θ Γ σ H) (e : Ext T H H1) {i : Nat} {p : Addr} {s : Sh} (hp : H p = none) (h : H0 p = none → Sat H0 Θ H1 (some (.ref p)) s) : Ok T H0 Θ (Γ.set i s) (σ.set i (some (.ref p))) H1 := by
  have k1 := k.mono e
  have fresh := k.notNew hp
  refine ⟨k1.ext, k1.tabs, by rw [List.length_set, List.length_set]; exact k.len, k1.pins, fun j o s' a b => ?_, fun a b q h1 h2 h3 h4 => ?_, fun a q vs h1 h2 hm => ?_⟩
  · by_cases e : i = j
    · subst e
      by_cases hi : i < σ.length
      · rw [List.getElem?_set_self hi] at a
        rw [List.getElem?_set_self (by rw [← k.len]; exact hi)] at b
        cases a; cases b
        exact h (k.ext.free _ hp)
      · rw [List.getElem?_eq_none (by rw [List.length_set]; omega)] at a
        cases a
    · rw [List.getElem?_set_ne e] at a b
      exact k1.sat j o s' a b
  · have at_ : ∀ {c : Nat}, i = c → (σ.set i (some (V.ref p)))[c]? = some (some (V.ref q)) → p = q := fun {c} z w => by
      subst z
      have hi : i < σ.length := by
        have := (List.getElem?_eq_some_iff.mp w).1
        rwa [List.length_set] at this
      rw [List.getElem?_set_self hi] at w
      cases w
      rfl
    rcases isL_set h1 with ⟨na, _⟩ | ⟨na, h1⟩
    · rcases isL_set h2 with ⟨nb, _⟩ | ⟨nb, h2⟩
      · exact na.symm.trans nb
      · have := at_ na h3
        subst this
        rw [List.getElem?_set_ne nb] at h4
        exact absurd h4 (fresh b h2)
    · rcases isL_set h2 with ⟨nb, _⟩ | ⟨nb, h2⟩
      · have := at_ nb h4
        subst this
        rw [List.getElem?_set_ne na] at h3
        exact absurd h3 (fresh a h1)
      · rw [List.getElem?_set_ne na] at h3
        rw [List.getElem?_set_ne nb] at h4
        exact k.sep a b q h1 h2 h3 h4
  · rcases isL_set h1 with ⟨na, _⟩ | ⟨na, h1⟩
    · subst na
      have hi : i < σ.length := by
        have := (List.getElem?_eq_some_iff.mp h2).1
        rwa [List.length_set] at this
      rw [List.getElem?_set_self hi] at h2
      cases h2
      have := k.pins _ hm
      rw [hp] at this
      cases this
    · rw [List.getElem?_set_ne na] at h2
      exact k.sepP a q vs h1 h2 hm
/-- the thing at p, which is none of the frozen lists, changes; s: what the own slot i, which holds it, then is -/
theorem Ok.mutI (k : Ok T H0 Θ Γ σ H) {i : Nat} {p : Addr} {s : Sh} {o : HO} (h : IsL Γ i) (hp : σ[i]? = some (some (.ref p))) (hs : s.own = true) (hn : Sat H0 Θ (upd H p o) (some (.ref p)) s) : Ok T H0 Θ (Γ.set i s) σ (upd H p o) := by
  obtain ⟨u, d1, d, d2, d3, d4⟩ := k.ownAt h hp
  have tx : Tx H (upd H p o) := fun a xs e => by
    rw [upd_ne (fun z => by subst z; rw [d1] at e; exact d4 xs (Option.some.inj e))]
    exact e
  have back : ∀ {j}, IsL (Γ.set i s) j → IsL Γ j := fun {j} z => by
    rcases isL_set z with ⟨e, _⟩ | ⟨_, z⟩
    · subst e; exact h
    · exact z
  refine ⟨k.ext.mutO d d1 d2 d3, tabs_mut k.tabs d1 d2 d3, by rw [List.length_set]; exact k.len, fun q hq => ?_, fun j o' s' a b => ?_, fun a b q h1 h2 h3 h4 => k.sep a b q (back h1) (back h2) h3 h4, fun a q vs h1 h2 => k.sepP a q vs (back h1) h2⟩
  · rw [upd_ne (fun z => k.sepP i p q.2 h hp (by rw [← z]; exact hq))]
    exact k.pins q hq
  by_cases e : i = j
  · subst e
    have hi : i < Γ.length := by
      obtain ⟨_, z, _⟩ := h
      exact (List.getElem?_eq_some_iff.mp z).1
    rw [List.getElem?_set_self hi] at b
    rw [hp] at a
    cases a; cases b
    exact hn
  · rw [List.getElem?_set_ne e] at b
    have z := k.sat j o' s' a b
    have nq : s'.own = true → ∀ q, o' = some (.ref q) → q ≠ p := fun w q z1 z2 => by
      subst z1 z2
      exact e (k.sep i j q h ⟨s', b, w⟩ hp a)
    cases s' with
    | any => trivial
    | d x => obtain ⟨v, a1, a2⟩ := z; exact ⟨v, a1, a2.mono tx⟩
    | l us =>
      obtain ⟨q, a1, a2, vs', a3, a4⟩ := z
      exact ⟨q, a1, a2, vs', by rw [upd_ne (nq rfl q a1)]; exact a3, a4.mono tx⟩
    | r us => obtain ⟨v, a1, a2⟩ := z; exact ⟨v, a1, a2.tx tx⟩
    | ll us =>
      obtain ⟨q, vs', a1, a2, a3, a4⟩ := z
      exact ⟨q, vs', a1, a2, by rw [upd_ne (nq rfl q a1)]; exact a3, Paired.mapQ a4 fun _ _ z => z.tx tx⟩
    | t us =>
      obtain ⟨q, a1, a2, a3⟩ := z
      exact ⟨q, a1, a2, by rw [upd_ne (nq rfl q a1)]; exact a3⟩
    | wl => obtain ⟨q, a1, a2⟩ := z; exact ⟨q, a1, a2.mut d1 d3⟩
theorem Ok.mutL (k : Ok T H0 Θ Γ σ H) {i : Nat} {p : Addr} {xs ys : List PyData} {ws : List V} (h : Γ[i]? = some (.l xs)) (hp : σ[i]? = some (some (.ref p))) (hw : TpAll H ws ys) : Ok T H0 Θ (Γ.set i (.l ys)) σ (upd H p (.lst ws)) := by
  obtain ⟨q, c, d, vs, d1, d2⟩ := k.own h
  rw [hp] at c
  cases c
  exact k.mutI ⟨_, h, rfl⟩ hp rfl ⟨p, rfl, d, ws, upd_same, hw.mono (Tx.mut d1)⟩
/-- an object that no slot speaks of changes (a comprehension's new list) -/
theorem Ok.mutO (k : Ok T H0 Θ Γ σ H) {p : Addr} {vs ws : List V} (h0 : H0 p = none) (hp : H p = some (.lst vs)) (hn : ∀ i, IsL Γ i → σ[i]? ≠ some (some (.ref p))) (hm : ∀ vs, (p, vs) ∉ Θ) : Ok T H0 Θ Γ σ (upd H p (.lst ws)) := by
  have tx : Tx H (upd H p (.lst ws)) := Tx.mut hp
  refine ⟨k.ext.mut h0 hp, tabs_mut k.tabs hp (fun _ z => by cases z) (fun _ z => by cases z), k.len, fun q hq => ?_, fun j o s a b => ?_, k.sep, k.sepP⟩
  · rw [upd_ne (fun z => hm q.2 (by rw [← z]; exact hq))]
    exact k.pins q hq
  have z := k.sat j o s a b
  have nq : s.own = true → ∀ q, o = some (.ref q) → q ≠ p := fun w q z1 z2 => by
    subst z1 z2
    exact hn j ⟨s, b, w⟩ a
  cases s with
  | any => trivial
  | d x => obtain ⟨v, a1, a2⟩ := z; exact ⟨v, a1, a2.mono tx⟩
  | l us =>
    obtain ⟨q, a1, a2, vs', a3, a4⟩ := z
    exact ⟨q, a1, a2, vs', by rw [upd_ne (nq rfl q a1)]; exact a3, a4.mono tx⟩
  | r us => obtain ⟨v, a1, a2⟩ := z; exact ⟨v, a1, a2.tx tx⟩
  | ll us =>
    obtain ⟨q, vs', a1, a2, a3, a4⟩ := z
    exact ⟨q, vs', a1, a2, by rw [upd_ne (nq rfl q a1)]; exact a3, Paired.mapQ a4 fun _ _ z => z.tx tx⟩
  | t us =>
    obtain ⟨q, a1, a2, a3⟩ := z
    exact ⟨q, a1, a2, by rw [upd_ne (nq rfl q a1)]; exact a3⟩
  | wl => obtain ⟨q, a1, a2⟩ := z; exact ⟨q, a1, a2.mut hp (fun _ z => by cases z)⟩
/-- a list that no slot owns is frozen -/
theorem Ok.pin (k : Ok T H0 Θ Γ σ H) {p : Addr} {vs : List V} (hp : H p = some (.lst vs)) (hn : ∀ i, IsL Γ i → σ[i]? ≠ some (some (.ref p))) : Ok T H0 ((p, vs) :: Θ) Γ σ H := by
  have sub : ∀ q ∈ Θ, q ∈ (p, vs) :: Θ := fun q h => List.mem_cons_of_mem _ h
  refine ⟨k.ext, k.tabs, k.len, fun q hq => ?_, fun j o s a b => ?_, k.sep, fun a q ws h1 h2 h3 => ?_⟩
  · rcases List.mem_cons.mp hq with e | e
    · rw [e]; exact hp
    · exact k.pins q e
  · have z := k.sat j o s a b
    cases s with
    | any => trivial
    | d x => exact z
    | l us => exact z
    | r us => obtain ⟨v, a1, a2⟩ := z; exact ⟨v, a1, a2.sub sub⟩
    | ll us => obtain ⟨q, vs', a1, a2, a3, a4⟩ := z; exact ⟨q, vs', a1, a2, a3, Paired.mapQ a4 fun _ _ z => z.sub sub⟩
    | t us => exact z
    | wl => exact z
  · rcases List.mem_cons.mp h3 with e | e
    · cases e
      exact hn a h1 h2
    · exact k.sepP a q ws h1 h2 e
/-- an own list is frozen -/
theorem Ok.freeze (k : Ok T H0 Θ Γ σ H) {i : Nat} {xs : List PyData} (h : Γ[i]? = some (.l xs)) : ∃ q, Ok T H0 (q :: Θ) (Γ.set i (.r xs)) σ H := by
  obtain ⟨p, c, d, vs, d1, d2⟩ := k.own h
  have hi : i < σ.length := (List.getElem?_eq_some_iff.mp c).1
  have kf := (k.forget (i := i)).pin (p := p) (vs := vs) d1 fun j hj hz => by
    rcases isL_set hj with ⟨_, z⟩ | ⟨ne, hj⟩
    · cases z
    · exact ne (k.sep i j p ⟨_, h, rfl⟩ hj c hz)
  have kg := kf.setX (i := i) (o := some (.ref p)) (s := .r xs) rfl ⟨_, rfl, p, vs, rfl, List.mem_cons_self, d2⟩
  rw [List.set_set] at kg
  have es : σ.set i (some (.ref p)) = σ := by
    have e := (List.getElem?_eq_some_iff.mp c).2
    rw [← e]
    exact List.set_getElem_self _
  rw [es] at kg
  exact ⟨_, kg⟩
/-- an own thing moves to another slot -/
theorem Ok.move (k : Ok T H0 Θ Γ σ H) {i j : Nat} {s : Sh} {o : Option V} (h : Γ[j]? = some s) (hs : s.own = true) (ho : σ[j]? = some o) (hi : i < σ.length) (hij : i ≠ j) : Ok T H0 Θ ((Γ.set j .any).set i s) (σ.set i o) H := by
  have hz := k.sat j o s ho h
  obtain ⟨p, ep⟩ : ∃ p, o = some (V.ref p) := by
    cases s with
    | l xs => obtain ⟨p, e, _⟩ := hz; exact ⟨p, e⟩
    | ll xs => obtain ⟨p, _, e, _⟩ := hz; exact ⟨p, e⟩
    | t xs => obtain ⟨p, e, _⟩ := hz; exact ⟨p, e⟩
    | any => cases hs
    | d _ => cases hs
    | r _ => cases hs
    | wl => cases hs
  subst ep
  have kf := k.forget (i := j)
  have own : IsL Γ j := ⟨s, h, hs⟩
  refine ⟨k.ext, k.tabs, by rw [List.length_set, List.length_set, List.length_set]; exact k.len, k.pins, fun a o' s' b c => ?_, fun a b q h1 h2 h3 h4 => ?_, fun a q vs h1 h2 hm => ?_⟩
  · by_cases e : i = a
    · subst e
      rw [List.getElem?_set_self hi] at b
      rw [List.getElem?_set_self (by rw [List.length_set, ← k.len]; exact hi)] at c
      cases b; cases c
      exact hz
    · rw [List.getElem?_set_ne e] at b c
      exact kf.sat a o' s' b c
  · have at_ : ∀ {c : Nat}, i = c → (σ.set i (some (V.ref p)))[c]? = some (some (V.ref q)) → p = q := fun {c} z w => by
      subst z
      rw [List.getElem?_set_self hi] at w
      cases w
      rfl
    have other : ∀ c, IsL (Γ.set j .any) c → j ≠ c ∧ IsL Γ c := fun c hc => by
      rcases isL_set hc with ⟨_, z⟩ | z
      · cases z
      · exact z
    rcases isL_set h1 with ⟨na, _⟩ | ⟨na, h1⟩
    · rcases isL_set h2 with ⟨nb, _⟩ | ⟨nb, h2⟩
      · exact na.symm.trans nb
      · have e := at_ na h3
        subst e
        rw [List.getElem?_set_ne nb] at h4
        obtain ⟨z1, z2⟩ := other b h2
        exact absurd (k.sep j b p own z2 ho h4) z1
    · rcases isL_set h2 with ⟨nb, _⟩ | ⟨nb, h2⟩
      · have e := at_ nb h4
        subst e
        rw [List.getElem?_set_ne na] at h3
        obtain ⟨z1, z2⟩ := other a h1
        exact absurd (k.sep j a p own z2 ho h3) z1
      · rw [List.getElem?_set_ne na] at h3
        rw [List.getElem?_set_ne nb] at h4
        exact kf.sep a b q h1 h2 h3 h4
  · rcases isL_set h1 with ⟨na, _⟩ | ⟨na, h1⟩
    · subst na
      rw [List.getElem?_set_self hi] at h2
      cases h2
      exact k.sepP j p vs own ho hm
    · rw [List.getElem?_set_ne na] at h2
      exact kf.sepP a q vs h1 h2 hm
end
end Pt
set_option maxHeartbeats 4000000
/-! Layer B: the judgements over shapes: EE (expressions), ET (tests), EA (arguments), EI (what is walked), HS (statements). -/
namespace Pt
open PySem PySem.Spec PyProof.Rows L2
/-! ### expressions -/
def EE (T : List NTab) (X : Cx) (e : Expr) (Γ : List Sh) (r : RS) : Prop := ∀ (H0 : Hp) (Θ : Pins) (σ : L2.St) (H : Hp), Ok T H0 Θ Γ σ H → ∀ Q : VK, (∀ v H2, Ext T H H2 → RsOk Θ H H2 r v → Q v H2) → wE X e σ H Q
def ET (T : List NTab) (X : Cx) (e : Expr) (Γ : List Sh) (b : Bool) : Prop := ∀ (H0 : Hp) (Θ : Pins) (σ : L2.St) (H : Hp), Ok T H0 Θ Γ σ H → ∀ Q : Bool → Hp → Prop, (∀ H2, Ext T H H2 → Q b H2) → wT X e σ H Q
def EW (T : List NTab) (X : Cx) (e : Expr) (Γ : List Sh) (b : Bool) : Prop := ∀ (H0 : Hp) (Θ : Pins) (σ : L2.St) (H : Hp), Ok T H0 Θ Γ σ H → ∀ Q : Bool → Hp → Prop, (∀ H2, Ext T H H2 → Q b H2) → wW X e σ H Q
/-- a clause's tests -/
def ETs (T : List NTab) (X : Cx) (ifs : List Expr) (Γ : List Sh) (b : Bool) : Prop := ∀ (H0 : Hp) (Θ : Pins) (σ : L2.St) (H : Hp), Ok T H0 Θ Γ σ H → ∀ Q : Bool → Hp → Prop, (∀ H2, Ext T H H2 → Q b H2) → wTs X ifs σ H Q
def RsAll (Θ : Pins) (H H2 : Hp) : List RS → List V → Prop
  | [], [] => True
  | r :: rs, v :: vs => RsOk Θ H H2 r v ∧ RsAll Θ H H2 rs vs
  | _, _ => False
def EA (T : List NTab) (X : Cx) (es : List Expr) (Γ : List Sh) (rs : List RS) : Prop := ∀ (H0 : Hp) (Θ : Pins) (σ : L2.St) (H : Hp), Ok T H0 Θ Γ σ H → ∀ Q : List V → Hp → Prop, (∀ vs H2, Ext T H H2 → RsAll Θ H H2 rs vs → Q vs H2) → wA X es σ H Q
section
variable {T : List NTab} {X : Cx} {Γ : List Sh} {a b c e : Expr} {pos : Pos} {H0 H H1 H2 : Hp} {Θ : Pins} {σ : L2.St}
theorem RsAll.ext : ∀ {rs : List RS} {vs : List V}, RsAll Θ H H1 rs vs → Ext T H1 H2 → RsAll Θ H H2 rs vs
  | [], [], _, _ => trivial
  | _ :: _, _ :: _, h, e => ⟨h.1.ext e, RsAll.ext h.2 e⟩
  | [], _ :: _, h, _ => h.elim
  | _ :: _, [], h, _ => h.elim
theorem RsAll.back : ∀ {rs : List RS} {vs : List V}, RsAll Θ H1 H2 rs vs → Ext T H H1 → RsAll Θ H H2 rs vs
  | [], [], _, _ => trivial
  | _ :: _, _ :: _, h, e => ⟨h.1.back e, RsAll.back h.2 e⟩
  | [], _ :: _, h, _ => h.elim
  | _ :: _, [], h, _ => h.elim
theorem RsAll.len : ∀ {rs : List RS} {vs : List V}, RsAll Θ H H2 rs vs → vs.length = rs.length
  | [], [], _ => rfl
  | _ :: _, _ :: _, h => congrArg (· + 1) (RsAll.len h.2)
  | [], _ :: _, h => h.elim
  | _ :: _, [], h => h.elim
theorem RsAll.dat : ∀ {ds : List PyData} {vs : List V}, RsAll Θ H H2 (ds.map .d) vs → TpAll H2 vs ds
  | [], [], _ => .nil
  | _ :: _, _ :: _, h => .cons h.1 (RsAll.dat h.2)
  | [], _ :: _, h => h.elim
  | _ :: _, [], h => h.elim
theorem ee_q {xs : List PyData} (h : EE T X e Γ (.n xs)) : EE T X e Γ (.q xs) := fun H0 Θ σ H k Q q => h H0 Θ σ H k Q fun v H2 e2 ⟨p, a, _, c⟩ => q v H2 e2 ⟨p, a, c⟩
theorem ee_pq {xs : List PyData} (h : EE T X e Γ (.p xs)) : EE T X e Γ (.q xs) := fun H0 Θ σ H k Q q => h H0 Θ σ H k Q fun v H2 e2 ⟨p, vs, a, b, c⟩ => q v H2 e2 ⟨p, a, vs, e2.lst (k.pins _ b), c⟩
theorem ee_cast {r r' : RS} (h : EE T X e Γ r) (z : r = r') : EE T X e Γ r' := z ▸ h
theorem et_cast {r r' : Bool} (h : ET T X e Γ r) (z : r = r') : ET T X e Γ r' := z ▸ h
/-! names, constants -/
theorem ee_v {i : Nat} {x : Str} {d : PyData} (h : Γ[i]? = some (.d d)) (hN : X.N[i]? = some x := by rfl) (hv : Vis X.env.scope x := by first | exact Or.inl rfl | exact Or.inr (Or.inl rfl) | exact Or.inr (Or.inr rfl)) (hd : (x == ("__debug__" : Str)) = false := by decide)
    (hcd : (x == ("__classdict__" : Str)) = false := by decide) : EE T X (.Name x pos) Γ (.d d) := fun H0 Θ σ H k Q q => by
  obtain ⟨v, hs, ht⟩ := k.dat h
  exact leE (pe_var hN hv hd hcd) ⟨v, hs, q v H (Ext.refl H) ht⟩
theorem ee_vl {i : Nat} {x : Str} {ds : List PyData} (h : Γ[i]? = some (.l ds)) (hN : X.N[i]? = some x := by rfl) (hv : Vis X.env.scope x := by first | exact Or.inl rfl | exact Or.inr (Or.inl rfl) | exact Or.inr (Or.inr rfl)) (hd : (x == ("__debug__" : Str)) = false := by decide)
    (hcd : (x == ("__classdict__" : Str)) = false := by decide) : EE T X (.Name x pos) Γ (.q ds) := fun H0 Θ σ H k Q q => by
  obtain ⟨p, hs, _, ht⟩ := k.own h
  exact leE (pe_var hN hv hd hcd) ⟨_, hs, q _ H (Ext.refl H) ⟨p, rfl, ht⟩⟩
theorem ee_vr {i : Nat} {x : Str} {ds : List PyData} (h : Γ[i]? = some (.r ds)) (hN : X.N[i]? = some x := by rfl) (hv : Vis X.env.scope x := by first | exact Or.inl rfl | exact Or.inr (Or.inl rfl) | exact Or.inr (Or.inr rfl)) (hd : (x == ("__debug__" : Str)) = false := by decide)
    (hcd : (x == ("__classdict__" : Str)) = false := by decide) : EE T X (.Name x pos) Γ (.p ds) := fun H0 Θ σ H k Q q => by
  obtain ⟨v, hs, ht⟩ := k.frz h
  exact leE (pe_var hN hv hd hcd) ⟨v, hs, q v H (Ext.refl H) ht⟩
theorem ee_int {i : Int} {j : Nat} : EE T X (.Constant (.int i) j pos) Γ (.d (.int i)) := fun H0 Θ σ H k Q q => leE pe_int (q _ H (Ext.refl H) (.int i))
theorem ee_bl {i : Bool} {j : Nat} : EE T X (.Constant (.bool i) j pos) Γ (.d (.bool i)) := fun H0 Θ σ H k Q q => leE pe_bl (q _ H (Ext.refl H) (.bl i))
theorem ee_non {j : Nat} : EE T X (.Constant .none j pos) Γ (.d .none) := fun H0 Θ σ H k Q q => leE pe_non (q _ H (Ext.refl H) .non)
theorem ee_str {x : Str} {j : Nat} : EE T X (.Constant (.str x) j pos) Γ (.d (.str x)) := fun H0 Θ σ H k Q q => leE pe_str (q _ H (Ext.refl H) (.str x))
/-- a text of the module's top -/
theorem ee_gstr {x y : Str} {t : Tok} (hm : X.mg x = some (.str y t)) (hg : Gl X x := by rfl) (hd : (x == ("__debug__" : Str)) = false := by decide) : EE T X (.Name x pos) Γ (.d (.str y)) := fun H0 Θ σ H k Q q => leE (pe_glob (v := .str y) hg hm ⟨t, rfl⟩ hd) (q _ H (Ext.refl H) (.str y))
/-! operators on ints -/
theorem ee_opI0 {op : Operator} {g : Int → Int → Int} {i j : Int} (ho : OpR X (binaryOp op) (rI0 fun i j => .int (g i j))) (ha : EE T X a Γ (.d (.int i))) (hb : EE T X b Γ (.d (.int j))) : EE T X (.BinOp a op b pos) Γ (.d (.int (g i j))) := fun H0 Θ σ H k Q q =>
  leE (pe_op ho pe_w pe_w) (ha H0 Θ σ H k _ fun v H2 e2 hv => hb H0 Θ σ H2 (k.mono e2) _ fun w H3 e3 hw => ⟨i, j, Tp.inv_int hv, Tp.inv_int hw, q _ H3 (e2.trans e3) (.int _)⟩)
theorem ee_opI {op : Operator} {C : Int → Int → Prop} {g : Int → Int → Int} {i j : Int} (ho : OpR X (binaryOp op) (rI C fun i j => .int (g i j))) (hc : C i j) (ha : EE T X a Γ (.d (.int i))) (hb : EE T X b Γ (.d (.int j))) : EE T X (.BinOp a op b pos) Γ (.d (.int (g i j))) := fun H0 Θ σ H k Q q =>
  leE (pe_op ho pe_w pe_w) (ha H0 Θ σ H k _ fun v H2 e2 hv => hb H0 Θ σ H2 (k.mono e2) _ fun w H3 e3 hw => ⟨i, j, Tp.inv_int hv, Tp.inv_int hw, hc, q _ H3 (e2.trans e3) (.int _)⟩)
theorem ee_add {i j : Int} (ha : EE T X a Γ (.d (.int i))) (hb : EE T X b Γ (.d (.int j))) : EE T X (.BinOp a .Add b pos) Γ (.d (.int (i + j))) := ee_opI0 op_add ha hb
theorem ee_sub {i j : Int} (ha : EE T X a Γ (.d (.int i))) (hb : EE T X b Γ (.d (.int j))) : EE T X (.BinOp a .Sub b pos) Γ (.d (.int (i - j))) := ee_opI0 op_sub ha hb
theorem ee_or {i j : Int} (ha : EE T X a Γ (.d (.int i))) (hb : EE T X b Γ (.d (.int j))) : EE T X (.BinOp a .BitOr b pos) Γ (.d (.int (Builtin.bitOr i j))) := ee_opI0 op_or ha hb
/-! comparisons -/
/-- a op b comes out as x -/
def CO (T : List NTab) (X : Cx) (op : CmpOp) (a b : Expr) (Γ : List Sh) (x : Bool) : Prop := ∃ r : R2, OpR X (compareOp op) r ∧ ∀ (H0 : Hp) (Θ : Pins) (σ : L2.St) (H : Hp), Ok T H0 Θ Γ σ H → ∀ Q : VK, (∀ H2, Ext T H H2 → Q (.bl x) H2) → tOp r (wE X a) (wE X b) σ H Q
theorem ee_co {op : CmpOp} {x : Bool} (h : CO T X op a b Γ x) (hm : behindInMarks op b = false := by first | exact nomark _ | rfl) : EE T X (.Compare a [op] [b] pos) Γ (.d (.bool x)) := fun H0 Θ σ H k Q q => by
  obtain ⟨r, ho, h⟩ := h
  exact leE (pe_cmpR ho pe_w pe_w hm) (h H0 Θ σ H k Q fun H2 e2 => q _ H2 e2 (.bl _))
theorem et_co {op : CmpOp} {x : Bool} (h : CO T X op a b Γ x) (hm : behindInMarks op b = false := by first | exact nomark _ | rfl) : ET T X (.Compare a [op] [b] pos) Γ x := fun H0 Θ σ H k Q q => by
  obtain ⟨r, ho, h⟩ := h
  exact leT (pt_cmpR ho pe_w pe_w hm) (h H0 Θ σ H k _ fun H2 e2 => ⟨x, rfl, q H2 e2⟩)
theorem co_cast {op : CmpOp} {x y : Bool} (h : CO T X op a b Γ x) (z : x = y) : CO T X op a b Γ y := z ▸ h
theorem co_I {op : CmpOp} {g : Int → Int → Bool} {i j : Int} (ho : OpR X (compareOp op) (rI0 fun i j => .bl (g i j))) (ha : EE T X a Γ (.d (.int i))) (hb : EE T X b Γ (.d (.int j))) : CO T X op a b Γ (g i j) := ⟨_, ho, fun H0 Θ σ H k Q q =>
  ha H0 Θ σ H k _ fun v H2 e2 hv => hb H0 Θ σ H2 (k.mono e2) _ fun w H3 e3 hw => ⟨i, j, Tp.inv_int hv, Tp.inv_int hw, q H3 (e2.trans e3)⟩⟩
theorem co_lt {i j : Int} (ha : EE T X a Γ (.d (.int i))) (hb : EE T X b Γ (.d (.int j))) : CO T X .Lt a b Γ (decide (i < j)) := co_I (g := fun i j => decide (i < j)) op_lt ha hb
theorem co_le {i j : Int} (ha : EE T X a Γ (.d (.int i))) (hb : EE T X b Γ (.d (.int j))) : CO T X .LtE a b Γ (decide (i ≤ j)) := co_I (g := fun i j => decide (i ≤ j)) op_le ha hb
theorem co_gt {i j : Int} (ha : EE T X a Γ (.d (.int i))) (hb : EE T X b Γ (.d (.int j))) : CO T X .Gt a b Γ (decide (j < i)) := co_I (g := fun i j => decide (j < i)) op_gt ha hb
theorem co_ge {i j : Int} (ha : EE T X a Γ (.d (.int i))) (hb : EE T X b Γ (.d (.int j))) : CO T X .GtE a b Γ (decide (j ≤ i)) := co_I (g := fun i j => decide (j ≤ i)) op_ge ha hb
theorem dec_int (i j : Int) : decide (V.int i = V.int j) = decide (i = j) := decide_eq_decide.mpr ⟨V.int.inj, congrArg _⟩
theorem dec_str (i j : Str) : decide (V.str i = V.str j) = decide (i = j) := decide_eq_decide.mpr ⟨V.str.inj, congrArg _⟩
theorem co_eq {i j : Int} (ha : EE T X a Γ (.d (.int i))) (hb : EE T X b Γ (.d (.int j))) : CO T X .Eq a b Γ (decide (i = j)) := ⟨_, op_eq, fun H0 Θ σ H k Q q =>
  ha H0 Θ σ H k _ fun v H2 e2 hv => hb H0 Θ σ H2 (k.mono e2) _ fun w H3 e3 hw => by
    rw [Tp.inv_int hv, Tp.inv_int hw]
    exact ⟨rfl, by rw [dec_int]; exact q H3 (e2.trans e3)⟩⟩
theorem co_ne {i j : Int} (ha : EE T X a Γ (.d (.int i))) (hb : EE T X b Γ (.d (.int j))) : CO T X .NotEq a b Γ (!decide (i = j)) := ⟨_, op_ne, fun H0 Θ σ H k Q q =>
  ha H0 Θ σ H k _ fun v H2 e2 hv => hb H0 Θ σ H2 (k.mono e2) _ fun w H3 e3 hw => by
    rw [Tp.inv_int hv, Tp.inv_int hw]
    exact ⟨rfl, by rw [dec_int]; exact q H3 (e2.trans e3)⟩⟩
theorem co_eqS {i j : Str} (ha : EE T X a Γ (.d (.str i))) (hb : EE T X b Γ (.d (.str j))) : CO T X .Eq a b Γ (decide (i = j)) := ⟨_, op_eq, fun H0 Θ σ H k Q q =>
  ha H0 Θ σ H k _ fun v H2 e2 hv => hb H0 Θ σ H2 (k.mono e2) _ fun w H3 e3 hw => by
    rw [Tp.inv_str hv, Tp.inv_str hw]
    exact ⟨rfl, by rw [dec_str]; exact q H3 (e2.trans e3)⟩⟩
theorem co_neS {i j : Str} (ha : EE T X a Γ (.d (.str i))) (hb : EE T X b Γ (.d (.str j))) : CO T X .NotEq a b Γ (!decide (i = j)) := ⟨_, op_ne, fun H0 Θ σ H k Q q =>
  ha H0 Θ σ H k _ fun v H2 e2 hv => hb H0 Θ σ H2 (k.mono e2) _ fun w H3 e3 hw => by
    rw [Tp.inv_str hv, Tp.inv_str hw]
    exact ⟨rfl, by rw [dec_str]; exact q H3 (e2.trans e3)⟩⟩
def isNoneD : PyData → Bool
  | .none => true
  | _ => false
theorem tp_none {H : Hp} {v : V} {d : PyData} (h : Tp H v d) : decide (v = .non) = isNoneD d := by cases h <;> rfl
theorem co_isN {d : PyData} {j : Nat} {p2 : Pos} (ha : EE T X a Γ (.d d)) : CO T X .Is a (.Constant .none j p2) Γ (isNoneD d) := ⟨_, op_isN, fun H0 Θ σ H k Q q =>
  ha H0 Θ σ H k _ fun v H2 e2 hv => leE pe_non ⟨rfl, by rw [tp_none hv]; exact q H2 e2⟩⟩
theorem co_notN {d : PyData} {j : Nat} {p2 : Pos} (ha : EE T X a Γ (.d d)) : CO T X .IsNot a (.Constant .none j p2) Γ (!isNoneD d) := ⟨_, op_notN, fun H0 Θ σ H k Q q =>
  ha H0 Θ σ H k _ fun v H2 e2 hv => leE pe_non ⟨rfl, by rw [tp_none hv]; exact q H2 e2⟩⟩
/-! and, or, not as values of truth values -/
theorem ee_and1 {t : PyData} {op : PySem.BoolOp} (ha : EE T X a Γ (.d t)) : EE T X (.BoolOp op [a] pos) Γ (.d t) := fun H0 Θ σ H k Q q => leE (pe_one pe_w) (ha H0 Θ σ H k Q q)
theorem ee_andV {x y : Bool} {rest : List Expr} (ha : EE T X a Γ (.d (.bool x))) (hb : x = true → EE T X (.BoolOp .And (b :: rest) pos) Γ (.d (.bool y))) (hx : x = false → y = false) : EE T X (.BoolOp .And (a :: b :: rest) pos) Γ (.d (.bool y)) := fun H0 Θ σ H k Q q =>
  leE (pe_and pe_w pe_w) (ha H0 Θ σ H k _ fun v H2 e2 hv => ⟨x, Tp.inv_bl hv, by
    cases x with
    | true => exact (if_pos rfl) ▸ hb rfl H0 Θ σ H2 (k.mono e2) _ fun w H3 e3 hw => q w H3 (e2.trans e3) hw
    | false =>
      rw [if_neg Bool.false_ne_true]
      have := hx rfl
      subst this
      exact q _ H2 e2 (.bl _)⟩)
theorem ee_orV {x y : Bool} {rest : List Expr} (ha : EE T X a Γ (.d (.bool x))) (hb : x = false → EE T X (.BoolOp .Or (b :: rest) pos) Γ (.d (.bool y))) (hx : x = true → y = true) : EE T X (.BoolOp .Or (a :: b :: rest) pos) Γ (.d (.bool y)) := fun H0 Θ σ H k Q q =>
  leE (pe_or pe_w pe_w) (ha H0 Θ σ H k _ fun v H2 e2 hv => ⟨x, Tp.inv_bl hv, by
    cases x with
    | false => exact (if_neg Bool.false_ne_true) ▸ hb rfl H0 Θ σ H2 (k.mono e2) _ fun w H3 e3 hw => q w H3 (e2.trans e3) hw
    | true =>
      rw [if_pos rfl]
      have := hx rfl
      subst this
      exact q _ H2 e2 (.bl _)⟩)
/-- of two truth values that both are known -/
theorem ee_and2 {x y : Bool} (ha : EE T X a Γ (.d (.bool x))) (hb : x = true → EE T X b Γ (.d (.bool y))) : EE T X (.BoolOp .And [a, b] pos) Γ (.d (.bool (x && y))) :=
  ee_andV ha (fun z => by subst z; exact ee_and1 (hb rfl)) (fun z => by subst z; rfl)
theorem ee_or2 {x y : Bool} (ha : EE T X a Γ (.d (.bool x))) (hb : x = false → EE T X b Γ (.d (.bool y))) : EE T X (.BoolOp .Or [a, b] pos) Γ (.d (.bool (x || y))) :=
  ee_orV ha (fun z => by subst z; exact ee_and1 (hb rfl)) (fun z => by subst z; rfl)
theorem ee_and3 {x y z : Bool} (ha : EE T X a Γ (.d (.bool x))) (hb : x = true → EE T X b Γ (.d (.bool y))) (hc : x = true → y = true → EE T X c Γ (.d (.bool z))) : EE T X (.BoolOp .And [a, b, c] pos) Γ (.d (.bool (x && (y && z)))) :=
  ee_andV ha (fun e => by
    subst e
    exact ee_andV (hb rfl) (fun e => by subst e; exact ee_and1 (hc rfl rfl)) (fun e => by subst e; rfl)) (fun e => by subst e; rfl)
theorem ee_not {x : Bool} (ha : EE T X a Γ (.d (.bool x))) : EE T X (.UnaryOp .Not a pos) Γ (.d (.bool (!x))) := fun H0 Θ σ H k Q q =>
  leE (pe_not pe_w) (ha H0 Θ σ H k _ fun v H2 e2 hv => ⟨x, Tp.inv_bl hv, q _ H2 e2 (.bl _)⟩)
/-! tests -/
theorem et_val {x : Bool} (ha : EE T X a Γ (.d (.bool x))) (he : ∀ whole, isTrue a X.env whole = (do let v ← whole; standAt a.pos; holding [v] (truthy v)) := by intro _; rfl) : ET T X a Γ x := fun H0 Θ σ H k Q q =>
  leT (pt_val pe_w he) (ha H0 Θ σ H k _ fun v H2 e2 hv => ⟨x, Tp.inv_bl hv, q H2 e2⟩)
theorem et_not {x : Bool} (ha : ET T X a Γ x) : ET T X (.UnaryOp .Not a pos) Γ (!x) := fun H0 Θ σ H k Q q => leT (pt_not pt_w) (ha H0 Θ σ H k _ fun H2 e2 => q H2 e2)
theorem ew_and1 {x : Bool} (ha : ET T X a Γ x) : EW T X (.BoolOp .And [a] pos) Γ x := fun H0 Θ σ H k Q q => leW (pw_and1 pt_w) (ha H0 Θ σ H k Q q)
theorem ew_or1 {x : Bool} (ha : ET T X a Γ x) : EW T X (.BoolOp .Or [a] pos) Γ x := fun H0 Θ σ H k Q q => leW (pw_or1 pt_w) (ha H0 Θ σ H k Q q)
theorem ew_and {x y : Bool} {rest : List Expr} (ha : ET T X a Γ x) (hb : x = true → EW T X (.BoolOp .And (b :: rest) pos) Γ y) : EW T X (.BoolOp .And (a :: b :: rest) pos) Γ (x && y) := fun H0 Θ σ H k Q q =>
  leW (pw_and pt_w pw_w) (ha H0 Θ σ H k _ fun H2 e2 => by
    cases x with
    | true =>
      rw [if_pos rfl]
      exact hb rfl H0 Θ σ H2 (k.mono e2) _ fun H3 e3 => q H3 (e2.trans e3)
    | false =>
      rw [if_neg Bool.false_ne_true]
      exact q H2 e2)
theorem ew_or {x y : Bool} {rest : List Expr} (ha : ET T X a Γ x) (hb : x = false → EW T X (.BoolOp .Or (b :: rest) pos) Γ y) : EW T X (.BoolOp .Or (a :: b :: rest) pos) Γ (x || y) := fun H0 Θ σ H k Q q =>
  leW (pw_or pt_w pw_w) (ha H0 Θ σ H k _ fun H2 e2 => by
    cases x with
    | false =>
      rw [if_neg Bool.false_ne_true]
      exact hb rfl H0 Θ σ H2 (k.mono e2) _ fun H3 e3 => q H3 (e2.trans e3)
    | true =>
      rw [if_pos rfl]
      exact q H2 e2)
theorem et_w {x : Bool} (h : EW T X a Γ x) : ET T X a Γ x := fun H0 Θ σ H k Q q => wT_of_wW (h H0 Θ σ H k Q q)
theorem et_and2 {x y : Bool} (ha : ET T X a Γ x) (hb : x = true → ET T X b Γ y) : ET T X (.BoolOp .And [a, b] pos) Γ (x && y) := et_w (ew_and ha fun z => ew_and1 (hb z))
theorem et_or2 {x y : Bool} (ha : ET T X a Γ x) (hb : x = false → ET T X b Γ y) : ET T X (.BoolOp .Or [a, b] pos) Γ (x || y) := et_w (ew_or ha fun z => ew_or1 (hb z))
theorem et_or3 {x y z : Bool} (ha : ET T X a Γ x) (hb : x = false → ET T X b Γ y) (hc : x = false → y = false → ET T X c Γ z) : ET T X (.BoolOp .Or [a, b, c] pos) Γ (x || (y || z)) := et_w (ew_or ha fun w => ew_or (hb w) fun w2 => ew_or1 (hc w w2))
/-- a list by its truth -/
theorem et_list {xs : List PyData} (ha : EE T X a Γ (.q xs)) (he : ∀ whole, isTrue a X.env whole = (do let v ← whole; standAt a.pos; holding [v] (truthy v)) := by intro _; rfl) : ET T X a Γ (!xs.isEmpty) := fun H0 Θ σ H k Q q =>
  leT (pt_truth pe_w he) (ha H0 Θ σ H k _ fun v H2 e2 ⟨p, hv, vs, hp, ht⟩ => ⟨!xs.isEmpty, (by
    subst hv
    refine .inl ⟨vs, .inl (.inl hp), ?_⟩
    have hl := ht.len
    cases vs <;> cases xs <;> first | rfl | cases hl), q H2 e2⟩)
theorem ets_nil : ETs T X [] Γ true := fun H0 Θ σ H k Q q => leTs pts_nil (q H (Ext.refl H))
theorem ets_one {x : Bool} (h : ET T X c Γ x) : ETs T X [c] Γ x := fun H0 Θ σ H k Q q => leTs (pts_one pt_w) (h H0 Θ σ H k Q q)
/-! .. if .. else .. -/
theorem ee_if {x : Bool} {r : RS} (hc : ET T X c Γ x) (ha : x = true → EE T X a Γ r) (hb : x = false → EE T X b Γ r) : EE T X (.IfExp c a b pos) Γ r := fun H0 Θ σ H k Q q =>
  leE (pe_ifExp pt_w pe_w pe_w) (hc H0 Θ σ H k _ fun H2 e2 => by
    cases x with
    | true =>
      rw [if_pos rfl]
      exact ha rfl H0 Θ σ H2 (k.mono e2) _ fun w H3 e3 hw => q w H3 (e2.trans e3) (hw.back e2)
    | false =>
      rw [if_neg Bool.false_ne_true]
      exact hb rfl H0 Θ σ H2 (k.mono e2) _ fun w H3 e3 hw => q w H3 (e2.trans e3) (hw.back e2))
/-! arguments -/
theorem ea_nil : EA T X [] Γ [] := fun H0 Θ σ H k Q q => leA pa_nil (q [] H (Ext.refl H) trivial)
theorem ea_cons {es : List Expr} {r : RS} {rs : List RS} (ha : EE T X a Γ r) (hb : EA T X es Γ rs) (hs : starEach (a :: es) X.env = (false, eval a X.env) :: starEach es X.env := by rfl) : EA T X (a :: es) Γ (r :: rs) := fun H0 Θ σ H k Q q =>
  leA (pa_cons pe_w pa_w hs) (ha H0 Θ σ H k _ fun v H2 e2 hv => hb H0 Θ σ H2 (k.mono e2) _ fun vs H3 e3 hw => q (v :: vs) H3 (e2.trans e3) ⟨hv.ext e3, hw.back e2⟩)
/-! tuples and lists that are written -/
theorem ee_tup {es : List Expr} {ds : List PyData} {x1 : Nat} (h : EA T X es Γ (ds.map .d)) (hl : ds.length ≤ 1000 := by simp) : EE T X (.Tuple es x1 pos) Γ (.d (.tuple ds)) := fun H0 Θ σ H k Q q =>
  leE (pe_tup pa_w) (h H0 Θ σ H k _ fun vs H2 e2 hv => ⟨by
    have := (RsAll.dat hv).len
    exact Nat.le_trans (by omega) (show 1000 ≤ sizeLine by decide), fun p hp => q _ _ (e2.trans (Ext.new hp)) (.tup upd_same ((RsAll.dat hv).mono (Ext.new (T := T) hp).tx))⟩)
theorem ee_lst {es : List Expr} {ds : List PyData} (h : EA T X es Γ (ds.map .d)) (hl : ds.length ≤ 1000 := by simp) : EE T X (.List es pos) Γ (.n ds) := fun H0 Θ σ H k Q q =>
  leE (pe_lst pa_w) (h H0 Θ σ H k _ fun vs H2 e2 hv => ⟨by
    have := (RsAll.dat hv).len
    exact Nat.le_trans (by omega) (show 1000 ≤ sizeLine by decide), fun p hp => q _ _ (e2.trans (Ext.new hp)) ⟨p, rfl, e2.free p hp, vs, upd_same, (RsAll.dat hv).mono (Ext.new (T := T) hp).tx⟩⟩)
/-! subscripts -/
theorem atI_data {xs : List V} {ds : List PyData} {i : Int} {d : PyData} (h : TpAll H xs ds) (ha : atI ds i = some d) : ∃ v, atI xs i = some v ∧ Tp H v d := by
  unfold atI at ha ⊢
  rw [h.len]
  cases e : ixN ds.length i with
  | none => rw [e] at ha; cases ha
  | some j =>
    rw [e] at ha
    exact h.get (show ds[j]? = some d from ha)
theorem ee_ixT {ds : List PyData} {i : Int} {d : PyData} (hd : atI ds i = some d) (ha : EE T X a Γ (.d (.tuple ds))) (hb : EE T X b Γ (.d (.int i))) (hs : PlainIx b := by exact fun _ _ => rfl) : EE T X (.Subscript a b pos) Γ (.d d) := fun H0 Θ σ H k Q q =>
  leE (pe_ix ix_tup pe_w pe_w hs) (ha H0 Θ σ H k _ fun v H2 e2 hv => hb H0 Θ σ H2 (k.mono e2) _ fun w H3 e3 hw => by
    obtain ⟨p, xs, rfl, hp, hx⟩ := Tp.inv_tup (Tp.mono e3.tx hv)
    obtain ⟨u, g, hu⟩ := atI_data hx hd
    exact ⟨p, xs, i, u, rfl, Tp.inv_int hw, .inl (.inl hp), g, q u H3 (e2.trans e3) hu⟩)
theorem ee_ixL {ds : List PyData} {i : Int} {d : PyData} (hd : atI ds i = some d) (ha : EE T X a Γ (.q ds)) (hb : EE T X b Γ (.d (.int i))) (hs : PlainIx b := by exact fun _ _ => rfl) : EE T X (.Subscript a b pos) Γ (.d d) := fun H0 Θ σ H k Q q =>
  leE (pe_ix ix_list pe_w pe_w hs) (ha H0 Θ σ H k _ fun v H2 e2 hv => hb H0 Θ σ H2 (k.mono e2) _ fun w H3 e3 hw => by
    obtain ⟨p, rfl, xs, hp, hx⟩ := RsOk.ext hv e3
    obtain ⟨u, g, hu⟩ := atI_data hx hd
    exact ⟨p, xs, i, u, rfl, Tp.inv_int hw, .inl (.inl hp), g, q u H3 (e2.trans e3) hu⟩)
/-! built-in functions -/
/-- room for the calls of a def -/
theorem ee_lenT {p : Pos} {ds : List PyData} (ha : EA T X [a] Γ [.d (.tuple ds)]) (hm : X.mg "len" = none) (hg : Gl X "len" := by rfl) (he : starEach [a] X.env = (false, eval a X.env) :: starEach [] X.env := by rfl) (hpl : (backTo pos (starEach [] X.env)).any (·.1) = false := by rfl) :
    EE T X (.Call (.Name "len" p) [a] [] pos) Γ (.d (.int (ds.length : Int))) := fun H0 Θ σ H k Q q =>
  leE (pe_callB call_len_seq hg hm PySem.boot_len pa_w (by decide) (by decide) he hpl) (ha H0 Θ σ H k _ fun vs H2 e2 hv => by
    obtain ⟨v, rfl⟩ : ∃ v, vs = [v] := by
      have := hv.len
      match vs, this with
      | [v], _ => exact ⟨v, rfl⟩
    obtain ⟨p, xs, rfl, hp, hx⟩ := Tp.inv_tup hv.1
    exact ⟨p, xs, rfl, .inr (.inl (.inl hp)), q _ H2 e2 (by rw [hx.len]; exact .int _)⟩)
theorem ee_lenL {p : Pos} {ds : List PyData} (ha : EA T X [a] Γ [.q ds]) (hm : X.mg "len" = none) (hg : Gl X "len" := by rfl) (he : starEach [a] X.env = (false, eval a X.env) :: starEach [] X.env := by rfl) (hpl : (backTo pos (starEach [] X.env)).any (·.1) = false := by rfl) :
    EE T X (.Call (.Name "len" p) [a] [] pos) Γ (.d (.int (ds.length : Int))) := fun H0 Θ σ H k Q q =>
  leE (pe_callB call_len_seq hg hm PySem.boot_len pa_w (by decide) (by decide) he hpl) (ha H0 Θ σ H k _ fun vs H2 e2 hv => by
    obtain ⟨v, rfl⟩ : ∃ v, vs = [v] := by
      have := hv.len
      match vs, this with
      | [v], _ => exact ⟨v, rfl⟩
    obtain ⟨p, rfl, xs, hp, hx⟩ := hv.1
    exact ⟨p, xs, rfl, .inl (.inl (.inl hp)), q _ H2 e2 (by rw [hx.len]; exact .int _)⟩)
/-- tuple(a list) -/
theorem ee_tuple {p : Pos} {ds : List PyData} (ha : EA T X [a] Γ [.q ds]) (hm : X.mg "tuple" = none) (hg : Gl X "tuple" := by rfl) (he : starEach [a] X.env = (false, eval a X.env) :: starEach [] X.env := by rfl) (hpl : (backTo pos (starEach [] X.env)).any (·.1) = false := by rfl) :
    EE T X (.Call (.Name "tuple" p) [a] [] pos) Γ (.d (.tuple ds)) := fun H0 Θ σ H k Q q =>
  leE (pe_callTy call_tuple_of hg hm (by decide +kernel) pa_w (by decide) (by decide) he hpl) (ha H0 Θ σ H k _ fun vs H2 e2 hv => by
    obtain ⟨v, rfl⟩ : ∃ v, vs = [v] := by
      have := hv.len
      match vs, this with
      | [v], _ => exact ⟨v, rfl⟩
    obtain ⟨p, rfl, xs, hp, hx⟩ := hv.1
    exact ⟨p, xs, rfl, .inl ⟨.inl (.inl hp), fun l hl => q _ _ (e2.trans (Ext.new hl)) (.tup upd_same (hx.mono (Ext.new (T := T) hl).tx))⟩⟩)
/-- list(a list) -/
theorem ee_listL {p : Pos} {ds : List PyData} (ha : EA T X [a] Γ [.q ds]) (hm : X.mg "list" = none) (hg : Gl X "list" := by rfl) (he : starEach [a] X.env = (false, eval a X.env) :: starEach [] X.env := by rfl) (hpl : (backTo pos (starEach [] X.env)).any (·.1) = false := by rfl) :
    EE T X (.Call (.Name "list" p) [a] [] pos) Γ (.n ds) := fun H0 Θ σ H k Q q =>
  leE (pe_callTy call_list_of hg hm (by decide +kernel) pa_w (by decide) (by decide) he hpl) (ha H0 Θ σ H k _ fun vs H2 e2 hv => by
    obtain ⟨v, rfl⟩ : ∃ v, vs = [v] := by
      have := hv.len
      match vs, this with
      | [v], _ => exact ⟨v, rfl⟩
    obtain ⟨p, rfl, xs, hp, hx⟩ := hv.1
    exact ⟨p, xs, rfl, .inl (.inl (.inl hp)), fun l hl => q _ _ (e2.trans (Ext.new hl)) ⟨l, rfl, e2.free l hl, xs, upd_same, hx.mono (Ext.new (T := T) hl).tx⟩⟩)
/-- any(a list of truth values) -/
theorem ee_any {p : Pos} {bs : List Bool} (ha : EA T X [a] Γ [.q (bs.map .bool)]) (hc : X.calm = true) (hm : X.mg "any" = none) (hg : Gl X "any" := by rfl) (he : starEach [a] X.env = (false, eval a X.env) :: starEach [] X.env := by rfl) (hpl : (backTo pos (starEach [] X.env)).any (·.1) = false := by rfl) :
    EE T X (.Call (.Name "any" p) [a] [] pos) Γ (.d (.bool (bs.any id))) := fun H0 Θ σ H k Q q =>
  leE (pe_callB (cr_any hc) hg hm (by decide +kernel) pa_w (by decide) (by decide) he hpl) (ha H0 Θ σ H k _ fun vs H2 e2 hv => by
    obtain ⟨v, rfl⟩ : ∃ v, vs = [v] := by
      have := hv.len
      match vs, this with
      | [v], _ => exact ⟨v, rfl⟩
    obtain ⟨p, rfl, xs, hp, hx⟩ := hv.1
    have := hx.bools
    subst this
    exact ⟨p, bs, rfl, .inl (.inl hp), q _ H2 e2 (.bl _)⟩)
/-! + and * of tuples and lists -/
theorem ee_catT {xs ys : List PyData} (ha : EE T X a Γ (.d (.tuple xs))) (hb : EE T X b Γ (.d (.tuple ys))) (hl : xs.length + ys.length ≤ 100000) : EE T X (.BinOp a .Add b pos) Γ (.d (.tuple (xs ++ ys))) := fun H0 Θ σ H k Q q =>
  leE (pe_op op_catA pe_w pe_w) (ha H0 Θ σ H k _ fun v H2 e2 hv => hb H0 Θ σ H2 (k.mono e2) _ fun w H3 e3 hw => by
    obtain ⟨p, vs, rfl, hp, hx⟩ := Tp.inv_tup (Tp.mono e3.tx hv)
    obtain ⟨p2, ws, rfl, hp2, hy⟩ := Tp.inv_tup hw
    refine ⟨p, p2, vs, ws, rfl, rfl, .inl (.inl hp), .inl (.inl hp2), by rw [hx.len, hy.len]; exact Nat.le_trans hl (by decide), fun z => ?_, fun _ z => ?_, fun _ _ p3 hp3 => ?_⟩
    · subst z
      cases hx
      exact q _ H3 (e2.trans e3) hw
    · subst z
      cases hy
      refine q _ H3 (e2.trans e3) ?_
      rw [List.append_nil]
      exact .tup hp hx
    · exact q _ _ ((e2.trans e3).trans (Ext.new hp3)) (.tup upd_same ((hx.append hy).mono (Ext.new (T := T) hp3).tx)))
theorem ee_catL {xs ys : List PyData} (ha : EE T X a Γ (.q xs)) (hb : EE T X b Γ (.q ys)) (hl : xs.length + ys.length ≤ 100000) : EE T X (.BinOp a .Add b pos) Γ (.n (xs ++ ys)) := fun H0 Θ σ H k Q q =>
  leE (pe_op op_cat pe_w pe_w) (ha H0 Θ σ H k _ fun v H2 e2 hv => hb H0 Θ σ H2 (k.mono e2) _ fun w H3 e3 hw => by
    obtain ⟨p, rfl, vs, hp, hx⟩ := RsOk.ext hv e3
    obtain ⟨p2, rfl, ws, hp2, hy⟩ := hw
    exact ⟨p, p2, vs, ws, rfl, rfl, hp, hp2, by rw [hx.len, hy.len]; exact Nat.le_trans hl (by decide), fun p3 hp3 => q _ _ ((e2.trans e3).trans (Ext.new hp3)) ⟨p3, rfl, (e2.trans e3).free _ hp3, _, upd_same, (hx.append hy).mono (Ext.new (T := T) hp3).tx⟩⟩)
theorem tpAll_rep {vs : List V} {xs : List PyData} (h : TpAll H vs xs) : ∀ n : Nat, TpAll H (List.replicate n vs).flatten (List.replicate n xs).flatten
  | 0 => .nil
  | n + 1 => by
    rw [List.replicate_succ, List.replicate_succ, List.flatten_cons, List.flatten_cons]
    exact h.append (tpAll_rep h n)
theorem ee_rep {xs : List PyData} {n : Nat} (ha : EE T X a Γ (.q xs)) (hb : EE T X b Γ (.d (.int (n : Int)))) (hl : xs.length * n ≤ 100000) (hn : n ≤ 100000) : EE T X (.BinOp a .Mult b pos) Γ (.n (List.replicate n xs).flatten) := fun H0 Θ σ H k Q q =>
  leE (pe_op op_rep pe_w pe_w) (ha H0 Θ σ H k _ fun v H2 e2 hv => hb H0 Θ σ H2 (k.mono e2) _ fun w H3 e3 hw => by
    obtain ⟨p, rfl, vs, hp, hx⟩ := RsOk.ext hv e3
    refine ⟨p, n, vs, rfl, Tp.inv_int hw, hp, by omega, by omega, by rw [hx.len]; exact Nat.le_trans hl (by decide), fun p3 hp3 => ?_⟩
    exact q _ _ ((e2.trans e3).trans (Ext.new hp3)) ⟨p3, rfl, (e2.trans e3).free _ hp3, _, upd_same, (tpAll_rep hx n).mono (Ext.new (T := T) hp3).tx⟩)
/-! slices -/
theorem cut_data {vs : List V} {xs : List PyData} (h : TpAll H vs xs) (n m : Nat) : TpAll H ((vs.drop n).take m) ((xs.drop n).take m) := (h.drop n).take m
/-- t[i:] -/
theorem ee_sliceT {xs : List PyData} {n : Nat} {p2 : Pos} (ha : EE T X a Γ (.d (.tuple xs))) (hb : EE T X b Γ (.d (.int (n : Int)))) : EE T X (.Subscript a (.Slice (some b) none none p2) pos) Γ (.d (.tuple (xs.drop n))) := fun H0 Θ σ H k Q q =>
  leE (pe_slice sl_tupA pe_w (po_some pe_w) po_none) (ha H0 Θ σ H k _ fun v H2 e2 hv => hb H0 Θ σ H2 (k.mono e2) _ fun w H3 e3 hw => by
    obtain ⟨p, vs, rfl, hp, hx⟩ := Tp.inv_tup (Tp.mono e3.tx hv)
    refine ⟨n, Tp.inv_int hw, p, vs, rfl, .inl (.inl hp), fun z => ?_, fun _ p3 hp3 => ?_⟩
    · rw [HT.sIx_nat, HT.sIx_none] at z
      have e : xs.drop n = xs := by
        have h1 := hx.len
        by_cases hn : n = 0
        · rw [hn, List.drop_zero]
        · have : xs = [] := List.eq_nil_of_length_eq_zero (by omega)
          rw [this, List.drop_nil]
      refine q _ H3 (e2.trans e3) ?_
      show Tp H3 (.ref p) (.tuple (xs.drop n))
      rw [e]
      exact .tup hp hx
    · refine q _ _ ((e2.trans e3).trans (Ext.new hp3)) (.tup upd_same (TpAll.mono (Ext.new (T := T) hp3).tx ?_))
      unfold cutV
      rw [HT.sIx_nat, HT.sIx_none]
      have e : List.take (vs.length - min n vs.length) (List.drop (min n vs.length) vs) = vs.drop n := by
        by_cases hn : n ≤ vs.length
        · rw [Nat.min_eq_left hn]
          exact List.take_of_length_le (by rw [List.length_drop]; omega)
        · rw [Nat.min_eq_right (by omega), List.drop_length, List.take_nil, List.drop_eq_nil_of_le (by omega)]
      rw [e]
      exact hx.drop n)
end
end Pt
set_option maxHeartbeats 4000000
/-! Layer C: calls, what is walked, comprehensions, statements. -/
namespace Pt
open PySem PySem.Spec PyProof.Rows L2
/-! ### the promise of a pure def -/
/-- A as r: called with as (data, or lists to be read) it gives r (a datum or a new list) -/
def spG (T : List NTab) (A : List RS → RS → Prop) : Sp := fun vs H Q _ => ∃ as r, A as r ∧ TabsN T H ∧ RsAll [] H H as vs ∧ ∀ v H', Ext T H H' → RsOk [] H H' r v → Q v H'
/-- what an argument may be handed as -/
def Arg : RS → RS → Prop
  | .d x, r => r = .d x
  | .n xs, r => r = .q xs
  | .q xs, r => r = .q xs
  | .p xs, r => r = .q xs
  | .w _ _, _ => False
  | .wl, r => r = .wl
/-- a def that may be called by its name -/
structure FnG (P : Program) (w : World) (K : PySem.W.Frag) (mg : Str → Option Value) (base : Heap) (T : List NTab) (k : Nat) (x : Str) (A : List RS → RS → Prop) : Prop where
  ex : ∃ (f : Addr) (fd : FuncData) (ps : List Str), mg x = some (.ref f) ∧ PySem.W.keepIn K (.ref f) = true ∧ Binds K fd ps [] ∧ FnOk P w K mg base CX0 k f fd ps (spG T A) ∧ ∃ (oc : Value) (od : Option Addr) (osl : Array (Option Value)), K.lookup f = some ⟨oc, od, .func fd, osl⟩
section
variable {T : List NTab} {X : Cx} {Γ : List Sh} {a b c e : Expr} {pos : Pos} {H0 H H1 H2 : Hp} {Θ : Pins} {σ : L2.St}
theorem rs_nil {r : RS} {v : V} (h : RsOk [] H H1 r v) : RsOk Θ H H1 r v := by
  cases r with
  | d x => exact h
  | n xs => exact h
  | q xs => exact h
  | p xs => obtain ⟨p, vs, _, z, _⟩ := h; cases z
  | w ds xs => exact h
  | wl => exact h
/-- the arguments, as they are handed -/
theorem args_q : ∀ {rs as : List RS} {vs : List V}, RsAll Θ H H1 rs vs → Paired Arg rs as → Ext T H H1 → (∀ q ∈ Θ, H q.1 = some (.lst q.2)) → RsAll [] H1 H1 as vs
  | [], [], [], _, _, _, _ => trivial
  | r :: rs, a :: as, v :: vs, ⟨h1, h2⟩, .cons p t, e, hp => by
    refine ⟨?_, args_q h2 t e hp⟩
    cases r with
    | d x => cases p; exact h1
    | n xs => cases p; obtain ⟨p, z, _, l⟩ := h1; exact ⟨p, z, l⟩
    | q xs => cases p; exact h1
    | p xs => cases p; obtain ⟨p, vs, z, m, l⟩ := h1; exact ⟨p, z, vs, e.lst (hp _ m), l⟩
    | w ds xs => exact p.elim
    | wl => cases p; exact h1
  | [], _ :: _, _, _, p, _, _ => by cases p
  | [], [], _ :: _, h, _, _, _ => h.elim
  | _ :: _, [], _, _, p, _, _ => by cases p
  | _ :: _, _ :: _, [], h, _, _, _ => h.elim
/-- f(e, ..) -/
theorem ee_call {x : Str} {p : Pos} {es : List Expr} {rs as : List RS} {r : RS} {k : Nat} {A : List RS → RS → Prop} (F : FnG X.prog X.w X.K X.mg X.base T k x A) (hr : Room k X.A) (ha : EA T X (a :: es) Γ rs) (hp : Paired Arg rs as) (hA : A as r)
    (hg : Gl X x := by rfl) (hd : (x == ("__debug__" : Str)) = false := by decide) (he : starEach (a :: es) X.env = (false, eval a X.env) :: starEach es X.env := by rfl) (hpl : (backTo pos (starEach es X.env)).any (·.1) = false := by rfl) :
    EE T X (.Call (.Name x p) (a :: es) [] pos) Γ r := fun H0 Θ σ H kk Q q => by
  obtain ⟨f, fd, ps, hm, hk, hb, G, _⟩ := F.ex
  refine leE (pe_call G hr hg hm hk hb .nil pass0 pa_w hd he hpl) (ha H0 Θ σ H kk _ fun vs H2 e2 hv => ?_)
  rw [List.append_nil]
  exact ⟨as, r, hA, e2.tabs kk.tabs, args_q hv hp e2 kk.pins, fun v H' e3 hv' => q v H' (e2.trans e3) (rs_nil (hv'.back e2))⟩
end
/-! ### what is walked -/
def wI (X : Cx) (tg iter : Expr) : TI := fun σ H R => ∀ pins s, Inv X pins σ H s → wpAny (model X.prog X.w) X.A (eval iter X.env) (fun v s1 => wpAny (model X.prog X.w) X.A (pyIter v) (PIE X pins σ tg R) X.xe s1) X.xe s
theorem pi_w {X : Cx} {tg iter : Expr} : PI X tg iter (wI X tg iter) := ⟨fun pins s _ _ _ I h => h pins s I⟩
theorem leI {X : Cx} {tg iter : Expr} {t : TI} {σ : L2.St} {H : Hp} {R : It → Hp → Prop} (h : PI X tg iter t) (q : t σ H R) : wI X tg iter σ H R := fun pins s I => h.run pins s σ H R I q
/-- J walks ds while the tuples and the lists at L stand -/
structure JOk (T : List NTab) (H2 : Hp) (L : Pins) (J : It) (ds : List PyData) : Prop where
  stop : ∀ i H, ds.length ≤ i → Tx H2 H → (∀ q ∈ L, H q.1 = some (.lst q.2)) → J.stop i H
  go : ∀ i d H, ds[i]? = some d → Tx H2 H → (∀ q ∈ L, H q.1 = some (.lst q.2)) → J.go i H ∧ ∀ x H', J.yld i H x H' → Ext T H H' ∧ Tp H' x d
def EI (T : List NTab) (X : Cx) (tg iter : Expr) (Γ : List Sh) (ds : List PyData) (fz : Bool) : Prop := ∀ (H0 : Hp) (Θ : Pins) (σ : L2.St) (H : Hp), Ok T H0 Θ Γ σ H → ∀ R : It → Hp → Prop,
  (∀ J H2 L, Ext T H H2 → (∀ q ∈ L, H2 q.1 = some (.lst q.2)) → (fz = true → ∀ q ∈ L, ∀ i, IsL Γ i → σ[i]? ≠ some (some (.ref q.1))) → JOk T H2 L J ds → R J H2) → wI X tg iter σ H R
section
variable {T : List NTab} {X : Cx} {Γ : List Sh} {a b c e tg iter : Expr} {pos : Pos} {H0 H H1 H2 : Hp} {Θ : Pins} {σ : L2.St} {ds : List PyData}
theorem jok_list {K : PySem.W.Frag} {p : Addr} {vs : List V} (h : TpAll H2 vs ds) : JOk T H2 [(p, vs)] (Itl K p) ds where
  stop := fun i H hi _ hp => ⟨vs, .inl (.inl (hp _ List.mem_cons_self)), by rw [h.len]; exact hi⟩
  go := fun i d H hd tx hp => by
    obtain ⟨x, hx, ht⟩ := h.get hd
    have q : H p = some (.lst vs) := hp _ List.mem_cons_self
    refine ⟨⟨vs, x, .inl (.inl q), hx⟩, fun y H' hy => ?_⟩
    obtain ⟨rfl, f⟩ := hy
    have := f vs (.inl (.inl q))
    rw [hx] at this
    cases this
    exact ⟨Ext.refl _, ht.mono tx⟩
theorem jok_tup {K : PySem.W.Frag} {p : Addr} {vs : List V} (hp : H2 p = some (.tup vs)) (h : TpAll H2 vs ds) : JOk T H2 [] (Itt K p) ds where
  stop := fun i H hi tx _ => ⟨vs, .inl (.inl (tx _ _ hp)), by rw [h.len]; exact hi⟩
  go := fun i d H hd tx _ => by
    obtain ⟨x, hx, ht⟩ := h.get hd
    have q : H p = some (.tup vs) := tx _ _ hp
    refine ⟨⟨vs, x, .inl (.inl q), hx⟩, fun y H' hy => ?_⟩
    obtain ⟨rfl, f⟩ := hy
    have := f vs (.inl (.inl q))
    rw [hx] at this
    cases this
    exact ⟨Ext.refl _, ht.mono tx⟩
theorem jok_rng {lo : Int} {n : Nat} : JOk T H2 [] (Itr lo n) ((List.range n).map fun (i : Nat) => PyData.int (lo + (i : Int))) where
  stop := fun i H hi _ _ => by
    rw [List.length_map, List.length_range] at hi
    exact hi
  go := fun i d H hd tx _ => by
    rw [List.getElem?_map] at hd
    have hi : i < n := by
      cases e : (List.range n)[i]? with
      | none => rw [e] at hd; cases hd
      | some j =>
        have := (List.getElem?_eq_some_iff.mp e).1
        rwa [List.length_range] at this
    rw [List.getElem?_range hi] at hd
    cases hd
    refine ⟨hi, fun y H' hy => ?_⟩
    obtain ⟨rfl, rfl⟩ := hy
    exact ⟨Ext.refl _, .int _⟩
theorem ei_tup (h : EE T X iter Γ (.d (.tuple ds))) : EI T X tg iter Γ ds true := fun H0 Θ σ H k R q =>
  leI (pi_tup pe_w) (h H0 Θ σ H k _ fun v H2 e2 hv => by
    obtain ⟨p, vs, rfl, hp, hx⟩ := Tp.inv_tup hv
    exact ⟨p, rfl, ⟨vs, .inl (.inl hp)⟩, q _ H2 [] e2 (fun _ z => by cases z) (fun _ _ z => by cases z) (jok_tup hp hx)⟩)
theorem ei_q (h : EE T X iter Γ (.q ds)) : EI T X tg iter Γ ds false := fun H0 Θ σ H k R q =>
  leI (pi_list pe_w) (h H0 Θ σ H k _ fun v H2 e2 ⟨p, hv, vs, hp, hx⟩ => by
    subst hv
    refine ⟨p, rfl, ⟨vs, .inl (.inl hp)⟩, q _ H2 [(p, vs)] e2 (fun z hz => ?_) (fun z => by cases z) (jok_list hx)⟩
    rcases List.mem_cons.mp hz with rfl | hz
    · exact hp
    · cases hz)
theorem ei_n (h : EE T X iter Γ (.n ds)) : EI T X tg iter Γ ds true := fun H0 Θ σ H k R q =>
  leI (pi_list pe_w) (h H0 Θ σ H k _ fun v H2 e2 ⟨p, hv, hn, vs, hp, hx⟩ => by
    subst hv
    refine ⟨p, rfl, ⟨vs, .inl (.inl hp)⟩, q _ H2 [(p, vs)] e2 (fun z hz => ?_) (fun _ z hz => ?_) (jok_list hx)⟩
    · rcases List.mem_cons.mp hz with rfl | hz
      · exact hp
      · cases hz
    · rcases List.mem_cons.mp hz with rfl | hz
      · exact k.notNew hn
      · cases hz)
theorem ei_p (h : EE T X iter Γ (.p ds)) : EI T X tg iter Γ ds true := fun H0 Θ σ H k R q =>
  leI (pi_list pe_w) (h H0 Θ σ H k _ fun v H2 e2 ⟨p, vs, hv, hm, hx⟩ => by
    subst hv
    have hp : H2 p = some (.lst vs) := e2.lst (k.pins _ hm)
    refine ⟨p, rfl, ⟨vs, .inl (.inl hp)⟩, q _ H2 [(p, vs)] e2 (fun z hz => ?_) (fun _ z hz => ?_) (jok_list hx)⟩
    · rcases List.mem_cons.mp hz with rfl | hz
      · exact hp
      · cases hz
    · rcases List.mem_cons.mp hz with rfl | hz
      · exact fun i hi hs => k.sepP i p vs hi hs hm
      · cases hz)
theorem ei_rng1 {p : Pos} {n : Nat} (h : EA T X [a] Γ [.d (.int (n : Int))]) (hn : n ≤ 100000) (hm : X.mg "range" = none) (hg : Gl X "range" := by rfl) (hs : starEach [a] X.env = [(false, eval a X.env)] := by rfl) :
    EI T X tg (.Call (.Name "range" p) [a] [] pos) Γ ((List.range n).map fun (i : Nat) => PyData.int (i : Int)) true := fun H0 Θ σ H k R q =>
  leI (pi_range1 hg hm pa_w hs) (h H0 Θ σ H k _ fun vs H2 e2 hv => by
    obtain ⟨v, rfl⟩ : ∃ v, vs = [v] := by
      have := hv.len
      match vs, this with
      | [v], _ => exact ⟨v, rfl⟩
    refine ⟨(n : Int), by rw [Tp.inv_int hv.1], by omega, by omega, q _ H2 [] e2 (fun _ z => by cases z) (fun _ _ z => by cases z) ?_⟩
    have := jok_rng (T := T) (H2 := H2) (lo := 0) (n := n)
    simp only [Int.zero_add] at this
    exact this)
theorem ei_rng2 {p : Pos} {lo n : Nat} (h : EA T X [a, b] Γ [.d (.int (lo : Int)), .d (.int (n : Int))]) (hn : lo ≤ 100000 ∧ n ≤ 100000) (hm : X.mg "range" = none) (hg : Gl X "range" := by rfl) (hs : starEach [a, b] X.env = [(false, eval a X.env), (false, eval b X.env)] := by rfl) (hs2 : starEach [b] X.env = [(false, eval b X.env)] := by rfl) :
    EI T X tg (.Call (.Name "range" p) [a, b] [] pos) Γ ((List.range' lo (n - lo)).map fun (i : Nat) => PyData.int (i : Int)) true := fun H0 Θ σ H k R q =>
  leI (pi_range2 hg hm pa_w hs hs2) (h H0 Θ σ H k _ fun vs H2 e2 hv => by
    obtain ⟨v, w, rfl⟩ : ∃ v w, vs = [v, w] := by
      have := hv.len
      match vs, this with
      | [v, w], _ => exact ⟨v, w, rfl⟩
    refine ⟨(lo : Int), (n : Int), by rw [Tp.inv_int hv.1, Tp.inv_int hv.2.1], ⟨by omega, by omega, by omega, by omega⟩, q _ H2 [] e2 (fun _ z => by cases z) (fun _ _ z => by cases z) ?_⟩
    have := jok_rng (T := T) (H2 := H2) (lo := (lo : Int)) (n := n - lo)
    have e1 : ((n : Int) - (lo : Int)).toNat = n - lo := by omega
    rw [e1]
    have e : (List.range' lo (n - lo)).map (fun (i : Nat) => PyData.int (i : Int)) = (List.range (n - lo)).map fun (i : Nat) => PyData.int ((lo : Int) + (i : Int)) := by
      rw [List.range'_eq_map_range, List.map_map]
      refine List.map_congr_left fun i _ => ?_
      show PyData.int ((lo + i : Nat) : Int) = _
      rw [Int.natCast_add]
    rw [e]
    exact this)
end
/-! ### comprehensions -/
def wipeG (Γ : List Sh) : List Nat → List Sh
  | [] => Γ
  | v :: vs => (wipeG Γ vs).set v .any
section
variable {T : List NTab} {X : Cx} {Γ : List Sh} {pos : Pos} {H0 H H1 H2 : Hp} {Θ : Pins} {σ : L2.St}
theorem ok_wipe (k : Ok T H0 Θ Γ σ H) : ∀ vs : List Nat, Ok T H0 Θ (wipeG Γ vs) (wipe σ vs) H
  | [] => k
  | _ :: vs => (ok_wipe k vs).setAny
theorem wipe_get {v : Nat} : ∀ {vs : List Nat} {i : Nat}, i ∈ vs → ∀ (h : i < σ.length), (wipe σ vs)[i]? = some none
  | v :: vs, i, hi, h => by
    unfold wipe
    by_cases e : v = i
    · subst e
      rw [List.getElem?_set_self (by rw [wipe_length]; exact h)]
    · rw [List.getElem?_set_ne e]
      rcases List.mem_cons.mp hi with z | z
      · exact absurd z.symm e
      · exact wipe_get (v := v) z h
theorem wipe_out' {i : Nat} : ∀ {vs : List Nat}, i ∉ vs → (wipe σ vs)[i]? = σ[i]?
  | [], _ => rfl
  | v :: vs, h => by
    unfold wipe
    rw [List.getElem?_set_ne (fun z => h (by rw [z]; exact List.mem_cons_self))]
    exact wipe_out' (fun z => h (List.mem_cons_of_mem _ z))
theorem wipe_set {vs : List Nat} {j : Nat} (hj : j ∈ vs) (o : Option V) : wipe ((wipe σ vs).set j o) vs = wipe σ vs := by
  apply List.ext_getElem?
  intro i
  by_cases hi : i ∈ vs
  · by_cases hl : i < σ.length
    · rw [wipe_get (v := 0) hi hl, wipe_get (v := 0) hi (by rw [List.length_set, wipe_length]; exact hl)]
    · rw [List.getElem?_eq_none (by rw [wipe_length, List.length_set, wipe_length]; omega), List.getElem?_eq_none (by rw [wipe_length]; omega)]
  · rw [wipe_out' hi, List.getElem?_set_ne (fun z => hi (by rw [← z]; exact hj))]
theorem lc_read {α : Type} (as : List α) (enc : α → PyData) (F : α → Bool) (G : α → PyData) (j : Nat) {x : Str} {px : Pos} {elt iter : Expr} {ifs : List Expr} {scope : Scope} {own : List (Str × Nat)} {fz : Bool} {Q : VK}
    (k : Ok T H0 Θ Γ σ H) (hi : EI T X (.Name x px) iter Γ (as.map enc) fz) (hj : j ∈ own.map (·.2))
    (ht : ∀ a ∈ as, ∀ (s : Shared) (H : Hp) (C : Addr) (cl : List (Str × Addr)) (fp : List Addr), ETs T (X.blk s H scope (compEnvC scope cl C X.env) fp) ifs ((wipeG Γ (own.map (·.2))).set j (.d (enc a))) (F a))
    (he : ∀ a ∈ as, F a = true → ∀ (s : Shared) (H : Hp) (C : Addr) (cl : List (Str × Addr)) (fp : List Addr), EE T (X.blk s H scope (compEnvC scope cl C X.env) fp) elt ((wipeG Γ (own.map (·.2))).set j (.d (enc a))) (.d (G a)))
    (hl : as.length ≤ 10000) (q : ∀ v H2, Ext T H H2 → RsOk Θ H H2 (.n ((as.filter F).map G)) v → Q v H2) :
    tLc (wI X (.Name x px) iter) (gName j) (fun σ H Q => ∀ (s : Shared) (H' : Hp) (C : Addr) (cl : List (Str × Addr)) (fp : List Addr), wTs (X.blk s H' scope (compEnvC scope cl C X.env) fp) ifs σ H Q)
      (fun σ H Q => ∀ (s : Shared) (H' : Hp) (C : Addr) (cl : List (Str × Addr)) (fp : List Addr), wE (X.blk s H' scope (compEnvC scope cl C X.env) fp) elt σ H Q) (own.map (·.2)) σ H Q := by
  refine hi H0 Θ σ H k _ fun J H2 L e2 hL _ jk => ?_
  intro D hD
  have k2 := k.mono e2
  have kw := ok_wipe k2 (own.map (·.2))
  have hD0 : H0 D = none := k2.ext.free D hD
  have nD : ∀ i, IsL (wipeG Γ (own.map (·.2))) i → (wipe σ (own.map (·.2)))[i]? ≠ some (some (.ref D)) := kw.notNew hD
  have mD : ∀ vs, (D, vs) ∉ Θ := fun vs h => by
    have := k2.pins _ h
    rw [hD] at this
    cases this
  refine ⟨fun i m H' => m = as.length - i ∧ i ≤ as.length ∧ Ext T H2 H' ∧ Ok T H0 Θ (wipeG Γ (own.map (·.2))) (wipe σ (own.map (·.2))) H' ∧ LsAt H' D (((as.take i).filter F).map G),
    ⟨as.length, by simp, Nat.zero_le _, Ext.new hD, kw.mono (Ext.new hD), [], upd_same, .nil⟩, ?_⟩
  rintro i m H' ⟨rfl, hi', e3, k3, acc, hacc, hG⟩
  have pL : ∀ q ∈ L, H' q.1 = some (.lst q.2) := fun z hz => e3.lst (hL z hz)
  by_cases hlt : i < as.length
  · have ea : as[i]? = some as[i] := List.getElem?_eq_getElem hlt
    obtain ⟨hgo, hyl⟩ := jk.go i (enc as[i]) H' (by rw [List.getElem?_map, ea]; rfl) e3.tx pL
    refine .inr ⟨hgo, fun H'' => (i + 1) ≤ as.length ∧ Ext T H2 H'' ∧ Ok T H0 Θ (wipeG Γ (own.map (·.2))) (wipe σ (own.map (·.2))) H'' ∧ LsAt H'' D (((as.take (i + 1)).filter F).map G), fun H'' h => ⟨as.length - (i + 1), by omega, rfl, h⟩, fun v H4 hy => ?_⟩
    obtain ⟨e4, hv⟩ := hyl v H4 hy
    have k4 := (k3.mono e4).setD (i := j) hv
    have mem : as[i] ∈ as := List.getElem_mem hlt
    show wipe ((wipe σ (own.map (·.2))).set j (some v)) (own.map (·.2)) = wipe σ (own.map (·.2)) ∧ _
    refine ⟨wipe_set hj _, fun s Hx C cl fp => ?_⟩
    refine ht _ mem s Hx C cl fp H0 Θ _ H4 k4 _ fun H5 e5 => ?_
    have et : as.take (i + 1) = as.take i ++ [as[i]] := by rw [List.take_add_one, ea]; rfl
    cases hF : F as[i] with
    | true =>
      rw [if_pos rfl]
      intro s Hx C cl fp
      refine he _ mem hF s Hx C cl fp H0 Θ _ H5 (k4.mono e5) _ fun w H6 e6 hw => ?_
      have e46 := (e4.trans e5).trans e6
      have a6 : H6 D = some (.lst acc) := e46.lst hacc
      refine ⟨acc, a6, ?_, by omega, (e3.trans e46).mut hD a6, (k3.mono e46).mutO hD0 a6 nD mD, acc ++ [w], upd_same, ?_⟩
      · have h1 := hG.len
        rw [List.length_map] at h1
        have h2 := List.length_filter_le F (as.take i)
        rw [List.length_take] at h2
        exact Nat.lt_of_lt_of_le (show acc.length < 100000 by omega) (by decide)
      · rw [et, List.filter_append, List.map_append]
        have e7 : List.map G (List.filter F [as[i]]) = [G as[i]] := by simp [hF]
        rw [e7]
        exact TpAll.mono (Tx.mut a6) ((hG.mono e46.tx).append (.one hw))
    | false =>
      rw [if_neg Bool.false_ne_true]
      refine ⟨by omega, (e3.trans e4).trans e5, (k3.mono e4).mono e5, acc, (e4.trans e5).lst hacc, ?_⟩
      rw [et, List.filter_append, List.map_append]
      have e7 : List.map G (List.filter F [as[i]]) = [] := by simp [hF]
      rw [e7, List.append_nil]
      exact hG.mono (e4.trans e5).tx
  · have e : i = as.length := by omega
    subst e
    refine .inl ⟨jk.stop _ H' (by rw [List.length_map]; exact Nat.le_refl _) e3.tx pL, q _ H' (e2.trans e3) ⟨D, rfl, e2.free D hD, acc, hacc, ?_⟩⟩
    rw [List.take_length] at hG
    exact hG
theorem ee_lc {α : Type} (as : List α) (enc : α → PyData) (F : α → Bool) (G : α → PyData) (j : Nat) {x : Str} {px : Pos} {elt iter : Expr} {ifs : List Expr} {scope : Scope} {own : List (Str × Nat)} {fz : Bool} (hc : X.calm = true) (hN : X.N.Nodup)
    (ok : BlkOk X.N X.env.scope scope own) (hi : EI T X (.Name x px) iter Γ (as.map enc) fz) (hj : j ∈ own.map (·.2))
    (hg : ∀ (s : Shared) (H : Hp) (C : Addr) (cl : List (Str × Addr)) (fp : List Addr), PG (X.blk s H scope (compEnvC scope cl C X.env) fp) (.Name x px) (gName j))
    (ht : ∀ a ∈ as, ∀ (s : Shared) (H : Hp) (C : Addr) (cl : List (Str × Addr)) (fp : List Addr), ETs T (X.blk s H scope (compEnvC scope cl C X.env) fp) ifs ((wipeG Γ (own.map (·.2))).set j (.d (enc a))) (F a))
    (he : ∀ a ∈ as, F a = true → ∀ (s : Shared) (H : Hp) (C : Addr) (cl : List (Str × Addr)) (fp : List Addr), EE T (X.blk s H scope (compEnvC scope cl C X.env) fp) elt ((wipeG Γ (own.map (·.2))).set j (.d (enc a))) (.d (G a)))
    (hl : as.length ≤ 10000) (hs : ∀ x, foldedSetIterable iter X.env x = pure x := by intro _; rfl) :
    EE T X (.ListComp elt [⟨.Name x px, iter, ifs, 0⟩] scope pos) Γ (.n ((as.filter F).map G)) := by
  intro H0 Θ σ H k Q q
  exact leE (pe_lc (tt := fun σ H Q => ∀ (s : Shared) (H' : Hp) (C : Addr) (cl : List (Str × Addr)) (fp : List Addr), wTs (X.blk s H' scope (compEnvC scope cl C X.env) fp) ifs σ H Q)
    (te := fun σ H Q => ∀ (s : Shared) (H' : Hp) (C : Addr) (cl : List (Str × Addr)) (fp : List Addr), wE (X.blk s H' scope (compEnvC scope cl C X.env) fp) elt σ H Q) hc hN pi_w ok hg
    (fun s H' C cl fp => ⟨fun pins s' σ H Q I h => h s H' C cl fp pins s' I⟩) (fun s H' C cl fp => ⟨fun pins s' σ H Q I h => h s H' C cl fp pins s' I⟩) hs) (lc_read as enc F G j k hi hj ht he hl q)
/-- without a test -/
theorem ee_lc0 {α : Type} (as : List α) (enc : α → PyData) (G : α → PyData) (j : Nat) {x : Str} {px : Pos} {elt iter : Expr} {scope : Scope} {own : List (Str × Nat)} {fz : Bool} (hc : X.calm = true) (hN : X.N.Nodup)
    (ok : BlkOk X.N X.env.scope scope own) (hi : EI T X (.Name x px) iter Γ (as.map enc) fz) (hj : j ∈ own.map (·.2))
    (hg : ∀ (s : Shared) (H : Hp) (C : Addr) (cl : List (Str × Addr)) (fp : List Addr), PG (X.blk s H scope (compEnvC scope cl C X.env) fp) (.Name x px) (gName j))
    (he : ∀ a ∈ as, ∀ (s : Shared) (H : Hp) (C : Addr) (cl : List (Str × Addr)) (fp : List Addr), EE T (X.blk s H scope (compEnvC scope cl C X.env) fp) elt ((wipeG Γ (own.map (·.2))).set j (.d (enc a))) (.d (G a)))
    (hl : as.length ≤ 10000) (hs : ∀ x, foldedSetIterable iter X.env x = pure x := by intro _; rfl) :
    EE T X (.ListComp elt [⟨.Name x px, iter, [], 0⟩] scope pos) Γ (.n (as.map G)) :=
  ee_cast (ee_lc as enc (fun _ => true) G j hc hN ok hi hj hg (fun _ _ _ _ _ _ _ => ets_nil) (fun a ha _ => he a ha) hl hs) (by rw [List.filter_eq_self.mpr fun _ _ => rfl])
end
end Pt
set_option maxHeartbeats 4000000
/-! Layer D: statements and defs. -/
namespace Pt
open PySem PySem.Spec PyProof.Rows L2
structure GE where
  nx : List Sh → Prop
  rt : RS → Prop
  bk : List Sh → Prop := fun _ => False
  ct : List Sh → Prop := fun _ => False
abbrev Sub (Θ Θ' : Pins) : Prop := ∀ q ∈ Θ, q ∈ Θ'
def OkE (T : List NTab) (H0 : Hp) (Θ : Pins) (A : List Sh → Prop) : L2.St → Hp → Prop := fun σ H => ∃ Γ Θ', A Γ ∧ Sub Θ Θ' ∧ Ok T H0 Θ' Γ σ H
def GE.to (T : List NTab) (H0 : Hp) (Θ : Pins) (E : GE) : Ends := { nx := OkE T H0 Θ E.nx, rt := fun v H => ∃ r, E.rt r ∧ Ext T H0 H ∧ RsOk [] H0 H r v, bk := OkE T H0 Θ E.bk, ct := OkE T H0 Θ E.ct }
/-- statements from Γ on to the ends E -/
def HS (T : List NTab) (X : Cx) (st : List Stmt) (E : GE) (Γ : List Sh) : Prop := ∀ (H0 : Hp) (Θ : Pins) (σ : L2.St) (H : Hp), Ok T H0 Θ Γ σ H → wSs X st (E.to T H0 Θ) σ H
def H1 (T : List NTab) (X : Cx) (st : Stmt) (E : GE) (Γ : List Sh) : Prop := ∀ (H0 : Hp) (Θ : Pins) (σ : L2.St) (H : Hp), Ok T H0 Θ Γ σ H → wS X st (E.to T H0 Θ) σ H
section
variable {T : List NTab} {X : Cx} {Γ Γ' : List Sh} {E E' : GE} {a b c e tg iter : Expr} {pos : Pos} {H0 H H2 : Hp} {Θ Θ' Θ2 : Pins} {σ : L2.St} {st : Stmt} {sts : List Stmt}
theorem Sub.refl (Θ : Pins) : Sub Θ Θ := fun _ h => h
theorem OkE.sub {A : List Sh → Prop} (s : Sub Θ Θ') (h : OkE T H0 Θ' A σ H) : OkE T H0 Θ A σ H := by
  obtain ⟨Γ, Θ2, a, b, k⟩ := h
  exact ⟨Γ, Θ2, a, fun q hq => b q (s q hq), k⟩
theorem OkE.imp {A B : List Sh → Prop} (f : ∀ Γ, A Γ → B Γ) (h : OkE T H0 Θ A σ H) : OkE T H0 Θ B σ H := by
  obtain ⟨Γ, Θ2, a, b, k⟩ := h
  exact ⟨Γ, Θ2, f _ a, b, k⟩
theorem okE {A : List Sh → Prop} (k : Ok T H0 Θ Γ σ H) (h : A Γ) : OkE T H0 Θ A σ H := ⟨Γ, Θ, h, Sub.refl _, k⟩
theorem wSs_sub (s : Sub Θ Θ') (h : wSs X sts (E.to T H0 Θ') σ H) : wSs X sts (E.to T H0 Θ) σ H := h.mono (fun _ _ z => OkE.sub s z) (fun _ _ z => z) (fun _ _ z => OkE.sub s z) (fun _ _ z => OkE.sub s z)
theorem wS_sub (s : Sub Θ Θ') (h : wS X st (E.to T H0 Θ') σ H) : wS X st (E.to T H0 Θ) σ H := h.mono (fun _ _ z => OkE.sub s z) (fun _ _ z => z) (fun _ _ z => OkE.sub s z) (fun _ _ z => OkE.sub s z)
theorem HS.imp (h : HS T X sts E Γ) (h1 : ∀ Γ, E.nx Γ → E'.nx Γ) (h2 : ∀ r, E.rt r → E'.rt r) (h3 : ∀ Γ, E.bk Γ → E'.bk Γ) (h4 : ∀ Γ, E.ct Γ → E'.ct Γ) : HS T X sts E' Γ := fun H0 Θ σ H k =>
  (h H0 Θ σ H k).mono (fun _ _ z => OkE.imp h1 z) (fun _ _ ⟨r, a, b⟩ => ⟨r, h2 r a, b⟩) (fun _ _ z => OkE.imp h3 z) (fun _ _ z => OkE.imp h4 z)
theorem hs_nil (h : E.nx Γ) : HS T X [] E Γ := fun H0 Θ σ H k => leSs pss_nil (show (E.to T H0 Θ).nx σ H from okE k h)
theorem hs_cons (h : H1 T X st { E with nx := fun Γ' => HS T X sts E Γ' } Γ) : HS T X (st :: sts) E Γ := fun H0 Θ σ H k =>
  leSs (pss_cons ps_w pss_w) ((h H0 Θ σ H k).mono (fun σ' H' ⟨Γ', Θ', a, b, k'⟩ => wSs_sub b (a H0 Θ' σ' H' k')) (fun _ _ z => z) (fun _ _ z => z) (fun _ _ z => z))
theorem hs_one (h : H1 T X st E Γ) : HS T X [st] E Γ := fun H0 Θ σ H k => leSs (pss_one ps_w) (h H0 Θ σ H k)
/-! knowledge made less -/
inductive Le : List Sh → List Sh → Prop
  | nil : Le [] []
  | keep {s : Sh} {Γ Γ' : List Sh} : Le Γ Γ' → Le (s :: Γ) (s :: Γ')
  | drop {s : Sh} {Γ Γ' : List Sh} : Le Γ Γ' → Le (s :: Γ) (.any :: Γ')
theorem Le.refl : ∀ Γ : List Sh, Le Γ Γ
  | [] => .nil
  | _ :: Γ => .keep (Le.refl Γ)
theorem Le.len : ∀ {Γ Γ' : List Sh}, Le Γ Γ' → Γ.length = Γ'.length
  | _, _, .nil => rfl
  | _, _, .keep h => congrArg (· + 1) h.len
  | _, _, .drop h => congrArg (· + 1) h.len
theorem Le.get : ∀ {Γ Γ' : List Sh}, Le Γ Γ' → ∀ {i : Nat} {s' : Sh}, Γ'[i]? = some s' → s' = .any ∨ Γ[i]? = some s'
  | _, _, .nil, i, s', h => by simp at h
  | _, _, .keep l, 0, s', h => .inr h
  | _, _, .drop l, 0, s', h => .inl (by simp at h; exact h.symm)
  | _, _, .keep l, i + 1, s', h => by
    have := l.get (i := i) (s' := s') (by simpa using h)
    simpa using this
  | _, _, .drop l, i + 1, s', h => by
    have := l.get (i := i) (s' := s') (by simpa using h)
    simpa using this
theorem Ok.le (k : Ok T H0 Θ Γ σ H) (l : Le Γ Γ') : Ok T H0 Θ Γ' σ H := by
  have own : ∀ {i}, IsL Γ' i → IsL Γ i := fun {i} ⟨s, a, b⟩ => by
    rcases l.get a with z | z
    · subst z; cases b
    · exact ⟨s, z, b⟩
  refine ⟨k.ext, k.tabs, k.len.trans l.len, k.pins, fun i o s a b => ?_, fun i j p x y => k.sep i j p (own x) (own y), fun i p vs x => k.sepP i p vs (own x)⟩
  rcases l.get b with z | z
  · subst z; trivial
  · exact k.sat i o s a z
theorem hs_le (l : Le Γ Γ') (h : HS T X sts E Γ') : HS T X sts E Γ := fun H0 Θ σ H k => h H0 Θ σ H (k.le l)
/-- an own list is frozen -/
theorem hs_freeze {i : Nat} {xs : List PyData} (hi : Γ[i]? = some (.l xs)) (h : HS T X sts E (Γ.set i (.r xs))) : HS T X sts E Γ := fun H0 Θ σ H k => by
  obtain ⟨q, k'⟩ := k.freeze hi
  exact wSs_sub (fun z hz => List.mem_cons_of_mem _ hz) (h H0 _ σ H k')
/-! statements -/
/-- what a slot then is -/
def shOf : RS → Option Sh
  | .d x => some (.d x)
  | .n xs => some (.l xs)
  | .p xs => some (.r xs)
  | .q _ => none
  | .w _ _ => none
  | .wl => some .wl
theorem Ok.setR (k : Ok T H0 Θ Γ σ H) (e : Ext T H H2) {i : Nat} {v : V} {r : RS} {s : Sh} (hs : shOf r = some s) (h : RsOk Θ H H2 r v) : Ok T H0 Θ (Γ.set i s) (σ.set i (some v)) H2 := by
  cases r with
  | d x => cases hs; exact (k.mono e).setD h
  | n xs =>
    cases hs
    obtain ⟨p, rfl, hp, l⟩ := h
    exact k.setN e hp fun h0 => ⟨p, rfl, h0, l⟩
  | p xs => cases hs; exact (k.mono e).setX rfl ⟨v, rfl, h⟩
  | q xs => cases hs
  | w ds xs => cases hs
  | wl => cases hs; obtain ⟨p, rfl, h⟩ := h; exact (k.mono e).setX rfl ⟨p, rfl, h⟩
theorem RsOk.fwd {r : RS} {v : V} (h : RsOk Θ H H2 r v) (n : ∀ xs, r ≠ .n xs) (n2 : ∀ ds xs, r ≠ .w ds xs) : RsOk Θ H2 H2 r v := by
  cases r with
  | d x => exact h
  | n xs => exact absurd rfl (n xs)
  | q xs => exact h
  | p xs => exact h
  | w ds xs => exact absurd rfl (n2 ds xs)
  | wl => exact h
/-- name = e -/
theorem h1_set {i : Nat} {x : Str} {px : Pos} {r : RS} {s : Sh} (he : EE T X e Γ r) (hn : E.nx (Γ.set i s)) (hr : shOf r = some s := by rfl) (hN : X.N.Nodup := by exact FnScope.nd (by assumption)) (hi : X.N[i]? = some x := by rfl)
    (hx : L2.Loc X.env.scope x := by first | exact Or.inl rfl | exact Or.inr rfl) (hs : swapsWith e (some (.Name x px)) pos.line X.env = pure false := by rfl) (hf : X.fn x = true ∨ X.env.scope.names.lookup x = some .local := by first | exact .inl rfl | exact .inr rfl) :
    H1 T X (.Assign [.Name x px] e pos) E Γ := fun H0 Θ σ H k =>
  leS (ps_set hN hi hx pe_w hs hf) (he H0 Θ σ H k _ fun v H2 e2 hv => okE (k.setR e2 hr hv) hn)
/-- name = [..] on one line, the name a local: the comprehension is stored within its frame -/
theorem h1_setLc {i : Nat} {y : Str} {py : Pos} {α : Type} (as : List α) (enc : α → PyData) (F : α → Bool) (G : α → PyData) (j : Nat) {x : Str} {px spos : Pos} {elt : Expr} {ifs : List Expr} {scope : Scope} {own : List (Str × Nat)} {fz : Bool} (hc : X.calm = true) (hN : X.N.Nodup)
    (ok : BlkOk X.N X.env.scope scope own) (hi : EI T X (.Name x px) iter Γ (as.map enc) fz) (hj : j ∈ own.map (·.2))
    (hg : ∀ (s : Shared) (H : Hp) (C : Addr) (cl : List (Str × Addr)) (fp : List Addr), PG (X.blk s H scope (compEnvC scope cl C X.env) fp) (.Name x px) (gName j))
    (ht : ∀ a ∈ as, ∀ (s : Shared) (H : Hp) (C : Addr) (cl : List (Str × Addr)) (fp : List Addr), ETs T (X.blk s H scope (compEnvC scope cl C X.env) fp) ifs ((wipeG Γ (own.map (·.2))).set j (.d (enc a))) (F a))
    (he : ∀ a ∈ as, F a = true → ∀ (s : Shared) (H : Hp) (C : Addr) (cl : List (Str × Addr)) (fp : List Addr), EE T (X.blk s H scope (compEnvC scope cl C X.env) fp) elt ((wipeG Γ (own.map (·.2))).set j (.d (enc a))) (.d (G a)))
    (hl : as.length ≤ 10000) (hn : E.nx (Γ.set i (.l ((as.filter F).map G))))
    (hy : X.N[i]? = some y := by rfl) (hyl : X.env.scope.names.lookup y = some .local := by rfl) (hsw : swapsWith (.ListComp elt [⟨.Name x px, iter, ifs, 0⟩] scope pos) (some (.Name y py)) spos.line X.env = pure true := by exact sw_true rfl rfl rfl (by decide +kernel))
    (hs : ∀ x, foldedSetIterable iter X.env x = pure x := by intro _; rfl) :
    H1 T X (.Assign [.Name y py] (.ListComp elt [⟨.Name x px, iter, ifs, 0⟩] scope pos) spos) E Γ := by
  intro H0 Θ σ H k
  refine leS (ps_setLc (tt := fun σ H Q => ∀ (s : Shared) (H' : Hp) (C : Addr) (cl : List (Str × Addr)) (fp : List Addr), wTs (X.blk s H' scope (compEnvC scope cl C X.env) fp) ifs σ H Q)
    (te := fun σ H Q => ∀ (s : Shared) (H' : Hp) (C : Addr) (cl : List (Str × Addr)) (fp : List Addr), wE (X.blk s H' scope (compEnvC scope cl C X.env) fp) elt σ H Q) hc hN hy hyl hsw pi_w ok hg
    (fun s H' C cl fp => ⟨fun pins s' σ H Q I h => h s H' C cl fp pins s' I⟩) (fun s H' C cl fp => ⟨fun pins s' σ H Q I h => h s H' C cl fp pins s' I⟩) hs) (lc_read as enc F G j k hi hj ht he hl fun v H2 e2 hv => okE (k.setR (r := .n _) e2 rfl hv) hn)
/-- name = other name that holds an own list: it moves -/
theorem h1_move {i j : Nat} {x y : Str} {px py : Pos} {s : Sh} (hj : Γ[j]? = some s) (hs : s.own = true) (hij : i ≠ j) (hn : E.nx ((Γ.set j .any).set i s)) (hN : X.N.Nodup := by exact FnScope.nd (by assumption)) (hi : X.N[i]? = some x := by rfl) (hjn : X.N[j]? = some y := by rfl)
    (hx : L2.Loc X.env.scope x := by first | exact Or.inl rfl | exact Or.inr rfl) (hv : Vis X.env.scope y := by first | exact Or.inl rfl | exact Or.inr (Or.inl rfl) | exact Or.inr (Or.inr rfl)) (hd : (y == ("__debug__" : Str)) = false := by decide)
    (hcd : (y == ("__classdict__" : Str)) = false := by decide) (hsw : swapsWith (.Name y py) (some (.Name x px)) pos.line X.env = pure false := by rfl) (hf : X.fn x = true ∨ X.env.scope.names.lookup x = some .local := by first | exact .inl rfl | exact .inr rfl) (hil : i < Γ.length := by decide) :
    H1 T X (.Assign [.Name x px] (.Name y py) pos) E Γ := fun H0 Θ σ H k => by
  obtain ⟨o, ho, hz⟩ := k.slot hj
  obtain ⟨p, ep⟩ : ∃ p, o = some (V.ref p) := by
    cases s with
    | l xs => obtain ⟨p, e, _⟩ := hz; exact ⟨p, e⟩
    | ll xs => obtain ⟨p, _, e, _⟩ := hz; exact ⟨p, e⟩
    | t xs => obtain ⟨p, e, _⟩ := hz; exact ⟨p, e⟩
    | any => cases hs
    | d _ => cases hs
    | r _ => cases hs
    | wl => cases hs
  subst ep
  exact leS (ps_set hN hi hx (pe_var hjn hv hd hcd) hsw hf) ⟨_, ho, okE (k.move hj hs ho (by rw [k.len]; exact hil) hij) hn⟩
/-- return e -/
theorem h1_ret {r : RS} (he : EE T X e Γ r) (hn : E.rt r) (hr : match r with | .d _ => True | .n _ => True | _ => False := by trivial) : H1 T X (.Return (some e) pos) E Γ := fun H0 Θ σ H k =>
  leS (ps_ret pe_w) (he H0 Θ σ H k _ fun v H2 e2 hv => ⟨r, hn, k.ext.trans e2, by
    cases r with
    | d x => exact hv
    | n xs => obtain ⟨p, a, b, c⟩ := hv; exact ⟨p, a, k.ext.free _ b, c⟩
    | q xs => exact hr.elim
    | p xs => exact hr.elim
    | w ds xs => exact hr.elim
    | wl => exact hr.elim⟩)
/-- return an own list -/
theorem h1_retL {i : Nat} {x : Str} {px : Pos} {xs : List PyData} (hi : Γ[i]? = some (.l xs)) (hn : E.rt (.n xs)) (hN : X.N[i]? = some x := by rfl) (hv : Vis X.env.scope x := by first | exact Or.inl rfl | exact Or.inr (Or.inl rfl) | exact Or.inr (Or.inr rfl)) (hd : (x == ("__debug__" : Str)) = false := by decide)
    (hcd : (x == ("__classdict__" : Str)) = false := by decide) : H1 T X (.Return (some (.Name x px)) pos) E Γ := fun H0 Θ σ H k => by
  obtain ⟨p, hs, h0, l⟩ := k.own hi
  exact leS (ps_ret (pe_var hN hv hd hcd)) ⟨_, hs, _, hn, k.ext, p, rfl, h0, l⟩
theorem h1_if {x : Bool} {s1 s2 : List Stmt} (hc : ET T X c Γ x) (h1 : x = true → HS T X s1 E Γ) (h2 : x = false → HS T X s2 E Γ) : H1 T X (.If c s1 s2 pos) E Γ := fun H0 Θ σ H k =>
  leS (ps_if pt_w pss_w pss_w) (hc H0 Θ σ H k _ fun H2 e2 => by
    cases x with
    | true =>
      rw [if_pos rfl]
      exact h1 rfl H0 Θ σ H2 (k.mono e2)
    | false =>
      rw [if_neg Bool.false_ne_true]
      exact h2 rfl H0 Θ σ H2 (k.mono e2))
theorem h1_pass (h : E.nx Γ) : H1 T X (.Pass pos) E Γ := fun H0 Θ σ H k => leS ps_pass (show (E.to T H0 Θ).nx σ H from okE k h)
theorem h1_cont (h : E.ct Γ) : H1 T X (.Continue pos) E Γ := fun H0 Θ σ H k => leS ps_continue (show (E.to T H0 Θ).ct σ H from okE k h)
theorem h1_break (h : E.bk Γ) : H1 T X (.Break pos) E Γ := fun H0 Θ σ H k => leS ps_break (show (E.to T H0 Θ).bk σ H from okE k h)
/-- xs.append(e), xs an own list in slot i -/
theorem h1_append {i : Nat} {x : Str} {px apos cpos : Pos} {xs : List PyData} {d : PyData} (hi : Γ[i]? = some (.l xs)) (he : EA T X [e] Γ [.d d]) (hl : xs.length < 100000) (hn : E.nx (Γ.set i (.l (xs ++ [d])))) (hN : X.N[i]? = some x := by rfl)
    (hv : Vis X.env.scope x := by first | exact Or.inl rfl | exact Or.inr (Or.inl rfl) | exact Or.inr (Or.inr rfl)) (hd : (x == ("__debug__" : Str)) = false := by decide) (hcd : (x == ("__classdict__" : Str)) = false := by decide)
    (h1 : attributeBase (.Name x px) "append" X.env (eval (.Name x px) X.env) = eval (.Name x px) X.env := by rfl)
    (h2 : (((((backTo cpos (starEach [e] X.env)).all fun x => !x.fst) && (backToKw cpos (keywordEach [] X.env)).all fun x => x.fst.isSome) && decide (([e].length + ([] : List Keyword).length + if ([] : List Keyword).isEmpty = true then 0 else 1) < 30)) = true) := by rfl)
    (h3 : (apos.endLine == cpos.line) = true := by rfl) (h4 : starEach [e] X.env = (false, eval e X.env) :: starEach [] X.env := by rfl) (h5 : (backTo cpos (starEach [] X.env)).any (·.1) = false := by rfl)
    (h6 : swapsWith (.Call (.Attribute (.Name x px) "append" apos) [e] [] cpos) none pos.line X.env = pure false := by rfl) :
    H1 T X (.Expr (.Call (.Attribute (.Name x px) "append" apos) [e] [] cpos) pos) E Γ := fun H0 Θ σ H k => by
  obtain ⟨p, hs, h0, vs, hp, hx⟩ := k.own hi
  refine leS (ps_expr (pe_bm PySem.F.plainAttrs_list PySem.F.slot_list_append PySem.F.type_list_append mt_append (pe_var hN hv hd hcd) pa_w h1 h2 h3 h4 h5) h6) ⟨_, hs, .inl ⟨rfl, _, .inl (.inl hp)⟩, he H0 Θ σ H k _ fun us H2 e2 hu => ?_⟩
  obtain ⟨v, rfl⟩ : ∃ v, us = [v] := by
    have := hu.len
    match us, this with
    | [v], _ => exact ⟨v, rfl⟩
  exact ⟨p, vs, v, rfl, rfl, e2.lst hp, Nat.lt_of_lt_of_le (by rw [hx.len]; exact hl) (show 100000 ≤ sizeLine by decide), okE ((k.mono e2).mutL hi hs ((hx.mono e2.tx).append (.one hu.1))) hn⟩
/-- xs.extend(a list) -/
theorem h1_extend {i : Nat} {x : Str} {px apos cpos : Pos} {xs ys : List PyData} (hi : Γ[i]? = some (.l xs)) (he : EA T X [e] Γ [.q ys]) (hl : xs.length + ys.length ≤ 100000) (hn : E.nx (Γ.set i (.l (xs ++ ys)))) (hN : X.N[i]? = some x := by rfl)
    (hv : Vis X.env.scope x := by first | exact Or.inl rfl | exact Or.inr (Or.inl rfl) | exact Or.inr (Or.inr rfl)) (hd : (x == ("__debug__" : Str)) = false := by decide) (hcd : (x == ("__classdict__" : Str)) = false := by decide)
    (h1 : attributeBase (.Name x px) "extend" X.env (eval (.Name x px) X.env) = eval (.Name x px) X.env := by rfl)
    (h2 : (((((backTo cpos (starEach [e] X.env)).all fun x => !x.fst) && (backToKw cpos (keywordEach [] X.env)).all fun x => x.fst.isSome) && decide (([e].length + ([] : List Keyword).length + if ([] : List Keyword).isEmpty = true then 0 else 1) < 30)) = true) := by rfl)
    (h3 : (apos.endLine == cpos.line) = true := by rfl) (h4 : starEach [e] X.env = (false, eval e X.env) :: starEach [] X.env := by rfl) (h5 : (backTo cpos (starEach [] X.env)).any (·.1) = false := by rfl)
    (h6 : swapsWith (.Call (.Attribute (.Name x px) "extend" apos) [e] [] cpos) none pos.line X.env = pure false := by rfl) :
    H1 T X (.Expr (.Call (.Attribute (.Name x px) "extend" apos) [e] [] cpos) pos) E Γ := fun H0 Θ σ H k => by
  obtain ⟨p, hs, h0, vs, hp, hx⟩ := k.own hi
  refine leS (ps_expr (pe_bm PySem.F.plainAttrs_list PySem.F.slot_list_extend PySem.F.type_list_extend mt_extend (pe_var hN hv hd hcd) pa_w h1 h2 h3 h4 h5) h6) ⟨_, hs, .inl ⟨rfl, _, .inl (.inl hp)⟩, he H0 Θ σ H k _ fun us H2 e2 hu => ?_⟩
  obtain ⟨v, rfl⟩ : ∃ v, us = [v] := by
    have := hu.len
    match us, this with
    | [v], _ => exact ⟨v, rfl⟩
  obtain ⟨b, rfl, ws, hb, hy⟩ := hu.1
  exact ⟨p, b, vs, ws, rfl, rfl, e2.lst hp, hb, Nat.le_trans (by rw [hx.len, hy.len]; exact hl) (show 100000 ≤ sizeLine by decide), okE ((k.mono e2).mutL hi hs ((hx.mono e2.tx).append hy)) hn⟩
theorem ixN_of {n j : Nat} (hj : j < n) : ixN n (j : Int) = some j := Evl.ixN_nat hj
/-- xs[i] = e, xs an own list -/
theorem h1_setItem {i j : Nat} {x : Str} {px tpos : Pos} {ie : Expr} {xs : List PyData} {d : PyData} (hi : Γ[i]? = some (.l xs)) (he : EE T X e Γ (.d d)) (hk : EE T X ie Γ (.d (.int (j : Int)))) (hj : j < xs.length) (hn : E.nx (Γ.set i (.l (xs.set j d)))) (hN : X.N[i]? = some x := by rfl)
    (hv : Vis X.env.scope x := by first | exact Or.inl rfl | exact Or.inr (Or.inl rfl) | exact Or.inr (Or.inr rfl)) (hd : (x == ("__debug__" : Str)) = false := by decide) (hcd : (x == ("__classdict__" : Str)) = false := by decide)
    (ha : ∀ v, assign (.Subscript (.Name x px) ie tpos) X.env v = (do
      let ov ← holding [v] (eval (.Name x px) X.env)
      let iv ← holding [v, ov] (eval ie X.env)
      standAt tpos
      holding [v, ov, iv] (setItem ov iv v)
      release [v, ov, iv] []) := by intro _; rfl)
    (hs : swapsWithSole [.Subscript (.Name x px) ie tpos] e pos.line X.env = pure false := by rfl) (hw : swappedStores [.Subscript (.Name x px) ie tpos] e X.env = pure none := by rfl)
    (h1 : (assignEach [.Subscript (.Name x px) ie tpos] X.env).map (·.2) = [assign (.Subscript (.Name x px) ie tpos) X.env] := by rfl) :
    H1 T X (.Assign [.Subscript (.Name x px) ie tpos] e pos) E Γ := fun H0 Θ σ H k => by
  obtain ⟨p, hs', h0, vs, hp, hx⟩ := k.own hi
  refine leS (ps_asg pe_w (pg_sub (pe_var hN hv hd hcd) pe_w set_list ha) hs hw h1) (he H0 Θ σ H k _ fun v H2 e2 hv2 => ⟨_, hs', hk H0 Θ σ H2 (k.mono e2) _ fun u H3 e3 hu => ?_⟩)
  have e := e2.trans e3
  exact ⟨p, vs, (j : Int), j, rfl, Tp.inv_int hu, e.lst hp, ixN_of (by rw [hx.len]; exact hj), okE ((k.mono e).mutL hi hs' ((hx.mono e.tx).set j (Tp.mono e3.tx hv2))) hn⟩
/-! targets -/
/-- a datum d is assigned to the target: Γ becomes f Γ -/
def wG (X : Cx) (tg : Expr) : TG := fun v σ H Q => ∀ pins s u, Inv X pins σ H s → L2.RelV v u → wpAny (model X.prog X.w) X.A (assign tg X.env u) (fun _ s' => ∃ σ' H', Inv X pins σ' H' s' ∧ Q σ' H') X.xe s
theorem pg_w : PG X tg (wG X tg) := ⟨fun pins s _ _ _ u _ I r h => h pins s u I r⟩
theorem leG {t : TG} {v : V} {Q : L2.St → Hp → Prop} (h : PG X tg t) (q : t v σ H Q) : wG X tg v σ H Q := fun pins s u I r => h.run pins s σ H v u Q I r q
def EG (T : List NTab) (X : Cx) (tg : Expr) (d : PyData) (f : List Sh → List Sh) : Prop := ∀ (Γ : List Sh) (H0 : Hp) (Θ : Pins) (σ : L2.St) (H : Hp) (v : V), Ok T H0 Θ Γ σ H → Tp H v d → ∀ Q : L2.St → Hp → Prop, (∀ σ2 H2, Ext T H H2 → Ok T H0 Θ (f Γ) σ2 H2 → Q σ2 H2) → wG X tg v σ H Q
theorem eg_name {i : Nat} {x : Str} {px : Pos} {d : PyData} (hN : X.N.Nodup := by exact FnScope.nd (by assumption)) (hi : X.N[i]? = some x := by rfl) (hx : L2.Loc X.env.scope x := by first | exact Or.inl rfl | exact Or.inr rfl)
    (hf : X.fn x = true ∨ X.env.scope.names.lookup x = some .local := by first | exact .inl rfl | exact .inr rfl) : EG T X (.Name x px) d (fun Γ => Γ.set i (.d d)) := fun Γ H0 Θ σ H v k h Q q =>
  leG (pg_name hN hi hx hf) (q _ H (Ext.refl H) (k.setD h))
theorem eg_pair {i j : Nat} {x y : Str} {px py tpos : Pos} {d1 d2 : PyData} {kk : Nat} (hc : X.calm = true := by rfl) (hN : X.N.Nodup := by exact FnScope.nd (by assumption)) (hi : X.N[i]? = some x := by rfl) (hx : L2.Loc X.env.scope x := by first | exact Or.inl rfl | exact Or.inr rfl)
    (hf : X.fn x = true ∨ X.env.scope.names.lookup x = some .local := by first | exact .inl rfl | exact .inr rfl) (hj : X.N[j]? = some y := by rfl) (hy : L2.Loc X.env.scope y := by first | exact Or.inl rfl | exact Or.inr rfl)
    (hfy : X.fn y = true ∨ X.env.scope.names.lookup y = some .local := by first | exact .inl rfl | exact .inr rfl) : EG T X (.Tuple [.Name x px, .Name y py] kk tpos) (.tuple [d1, d2]) (fun Γ => (Γ.set i (.d d1)).set j (.d d2)) := fun Γ H0 Θ σ H v k h Q q => by
  obtain ⟨a, xs, rfl, ha, hxs⟩ := Tp.inv_tup h
  cases hxs with
  | cons t1 t2 =>
    cases t2 with
    | cons t2 t3 =>
      cases t3
      exact leG (pg_tup (n := 2) hc (pgs_cons (pg_name hN hi hx hf) (pgs_cons (pg_name hN hj hy hfy) pgs_nil))) ⟨a, _, rfl, .inl (.inl ha), rfl, _, _, rfl, _, _, rfl, rfl, q _ H (Ext.refl H) ((k.setD t1).setD t2)⟩
theorem eg_three {i j l : Nat} {x y z : Str} {px py pz tpos : Pos} {d1 d2 d3 : PyData} {kk : Nat} (hc : X.calm = true := by rfl) (hN : X.N.Nodup := by exact FnScope.nd (by assumption)) (hi : X.N[i]? = some x := by rfl) (hx : L2.Loc X.env.scope x := by first | exact Or.inl rfl | exact Or.inr rfl)
    (hf : X.fn x = true ∨ X.env.scope.names.lookup x = some .local := by first | exact .inl rfl | exact .inr rfl) (hj : X.N[j]? = some y := by rfl) (hy : L2.Loc X.env.scope y := by first | exact Or.inl rfl | exact Or.inr rfl)
    (hfy : X.fn y = true ∨ X.env.scope.names.lookup y = some .local := by first | exact .inl rfl | exact .inr rfl) (hl : X.N[l]? = some z := by rfl) (hz : L2.Loc X.env.scope z := by first | exact Or.inl rfl | exact Or.inr rfl)
    (hfz : X.fn z = true ∨ X.env.scope.names.lookup z = some .local := by first | exact .inl rfl | exact .inr rfl) : EG T X (.Tuple [.Name x px, .Name y py, .Name z pz] kk tpos) (.tuple [d1, d2, d3]) (fun Γ => ((Γ.set i (.d d1)).set j (.d d2)).set l (.d d3)) := fun Γ H0 Θ σ H v k h Q q => by
  obtain ⟨a, xs, rfl, ha, hxs⟩ := Tp.inv_tup h
  cases hxs with
  | cons t1 t2 =>
    cases t2 with
    | cons t2 t3 =>
      cases t3 with
      | cons t3 t4 =>
        cases t4
        exact leG (pg_tup (n := 3) hc (pgs_cons (pg_name hN hi hx hf) (pgs_cons (pg_name hN hj hy hfy) (pgs_cons (pg_name hN hl hz hfz) pgs_nil)))) ⟨a, _, rfl, .inl (.inl ha), rfl, _, _, rfl, _, _, rfl, _, _, rfl, rfl, q _ H (Ext.refl H) (((k.setD t1).setD t2).setD t3)⟩
/-- target = e -/
theorem h1_asg {d : PyData} {f : List Sh → List Sh} (he : EE T X e Γ (.d d)) (hg : EG T X tg d f) (hn : E.nx (f Γ)) (hs : swapsWithSole [tg] e pos.line X.env = pure false := by rfl) (hw : swappedStores [tg] e X.env = pure none := by rfl)
    (h1 : (assignEach [tg] X.env).map (·.2) = [assign tg X.env] := by rfl) : H1 T X (.Assign [tg] e pos) E Γ := fun H0 Θ σ H k =>
  leS (ps_asg pe_w pg_w hs hw h1) (he H0 Θ σ H k _ fun v H2 e2 hv => hg Γ H0 Θ σ H2 v (k.mono e2) hv _ fun σ2 H3 e3 k3 => okE k3 hn)
/-- a, b = x, y: stored one by one -/
theorem h1_par {i j : Nat} {x y : Str} {ea eb : Expr} {px py pt pt2 : Pos} {kt k2 : Nat} {r1 r2 : RS} {s1 s2 : Sh} (hij : i ≠ j) (ha : EA T X [ea, eb] Γ [r1, r2]) (hn : E.nx ((Γ.set i s1).set j s2)) (h1 : shOf r1 = some s1 := by rfl) (h2 : shOf r2 = some s2 := by rfl) (hnn : ∀ xs ys, ¬ (r1 = .n xs ∧ r2 = .n ys) := by intro _ _ h; cases h.1 <;> cases h.2)
    (hc : X.calm = true := by rfl) (hN : X.N.Nodup := by exact FnScope.nd (by assumption)) (hi : X.N[i]? = some x := by rfl) (hj : X.N[j]? = some y := by rfl) (hx : X.env.scope.names.lookup x = some .local := by rfl) (hy : X.env.scope.names.lookup y = some .local := by rfl)
    (hsw : swappedStores [.Tuple [.Name x px, .Name y py] kt pt] (.Tuple [ea, eb] k2 pt2) X.env = pure (some [x, y]) := by rfl) (hs : swapsWithSole [.Tuple [.Name x px, .Name y py] kt pt] (.Tuple [ea, eb] k2 pt2) pos.line X.env = pure false := by rfl) :
    H1 T X (.Assign [.Tuple [.Name x px, .Name y py] kt pt] (.Tuple [ea, eb] k2 pt2) pos) E Γ := fun H0 Θ σ H k =>
  leS (ps_par hc hN hi hj hij hx hy pa_w hsw hs) (ha H0 Θ σ H k _ fun vs H2 e2 hv => by
    obtain ⟨v, w, rfl⟩ : ∃ v w, vs = [v, w] := by
      have := hv.len
      match vs, this with
      | [v, w], _ => exact ⟨v, w, rfl⟩
    refine ⟨v, w, rfl, ?_⟩
    have hr1 := hv.1
    have hr2 := hv.2.1
    by_cases hz : ∃ ys, r2 = .n ys
    · obtain ⟨ys, rfl⟩ := hz
      refine okE ?_ hn
      rw [List.set_comm _ _ hij, List.set_comm _ _ hij]
      exact (k.setR e2 h2 hr2).setR (Ext.refl _) h1 (hr1.fwd (fun xs z => hnn xs ys ⟨z, rfl⟩) fun ds xs z => by subst z; cases h1)
    · exact okE ((k.setR e2 h1 hr1).setR (Ext.refl _) h2 (hr2.fwd (fun ys z => hz ⟨ys, z⟩) fun ds xs z => by subst z; cases h2)) hn)
/-! loops -/
/-- another base, which knows the tuples that stand now -/
theorem Ok.rebase (k : Ok T H0 Θ Γ σ H) : ∃ H0', Ok T H0' Θ Γ σ H ∧ (∀ (Γ' : List Sh) (Θ' : Pins) (σ' : L2.St) (H' : Hp), Ok T H0' Θ' Γ' σ' H' → Ok T H0 Θ' Γ' σ' H' ∧ Tx H H') ∧ (∀ H', Ext T H0' H' → Ext T H0 H') ∧ ∀ a, H0' a = none → H0 a = none := by
  let H0' : Hp := fun a => match H0 a with
    | some _ => H a
    | none => match H a with
      | some (.tup xs) => some (.tup xs)
      | some (.ext φ) => some (.ext φ)
      | _ => none
  have g1 : ∀ a o, H0 a = some o → H0' a = H a := fun a o h => by
    show (match H0 a with | some _ => H a | none => _) = _
    rw [h]
  have g2 : ∀ a xs, H a = some (.tup xs) → H0' a = some (.tup xs) := fun a xs h => by
    show (match H0 a with | some _ => H a | none => match H a with | some (.tup xs) => some (.tup xs) | some (.ext φ) => some (.ext φ) | _ => none) = _
    rw [h]
    cases H0 a <;> rfl
  have g5 : ∀ a φ, H a = some (.ext φ) → H0' a = some (.ext φ) := fun a xs h => by
    show (match H0 a with | some _ => H a | none => match H a with | some (.tup xs) => some (.tup xs) | some (.ext φ) => some (.ext φ) | _ => none) = _
    rw [h]
    cases H0 a <;> rfl
  have g3 : ∀ a o, H0' a = some o → H a = some o := fun a o h => by
    cases e : H0 a with
    | some u => rw [g1 a u e] at h; exact h
    | none =>
      have h : (match H0 a with | some _ => H a | none => match H a with | some (.tup xs) => some (.tup xs) | some (.ext φ) => some (.ext φ) | _ => none) = some o := h
      rw [e] at h
      cases e2 : H a with
      | none => rw [e2] at h; cases h
      | some u =>
        rw [e2] at h
        cases u <;> first | exact h | cases h
  have g4 : ∀ a, H0' a = none → H0 a = none := fun a h => by
    cases e : H0 a with
    | none => rfl
    | some u =>
      rw [g1 a u e] at h
      have := k.ext.free a h
      rw [e] at this
      cases this
  have own : ∀ i p, IsL Γ i → σ[i]? = some (some (.ref p)) → H0' p = none := fun i p hi hs => by
    obtain ⟨o, a1, a2, _, a4, a5⟩ := k.ownAt hi hs
    show (match H0 p with | some _ => H p | none => match H p with | some (.tup xs) => some (.tup xs) | some (.ext φ) => some (.ext φ) | _ => none) = none
    rw [a2, a1]
    cases o <;> first | rfl | exact absurd rfl (a5 _) | exact absurd rfl (a4 _)
  have hext : ∀ H', Ext T H0' H' → Ext T H0 H' := fun H' e => ⟨fun a o h n => e.keep a o ((g1 a o h).trans (k.ext.keep a o h n)) n, fun a h => g4 a (e.free a h), fun t => e.tabs (by
    refine fun q hq => ?_
    obtain ⟨ps, b1, b2, b3⟩ := k.tabs q hq
    obtain ⟨ps0, c1, _, _⟩ := t q hq
    refine ⟨ps, (g1 _ _ c1).trans b1, b2, fun pos cv hc => ?_⟩
    obtain ⟨c, e1, e2⟩ := b3 pos cv hc
    exact ⟨c, e1, g5 c _ e2⟩)⟩
  refine ⟨H0', ⟨⟨fun a o h _ => g3 a o h, fun a h => ?_, fun _ => k.tabs⟩, k.tabs, k.len, k.pins, fun i o s a b => ?_, k.sep, k.sepP⟩, fun Γ' Θ' σ' H' k' => ⟨⟨hext H' k'.ext, k'.tabs, k'.len, k'.pins, fun i o s a b => ?_, k'.sep, k'.sepP⟩, fun a xs h => k'.ext.keep a _ (g2 a xs h) (fun _ z => by cases z)⟩, hext, g4⟩
  · cases e : H0' a with
    | none => rfl
    | some o =>
      rw [g3 a o e] at h
      cases h
  · have z := k.sat i o s a b
    cases s with
    | any => trivial
    | d x => exact z
    | l xs => obtain ⟨p, rfl, c, d⟩ := z; exact ⟨p, rfl, own i p ⟨_, b, rfl⟩ a, d⟩
    | r xs => exact z
    | ll xss => obtain ⟨p, vs, rfl, c, d⟩ := z; exact ⟨p, vs, rfl, own i p ⟨_, b, rfl⟩ a, d⟩
    | t kvs => obtain ⟨p, rfl, c, d⟩ := z; exact ⟨p, rfl, own i p ⟨_, b, rfl⟩ a, d⟩
    | wl => exact z
  · have z := k'.sat i o s a b
    cases s with
    | any => trivial
    | d x => exact z
    | l xs => obtain ⟨p, rfl, c, d⟩ := z; exact ⟨p, rfl, g4 p c, d⟩
    | r xs => exact z
    | ll xss => obtain ⟨p, vs, rfl, c, d⟩ := z; exact ⟨p, vs, rfl, g4 p c, d⟩
    | t kvs => obtain ⟨p, rfl, c, d⟩ := z; exact ⟨p, rfl, g4 p c, d⟩
    | wl => exact z
theorem h1_for {α : Type} (as : List α) (enc : α → PyData) (f : α → List Sh → List Sh) {body : List Stmt} (hi : EI T X tg iter Γ (as.map enc) true) (hg : ∀ a ∈ as, EG T X tg (enc a) (f a)) (I : Nat → List Sh → Prop) (h0 : I 0 Γ)
    (hs : ∀ i a Γ', as[i]? = some a → I i Γ' → HS T X body { nx := I (i + 1), ct := I (i + 1), bk := E.nx, rt := E.rt } (f a Γ')) (hd : ∀ Γ', I as.length Γ' → E.nx Γ')
    (hp : PassesOwn (model X.prog X.w) X.A X.env X.xe := by exact PassesOwn.never) (hc : X.calm = true := by rfl) (hf : ∀ x, foldedSetIterable iter X.env x = pure x := by intro _; rfl) : H1 T X (.For tg iter body [] pos) E Γ := fun H0 Θ σ H k =>
  leS (ps_for hp hc pi_w pg_w pss_w hf) (hi H0 Θ σ H k _ fun J H2 L e2 hL hn jk => by
    -- the walked lists are frozen
    have k2 := k.mono e2
    obtain ⟨Θ2, s2, k2, hL2⟩ : ∃ Θ2, Sub Θ Θ2 ∧ Ok T H0 Θ2 Γ σ H2 ∧ Sub L Θ2 := by
      have go : ∀ (L' : Pins), Sub L' L → ∃ Θ2, Sub Θ Θ2 ∧ Ok T H0 Θ2 Γ σ H2 ∧ Sub L' Θ2 := by
        intro L'
        induction L' with
        | nil => exact fun _ => ⟨Θ, Sub.refl _, k2, fun _ z => by cases z⟩
        | cons q L' ih =>
          intro hq
          obtain ⟨Θ2, a, b, c⟩ := ih fun z hz => hq z (List.mem_cons_of_mem _ hz)
          have m := hq q List.mem_cons_self
          exact ⟨q :: Θ2, fun z hz => List.mem_cons_of_mem _ (a z hz), b.pin (hL q m) (hn rfl q m), fun z hz => by
            rcases List.mem_cons.mp hz with e | e
            · rw [e]; exact List.mem_cons_self
            · exact List.mem_cons_of_mem _ (c z e)⟩
      exact go L (Sub.refl L)
    refine ⟨fun i m σ' H' => m = as.length - i ∧ i ≤ as.length ∧ Tx H2 H' ∧ OkE T H0 Θ2 (I i) σ' H', ⟨as.length, by simp, Nat.zero_le _, Tx.refl _, okE k2 h0⟩, ?_⟩
    rintro i m σ' H' ⟨rfl, hi', tx, Γ', Θ3, hI, s3, k3⟩
    have pL : ∀ q ∈ L, H' q.1 = some (.lst q.2) := fun q hq => k3.pins q (s3 q (hL2 q hq))
    by_cases hlt : i < as.length
    · have ed : as[i]? = some as[i] := List.getElem?_eq_getElem hlt
      obtain ⟨hgo, hyl⟩ := jk.go i (enc as[i]) H' (by rw [List.getElem?_map, ed]; rfl) tx pL
      refine .inr ⟨hgo, fun σ'' H'' => i + 1 ≤ as.length ∧ Tx H2 H'' ∧ OkE T H0 Θ2 (I (i + 1)) σ'' H'', fun σ'' H'' z => ⟨as.length - (i + 1), by omega, rfl, z⟩, fun v H4 hy => ?_⟩
      obtain ⟨e4, hv⟩ := hyl v H4 hy
      refine hg _ (List.getElem_mem hlt) Γ' H0 Θ3 σ' H4 v (k3.mono e4) hv _ fun σ5 H5 e5 k5 => ?_
      have txs : Tx H2 H5 := (tx.trans e4.tx).trans e5.tx
      -- the body, from the heap as it stands
      obtain ⟨H0', k6, back, bext, bfree⟩ := k5.rebase
      refine (hs i _ Γ' ed hI H0' Θ3 σ5 H5 k6).mono (fun σ7 H7 ⟨Γ7, Θ7, a7, s7, k7⟩ => ?_) (fun v7 H7 ⟨r, a7, b7, c7⟩ => ⟨r, a7, bext _ b7, ?_⟩) (fun σ7 H7 ⟨Γ7, Θ7, a7, s7, k7⟩ => OkE.sub (fun z hz => s3 z (s2 z hz)) ⟨Γ7, Θ7, a7, s7, (back _ _ _ _ k7).1⟩) (fun σ7 H7 ⟨Γ7, Θ7, a7, s7, k7⟩ => ?_)
      · obtain ⟨k8, t8⟩ := back _ _ _ _ k7
        exact ⟨hlt, txs.trans t8, Γ7, Θ7, a7, fun z hz => s7 z (s3 z hz), k8⟩
      · cases r with
        | d x => exact c7
        | n xs => obtain ⟨p, a, b, c⟩ := c7; exact ⟨p, a, bfree _ b, c⟩
        | q xs => exact c7
        | p xs => exact c7
        | w ds xs => obtain ⟨t, vs, p, a, b, c, d, f⟩ := c7; exact ⟨t, vs, p, a, b, c, bfree _ d, f⟩
        | wl => exact c7
      · obtain ⟨k8, t8⟩ := back _ _ _ _ k7
        exact ⟨hlt, txs.trans t8, Γ7, Θ7, a7, fun z hz => s7 z (s3 z hz), k8⟩
    · have e : i = as.length := by omega
      subst e
      exact .inl ⟨jk.stop _ H' (by rw [List.length_map]; exact Nat.le_refl _) tx pL, OkE.sub s2 (OkE.imp hd ⟨Γ', Θ3, hI, s3, k3⟩)⟩)
/-- over typed items, the shapes told by the turn -/
theorem h1_forG {α : Type} (as : List α) (enc : α → PyData) (f : α → List Sh → List Sh) {body : List Stmt} (hi : EI T X tg iter Γ (as.map enc) true) (hg : ∀ a ∈ as, EG T X tg (enc a) (f a)) (G : Nat → List Sh) (h0 : Le Γ (G 0))
    (hs : ∀ i a, as[i]? = some a → HS T X body { nx := fun Γ' => Le Γ' (G (i + 1)), ct := fun Γ' => Le Γ' (G (i + 1)), bk := E.nx, rt := E.rt } (f a (G i))) (hd : E.nx (G as.length)) (hf2 : ∀ a Γ Γ', Le Γ Γ' → Le (f a Γ) (f a Γ')) (hm : ∀ Γ Γ', Le Γ Γ' → E.nx Γ' → E.nx Γ)
    (hp : PassesOwn (model X.prog X.w) X.A X.env X.xe := by exact PassesOwn.never) (hc : X.calm = true := by rfl) (hf : ∀ x, foldedSetIterable iter X.env x = pure x := by intro _; rfl) : H1 T X (.For tg iter body [] pos) E Γ :=
  h1_for as enc f hi hg (fun i Γ' => Le Γ' (G i)) h0 (fun i a Γ' e l => hs_le (hf2 _ _ _ l) (hs i a e)) (fun Γ' l => hm _ _ l hd) hp hc hf
/-- while, by a measure -/
theorem h1_while {body : List Stmt} (W : Nat → List Sh → Prop) (m0 : Nat) (h0 : W m0 Γ)
    (hs : ∀ m Γ', W m Γ' → ∃ b, ET T X c Γ' b ∧ (b = true → HS T X body { nx := fun Γ2 => ∃ m', m' < m ∧ W m' Γ2, ct := fun Γ2 => ∃ m', m' < m ∧ W m' Γ2, bk := E.nx, rt := E.rt } Γ') ∧ (b = false → E.nx Γ'))
    (hp : PassesOwn (model X.prog X.w) X.A X.env X.xe := by exact PassesOwn.never) : H1 T X (.While c body [] pos) E Γ := fun H0 Θ σ H k =>
  leS (ps_while hp pt_w pss_w) (by
    refine ⟨fun m σ' H' => OkE T H0 Θ (W m) σ' H', ⟨m0, okE k h0⟩, ?_⟩
    rintro m σ' H' ⟨Γ', Θ', a, s, k'⟩
    obtain ⟨b, hb, h1, h2⟩ := hs m Γ' a
    refine hb H0 Θ' σ' H' k' _ fun H2 e2 => ?_
    cases b with
    | true =>
      rw [if_pos rfl]
      refine ⟨fun σ'' H'' => OkE T H0 Θ (fun Γ2 => ∃ m', m' < m ∧ W m' Γ2) σ'' H'', fun σ'' H'' ⟨Γ2, Θ2, ⟨m', l, w⟩, s2, k2⟩ => ⟨m', l, Γ2, Θ2, w, s2, k2⟩, ?_⟩
      exact (h1 rfl H0 Θ' σ' H2 (k'.mono e2)).mono (fun _ _ z => OkE.sub s z) (fun _ _ z => z) (fun _ _ z => OkE.sub s z) (fun _ _ z => OkE.sub s z)
    | false =>
      rw [if_neg Bool.false_ne_true]
      exact ⟨Γ', Θ', h2 rfl, s, k'.mono e2⟩)
end
/-! ### defs -/
/-- the shapes at the entry -/
def arg0 : RS → Sh
  | .d x => .d x
  | .q xs => .r xs
  | .wl => .wl
  | _ => .any
def Args0 (as : List RS) (n : Nat) : List Sh := as.map arg0 ++ List.replicate (n - as.length) .any
section
variable {T : List NTab} {H H2 : Hp}
theorem args_ok : ∀ {as : List RS} {vs : List V}, RsAll [] H H as vs → ∃ Θ : Pins, (∀ q ∈ Θ, H q.1 = some (.lst q.2)) ∧ ∀ (i : Nat) (v : V) (a : RS), vs[i]? = some v → as[i]? = some a → Sat H Θ H (some v) (arg0 a)
  | [], [], _ => ⟨[], (fun _ z => by cases z), (fun i v a h => by simp at h)⟩
  | a :: as, v :: vs, ⟨h1, h2⟩ => by
    obtain ⟨Θ, p1, p2⟩ := args_ok h2
    have go : ∀ (Θ' : Pins), (∀ q ∈ Θ, q ∈ Θ') → Sat H Θ' H (some v) (arg0 a) → ∀ (i : Nat) (v' : V) (a' : RS), (v :: vs)[i]? = some v' → (a :: as)[i]? = some a' → Sat H Θ' H (some v') (arg0 a') := fun Θ' hs h i v' a' e1 e2 => by
      cases i with
      | zero =>
        simp at e1 e2
        subst e1 e2
        exact h
      | succ i =>
        have z := p2 i v' a' (by simpa using e1) (by simpa using e2)
        cases a' with
        | d x => exact z
        | n xs => exact z
        | p xs => exact z
        | w ds xs => exact z
        | wl => exact z
        | q xs => obtain ⟨u, c, d⟩ := z; exact ⟨u, c, d.sub hs⟩
    cases a with
    | d x => exact ⟨Θ, p1, go Θ (fun _ h => h) ⟨v, rfl, h1⟩⟩
    | n xs => exact ⟨Θ, p1, go Θ (fun _ h => h) trivial⟩
    | p xs => exact ⟨Θ, p1, go Θ (fun _ h => h) trivial⟩
    | w ds xs => exact ⟨Θ, p1, go Θ (fun _ h => h) trivial⟩
    | wl => obtain ⟨p, rfl, h1⟩ := h1; exact ⟨Θ, p1, go Θ (fun _ h => h) ⟨p, rfl, h1⟩⟩
    | q xs =>
      obtain ⟨p, rfl, ws, hp, hx⟩ := h1
      exact ⟨(p, ws) :: Θ, fun q hq => by
        rcases List.mem_cons.mp hq with e | e
        · rw [e]; exact hp
        · exact p1 q e, go _ (fun _ h => List.mem_cons_of_mem _ h) ⟨_, rfl, p, ws, rfl, List.mem_cons_self, hx⟩⟩
  | [], _ :: _, h => h.elim
  | _ :: _, [], h => h.elim
theorem ok_start {as : List RS} {vs : List V} {N : List Str} (t : TabsN T H) (h : RsAll [] H H as vs) (hl : as.length ≤ N.length) : ∃ Θ, Ok T H Θ (Args0 as N.length) (L2.start N vs) H := by
  obtain ⟨Θ, p1, p2⟩ := args_ok h
  have el := h.len
  have noOwn : ∀ i, ¬ IsL (Args0 as N.length) i := fun i ⟨s, a, b⟩ => by
    unfold Args0 at a
    by_cases hi : i < as.length
    · rw [List.getElem?_append_left (by simpa using hi), List.getElem?_map] at a
      cases e : as[i]? with
      | none => rw [e] at a; cases a
      | some r => rw [e] at a; cases a; cases r <;> cases b
    · rw [List.getElem?_append_right (by simpa using hi), List.getElem?_replicate] at a
      split at a
      · cases a; cases b
      · cases a
  refine ⟨Θ, Ext.refl H, t, ?_, p1, fun i o s a b => ?_, fun i _ _ x => absurd x (noOwn i), fun i _ _ x => absurd x (noOwn i)⟩
  · unfold L2.start Args0
    rw [List.length_append, List.length_append, List.length_map, List.length_map, List.length_replicate, List.length_replicate, el]
  · unfold L2.start at a
    unfold Args0 at b
    by_cases hi : i < as.length
    · rw [List.getElem?_append_left (by simpa using hi), List.getElem?_map] at b
      rw [List.getElem?_append_left (by simp; omega), List.getElem?_map] at a
      cases e1 : as[i]? with
      | none => rw [e1] at b; cases b
      | some r =>
        cases e2 : vs[i]? with
        | none => rw [e2] at a; cases a
        | some v =>
          rw [e1] at b
          rw [e2] at a
          cases a; cases b
          exact p2 i v r e2 e1
    · rw [List.getElem?_append_right (by simpa using hi), List.getElem?_replicate] at b
      split at b
      · cases b; trivial
      · cases b
/-- THE RULE: a def by its body -/
theorem fnG_of {P : Program} {w : World} {K : PySem.W.Frag} {mg : Str → Option Value} {base : Heap} {x qual : Str} {st : Stmt} {f : Addr} {fd : FuncData} {N ps : List Str} {k : Nat} {A : List RS → RS → Prop} (F : Fun K x qual st f fd) (hb : Binds K fd ps []) (hm : mg x = some (.ref f)) (S : FnScope N ps (defScope st)) (hl : ∀ as r, A as r → as.length = ps.length)
    (hbody : ∀ (as : List RS) (r : RS), A as r → ∀ (cdv : Value) (A : Around) (outer : List Env) (s : Shared) (H : Hp) (E : XK), Room k (A.deeper (envOfC qual (defScope st) s.heap.objs.size f cdv)) →
      HS T (cxOf CX0 P w K mg base N qual (defScope st) f cdv A outer s H E).nox (defBody st) { nx := fun _ => r = .d .none, rt := fun r' => r' = r } (Args0 as N.length)) : FnG P w K mg base T (k + 1) x A := by
  have hpl : ps.length ≤ N.length := by have h0 := congrArg List.length S.pre; rw [List.length_take] at h0; omega
  have hlk : ∃ (oc : Value) (od : Option Addr) (osl : Array (Option Value)), K.lookup f = some ⟨oc, od, .func fd, osl⟩ := by
    obtain ⟨oc, od, kV, doc, pm, an, cdv, ct, osl, rfl, lk, _⟩ := F.ex
    exact ⟨oc, od, osl, lk⟩
  refine ⟨f, fd, ps, hm, F.kp, hb, F.ok S (fun vs H Q E h => ?_) (fun cdv A' outer s H vs Q E hr h => ?_), hlk⟩
  · obtain ⟨as, r, hA, _, hv, _⟩ := h
    rw [hv.len, hl as r hA]
  · obtain ⟨as, r, hA, ht, hv, q⟩ := h
    refine ⟨_, pss_w, ?_⟩
    obtain ⟨Θ, k0⟩ := ok_start (N := N) ht hv (by rw [hl as r hA]; exact hpl)
    refine (hbody as r hA cdv A' outer s H E hr H Θ _ H k0).mono (fun σ' H' ⟨Γ', Θ', a, b, c⟩ => ?_) (fun v H' ⟨r', a, b, c⟩ => ?_) (fun _ _ ⟨_, _, z, _⟩ => z.elim) (fun _ _ ⟨_, _, z, _⟩ => z.elim)
    · have a : r = .d .none := a
      subst a
      exact q _ H' c.ext .non
    · have a : r' = r := a
      subst a
      exact q v H' b c
end
end Pt
set_option maxHeartbeats 4000000
/-! Layer E: enumerate of a tuple. -/
namespace Pt.En
open PySem
open PySem.Sem (wp)
open AutoSeq1 (wpAny_loadPart')
theorem meets_enumerate_newT (tl : Addr) (elems : Array Value) (n : Nat) (dct : Option Addr) (sl : Array (Option Value)) :
    Meets (Builtin.«enumerate.__new__» ⟨[.type "enumerate", .ref tl], []⟩) (fun _ R s => s.heap.get? tl = some { cls := .type "tuple", dict := dct, data := .seq elems n, slots := sl } ∧
      R (.ok (.ret (.ref (s.heap.push { cls := .type "tuple_iterator", data := .fields #[.ref tl, .int 0 0] }).objs.size)))
        { s with heap := (s.heap.push { cls := .type "tuple_iterator", data := .fields #[.ref tl, .int 0 0] }).push { cls := .type "enumerate", data := .fields #[.none, .bool false, .ref s.heap.objs.size, rawInt 0, .none, .none] } }) :=
  .of_wp fun prog w Ar R s h => by
    obtain ⟨hp, g, d, tk, os⟩ := s; obtain ⟨atL, h⟩ := h
    have hsub := sub_enumerate
    have isTp : Heap.IsTuple (Shared.heap ⟨hp, g, d, tk, os⟩) tl elems := ⟨_, atL, rfl, n, rfl⟩
    wp_walk using wpAny_loadPart' atL
    refine wpAny_stack_any fun stt => wpAny_pure ?_
    split
    · rename_i c _ _ _ _ _
      cases (c == Value.type "enumerate")
      · wp_walk using wpAny_loadPart' atL, wpAny_pyIter_tuple isTp
        exact ⟨_, rfl, h⟩
      · wp_walk using wpAny_loadPart' atL, wpAny_pyIter_tuple isTp
        exact ⟨_, rfl, h⟩
    · wp_walk using wpAny_loadPart' atL, wpAny_pyIter_tuple isTp
      exact ⟨_, rfl, h⟩
theorem _root_.PySem.Draws.tuplePt {prog : Program} {w : World} {Ar : Around} (hh : Ar.handled = none) (it tl : Addr) (apt : tl ≠ it) (elems : Array Value) :
    Draws prog w Ar it [it, tl] elems.size (fun i v => elems[i]? = some v) (fun i h => h.IsTupleIter it tl i ∧ h.IsTuple tl elems) where
  live := fun _ _ stt => let ⟨o, atO, _⟩ := stt.1; ⟨o, atO⟩
  frame := fun _ _ _ stt kpt => ⟨stt.1.at fun o e => kpt it (by simp) o e, let ⟨o, e, r⟩ := stt.2; ⟨o, kpt tl (by simp) o e, r⟩⟩
  item := fun i s Q Er hi stt kQ => by
    refine RZ.nextOf_tuple_item stt.1 stt.2 (x := elems[i]) (by simp [hi]) fun hN hit' hs' => ?_
    exact kQ _ hN s.toks (by simp [hi]) ⟨hit', let ⟨o, e, r⟩ := stt.2; ⟨o, (hs'.2 tl apt).trans e, r⟩⟩ hs'
  done := fun s Q Er stt hE => RZ.nextOf_tuple_end hh stt.1 stt.2 (by simp) hE
section
variable {prog : Program} {w : World} {Ar : Around} {Er : Value → Shared → Prop} {s : Shared}
/-- a new enumerate over the iterator at it -/
abbrev newEnum (it : Addr) : Obj := { cls := .type "enumerate", data := .fields #[.none, .bool false, .ref it, rawInt 0, .none, .none] }
theorem call_enumerate_tuple {tl : Addr} {elems : Array Value} {Q : Value → Shared → Prop} (isTp : s.heap.IsTuple tl elems)
    (h : ∀ hN, IsEnum hN (s.heap.objs.size + 1) s.heap.objs.size 0 .none → hN.IsTupleIter s.heap.objs.size tl 0 → hN.objs.size = s.heap.objs.size + 2 →
      (∀ b o, s.heap.get? b = some o → hN.get? b = some o) → Q (.ref (s.heap.objs.size + 1)) { s with heap := hN }) :
    wpAny (model prog w) Ar (call (.type "enumerate") [.ref tl]) Q Er s := by
  obtain ⟨⟨c, dct, dt, sl⟩, atL, clsT, n, datT⟩ := isTp
  replace clsT : c = .type "tuple" := clsT
  replace datT : dt = .seq elems n := datT
  subst clsT datT
  refine callType_new F.called_enumerate (by decide) (F.typeCall_enumerate_1 _) (F.newCall_enumerate_1 _) (fun self => F.args_object_init_2 self _) F.entry_enumerate_new (meets_enumerate_newT tl elems n dct sl) ⟨atL, ?_⟩
  have hz : (s.heap.push { cls := .type "tuple_iterator", data := .fields #[.ref tl, .int 0 0] }).objs.size = s.heap.objs.size + 1 := Heap.size_push ..
  show _ ∧ _
  rw [hz]
  have isEn : IsEnum ((s.heap.push { cls := .type "tuple_iterator", data := .fields #[.ref tl, .int 0 0] }).push
      (newEnum s.heap.objs.size)) (s.heap.objs.size + 1) s.heap.objs.size 0 .none := by
    have := Heap.get?_push_size (s.heap.push { cls := .type "tuple_iterator", data := .fields #[.ref tl, .int 0 0] })
      (o := newEnum s.heap.objs.size) rfl
    rw [hz] at this; exact this
  refine ⟨⟨_, isEn, rfl⟩, h _ isEn ⟨_, Heap.get?_push_of_some _ (Heap.get?_push_size _ rfl), rfl, rfl⟩ (by rw [Heap.size_push, hz]) fun b o x => Heap.get?_push_of_some _ (Heap.get?_push_of_some _ x)⟩
theorem pyNext_enumT_end {e it tl : Addr} {i : Nat} {elems : Array Value} {prev : Value} {Q : Option Value → Shared → Prop} (hh : Ar.handled = none)
    (isEn : IsEnum s.heap e it i prev) (isIt : s.heap.IsTupleIter it tl i) (atL : s.heap.IsTuple tl elems) (hx : elems[i]? = none)
    (kQ : ∀ hN, Heap.ExtBut it s.heap hN → Q none { s with heap := hN }) : wpAny (model prog w) Ar (pyNext (.ref e)) Q Er s := by
  have tyE : s.TypeIs (.ref e) "enumerate" := ⟨_, isEn, rfl⟩
  unfold pyNext
  refine wpAny_bind (wpAny_attempt (wpAny_callSpecial?_slot (name := Str.ofString "__next__") tyE F.slot_enumerate_next
    (wpAny_call_entry F.slot_enumerate_next tyE F.entry_enumerate_next ?_ (F.args_enumerate_next_1 _))))
  refine (?_ : wpAny _ _ (field (.ref e) 2 >>= _) _ _ _)
  refine wpAny_bind (wpAny_field isEn rfl (x := .ref it) rfl ?_)
  refine wpAny_bind (RZ.nextOf_tuple_end hh isIt atL hx fun hN x isEn2 hx' => ?_)
  obtain ⟨o, atO, clsT⟩ := hx'
  refine wpAny_bind (wpAny_isInstance (T := "StopIteration") (b := true) ⟨o, atO, clsT⟩ isSubtype_stop ?_)
  exact wpAny_pure (kQ _ isEn2)
end
end Pt.En
namespace Pt
open PySem PySem.Spec PyProof.Rows L2
/-- the tuple at a as it stands, the items in fresh pairs -/
def ItE (K : PySem.W.Frag) (a : Addr) : It :=
  ⟨fun i H => ∃ xs x, SqT K H a xs ∧ xs[i]? = some x,
    fun i H v H' => ∃ T x, v = .ref T ∧ H T = none ∧ H' = upd H T (.tup [.int (i : Nat), x]) ∧ ∀ xs, SqT K H a xs → xs[i]? = some x,
    fun i H => ∃ xs, SqT K H a xs ∧ xs.length ≤ i⟩
theorem turn_enumT {P : Program} {w : World} {K : PySem.W.Frag} {elts : List Expr} {kk : Nat} {tpos : Pos} (a e it : Addr) :
    Turn P w K (.Tuple elts kk tpos) (ItE K a) [e, it] e (fun i h => (∃ prev, IsEnum h e it ((i : Nat) : Int) prev) ∧ h.IsTupleIter it a i ∧ e ≠ it) where
  mem := by simp
  obj := fun i h stt b hb => by
    obtain ⟨⟨prev, isEn⟩, ⟨o, atO, calm, datO⟩, _⟩ := stt
    have alt : b = e ∨ b = it := by simpa using hb
    rcases alt with z | z
    · rw [z]; exact ⟨_, isEn, fun v q => nomatch q⟩
    · rw [z]; exact ⟨o, atO, fun v q => by rw [datO] at q; cases q⟩
  keep := fun i h h' stt k => let ⟨⟨prev, isEn⟩, hi, apt⟩ := stt; ⟨⟨prev, k e (by simp) _ isEn⟩, hi.at fun o q => k it (by simp) o q, apt⟩
  item := by
    intro X hP hw hK calm i pins s σ H E I news stt hg
    subst hP hw hK
    obtain ⟨⟨prev, isEn⟩, isIt, apt⟩ := stt
    obtain ⟨xs, x, hq, hx⟩ := hg
    obtain ⟨its, rv, p, hz⟩ := I.tuple hq
    obtain ⟨u, hu, ru⟩ := rv.get hx
    have ltEn : e < s.heap.objs.size := Heap.lt_size isEn
    have ltIt : it < s.heap.objs.size := by obtain ⟨_, q, _⟩ := isIt; exact Heap.lt_size q
    have hal : a ≠ it := fun z => by
      subst z
      obtain ⟨o1, asks, c1, _⟩ := p
      obtain ⟨o2, q2, c2, _⟩ := isIt
      rw [asks] at q2
      cases q2
      rw [c1] at c2
      injection c2 with c2
      exact absurd c2 (by decide)
    have hae : a ≠ e := fun z => by
      subst z
      obtain ⟨o1, asks, c1, _⟩ := p
      have isEn2 : s.heap.get? a = _ := isEn
      rw [asks] at isEn2
      cases isEn2
      injection c1 with c1
      exact absurd c1 (by decide)
    have tyE : s.heap.IsTuple a its.toArray := p
    have D := PySem.Draws.tuplePt (prog := X.prog) (w := X.w) (Ar := X.A.in1) (show X.A.in1.handled = none from I.ok.hd calm) it a hal its.toArray
    have hlt : i < its.toArray.size := by
      have := (List.getElem?_eq_some_iff.mp hu).1
      simpa using this
    refine wpAny_pyNext_enum_itemD D isEn ⟨isIt, tyE⟩ hlt apt (by simp; exact ⟨apt, Ne.symm hae⟩) fun u' h' tk hu' atO hst' hT' hsz kpt => ?_
    have eu : u' = u := by
      have h1 : its.toArray[i]? = some u' := hu'
      have h2 : its.toArray[i]? = some u := by simpa using hu
      rw [h2] at h1
      exact (Option.some.inj h1).symm
    subst eu
    refine ⟨_, rfl, wpAny_letOwnedTupleGo_enum (s := { s with heap := h', toks := tk + 1 }) atO fun h'' isEn2 sub2 => ?_⟩
    have hT2 : h''.get? s.heap.objs.size = some { cls := .type "tuple", data := .seq #[.int i tk, u'] } := (sub2.2 _ (Nat.ne_of_gt ltEn)).trans hT'
    have fresh : ObjOk X.prog X.w (upd H s.heap.objs.size (.tup [.int (i : Nat), x])) h'' s.heap.objs.size (.tup [.int (i : Nat), x]) :=
      ⟨by show 2 ≤ sizeLine; decide, [.int i tk, u'], .cons ⟨_, rfl⟩ (.cons ru .nil), ⟨_, hT2, rfl, _, rfl⟩⟩
    have I1 : Inv X pins σ (upd H s.heap.objs.size (.tup [.int (i : Nat), x])) { s with heap := h'', toks := tk + 1 } :=
      I.turnedNew (ch := [e, it]) (fun b ob hb q => (sub2.2 b (fun z => hb (by simp [z]))).trans (kpt b ob (fun z => hb (by simp [z])) (fun z => hb (by simp [z])) q)) news (Nat.le_refl _) fresh
    refine ⟨.ref s.heap.objs.size, _, I1, rfl, ⟨_, x, rfl, I.hok.fresh (Nat.le_refl _), rfl, fun ys hy => by rw [I.tuple_inj hy hq]; exact hx⟩, ⟨⟨u', ?_⟩, hst'.1.at fun o q => (sub2.2 it (Ne.symm apt)).trans q, apt⟩, fun b hb => ?_⟩
    · have up1 : ((i + 1 : Nat) : Int) = (i : Int) + 1 := by omega
      rw [up1]; exact isEn2
    · have hb' : b < s.heap.objs.size := by
        have alt : b = e ∨ b = it := by simpa using hb
        rcases alt with z | z
        · rw [z]; exact ltEn
        · rw [z]; exact ltIt
      rw [upd_ne (Nat.ne_of_lt hb')]
      exact (news b hb).1
  done := by
    intro X hP hw hK calm i pins s σ H E I news stt hg
    subst hP hw hK
    obtain ⟨⟨prev, isEn⟩, isIt, apt⟩ := stt
    obtain ⟨xs, hq, hx⟩ := hg
    obtain ⟨its, rv, p, hz⟩ := I.tuple hq
    obtain ⟨f0, f1, f2, f3, f4, f5⟩ := news it (by simp)
    have hl := rv.length
    exact En.pyNext_enumT_end (I.ok.hd calm) isEn isIt (show s.heap.IsTuple a its.toArray from p) (by simp; omega) fun h' eb => ⟨rfl, I.turned (t' := s.toks) (fun b o hb q => eb b o hb q) f0 f1 f3 f4 f5⟩
  self := fun A i s Q E stt h => let ⟨⟨_, isEn⟩, _⟩ := stt; wpAny_pyIter_enum isEn h
def iEnumT (K : PySem.W.Frag) (ta : TA) : TI := fun σ H R => ta σ H fun vs H1 => ∃ a xs, vs = [.ref a] ∧ SqT K H1 a xs ∧ R (ItE K a) H1
theorem pi_enumT {X : Cx} {e : Expr} {ta : TA} {p pos tpos : Pos} {elts : List Expr} {kk : Nat} (hg : Gl X "enumerate") (hm : X.mg "enumerate" = none) (ha : PA X [e] ta) (hs : starEach [e] X.env = [(false, eval e X.env)] := by rfl) :
    PI X (.Tuple elts kk tpos) (.Call (.Name "enumerate" p) [e] [] pos) (iEnumT X.K ta) := by
  refine ⟨fun pins s σ H R I h => ?_⟩
  refine Call_ (ld_blt I hg hm boot_enumerate (PyProof.Rows.callWith_type1 (thn (ha.run pos pins s σ H _ I h) fun uvs s1 ⟨vs, H1, I1, r1, asks⟩ => ?_) hs rfl))
  obtain ⟨a, xs, ex, hq, q⟩ := asks
  subst ex
  cases r1 with
  | cons r rr =>
    cases rr
    cases r
    obtain ⟨its, rv, p', hz⟩ := I1.tuple hq
    refine En.call_enumerate_tuple (show s1.heap.IsTuple a its.toArray from p') fun h' isEn isIt hsz kpt => wpAny_pyIter_enum isEn ?_
    have Iv : Inv X pins σ H1 { s1 with heap := h' } := I1.kept (t' := s1.toks) kpt
    refine ⟨s1.heap.objs.size + 1, [s1.heap.objs.size + 1, s1.heap.objs.size], _, _, H1, rfl, Iv, turn_enumT a (s1.heap.objs.size + 1) s1.heap.objs.size, ⟨⟨.none, isEn⟩, isIt, Nat.succ_ne_self _⟩, fun b hb => ?_, q⟩
    have alt : b = s1.heap.objs.size + 1 ∨ b = s1.heap.objs.size := by simpa using hb
    have hle : s1.heap.objs.size ≤ b := by
      rcases alt with z | z
      · rw [z]; exact Nat.le_add_right _ _
      · rw [z]; exact Nat.le_refl _
    exact I1.fpOk hle (I1.hok.fresh hle)
section
variable {T : List NTab} {X : Cx} {Γ : List Sh} {a : Expr} {pos : Pos} {ds : List PyData} {H2 : Hp}
/-- the pairs that enumerate gives -/
def enumD (ds : List PyData) : List PyData := ds.zipIdx.map fun p => .tuple [.int (p.2 : Int), p.1]
theorem jok_enumT {K : PySem.W.Frag} {p : Addr} {vs : List V} (hp : H2 p = some (.tup vs)) (h : TpAll H2 vs ds) : JOk T H2 [] (ItE K p) (enumD ds) where
  stop := fun i H hi tx _ => ⟨vs, .inl (.inl (tx _ _ hp)), by
    unfold enumD at hi
    rw [List.length_map, List.length_zipIdx] at hi
    rw [h.len]; exact hi⟩
  go := fun i d H hd tx _ => by
    unfold enumD at hd
    rw [List.getElem?_map, List.getElem?_zipIdx] at hd
    cases e : ds[i]? with
    | none => rw [e] at hd; cases hd
    | some d' =>
      rw [e] at hd
      have hd : some (PyData.tuple [.int ((0 + i : Nat) : Int), d']) = some d := hd
      rw [Nat.zero_add] at hd
      cases hd
      obtain ⟨x, hx, ht⟩ := h.get e
      have q : H p = some (.tup vs) := tx _ _ hp
      refine ⟨⟨vs, x, .inl (.inl q), hx⟩, fun y H' hy => ?_⟩
      obtain ⟨T', x', rfl, nT, rfl, f⟩ := hy
      have := f vs (.inl (.inl q))
      rw [hx] at this
      cases this
      exact ⟨Ext.new nT, .tup upd_same (.cons (.int _) (.one (Tp.mono (Ext.new (T := T) nT).tx (ht.mono tx))))⟩
theorem ei_enumT {p tpos : Pos} {elts : List Expr} {kk : Nat} (h : EA T X [a] Γ [.d (.tuple ds)]) (hm : X.mg "enumerate" = none) (hg : Gl X "enumerate" := by rfl) (hs : starEach [a] X.env = [(false, eval a X.env)] := by rfl) :
    EI T X (.Tuple elts kk tpos) (.Call (.Name "enumerate" p) [a] [] pos) Γ (enumD ds) true := fun H0 Θ σ H k R q =>
  leI (pi_enumT hg hm pa_w hs) (h H0 Θ σ H k _ fun vs H2 e2 hv => by
    obtain ⟨v, rfl⟩ : ∃ v, vs = [v] := by
      have := hv.len
      match vs, this with
      | [v], _ => exact ⟨v, rfl⟩
    obtain ⟨p, xs, rfl, hp, hx⟩ := Tp.inv_tup hv.1
    exact ⟨p, xs, rfl, .inl (.inl hp), q _ H2 [] e2 (fun _ z => by cases z) (fun _ _ z => by cases z) (jok_enumT hp hx)⟩)
end
end Pt
set_option maxHeartbeats 4000000
/-! Layer F: things as Nats, in, searching loops. -/
namespace Pt
open PySem PySem.Spec PyProof.Rows L2
def topS (i : Nat) : Stmt := PySem.Challenge.pw_piecetrees_k48_whole_twisted_fours_and_f.main.body.getD i (.Pass ⟨0, 0, 0, 0⟩)
abbrev eI (n : Nat) : PyData := .int (n : Int)
abbrev eL (l : List Nat) : PyData := .tuple (l.map eI)
section
variable {T : List NTab} {X : Cx} {Γ : List Sh} {a b c e tg iter : Expr} {pos : Pos} {E : GE}
theorem co_eqN {i j : Nat} (ha : EE T X a Γ (.d (eI i))) (hb : EE T X b Γ (.d (eI j))) : CO T X .Eq a b Γ (decide (i = j)) := co_cast (co_eq ha hb) (decide_eq_decide.mpr Int.ofNat_inj)
theorem co_neN {i j : Nat} (ha : EE T X a Γ (.d (eI i))) (hb : EE T X b Γ (.d (eI j))) : CO T X .NotEq a b Γ (!decide (i = j)) := co_cast (co_ne ha hb) (congrArg (!·) (decide_eq_decide.mpr Int.ofNat_inj))
theorem co_ltN {i j : Nat} (ha : EE T X a Γ (.d (eI i))) (hb : EE T X b Γ (.d (eI j))) : CO T X .Lt a b Γ (decide (i < j)) := co_cast (co_lt ha hb) (decide_eq_decide.mpr Int.ofNat_lt)
theorem co_gtN {i j : Nat} (ha : EE T X a Γ (.d (eI i))) (hb : EE T X b Γ (.d (eI j))) : CO T X .Gt a b Γ (decide (j < i)) := co_cast (co_gt ha hb) (decide_eq_decide.mpr Int.ofNat_lt)
theorem ee_addN {i j : Nat} (ha : EE T X a Γ (.d (eI i))) (hb : EE T X b Γ (.d (eI j))) : EE T X (.BinOp a .Add b pos) Γ (.d (eI (i + j))) := ee_cast (ee_add ha hb) (by rw [← Int.natCast_add])
theorem ee_nat {i : Nat} {j : Nat} : EE T X (.Constant (.int (i : Int)) j pos) Γ (.d (eI i)) := ee_int
/-! in -/
theorem inV_nat (i : Nat) (l : List Nat) : inV (.int (i : Int)) (l.map fun (n : Nat) => V.int (n : Int)) = decide (i ∈ l) := by
  unfold inV
  rw [List.any_map]
  rw [Bool.eq_iff_iff, List.any_eq_true]
  simp only [Function.comp, eqV, beq_iff_eq, Int.ofNat_inj, decide_eq_true_eq]
  exact ⟨fun ⟨x, h, z⟩ => z ▸ h, fun h => ⟨i, h, rfl⟩⟩
theorem TpAll.nats {H : Hp} {vs : List V} {l : List Nat} (h : TpAll H vs (l.map eI)) : vs = l.map fun (n : Nat) => V.int (n : Int) := by
  have e : l.map eI = (l.map fun (n : Nat) => (n : Int)).map PyData.int := by rw [List.map_map]; rfl
  rw [e] at h
  rw [h.ints, List.map_map]
  rfl
theorem flat_nats (l : List Nat) : (l.map fun (n : Nat) => V.int (n : Int)).all flatV = true := by
  rw [List.all_eq_true]
  intro x hx
  obtain ⟨n, _, rfl⟩ := List.mem_map.mp hx
  rfl
theorem co_inT {i : Nat} {l : List Nat} (ha : EE T X a Γ (.d (eI i))) (hb : EE T X b Γ (.d (eL l))) : CO T X .In a b Γ (decide (i ∈ l)) := ⟨_, op_in_seq, fun H0 Θ σ H k Q q =>
  ha H0 Θ σ H k _ fun v H2 e2 hv => hb H0 Θ σ H2 (k.mono e2) _ fun w H3 e3 hw => by
    obtain ⟨p, vs, rfl, hp, hx⟩ := Tp.inv_tup hw
    have := hx.nats
    subst this
    rw [Tp.inv_int hv]
    refine ⟨p, _, rfl, .inr (.inl (.inl hp)), rfl, flat_nats l, ?_⟩
    rw [if_neg Bool.false_ne_true, inV_nat]
    exact q H3 (e2.trans e3)⟩
theorem co_inL {i : Nat} {l : List Nat} (ha : EE T X a Γ (.d (eI i))) (hb : EE T X b Γ (.q (l.map eI))) : CO T X .In a b Γ (decide (i ∈ l)) := ⟨_, op_in_seq, fun H0 Θ σ H k Q q =>
  ha H0 Θ σ H k _ fun v H2 e2 hv => hb H0 Θ σ H2 (k.mono e2) _ fun w H3 e3 hw => by
    obtain ⟨p, rfl, vs, hp, hx⟩ := hw
    have := hx.nats
    subst this
    rw [Tp.inv_int hv]
    refine ⟨p, _, rfl, .inl (.inl (.inl hp)), rfl, flat_nats l, ?_⟩
    rw [if_neg Bool.false_ne_true, inV_nat]
    exact q H3 (e2.trans e3)⟩
theorem co_ninT {i : Nat} {l : List Nat} (ha : EE T X a Γ (.d (eI i))) (hb : EE T X b Γ (.d (eL l))) : CO T X .NotIn a b Γ (!decide (i ∈ l)) := ⟨_, op_notIn_seq, fun H0 Θ σ H k Q q =>
  ha H0 Θ σ H k _ fun v H2 e2 hv => hb H0 Θ σ H2 (k.mono e2) _ fun w H3 e3 hw => by
    obtain ⟨p, vs, rfl, hp, hx⟩ := Tp.inv_tup hw
    have := hx.nats
    subst this
    rw [Tp.inv_int hv]
    refine ⟨p, _, rfl, .inr (.inl (.inl hp)), rfl, flat_nats l, ?_⟩
    rw [if_pos rfl, inV_nat]
    exact q H3 (e2.trans e3)⟩
theorem co_ninL {i : Nat} {l : List Nat} (ha : EE T X a Γ (.d (eI i))) (hb : EE T X b Γ (.q (l.map eI))) : CO T X .NotIn a b Γ (!decide (i ∈ l)) := ⟨_, op_notIn_seq, fun H0 Θ σ H k Q q =>
  ha H0 Θ σ H k _ fun v H2 e2 hv => hb H0 Θ σ H2 (k.mono e2) _ fun w H3 e3 hw => by
    obtain ⟨p, rfl, vs, hp, hx⟩ := hw
    have := hx.nats
    subst this
    rw [Tp.inv_int hv]
    refine ⟨p, _, rfl, .inl (.inl (.inl hp)), rfl, flat_nats l, ?_⟩
    rw [if_pos rfl, inV_nat]
    exact q H3 (e2.trans e3)⟩
/-! loops that search: they leave at the first item for which g gives something -/
theorem Le.trans : ∀ {Γ1 Γ2 Γ3 : List Sh}, Le Γ1 Γ2 → Le Γ2 Γ3 → Le Γ1 Γ3
  | _, _, _, .nil, h => h
  | _, _, _, .keep a, .keep b => .keep (Le.trans a b)
  | _, _, _, .keep a, .drop b => .drop (Le.trans a b)
  | _, _, _, .drop a, .keep b => .drop (Le.trans a b)
  | _, _, _, .drop a, .drop b => .drop (Le.trans a b)
theorem h1_find {α β : Type} (as : List α) (enc : α → PyData) (g : α → Option β) (res : β → RS) (f : α → List Sh → List Sh) {body : List Stmt} (hi : EI T X tg iter Γ (as.map enc) true) (hg : ∀ a ∈ as, EG T X tg (enc a) (f a)) (Γ1 : List Sh) (h0 : Le Γ Γ1)
    (hs : ∀ a ∈ as, HS T X body { nx := fun Γ' => g a = none ∧ Le Γ' Γ1, ct := fun Γ' => g a = none ∧ Le Γ' Γ1, rt := fun r => ∃ b, g a = some b ∧ r = res b } (f a Γ1))
    (hfound : ∀ b, as.findSome? g = some b → E.rt (res b)) (hnone : as.findSome? g = none → E.nx Γ1) (hf2 : ∀ a Γ Γ', Le Γ Γ' → Le (f a Γ) (f a Γ')) (hm : ∀ Γ Γ', Le Γ Γ' → E.nx Γ' → E.nx Γ)
    (hp : PassesOwn (model X.prog X.w) X.A X.env X.xe := by exact PassesOwn.never) (hc : X.calm = true := by rfl) (hf : ∀ x, foldedSetIterable iter X.env x = pure x := by intro _; rfl) : H1 T X (.For tg iter body [] pos) E Γ := by
  refine h1_for as enc f hi hg (fun i Γ' => Le Γ' Γ1 ∧ (as.take i).findSome? g = none) ⟨h0, by rw [List.take_zero]; rfl⟩ (fun i a Γ' ea ⟨l, hn⟩ => ?_) (fun Γ' ⟨l, hn⟩ => hm _ _ l (hnone ?_)) hp hc hf
  · have et : as.take (i + 1) = as.take i ++ [a] := by rw [List.take_add_one, ea]; rfl
    have more : g a = none → (as.take (i + 1)).findSome? g = none := fun z => by
      rw [et, List.findSome?_append, hn]
      simp [z]
    refine (hs_le (hf2 _ _ _ l) (hs a (List.mem_of_getElem? ea))).imp (fun Γ2 z => ⟨z.2, more z.1⟩) (fun r ⟨b, z, e⟩ => e ▸ hfound b ?_) (fun _ z => z.elim) (fun Γ2 z => ⟨z.2, more z.1⟩)
    rw [← List.take_append_drop (i + 1) as, List.findSome?_append, et, List.findSome?_append, hn]
    simp [z]
  · rw [List.take_length] at hn
    exact hn
theorem le_set {s : Sh} : ∀ {i : Nat} {Γ Γ' : List Sh}, Le Γ Γ' → Le (Γ.set i s) (Γ'.set i s)
  | _, _, _, .nil => .nil
  | 0, _, _, .keep l => .keep l
  | 0, _, _, .drop l => .keep l
  | i + 1, _, _, .keep l => .keep (le_set (i := i) (s := s) l)
  | i + 1, _, _, .drop l => .drop (le_set (i := i) (s := s) l)
/-- enumerate of a lot -/
theorem ei_enumN {p tpos : Pos} {elts : List Expr} {kk : Nat} {l : List Nat} (h : EA T X [a] Γ [.d (eL l)]) (hm : X.mg "enumerate" = none) (hg : Gl X "enumerate" := by rfl) (hs : starEach [a] X.env = [(false, eval a X.env)] := by rfl) :
    EI T X (.Tuple elts kk tpos) (.Call (.Name "enumerate" p) [a] [] pos) Γ (l.zipIdx.map fun p => .tuple [eI p.2, eI p.1]) true := by
  have := ei_enumT (tpos := tpos) (elts := elts) (kk := kk) (p := p) (pos := pos) h hm hg hs
  unfold enumD at this
  rw [List.zipIdx_map, List.map_map] at this
  exact this
theorem ee_lenN {p : Pos} {l : List Nat} (ha : EA T X [a] Γ [.d (eL l)]) (hm : X.mg "len" = none) (hg : Gl X "len" := by rfl) (he : starEach [a] X.env = (false, eval a X.env) :: starEach [] X.env := by rfl) (hpl : (backTo pos (starEach [] X.env)).any (·.1) = false := by rfl) :
    EE T X (.Call (.Name "len" p) [a] [] pos) Γ (.d (eI l.length)) := ee_cast (ee_lenT ha hm hg he hpl) (by rw [List.length_map])
/-- t[i:] of a lot -/
theorem ee_dropN {l : List Nat} {n : Nat} {p2 : Pos} (ha : EE T X a Γ (.d (eL l))) (hb : EE T X b Γ (.d (eI n))) : EE T X (.Subscript a (.Slice (some b) none none p2) pos) Γ (.d (eL (l.drop n))) := ee_cast (ee_sliceT ha hb) (by rw [← List.map_drop])
/-- t[k] of a lot -/
theorem ee_atN {l : List Nat} {i x : Nat} (hd : l[i]? = some x) (ha : EE T X a Γ (.d (eL l))) (hb : EE T X b Γ (.d (eI i))) (hs : PlainIx b := by exact fun _ _ => rfl) : EE T X (.Subscript a b pos) Γ (.d (eI x)) :=
  ee_ixT (i := (i : Int)) (atI_nat (by rw [List.getElem?_map, hd]; rfl)) ha hb hs
end
end Pt
set_option maxHeartbeats 4000000
/-! Layer G: sorted of a tuple, extend by a tuple, pop. -/
namespace Pt.So
open PySem PySem.W PySem.Calls PyProof.Rows
section
variable {prog : Program} {w : World} {Ar : Around} {Er : Value → Shared → Prop} {s : Shared}
theorem collect_tuple {tl : Addr} {row : List Value} {Q : List Value → Shared → Prop} (hl : s.heap.IsTuple tl row.toArray)
    (h : Q row { s with heap := (s.heap.push (seqObj "list" #[] 0)).update s.heap.objs.size (Obj.mapSeq (· ++ row.toArray)) }) (szE : row.length ≤ sizeLine) :
    wpAny (model prog w) Ar (collect (.ref tl)) Q Er s := by
  obtain ⟨o, gto, hc, n, dat⟩ := id hl
  unfold collect
  refine wpAny_bind (wpAny_runValue ?_)
  refine codeAny_builtin entry_proto_collect' ?_
  show wpAny _ _ (do again (.builtin "list.__iadd__" ⟨[← newList [], .ref tl], []⟩)) _ _ s
  refine wpAny_bind (wpAny_newList (wpAny_pure (And.intro (Code.quiet_builtin _ (by decide +kernel)) (codeAny_builtin entry_list_iadd' ?_))))
  show wpAny _ _ (Builtin.List.listExtendWith (.ref s.heap.objs.size) (.ref tl) (.ref s.heap.objs.size)) _ _ { s with heap := s.heap.push (seqObj "list" #[] 0) }
  unfold Builtin.List.listExtendWith
  have gto2 : (s.heap.push (seqObj "list" #[] 0)).get? tl = some o := Heap.get?_push_of_some _ gto
  refine wpAny_bind (wpAny_typeOf (T := "tuple") ⟨o, gto2, hc⟩ ?_)
  have ht : (Value.type "tuple" == Value.type "tuple") = true := by rfl
  rw [if_pos (by rw [ht]; simp)]
  refine wpAny_bind (listItems_at gto2 dat ?_)
  refine wpAny_bind (listItems_at (n := 0) (xs := #[]) (Heap.get?_push_size _ rfl) rfl ?_)
  rw [if_neg (by simp)]
  refine wpAny_bind (listUpdate_at (xs := #[]) (n := 0) (Heap.get?_push_size _ rfl) rfl ?_ (Nat.zero_le _) (by show (#[] ++ row.toArray).size ≤ sizeLine + 1; simp only [Array.size_append, List.size_toArray, List.length_nil]; omega))
  refine wpAny_pure ?_
  show wpAny (model prog w) Ar (do
      let o ← load s.heap.objs.size
      match o.data with
      | .seq xs _ => pure xs.toList
      | _ => unsupported "internal:collect") Q Er { s with heap := (s.heap.push (seqObj "list" #[] 0)).update s.heap.objs.size (Obj.mapSeq (· ++ row.toArray)) }
  refine wpAny_bind (wpAny_load (get?_update_seq (Heap.get?_push_size s.heap rfl) _) ?_)
  show wpAny _ _ (pure ((#[] : Array Value) ++ row.toArray).toList) Q Er _
  rw [show ((#[] : Array Value) ++ row.toArray).toList = row by simp]
  exact wpAny_pure h
theorem sortedT_of_sort {tl : Addr} {row : List Value} {kws : List (Str × Value)} {Q : Value → Shared → Prop} (hl : s.heap.IsTuple tl row.toArray) (lenL : row.length ≤ sizeLine) (okA : argsOk "sorted" ⟨[.ref tl], kws⟩) (okB : ∀ x, argsOk "list.sort" ⟨[.ref x], kws⟩)
    (inner : ∀ E' : Value → Shared → Prop, wpAny (model prog w) Ar.in1.in1 (Builtin.«list.sort» ⟨[.ref (s.heap.objs.size + 1)], kws⟩) (fun fl s' => fl = .done (.ret .none) ∧ Q (.ref (s.heap.objs.size + 1)) s') E' { s with heap := copyHeap s.heap row }) :
    wpAny (model prog w) Ar (call (.builtin "sorted") [.ref tl] kws) Q Er s := by
  refine call_function_entry_kw kind_sorted plain_sorted entry_sorted okA ?_
  unfold Builtin.«sorted»
  refine wpAny_bind (m := checkCount "sorted" 1 1 _) ?_
  refine wpAny_pure ?_
  refine wpAny_bind (collect_tuple hl ?_ lenL)
  refine wpAny_bind (wpAny_newList ?_ lenL)
  have szE : ((s.heap.push (seqObj "list" #[] 0)).update s.heap.objs.size (Obj.mapSeq (· ++ row.toArray))).objs.size = s.heap.objs.size + 1 := by
    rw [Heap.size_update, size_push']
  show wpAny _ _ _ _ _ { s with heap := copyHeap s.heap row }
  rw [szE]
  refine wpAny_bind (wpAny_holding (wpAny_call_entry_kw slot_list_sort ⟨_, copyHeap_at s.heap row, rfl⟩ entry_list_sort ?body (okB _)))
  case body =>
    show wpAny (model prog w) Ar.in1.in1 (Builtin.«list.sort» ⟨[.ref (s.heap.objs.size + 1)], kws⟩) _ _ _
    refine wpAny_mono (inner _) (fun fl s' fEnd => ?_) fun _ _ e => e
    obtain ⟨rfl, qEnd⟩ := fEnd
    exact ⟨_, rfl, wpAny_pure ⟨_, rfl, qEnd⟩⟩
theorem sortedT_vals {κ : PyProof.Rows.KeyKind} {tl : Addr} {row : List Value} {Q : Value → Shared → Prop} (hl : s.heap.IsTuple tl row.toArray) (S : SortsAt prog w Ar.in1.in1 { s with heap := sortingHeap (copyHeap s.heap row) (s.heap.objs.size + 1) row } κ row) (lenL : row.length ≤ sizeLine)
    (h : Q (.ref (s.heap.objs.size + 1)) { s with heap := sortedAll s.heap row (sortVals κ false row row).toArray }) : wpAny (model prog w) Ar (call (.builtin "sorted") [.ref tl]) Q Er s :=
  sortedT_of_sort hl lenL (args_sorted1 _) (fun _ => args_list_sort _) fun _ => list_sort_vals (s := { s with heap := copyHeap s.heap row }) (copyHeap_at s.heap row) S lenL ⟨rfl, h⟩
variable {β : Type} {row : List Value} {data0 : List β} {enc : β → PyData} {R : Value → β → Prop}
theorem sortedT_data {tl : Addr} {Q : Value → Shared → Prop} (hl : s.heap.IsTuple tl row.toArray) (e : EachIs R row data0) (er : EachIs (fun v b => ∃ as, Reads s.heap v (enc b) as) row data0) (hal : AllAlike (data0.map enc)) (hk : Sortable (data0.map enc)) (lenL : data0.length ≤ sizeLine)
    (hun : ∀ b, b ∈ data0 → Ar.units + 2 + (enc b).depth < cLine) (h : ∀ res, res.length = data0.length → EachIs R res (data0.mergeSort (dataLe false enc)) → Q (.ref (s.heap.objs.size + 1)) { s with heap := sortedAll s.heap row (List.toArray res) }) :
    wpAny (model prog w) Ar (call (.builtin "sorted") [.ref tl]) Q Er s := by
  have erS : EachIs (fun v b => ∃ as, Reads (sortingHeap (copyHeap s.heap row) (s.heap.objs.size + 1) row) v (enc b) as) row data0 := er.mono fun _ _ ⟨as, r⟩ => ⟨as, PyProof.Rows.Reads.keeps (fun _ _ => sorting_copy_old) r⟩
  exact sortedT_vals hl (SortsAt.data (s := { s with heap := sortingHeap (copyHeap s.heap row) (s.heap.objs.size + 1) row }) (each_map (R := fun v d => ∃ as, Reads (sortingHeap (copyHeap s.heap row) (s.heap.objs.size + 1) row) v d as) enc erS) hal hk (bound_map hun)) (by rw [e.length]; exact lenL)
    (h _ (by rw [sortVals_length false rfl]; exact e.length) (sortVals_data false e erS hal))
end
end Pt.So
namespace Pt
open PySem PySem.Spec PyProof.Rows L2
/-- the data in their order -/
def sortD (ds : List PyData) : List PyData := ds.mergeSort (PySem.W.dataLe false id)
def sortN (l : List Nat) : List Nat := l.mergeSort (fun a b => decide (a ≤ b))
theorem sortN_eq (l : List Nat) : sortD (l.map eI) = (sortN l).map eI := by
  unfold sortD sortN
  rw [List.map_mergeSort (s := PySem.W.dataLe false id)]
  intro a _ b _
  show decide (a ≤ b) = (!PySem.W.dataLt (.int (b : Int)) (.int (a : Int)))
  rw [PySem.W.dataLt_int]
  by_cases h : a ≤ b
  · rw [decide_eq_true h, decide_eq_false (by omega)]; rfl
  · rw [decide_eq_false h, decide_eq_true (by omega)]; rfl
theorem sortN_perm (l : List Nat) : (sortN l).Perm l := List.mergeSort_perm l _
theorem sortN_sorted (l : List Nat) : (sortN l).Pairwise (· ≤ ·) := by
  have := List.pairwise_mergeSort (le := fun a b : Nat => decide (a ≤ b)) (fun a b c h1 h2 => by simp at *; omega) (fun a b => by simp; omega) l
  exact this.imp fun h => of_decide_eq_true h
section
variable {X : Cx}
theorem each_of {H : Hp} : ∀ {vs : List V} {us : List Value} {ds : List PyData}, Vals vs us → TpAll H vs ds → PySem.W.EachIs (fun u d => ∃ v, L2.RelV v u ∧ Tp H v d) us ds
  | [], [], [], _, _ => .nil
  | _ :: _, _ :: _, _ :: _, .cons r t, .cons a b => .cons ⟨_, r, a⟩ (each_of t b)
theorem of_each {H : Hp} : ∀ {us : List Value} {ds : List PyData}, PySem.W.EachIs (fun u d => ∃ v, L2.RelV v u ∧ Tp H v d) us ds → ∃ vs, Vals vs us ∧ TpAll H vs ds
  | [], [], _ => ⟨[], .nil, .nil⟩
  | _ :: _, _ :: _, .cons ⟨v, r, a⟩ t => by
    obtain ⟨vs, x, y⟩ := of_each t
    exact ⟨v :: vs, .cons r x, .cons a y⟩
/-- sorted(a list or a tuple of data) -/
def rSortedData (A : Around) : List V → Hp → VK → Prop := fun vs H Q => ∃ a xs ds, vs = [V.ref a] ∧ (H a = some (.lst xs) ∨ H a = some (.tup xs)) ∧ TpAll H xs ds ∧ PySem.W.AllAlike ds ∧ PySem.W.Sortable ds ∧ ds.length ≤ 1000 ∧ (∀ d ∈ ds, A.units + 2 + d.depth < cLine) ∧
  ∀ p ys, H p = none → TpAll H ys (sortD ds) → Q (.ref p) (upd H p (.lst ys))
theorem cr_sortedData : CallR X (.builtin "sorted") (rSortedData X.A) := by
  intro pins s st H vs us Q Iv r h
  obtain ⟨a, xs, ds, rfl, hs, ht, hal, hk, hl, hu, q⟩ := h
  rw [Vals.ref1 r]
  have big : ds.length ≤ sizeLine := Nat.le_trans hl (by decide)
  have fin : ∀ (items1 : List Value) (res : List Value), res.length = ds.length → PySem.W.EachIs (fun u d => ∃ v, L2.RelV v u ∧ Tp H v d) res (ds.mergeSort (PySem.W.dataLe false id)) → EP X pins st Q (.ref (s.heap.objs.size + 1)) { s with heap := sortedAll s.heap items1 (List.toArray res) } := fun items1 res h1 h2 => by
    obtain ⟨ys, r1, t1⟩ := of_each h2
    obtain ⟨epo, atR⟩ := PyProof.Rows.sortedAll_at s.heap items1 res.toArray
    have hlen : ys.length ≤ sizeLine := by rw [r1.length, h1]; exact big
    exact ⟨.ref _, upd H (s.heap.objs.size + 1) (.lst ys), Iv.laid (t' := s.toks) (fun _ _ => PyProof.Rows.sortedAll_old) (Nat.le_succ _) ⟨hlen, res, epo, r1, atR⟩, rfl, q _ ys (Iv.hok.fresh (Nat.le_succ _)) t1⟩
  have rds : ∀ items1, Vals xs items1 → PySem.W.EachIs (fun v b => ∃ as, Reads s.heap v (id b) as) items1 ds := fun items1 rv => by
    obtain ⟨as, hr⟩ := Dp.readsAll Iv ds xs items1 ht.dp rv
    exact PySem.W.readsAll_each id (by rw [List.map_id]; exact hr)
  rcases hs with hs | hs
  · obtain ⟨items1, rv, hl', _⟩ := Iv.list (.inl (.inl hs))
    exact PySem.W.sorted_data (enc := id) hl'.isList (each_of rv ht) (rds items1 rv) (by rw [List.map_id]; exact hal) (by rw [List.map_id]; exact hk) big (fun b hb => hu b hb) (fin items1)
  · obtain ⟨items1, rv, hl', _⟩ := Iv.tuple (.inl (.inl hs))
    exact So.sortedT_data (enc := id) (show s.heap.IsTuple a items1.toArray from hl') (each_of rv ht) (rds items1 rv) (by rw [List.map_id]; exact hal) (by rw [List.map_id]; exact hk) big (fun b hb => hu b hb) (fin items1)
/-- xs.extend(a tuple) -/
def rExtendT : V → List V → Hp → VK → Prop := fun x vs H Q => ∃ l b xs zs, x = .ref l ∧ vs = [.ref b] ∧ H l = some (.lst xs) ∧ H b = some (.tup zs) ∧ xs.length + zs.length ≤ sizeLine ∧ Q .non (upd H l (.lst (xs ++ zs)))
theorem mt_extendT : MtM X "list.extend" rExtendT := by
  intro pins s st H x vs v us Q Iv rx rv h
  obtain ⟨l, b, xs, zs, rfl, rfl, atL, atB, fits, q⟩ := h
  cases rx
  obtain ⟨u, rfl, ru⟩ := rv.one
  cases ru
  obtain ⟨z, items1, n, r, hl, e⟩ := Iv.lstM atL
  obtain ⟨items2, r2, p2, hz2⟩ := Iv.tuple (.inl (.inl atB))
  obtain ⟨o2, e2, c2, n2, d2⟩ := p2
  have hsz : items1.toArray.size + items2.toArray.size ≤ sizeLine := by rw [List.size_toArray, List.size_toArray, ← r.length, ← r2.length]; exact fits
  have notLong : ¬ (!items1.toArray.isEmpty && Builtin.List.listTooLong (items1.toArray.size + items2.toArray.size)) = true := by
    rw [notLongL hsz, Bool.and_false]
    exact Bool.false_ne_true
  refine wpAny_call_entry F.slot_list_extend ⟨_, e, rfl⟩ F.entry_list_extend ?_ (F.args_list_extend_2 _ _)
  show wpAny _ _ (Builtin.List.listExtendWith (.ref l) (.ref b) .none) _ _ s
  unfold Builtin.List.listExtendWith
  refine wpAny_bind (wpAny_typeOf (T := "tuple") ⟨o2, e2, c2⟩ ?_)
  have ht : (Value.type "tuple" == Value.type "tuple") = true := by rfl
  rw [if_pos (by rw [ht]; simp)]
  refine wpAny_bind (PyProof.Rows.listItems_at e2 d2 ?_)
  refine wpAny_bind (PyProof.Rows.listItems_at e rfl ?_)
  rw [if_neg notLong]
  refine wpAny_bind (PyProof.Rows.listUpdate_at e rfl ?_ (by rw [List.size_toArray]; omega) (by simp only [Array.size_append]; omega))
  refine wpAny_bind (wpAny_pure ?_)
  refine wpAny_pure ?_
  refine ⟨_, rfl, ?_⟩
  refine ⟨.non, _, Iv.lset (t' := s.toks) (its' := items1 ++ items2) atL e (by simp) (r.append r2) ?_, rfl, q⟩
  rw [List.length_append]
  omega
end
section
variable {T : List NTab} {X : Cx} {Γ : List Sh} {a b c e tg iter : Expr} {pos : Pos} {E : GE}
theorem alike_nats (l : List Nat) : PySem.W.AllAlike (l.map eI) := fun d hd d' hd' => by
  obtain ⟨i, _, rfl⟩ := List.mem_map.mp hd
  obtain ⟨j, _, rfl⟩ := List.mem_map.mp hd'
  simp [PySem.W.alike]
theorem sortable_nats (l : List Nat) : PySem.W.Sortable (l.map eI) := .inr fun d hd => by
  obtain ⟨i, _, rfl⟩ := List.mem_map.mp hd
  exact ⟨(fun z => by cases z), (fun _ z => by cases z)⟩
theorem depth_nats {A : Around} {k : Nat} (hr : Room k A) (l : List Nat) : ∀ d ∈ l.map eI, A.units + 2 + d.depth < cLine := fun d hd => by
  obtain ⟨i, _, rfl⟩ := List.mem_map.mp hd
  have := hr.units
  have e : (eI i).depth = 0 := by simp [PyData.depth]
  rw [e]
  omega
/-- sorted(a lot), sorted(a list of things) -/
theorem ee_sortedT {p : Pos} {l : List Nat} {k : Nat} (hr : Room k X.A) (ha : EA T X [a] Γ [.d (eL l)]) (hl : l.length ≤ 1000) (hm : X.mg "sorted" = none) (hg : Gl X "sorted" := by rfl) (he : starEach [a] X.env = (false, eval a X.env) :: starEach [] X.env := by rfl) (hpl : (backTo pos (starEach [] X.env)).any (·.1) = false := by rfl) :
    EE T X (.Call (.Name "sorted" p) [a] [] pos) Γ (.n ((sortN l).map eI)) := fun H0 Θ σ H k Q q =>
  leE (pe_callB cr_sortedData hg hm (by decide +kernel) pa_w (by decide) (by decide) he hpl) (ha H0 Θ σ H k _ fun vs H2 e2 hv => by
    obtain ⟨v, rfl⟩ : ∃ v, vs = [v] := by
      have := hv.len
      match vs, this with
      | [v], _ => exact ⟨v, rfl⟩
    obtain ⟨p, xs, rfl, hp, hx⟩ := Tp.inv_tup hv.1
    refine ⟨p, xs, l.map eI, rfl, .inr hp, hx, alike_nats l, sortable_nats l, by rw [List.length_map]; exact hl, depth_nats hr l, fun p2 ys h1 h2 => ?_⟩
    rw [sortN_eq] at h2
    exact q _ _ (e2.trans (Ext.new h1)) ⟨p2, rfl, e2.free _ h1, ys, upd_same, h2.mono (Ext.new (T := T) h1).tx⟩)
theorem ee_sortedL {p : Pos} {l : List Nat} {k : Nat} (hr : Room k X.A) (ha : EA T X [a] Γ [.q (l.map eI)]) (hl : l.length ≤ 1000) (hm : X.mg "sorted" = none) (hg : Gl X "sorted" := by rfl) (he : starEach [a] X.env = (false, eval a X.env) :: starEach [] X.env := by rfl) (hpl : (backTo pos (starEach [] X.env)).any (·.1) = false := by rfl) :
    EE T X (.Call (.Name "sorted" p) [a] [] pos) Γ (.n ((sortN l).map eI)) := fun H0 Θ σ H k Q q =>
  leE (pe_callB cr_sortedData hg hm (by decide +kernel) pa_w (by decide) (by decide) he hpl) (ha H0 Θ σ H k _ fun vs H2 e2 hv => by
    obtain ⟨v, rfl⟩ : ∃ v, vs = [v] := by
      have := hv.len
      match vs, this with
      | [v], _ => exact ⟨v, rfl⟩
    obtain ⟨p, rfl, xs, hp, hx⟩ := hv.1
    refine ⟨p, xs, l.map eI, rfl, .inl hp, hx, alike_nats l, sortable_nats l, by rw [List.length_map]; exact hl, depth_nats hr l, fun p2 ys h1 h2 => ?_⟩
    rw [sortN_eq] at h2
    exact q _ _ (e2.trans (Ext.new h1)) ⟨p2, rfl, e2.free _ h1, ys, upd_same, h2.mono (Ext.new (T := T) h1).tx⟩)
/-- xs.extend(a tuple) -/
theorem h1_extendT {i : Nat} {x : Str} {px apos cpos : Pos} {xs ys : List PyData} (hi : Γ[i]? = some (.l xs)) (he : EA T X [e] Γ [.d (.tuple ys)]) (hl : xs.length + ys.length ≤ 100000) (hn : E.nx (Γ.set i (.l (xs ++ ys)))) (hN : X.N[i]? = some x := by rfl)
    (hv : Vis X.env.scope x := by first | exact Or.inl rfl | exact Or.inr (Or.inl rfl) | exact Or.inr (Or.inr rfl)) (hd : (x == ("__debug__" : Str)) = false := by decide) (hcd : (x == ("__classdict__" : Str)) = false := by decide)
    (h1 : attributeBase (.Name x px) "extend" X.env (eval (.Name x px) X.env) = eval (.Name x px) X.env := by rfl)
    (h2 : (((((backTo cpos (starEach [e] X.env)).all fun x => !x.fst) && (backToKw cpos (keywordEach [] X.env)).all fun x => x.fst.isSome) && decide (([e].length + ([] : List Keyword).length + if ([] : List Keyword).isEmpty = true then 0 else 1) < 30)) = true) := by rfl)
    (h3 : (apos.endLine == cpos.line) = true := by rfl) (h4 : starEach [e] X.env = (false, eval e X.env) :: starEach [] X.env := by rfl) (h5 : (backTo cpos (starEach [] X.env)).any (·.1) = false := by rfl)
    (h6 : swapsWith (.Call (.Attribute (.Name x px) "extend" apos) [e] [] cpos) none pos.line X.env = pure false := by rfl) :
    H1 T X (.Expr (.Call (.Attribute (.Name x px) "extend" apos) [e] [] cpos) pos) E Γ := fun H0 Θ σ H k => by
  obtain ⟨p, hs, h0, vs, hp, hx⟩ := k.own hi
  refine leS (ps_expr (pe_bm PySem.F.plainAttrs_list PySem.F.slot_list_extend PySem.F.type_list_extend mt_extendT (pe_var hN hv hd hcd) pa_w h1 h2 h3 h4 h5) h6) ⟨_, hs, .inl ⟨rfl, _, .inl (.inl hp)⟩, he H0 Θ σ H k _ fun us H2 e2 hu => ?_⟩
  obtain ⟨v, rfl⟩ : ∃ v, us = [v] := by
    have := hu.len
    match us, this with
    | [v], _ => exact ⟨v, rfl⟩
  obtain ⟨b, ws, rfl, hb, hy⟩ := Tp.inv_tup hu.1
  exact ⟨p, b, vs, ws, rfl, rfl, e2.lst hp, hb, Nat.le_trans (by rw [hx.len, hy.len]; exact hl) (show 100000 ≤ sizeLine by decide), okE ((k.mono e2).mutL hi hs ((hx.mono e2.tx).append hy)) hn⟩
/-- x = xs.pop(), xs an own list -/
theorem h1_pop {i j : Nat} {x y : Str} {px py apos cpos : Pos} {xs : List PyData} {d : PyData} (hi : Γ[i]? = some (.l (xs ++ [d]))) (hn : E.nx ((Γ.set i (.l xs)).set j (.d d))) (hNd : X.N.Nodup) (hN : X.N[i]? = some x := by rfl) (hj : X.N[j]? = some y := by rfl)
    (hv : Vis X.env.scope x := by first | exact Or.inl rfl | exact Or.inr (Or.inl rfl) | exact Or.inr (Or.inr rfl)) (hy : L2.Loc X.env.scope y := by first | exact Or.inl rfl | exact Or.inr rfl) (hd : (x == ("__debug__" : Str)) = false := by decide) (hcd : (x == ("__classdict__" : Str)) = false := by decide)
    (h1 : attributeBase (.Name x px) "pop" X.env (eval (.Name x px) X.env) = eval (.Name x px) X.env := by rfl) (h3 : (apos.endLine == cpos.line) = true := by rfl)
    (hs : swapsWith (.Call (.Attribute (.Name x px) "pop" apos) [] [] cpos) (some (.Name y py)) pos.line X.env = pure false := by rfl) (hf : X.fn y = true ∨ X.env.scope.names.lookup y = some .local := by first | exact .inl rfl | exact .inr rfl) :
    H1 T X (.Assign [.Name y py] (.Call (.Attribute (.Name x px) "pop" apos) [] [] cpos) pos) E Γ := fun H0 Θ σ H k => by
  obtain ⟨p, hs', h0, vs, hp, hx⟩ := k.own hi
  have hl := hx.len
  rw [List.length_append] at hl
  rw [List.length_singleton] at hl
  obtain ⟨v, hv1, hv2⟩ := hx.get (i := xs.length) (d := d) (by simp)
  have hx2 : TpAll H vs.dropLast xs := by
    have := hx.take xs.length
    rw [List.take_left, show vs.take xs.length = vs.dropLast by rw [List.dropLast_eq_take, hl]; rfl] at this
    exact this
  refine leS (ps_set hNd hj hy (pe_bm0 PySem.F.plainAttrs_list PySem.F.slot_list_pop PySem.F.type_list_pop mt_pop (pe_var hN hv hd hcd) h1 h3) hs hf) ⟨_, hs', .inl ⟨rfl, _, .inl (.inl hp)⟩, p, vs, v, rfl, rfl, hp, by rw [hl]; exact hv1, ?_⟩
  exact okE ((k.mutL hi hs' hx2).setD (Tp.mono (Tx.mut hp) hv2)) hn
end
end Pt
set_option maxHeartbeats 4000000
/-! Layer H: a, b = x, y with any new things. -/
namespace Pt
open PySem PySem.Spec PyProof.Rows L2
section
variable {T : List NTab} {X : Cx} {Γ : List Sh} {a b c e tg iter : Expr} {pos : Pos} {E : GE}
/-- a, b = x, y: stored one by one, both locals -/
theorem h1_par2 {i j : Nat} {x y : Str} {ea eb : Expr} {px py pt pt2 : Pos} {kt k2 : Nat} {r1 r2 : RS} {s1 s2 : Sh} (hij : i ≠ j) (ha : EE T X ea Γ r1) (hb : EE T X eb Γ r2) (hn : E.nx ((Γ.set i s1).set j s2)) (h1 : shOf r1 = some s1) (h2 : shOf r2 = some s2) (hN : X.N.Nodup)
    (hc : X.calm = true := by rfl) (hi : X.N[i]? = some x := by rfl) (hj : X.N[j]? = some y := by rfl) (hx : X.env.scope.names.lookup x = some .local := by rfl) (hy : X.env.scope.names.lookup y = some .local := by rfl)
    (hsw : swappedStores [.Tuple [.Name x px, .Name y py] kt pt] (.Tuple [ea, eb] k2 pt2) X.env = pure (some [x, y]) := by rfl) (hs : swapsWithSole [.Tuple [.Name x px, .Name y py] kt pt] (.Tuple [ea, eb] k2 pt2) pos.line X.env = pure false := by rfl)
    (e1 : starEach [ea, eb] X.env = (false, eval ea X.env) :: starEach [eb] X.env := by rfl) (e2 : starEach [eb] X.env = (false, eval eb X.env) :: starEach [] X.env := by rfl) :
    H1 T X (.Assign [.Tuple [.Name x px, .Name y py] kt pt] (.Tuple [ea, eb] k2 pt2) pos) E Γ := fun H0 Θ σ H k =>
  leS (ps_par hc hN hi hj hij hx hy pa_w hsw hs) (leA (pa_cons pe_w (pa_cons pe_w pa_nil e2) e1) (ha H0 Θ σ H k _ fun v H2 d2 hv => hb H0 Θ σ H2 (k.mono d2) _ fun w H3 d3 hw =>
    ⟨v, w, rfl, okE ((k.setR d2 h1 hv).setR d3 h2 hw) hn⟩))
/-- the same by a tuple, where a name is a cell -/
theorem h1_parC {i j : Nat} {x y : Str} {ea eb : Expr} {px py pt pt2 : Pos} {kt k2 : Nat} {r1 r2 : RS} {s1 s2 : Sh} (ha : EE T X ea Γ r1) (hb : EE T X eb Γ r2) (hn : E.nx ((Γ.set i s1).set j s2)) (h1 : shOf r1 = some s1) (h2 : shOf r2 = some s2) (hN : X.N.Nodup)
    (hc : X.calm = true := by rfl) (hi : X.N[i]? = some x := by rfl) (hj : X.N[j]? = some y := by rfl) (hx : L2.Loc X.env.scope x := by first | exact Or.inl rfl | exact Or.inr rfl) (hf : X.fn x = true ∨ X.env.scope.names.lookup x = some .local := by first | exact .inl rfl | exact .inr rfl)
    (hy : L2.Loc X.env.scope y := by first | exact Or.inl rfl | exact Or.inr rfl) (hfy : X.fn y = true ∨ X.env.scope.names.lookup y = some .local := by first | exact .inl rfl | exact .inr rfl)
    (hs : swapsWithSole [.Tuple [.Name x px, .Name y py] kt pt] (.Tuple [ea, eb] k2 pt2) pos.line X.env = pure false := by rfl) (hw : swappedStores [.Tuple [.Name x px, .Name y py] kt pt] (.Tuple [ea, eb] k2 pt2) X.env = pure none := by rfl)
    (hz : (assignEach [.Tuple [.Name x px, .Name y py] kt pt] X.env).map (·.2) = [assign (.Tuple [.Name x px, .Name y py] kt pt) X.env] := by rfl)
    (e1 : starEach [ea, eb] X.env = (false, eval ea X.env) :: starEach [eb] X.env := by rfl) (e2 : starEach [eb] X.env = (false, eval eb X.env) :: starEach [] X.env := by rfl) :
    H1 T X (.Assign [.Tuple [.Name x px, .Name y py] kt pt] (.Tuple [ea, eb] k2 pt2) pos) E Γ := fun H0 Θ σ H k =>
  leS (ps_asg (pe_tup (pa_cons pe_w (pa_cons pe_w pa_nil e2) e1)) (pg_tup (n := 2) hc (pgs_cons (pg_name hN hi hx hf) (pgs_cons (pg_name hN hj hy hfy) pgs_nil))) hs hw hz) (ha H0 Θ σ H k _ fun v H2 d2 hv => hb H0 Θ σ H2 (k.mono d2) _ fun w H3 d3 hw =>
    ⟨show 2 ≤ sizeLine by decide, fun p hp => ⟨p, _, rfl, .inl (.inl upd_same), rfl, _, _, rfl, _, _, rfl, rfl, okE (((k.setR d2 h1 hv).setR d3 h2 hw).mono (Ext.new hp)) hn⟩⟩)
end
end Pt
set_option maxHeartbeats 4000000
/-! Layer I: equality of lots, in a tuple of lots, list(range), unpacking a list. -/
namespace Pt
open PySem PySem.Spec PyProof.Rows L2
theorem eqvAll_nats : ∀ a b : List Nat, PyData.eqvAll (a.map eI) (b.map eI) = decide (a = b)
  | [], [] => rfl
  | [], b :: bs => by simp [PyData.eqvAll]
  | a :: as, [] => by simp [PyData.eqvAll]
  | a :: as, b :: bs => by
    rw [List.map_cons, List.map_cons, PyData.eqvAll, eqvAll_nats as bs, PyData.eqv]
    by_cases h : a = b
    · subst h; simp
    · have : ((a : Int) == (b : Int)) = false := by simp; omega
      rw [this, Bool.false_and, decide_eq_false (by simp [h])]
theorem canAll_nats : ∀ a : List Nat, PyData.canLayAll0 (a.map eI) = true
  | [] => rfl
  | a :: as => by rw [List.map_cons, PyData.canLayAll0, canAll_nats as]; rfl
theorem depthAll_nats : ∀ a : List Nat, PyData.depthAll (a.map eI) = 0
  | [] => rfl
  | a :: as => by rw [List.map_cons, PyData.depthAll, depthAll_nats as]; rfl
theorem shaped_T (l : List Nat) : SeqAt.shaped (eL l) = true := by
  unfold SeqAt.shaped
  rw [PyData.canLay0, canAll_nats, PyData.depth, depthAll_nats]; rfl
theorem shaped_L (l : List Nat) : SeqAt.shaped (.list (l.map eI)) = true := by
  unfold SeqAt.shaped
  rw [PyData.canLay0, canAll_nats, PyData.depth, depthAll_nats]; rfl
section
variable {X : Cx}
def rInTD (K : PySem.W.Frag) : R2 := fun x y H Q => ∃ d ds, Dp K H x d ∧ Dp K H y (.tuple ds) ∧ SeqAt.shaped d = true ∧ SeqAt.shaped (.tuple ds) = true ∧ Q (.bl (ds.any fun z => PyData.eqv z d)) H
theorem op_inTD (hu : X.A.units + 65 < cLine) : OpR X (compareOp .In) (rInTD X.K) := by
  intro pins s σ H x y v u Q I rx ry h
  obtain ⟨d, ds, hd, he, sd, se, q⟩ := h
  obtain ⟨as, r1⟩ := Dp.reads I d x v hd rx
  obtain ⟨bs, r2⟩ := Dp.reads I (.tuple ds) y u he ry
  exact SeqAt.in_tuple_reads r2 r1 (SeqAt.canLay_of_shaped se) (SeqAt.canLay_of_shaped sd) (room_in_shaped sd hu) ⟨.bl _, H, I, rfl, q⟩
end
section
variable {T : List NTab} {X : Cx} {Γ : List Sh} {a b c d e tg iter : Expr} {pos : Pos} {E : GE}
theorem room64 {k : Nat} {A : Around} (hr : Room k A) : A.units + 65 < cLine := by
  have := hr.un
  omega
theorem co_eqT {k : Nat} {l m : List Nat} (hr : Room k X.A) (ha : EE T X a Γ (.d (eL l))) (hb : EE T X b Γ (.d (eL m))) : CO T X .Eq a b Γ (decide (l = m)) := ⟨_, op_eqD (by have := room64 hr; omega), fun H0 Θ σ H kk Q q =>
  ha H0 Θ σ H kk _ fun v H2 e2 hv => hb H0 Θ σ H2 (kk.mono e2) _ fun w H3 e3 hw => ⟨_, _, (Tp.mono e3.tx hv).dp, Tp.dp hw, shaped_T l, shaped_T m, by rw [PyData.eqv, eqvAll_nats]; exact q H3 (e2.trans e3)⟩⟩
theorem co_neT {k : Nat} {l m : List Nat} (hr : Room k X.A) (ha : EE T X a Γ (.d (eL l))) (hb : EE T X b Γ (.d (eL m))) : CO T X .NotEq a b Γ (!decide (l = m)) := ⟨_, op_neD (by have := room64 hr; omega), fun H0 Θ σ H kk Q q =>
  ha H0 Θ σ H kk _ fun v H2 e2 hv => hb H0 Θ σ H2 (kk.mono e2) _ fun w H3 e3 hw => ⟨_, _, (Tp.mono e3.tx hv).dp, Tp.dp hw, shaped_T l, shaped_T m, by rw [PyData.eqv, eqvAll_nats]; exact q H3 (e2.trans e3)⟩⟩
theorem ls_dp {K : PySem.W.Frag} {H : Hp} {p : Addr} {xs : List PyData} (h : LsAt H p xs) : Dp K H (.ref p) (.list xs) := by
  obtain ⟨vs, h1, h2⟩ := h
  exact .lst (.inl (.inl h1)) h2.dp
theorem co_eqL {k : Nat} {l m : List Nat} (hr : Room k X.A) (ha : EE T X a Γ (.q (l.map eI))) (hb : EE T X b Γ (.q (m.map eI))) : CO T X .Eq a b Γ (decide (l = m)) := ⟨_, op_eqD (by have := room64 hr; omega), fun H0 Θ σ H kk Q q =>
  ha H0 Θ σ H kk _ fun v H2 e2 ⟨p, e, hv⟩ => hb H0 Θ σ H2 (kk.mono e2) _ fun w H3 e3 ⟨p2, e', hw⟩ => by
    subst e e'
    exact ⟨_, _, ls_dp (hv.ext e3), ls_dp hw, shaped_L l, shaped_L m, by rw [PyData.eqv, eqvAll_nats]; exact q H3 (e2.trans e3)⟩⟩
/-- x in (a tuple of lots) -/
theorem canAll_lots : ∀ ls : List (List Nat), PyData.canLayAll0 (ls.map eL) = true
  | [] => rfl
  | l :: ls => by rw [List.map_cons, PyData.canLayAll0, canAll_lots ls, PyData.canLay0, canAll_nats]; rfl
theorem depthAll_lots : ∀ ls : List (List Nat), PyData.depthAll (ls.map eL) ≤ 1
  | [] => Nat.zero_le _
  | l :: ls => by
    have := depthAll_lots ls
    rw [List.map_cons, PyData.depthAll, PyData.depth, depthAll_nats]; omega
theorem shaped_lots (ls : List (List Nat)) : SeqAt.shaped (.tuple (ls.map eL)) = true := by
  unfold SeqAt.shaped
  rw [PyData.canLay0, canAll_lots, PyData.depth, decide_eq_true (by have := depthAll_lots ls; omega)]; rfl
theorem co_inTT {k : Nat} {l : List Nat} {ls : List (List Nat)} (hr : Room k X.A) (ha : EE T X a Γ (.d (eL l))) (hb : EE T X b Γ (.d (.tuple (ls.map eL)))) : CO T X .In a b Γ (decide (l ∈ ls)) := ⟨_, op_inTD (room64 hr), fun H0 Θ σ H kk Q q =>
  ha H0 Θ σ H kk _ fun v H2 e2 hv => hb H0 Θ σ H2 (kk.mono e2) _ fun w H3 e3 hw => ⟨_, _, (Tp.mono e3.tx hv).dp, Tp.dp hw, shaped_T l, shaped_lots ls, by
    have : ((ls.map eL).any fun z => PyData.eqv z (eL l)) = decide (l ∈ ls) := by
      rw [List.any_map]
      have : ((fun z => PyData.eqv z (eL l)) ∘ eL) = fun m => decide (m = l) := by
        funext m
        show PyData.eqv (eL m) (eL l) = _
        rw [PyData.eqv, eqvAll_nats]
      rw [this, Bool.eq_iff_iff, List.any_eq_true]
      simp
    rw [this]
    exact q H3 (e2.trans e3)⟩⟩
/-- a list in (a tuple of two lists) -/
theorem co_inLL {k : Nat} {l m1 m2 : List Nat} {kt : Nat} (hr : Room k X.A) (ha : EE T X a Γ (.q (l.map eI))) (hb : EE T X b Γ (.q (m1.map eI))) (hc : EE T X c Γ (.q (m2.map eI)))
    (e1 : starEach [b, c] X.env = (false, eval b X.env) :: starEach [c] X.env := by rfl) (e2 : starEach [c] X.env = (false, eval c X.env) :: starEach [] X.env := by rfl) : CO T X .In a (.Tuple [b, c] kt pos) Γ (decide (l = m1 ∨ l = m2)) := ⟨_, op_inTD (room64 hr), fun H0 Θ σ H kk Q q =>
  ha H0 Θ σ H kk _ fun v H2 d2 ⟨p, e, hv⟩ => leE (pe_tup (pa_cons pe_w (pa_cons pe_w pa_nil e2) e1)) (hb H0 Θ σ H2 (kk.mono d2) _ fun w H3 d3 ⟨p2, e', hw⟩ => hc H0 Θ σ H3 ((kk.mono d2).mono d3) _ fun w2 H4 d4 ⟨p3, e'', hw2⟩ =>
    ⟨show 2 ≤ sizeLine by decide, fun t ht => by
      subst e e' e''
      have d5 : Ext T H4 (upd H4 t (.tup [V.ref p2, V.ref p3])) := Ext.new ht
      refine ⟨_, [.list (m1.map eI), .list (m2.map eI)], ls_dp (((hv.ext d3).ext d4).ext d5), .tup (.inl (.inl upd_same)) (.cons (ls_dp ((hw.ext d4).ext d5)) (.cons (ls_dp (hw2.ext d5)) .nil)), shaped_L l, ?_, ?_⟩
      · unfold SeqAt.shaped
        rw [PyData.canLay0, PyData.canLayAll0, PyData.canLay0, canAll_nats, PyData.canLayAll0, PyData.canLay0, canAll_nats, PyData.canLayAll0, PyData.depth, PyData.depthAll, PyData.depth, depthAll_nats, PyData.depthAll, PyData.depth, depthAll_nats, PyData.depthAll]; rfl
      · have : ([PyData.list (m1.map eI), PyData.list (m2.map eI)].any fun z => PyData.eqv z (.list (l.map eI))) = decide (l = m1 ∨ l = m2) := by
          rw [List.any_cons, List.any_cons, List.any_nil, PyData.eqv, PyData.eqv, eqvAll_nats, eqvAll_nats, Bool.or_false, Bool.decide_or]
          exact congr (congrArg _ (decide_eq_decide.mpr ⟨Eq.symm, Eq.symm⟩)) (decide_eq_decide.mpr ⟨Eq.symm, Eq.symm⟩)
        rw [this]
        exact q _ (((d2.trans d3).trans d4).trans d5)⟩)⟩
/-- list(range(n)) -/
theorem ee_listRg {p p2 pos2 : Pos} {n : Nat} (h : EE T X a Γ (.d (eI n))) (hn : n ≤ 100000) (hc : X.calm = true) (hm : X.mg "list" = none) (hm2 : X.mg "range" = none) (hg : Gl X "list" := by rfl) (hg2 : Gl X "range" := by rfl)
    (na : starEach [a] X.env = (false, eval a X.env) :: starEach [] X.env := by rfl) (na2 : starEach [.Call (.Name "range" p2) [a] [] pos2] X.env = (false, eval (.Call (.Name "range" p2) [a] [] pos2) X.env) :: starEach [] X.env := by rfl) :
    EE T X (.Call (.Name "list" p) [.Call (.Name "range" p2) [a] [] pos2] [] pos) Γ (.n ((List.range n).map eI)) := fun H0 Θ σ H k Q q =>
  leE (pe_listRg hc hg hm (prg_1 hg2 hm2 pe_w na) na2) (h H0 Θ σ H k _ fun v H2 e2 hv => by
    refine ⟨(n : Int), Tp.inv_int hv, RgOk.of_le (by omega) (by omega) (by omega) (by omega), fun p hp => ?_⟩
    refine q _ _ (e2.trans (Ext.new hp)) ⟨p, rfl, e2.free _ hp, _, upd_same, ?_⟩
    have : rgV 0 (n : Int) = ((List.range n).map fun (i : Nat) => (i : Int)).map V.int := by
      unfold rgV
      rw [List.map_map]
      simp only [Int.zero_add, Int.sub_zero, Int.toNat_natCast]
      rfl
    rw [this]
    have e : (List.range n).map eI = ((List.range n).map fun (i : Nat) => (i : Int)).map .int := by rw [List.map_map]; rfl
    rw [e]
    exact tpAll_ints _)
/-- the target of four names, a list -/
theorem h1_four {i j l m : Nat} {x y z u : Str} {px py pz pu tpos : Pos} {d1 d2 d3 d4 : PyData} {kk : Nat} (he : EE T X e Γ (.q [d1, d2, d3, d4])) (hn : E.nx ((((Γ.set i (.d d1)).set j (.d d2)).set l (.d d3)).set m (.d d4))) (hN : X.N.Nodup)
    (hc : X.calm = true := by rfl) (hi : X.N[i]? = some x := by rfl) (hj : X.N[j]? = some y := by rfl) (hl : X.N[l]? = some z := by rfl) (hm : X.N[m]? = some u := by rfl)
    (hx : X.env.scope.names.lookup x = some .local := by rfl) (hy : X.env.scope.names.lookup y = some .local := by rfl) (hz : X.env.scope.names.lookup z = some .local := by rfl) (hu : X.env.scope.names.lookup u = some .local := by rfl)
    (hs : swapsWithSole [.Tuple [.Name x px, .Name y py, .Name z pz, .Name u pu] kk tpos] e pos.line X.env = pure false := by rfl) (hw : swappedStores [.Tuple [.Name x px, .Name y py, .Name z pz, .Name u pu] kk tpos] e X.env = pure none := by rfl)
    (h1 : (assignEach [.Tuple [.Name x px, .Name y py, .Name z pz, .Name u pu] kk tpos] X.env).map (·.2) = [assign (.Tuple [.Name x px, .Name y py, .Name z pz, .Name u pu] kk tpos) X.env] := by rfl) :
    H1 T X (.Assign [.Tuple [.Name x px, .Name y py, .Name z pz, .Name u pu] kk tpos] e pos) E Γ := fun H0 Θ σ H k =>
  leS (ps_asg pe_w (pg_unl (n := 4) hc (pgs_cons (pg_name hN hi (.inl hx) (.inr hx)) (pgs_cons (pg_name hN hj (.inl hy) (.inr hy)) (pgs_cons (pg_name hN hl (.inl hz) (.inr hz)) (pgs_cons (pg_name hN hm (.inl hu) (.inr hu)) pgs_nil))))) hs hw h1) (he H0 Θ σ H k _ fun v H2 e2 ⟨p, e', vs, hp, hx⟩ => by
    subst e'
    match vs, hx with
    | [v1, v2, v3, v4], .cons t1 (.cons t2 (.cons t3 (.cons t4 .nil))) =>
      exact ⟨p, _, rfl, .inl (.inl hp), rfl, _, _, rfl, _, _, rfl, _, _, rfl, _, _, rfl, rfl, okE (((((k.mono e2).setD t1).setD t2).setD t3).setD t4) hn⟩)
end
end Pt
set_option maxHeartbeats 4000000
/-! Layer J: a comprehension of two loops; the lots that follow a lot. -/
namespace Pt
open PySem PySem.Spec PyProof.Rows L2
section
variable {T : List NTab} {X : Cx} {Γ : List Sh} {pos : Pos} {H0 H H2 : Hp} {Θ : Pins} {σ : L2.St} {E : GE} {a b e : Expr}
/-- what is walked is no list -/
def EI0 (T : List NTab) (X : Cx) (tg iter : Expr) (Γ : List Sh) (ds : List PyData) : Prop := ∀ (H0 : Hp) (Θ : Pins) (σ : L2.St) (H : Hp), Ok T H0 Θ Γ σ H → ∀ R : It → Hp → Prop, (∀ J H2, Ext T H H2 → JOk T H2 [] J ds → R J H2) → wI X tg iter σ H R
theorem ei0_rng2 {tg : Expr} {p : Pos} {lo n : Nat} (h : EA T X [a, b] Γ [.d (.int (lo : Int)), .d (.int (n : Int))]) (hn : lo ≤ 100000 ∧ n ≤ 100000) (hm : X.mg "range" = none) (hg : Gl X "range" := by rfl) (hs : starEach [a, b] X.env = [(false, eval a X.env), (false, eval b X.env)] := by rfl) (hs2 : starEach [b] X.env = [(false, eval b X.env)] := by rfl) :
    EI0 T X tg (.Call (.Name "range" p) [a, b] [] pos) Γ ((List.range' lo (n - lo)).map fun (i : Nat) => PyData.int (i : Int)) := fun H0 Θ σ H k R q =>
  leI (pi_range2 hg hm pa_w hs hs2) (h H0 Θ σ H k _ fun vs H2 e2 hv => by
    obtain ⟨v, w, rfl⟩ : ∃ v w, vs = [v, w] := by
      have := hv.len
      match vs, this with
      | [v, w], _ => exact ⟨v, w, rfl⟩
    refine ⟨(lo : Int), (n : Int), by rw [Tp.inv_int hv.1, Tp.inv_int hv.2.1], ⟨by omega, by omega, by omega, by omega⟩, q _ H2 e2 ?_⟩
    have := jok_rng (T := T) (H2 := H2) (lo := (lo : Int)) (n := n - lo)
    have e1 : ((n : Int) - (lo : Int)).toNat = n - lo := by omega
    rw [e1]
    have e : (List.range' lo (n - lo)).map (fun (i : Nat) => PyData.int (i : Int)) = (List.range (n - lo)).map fun (i : Nat) => PyData.int ((lo : Int) + (i : Int)) := by
      rw [List.range'_eq_map_range, List.map_map]
      refine List.map_congr_left fun i _ => ?_
      show PyData.int ((lo + i : Nat) : Int) = _
      rw [Int.natCast_add]
    rw [e]
    exact this)
theorem lc2_read {α β : Type} (as : List α) (enc : α → PyData) (bs : α → List β) (enc1 : β → PyData) (G : α → β → PyData) (j j1 : Nat) {x x1 : Str} {px px1 : Pos} {elt iter iter1 : Expr} {scope : Scope} {own : List (Str × Nat)} {vs1 : List Nat} {fz : Bool} {Q : VK}
    (k : Ok T H0 Θ Γ σ H) (hi : EI T X (.Name x px) iter Γ (as.map enc) fz) (hj : j ∈ own.map (·.2)) (hj1 : j1 ∈ vs1)
    (hi1 : ∀ a ∈ as, ∀ (s : Shared) (H : Hp) (C : Addr) (cl : List (Str × Addr)) (fp : List Addr), EI0 T (X.blk s H scope (compEnvC scope cl C X.env) fp) (.Name x1 px1) iter1 ((wipeG Γ (own.map (·.2))).set j (.d (enc a))) ((bs a).map enc1))
    (he : ∀ a ∈ as, ∀ b ∈ bs a, ∀ (s : Shared) (H : Hp) (C : Addr) (cl : List (Str × Addr)) (fp : List Addr), EE T (X.blk s H scope (compEnvC scope cl C X.env) fp) elt ((wipeG ((wipeG Γ (own.map (·.2))).set j (.d (enc a))) vs1).set j1 (.d (enc1 b))) (.d (G a b)))
    (hl : (as.flatMap fun a => (bs a).map (G a)).length ≤ 10000) (q : ∀ v H2, Ext T H H2 → RsOk Θ H H2 (.n (as.flatMap fun a => (bs a).map (G a))) v → Q v H2) :
    tLc2 (wI X (.Name x px) iter) (gName j) (fun σ H Q => ∀ (s : Shared) (H' : Hp) (C : Addr) (cl : List (Str × Addr)) (fp : List Addr), wTs (X.blk s H' scope (compEnvC scope cl C X.env) fp) [] σ H Q)
      (fun σ H R => ∀ (s : Shared) (H' : Hp) (C : Addr) (cl : List (Str × Addr)) (fp : List Addr), wI (X.blk s H' scope (compEnvC scope cl C X.env) fp) (.Name x1 px1) iter1 σ H R) (gName j1)
      (fun σ H Q => ∀ (s : Shared) (H' : Hp) (C : Addr) (cl : List (Str × Addr)) (fp : List Addr), wTs (X.blk s H' scope (compEnvC scope cl C X.env) fp) [] σ H Q)
      (fun σ H Q => ∀ (s : Shared) (H' : Hp) (C : Addr) (cl : List (Str × Addr)) (fp : List Addr), wE (X.blk s H' scope (compEnvC scope cl C X.env) fp) elt σ H Q) (own.map (·.2)) vs1 σ H Q := by
  refine hi H0 Θ σ H k _ fun J H2 L e2 hL _ jk => ?_
  intro D hD
  have k2 := k.mono e2
  have kw := ok_wipe k2 (own.map (·.2))
  have hD0 : H0 D = none := k2.ext.free D hD
  have mD : ∀ vs, (D, vs) ∉ Θ := fun vs h => by
    have := k2.pins _ h
    rw [hD] at this
    cases this
  refine ⟨fun i m H' => m = as.length - i ∧ i ≤ as.length ∧ Ext T H2 H' ∧ Ok T H0 Θ (wipeG Γ (own.map (·.2))) (wipe σ (own.map (·.2))) H' ∧ LsAt H' D ((as.take i).flatMap fun a => (bs a).map (G a)),
    ⟨as.length, by simp, Nat.zero_le _, Ext.new hD, kw.mono (Ext.new hD), [], upd_same, .nil⟩, ?_⟩
  rintro i m H' ⟨rfl, hi', e3, k3, acc0, hacc0, hG0⟩
  have pL : ∀ q ∈ L, H' q.1 = some (.lst q.2) := fun z hz => e3.lst (hL z hz)
  by_cases hlt : i < as.length
  · have ea : as[i]? = some as[i] := List.getElem?_eq_getElem hlt
    have mem : as[i] ∈ as := List.getElem_mem hlt
    obtain ⟨hgo, hyl⟩ := jk.go i (enc as[i]) H' (by rw [List.getElem?_map, ea]; rfl) e3.tx pL
    have et : as.take (i + 1) = as.take i ++ [as[i]] := by rw [List.take_add_one, ea]; rfl
    have eb : ∀ jn, jn ≤ (bs as[i]).length → ((as.take i).flatMap fun a => (bs a).map (G a)).length + jn ≤ 10000 := fun jn hjn => by
      refine Nat.le_trans ?_ hl
      have e0 : as = as.take i ++ ([as[i]] ++ as.drop (i + 1)) := by
        rw [← List.append_assoc, ← et, List.take_append_drop]
      conv => rhs; rw [e0]
      rw [List.flatMap_append, List.flatMap_append, List.length_append, List.length_append, List.flatMap_singleton, List.length_map]
      omega
    refine .inr ⟨hgo, fun H'' => (i + 1) ≤ as.length ∧ Ext T H2 H'' ∧ Ok T H0 Θ (wipeG Γ (own.map (·.2))) (wipe σ (own.map (·.2))) H'' ∧ LsAt H'' D ((as.take (i + 1)).flatMap fun a => (bs a).map (G a)), fun H'' h => ⟨as.length - (i + 1), by omega, rfl, h⟩, fun v H4 hy => ?_⟩
    obtain ⟨e4, hv⟩ := hyl v H4 hy
    have k4 := (k3.mono e4).setD (i := j) hv
    show wipe ((wipe σ (own.map (·.2))).set j (some v)) (own.map (·.2)) = wipe σ (own.map (·.2)) ∧ _
    refine ⟨wipe_set hj _, fun s Hx C cl fp => ?_⟩
    refine leTs (X := X.blk s Hx scope (compEnvC scope cl C X.env) fp) pts_nil ?_
    simp only [if_true]
    intro s Hx C cl fp
    refine hi1 _ mem s Hx C cl fp H0 Θ _ H4 k4 _ fun J1 H5 e5 jk1 => ?_
    have k5 := k4.mono e5
    have nD5 : ∀ i', IsL ((wipeG Γ (own.map (·.2))).set j (.d (enc as[i]))) i' → ((wipe σ (own.map (·.2))).set j (some v))[i']? ≠ some (some (.ref D)) := fun i' hi' => by
      rcases isL_set hi' with ⟨_, z⟩ | ⟨ne, hz⟩
      · cases z
      · rw [List.getElem?_set_ne ne]
        exact kw.notNew hD i' hz
    have nDw : ∀ i', IsL (wipeG Γ (own.map (·.2))) i' → (wipe σ (own.map (·.2)))[i']? ≠ some (some (.ref D)) := kw.notNew hD
    have a5 : H5 D = some (.lst acc0) := (e4.trans e5).lst hacc0
    -- the inner loop: L1 is not D
    refine ⟨fun jn m1 H'' => m1 = (bs as[i]).length - jn ∧ jn ≤ (bs as[i]).length ∧ Ext T H2 H'' ∧ Tx H5 H'' ∧ Ok T H0 Θ ((wipeG Γ (own.map (·.2))).set j (.d (enc as[i]))) ((wipe σ (own.map (·.2))).set j (some v)) H'' ∧ Ok T H0 Θ (wipeG Γ (own.map (·.2))) (wipe σ (own.map (·.2))) H'' ∧ LsAt H'' D (((as.take i).flatMap fun a => (bs a).map (G a)) ++ ((bs as[i]).take jn).map (G as[i])), ⟨_, rfl, Nat.zero_le _, (e3.trans e4).trans e5, Tx.refl _, k5, (k3.mono e4).mono e5, acc0, a5, ?_⟩, ?_⟩
    · rw [List.take_zero, List.map_nil, List.append_nil]
      exact hG0.mono (e4.trans e5).tx
    · rintro jn m1 H'' ⟨rfl, hjn, f3, f4, k6, k6w, acc, hacc, hG⟩
      have tx5 : Tx H5 H'' := f4
      have pL1 : ∀ q ∈ ([] : Pins), H'' q.1 = some (.lst q.2) := fun _ z => by cases z
      by_cases hjl : jn < (bs as[i]).length
      · have eb1 : (bs as[i])[jn]? = some (bs as[i])[jn] := List.getElem?_eq_getElem hjl
        have memb : (bs as[i])[jn] ∈ bs as[i] := List.getElem_mem hjl
        obtain ⟨hgo1, hyl1⟩ := jk1.go jn (enc1 (bs as[i])[jn]) H'' (by rw [List.getElem?_map, eb1]; rfl) tx5 pL1
        refine .inr ⟨hgo1, fun H3 => (jn + 1) ≤ (bs as[i]).length ∧ Ext T H2 H3 ∧ Tx H5 H3 ∧ Ok T H0 Θ ((wipeG Γ (own.map (·.2))).set j (.d (enc as[i]))) ((wipe σ (own.map (·.2))).set j (some v)) H3 ∧ Ok T H0 Θ (wipeG Γ (own.map (·.2))) (wipe σ (own.map (·.2))) H3 ∧ LsAt H3 D (((as.take i).flatMap fun a => (bs a).map (G a)) ++ ((bs as[i]).take (jn + 1)).map (G as[i])), fun H3 h => ⟨(bs as[i]).length - (jn + 1), by omega, rfl, h⟩, fun v1 H6 hy1 => ?_⟩
        obtain ⟨e6, hv1⟩ := hyl1 v1 H6 hy1
        have k7 := (ok_wipe (k6.mono e6) vs1).setD (i := j1) hv1
        refine ⟨wipe_set hj1 _, fun s Hx C cl fp => ?_⟩
        refine leTs (X := X.blk s Hx scope (compEnvC scope cl C X.env) fp) pts_nil ?_
        simp only [if_true]
        intro s Hx C cl fp
        refine he _ mem _ memb s Hx C cl fp H0 Θ _ H6 k7 _ fun w H7 e7 hw => ?_
        have e67 := e6.trans e7
        have a7 : H7 D = some (.lst acc) := e67.lst hacc
        have et1 : (bs as[i]).take (jn + 1) = (bs as[i]).take jn ++ [(bs as[i])[jn]] := by rw [List.take_add_one, eb1]; rfl
        refine ⟨acc, a7, ?_, by omega, (f3.trans e67).mut hD a7, (f4.trans e67.tx).trans (Tx.mut a7), (k6.mono e67).mutO hD0 a7 nD5 mD, (k6w.mono e67).mutO hD0 a7 nDw mD, acc ++ [w], upd_same, ?_⟩
        · have h1 := hG.len
          rw [List.length_append, List.length_map, List.length_take] at h1
          have := eb (jn + 1) hjl
          exact Nat.lt_of_lt_of_le (show acc.length < 100000 by omega) (by decide)
        · rw [et1, List.map_append, ← List.append_assoc]
          exact TpAll.mono (Tx.mut a7) ((hG.mono e67.tx).append (.one hw))
      · have e : jn = (bs as[i]).length := by omega
        subst e
        refine .inl ⟨jk1.stop _ H'' (by rw [List.length_map]; exact Nat.le_refl _) tx5 pL1, by omega, f3, k6w, acc, hacc, ?_⟩
        rw [List.take_length] at hG
        rw [et, List.flatMap_append, List.flatMap_singleton]
        exact hG
  · have e : i = as.length := by omega
    subst e
    refine .inl ⟨jk.stop _ H' (by rw [List.length_map]; exact Nat.le_refl _) e3.tx pL, q _ H' (e2.trans e3) ⟨D, rfl, e2.free D hD, acc0, hacc0, ?_⟩⟩
    rw [List.take_length] at hG0
    exact hG0
end
section
variable {T : List NTab} {X : Cx} {Γ : List Sh} {pos : Pos} {E : GE}
/-- name = [.. for .. in .. for .. in ..] -/
theorem h1_setLc2 {i : Nat} {y : Str} {py spos : Pos} {α β : Type} (as : List α) (enc : α → PyData) (bs : α → List β) (enc1 : β → PyData) (G : α → β → PyData) (j j1 : Nat) {x x1 : Str} {px px1 : Pos} {elt iter iter1 : Expr} {scope : Scope} {own : List (Str × Nat)} {vs1 : List Nat} {fz : Bool} (hc : X.calm = true) (hN : X.N.Nodup)
    (ok : BlkOk X.N X.env.scope scope own) (hv : ∀ i ∈ vs1, i ∈ own.map (·.2)) (hi : EI T X (.Name x px) iter Γ (as.map enc) fz) (hj : j ∈ own.map (·.2)) (hj1 : j1 ∈ vs1)
    (hg : ∀ (s : Shared) (H : Hp) (C : Addr) (cl : List (Str × Addr)) (fp : List Addr), PG (X.blk s H scope (compEnvC scope cl C X.env) fp) (.Name x px) (gName j))
    (hg1 : ∀ (s : Shared) (H : Hp) (C : Addr) (cl : List (Str × Addr)) (fp : List Addr), PG (X.blk s H scope (compEnvC scope cl C X.env) fp) (.Name x1 px1) (gName j1))
    (hi1 : ∀ a ∈ as, ∀ (s : Shared) (H : Hp) (C : Addr) (cl : List (Str × Addr)) (fp : List Addr), EI0 T (X.blk s H scope (compEnvC scope cl C X.env) fp) (.Name x1 px1) iter1 ((wipeG Γ (own.map (·.2))).set j (.d (enc a))) ((bs a).map enc1))
    (he : ∀ a ∈ as, ∀ b ∈ bs a, ∀ (s : Shared) (H : Hp) (C : Addr) (cl : List (Str × Addr)) (fp : List Addr), EE T (X.blk s H scope (compEnvC scope cl C X.env) fp) elt ((wipeG ((wipeG Γ (own.map (·.2))).set j (.d (enc a))) vs1).set j1 (.d (enc1 b))) (.d (G a b)))
    (hl : (as.flatMap fun a => (bs a).map (G a)).length ≤ 10000) (hn : E.nx (Γ.set i (.l (as.flatMap fun a => (bs a).map (G a)))))
    (hy : X.N[i]? = some y := by rfl) (hyl : X.env.scope.names.lookup y = some .local := by rfl) (hsw : swapsWith (.ListComp elt [⟨.Name x px, iter, [], 0⟩, ⟨.Name x1 px1, iter1, [], 0⟩] scope pos) (some (.Name y py)) spos.line X.env = pure true := by exact sw_true rfl rfl rfl (by decide +kernel))
    (hs : ∀ x, foldedSetIterable iter X.env x = pure x := by intro _; rfl) (hs1 : ∀ env x, foldedSetIterable iter1 env x = pure x := by intro _ _; rfl) :
    H1 T X (.Assign [.Name y py] (.ListComp elt [⟨.Name x px, iter, [], 0⟩, ⟨.Name x1 px1, iter1, [], 0⟩] scope pos) spos) E Γ := by
  intro H0 Θ σ H k
  refine leS (ps_setLc2 (tt := fun σ H Q => ∀ (s : Shared) (H' : Hp) (C : Addr) (cl : List (Str × Addr)) (fp : List Addr), wTs (X.blk s H' scope (compEnvC scope cl C X.env) fp) [] σ H Q)
    (wi1 := fun σ H R => ∀ (s : Shared) (H' : Hp) (C : Addr) (cl : List (Str × Addr)) (fp : List Addr), wI (X.blk s H' scope (compEnvC scope cl C X.env) fp) (.Name x1 px1) iter1 σ H R)
    (tt1 := fun σ H Q => ∀ (s : Shared) (H' : Hp) (C : Addr) (cl : List (Str × Addr)) (fp : List Addr), wTs (X.blk s H' scope (compEnvC scope cl C X.env) fp) [] σ H Q)
    (te := fun σ H Q => ∀ (s : Shared) (H' : Hp) (C : Addr) (cl : List (Str × Addr)) (fp : List Addr), wE (X.blk s H' scope (compEnvC scope cl C X.env) fp) elt σ H Q) hc hN hy hyl hsw pi_w ok hv hg
    (fun s H' C cl fp => ⟨fun pins s' σ H Q I h => h s H' C cl fp pins s' I⟩) (fun s H' C cl fp => ⟨fun pins s' σ H R I h => h s H' C cl fp pins s' I⟩) hg1 (fun s H' C cl fp => ⟨fun pins s' σ H Q I h => h s H' C cl fp pins s' I⟩) (fun s H' C cl fp => ⟨fun pins s' σ H Q I h => h s H' C cl fp pins s' I⟩) hs hs1)
    (lc2_read as enc bs enc1 G j j1 k hi hj hj1 hi1 he hl fun v H2 e2 hv => okE (k.setR (r := .n _) e2 rfl hv) hn)
/-! the lots that follow a lot -/
def loN (lot : List Nat) : Nat := match lot.getLast? with
  | none => 0
  | some l => l + 1
def nextM (n : Nat) (lot : List Nat) : List (List Nat) := (List.range' (loN lot) (n - loN lot)).map fun t => lot ++ [t]
def foursN (n : Nat) : Nat → List (List Nat)
  | 0 => [[]]
  | k + 1 => (foursN n k).flatMap (nextM n)
/-- lot[-1] + 1 if lot != () else 0 -/
theorem ee_lo {x : Str} {p1 p2 p3 p4 p5 p6 p7 p8 p9 p10 : Pos} {j1 j2 j3 k : Nat} {lot : List Nat} (hr : Room k X.A) (h : ∀ pos, EE T X (.Name x pos) Γ (.d (eL lot))) :
    EE T X (.IfExp (.Compare (.Name x p1) [.NotEq] [.Tuple [] j1 p2] p3) (.BinOp (.Subscript (.Name x p4) (.UnaryOp .USub (.Constant (.int 1) j2 p5) p6) p7) .Add (.Constant (.int 1) j2 p8) p9) (.Constant (.int 0) j3 p10) pos) Γ (.d (eI (loN lot))) := by
  refine ee_if (et_co (co_neT (m := []) hr (h _) (ee_tup (ds := []) ea_nil))) (fun z => ?_) (fun z => ?_)
  · have z : lot ≠ [] := by simpa using z
    have e : lot.getLast? = some (lot.getLast z) := List.getLast?_eq_some_getLast z
    refine ee_cast (ee_addN (i := lot.getLast z) (ee_ixT (i := -1) (d := eI (lot.getLast z)) ?_ (h _) ?_) (ee_nat (i := 1))) ?_
    · have hl : 0 < lot.length := List.length_pos_iff.mpr z
      unfold atI ixN
      rw [List.length_map]
      have h1 : (lot.map eI)[lot.length - 1]? = some (eI (lot.getLast z)) := by
        rw [List.getElem?_map, ← List.getLast?_eq_getElem?, e]; rfl
      rw [if_neg (by omega)]
      first
        | (rw [if_pos (by omega)]
           have : ((-1 : Int) + (lot.length : Int)).toNat = lot.length - 1 := by omega
           rw [this]
           exact h1)
        | (rw [if_pos (by omega)]
           have : ((lot.length : Int) + (-1 : Int)).toNat = lot.length - 1 := by omega
           rw [this]
           exact h1)
    · exact fun H0 Θ σ H k Q q => leE (pe_un un_neg pe_int) ⟨1, rfl, q _ H (Ext.refl H) (.int _)⟩
    · unfold loN
      rw [e]
  · have z : lot = [] := by simpa using z
    refine ee_cast (ee_nat (i := 0)) ?_
    subst z
    rfl
end
end Pt
set_option maxHeartbeats 4000000
/-! Layer K: sorted(a list, key=lambda ..). -/
namespace Pt
open PySem PySem.Spec PyProof.Rows L2 PySem.W
def sortK (key : PyData → PyData) (ds : List PyData) : List PyData := ds.mergeSort (dataLe false key)
section
variable {X : Cx} {T : List NTab} {σ : L2.St} {pins : List (Addr × Obj)}
/-- a call of the function at f in the sort: it gives the item's key -/
def Turn (X : Cx) (T : List NTab) (σ : L2.St) (f : Addr) (fo : Obj) (key : PyData → PyData) (ds : List PyData) (Hs : Hp) : Prop :=
  ∀ (pins : List (Addr × Obj)) (H : Hp) (s : Shared) (x : V) (u : Value) (d : PyData), d ∈ ds → Inv X pins σ H s → (f, fo) ∈ pins → Ext T Hs H → L2.RelV x u → Tp H x d →
    wpAny (model X.prog X.w) X.A.in1.in1 (PySem.call (.ref f) [u]) (fun v s' => ∃ w H', Inv X pins σ H' s' ∧ Ext T H H' ∧ L2.RelV w v ∧ Tp H' w (key d)) (fun _ _ => False) s
def freed (o : Obj) : Obj := { o with data := .freed }
theorem get_freed (h : Heap) (a : Addr) : (h.update a freed).get? a = none := by
  cases e : (h.update a freed).get? a with
  | none => rfl
  | some o =>
    have := (Heap.get?_eq_some _ _ _).mp e
    obtain ⟨h1, h2⟩ := this
    rw [Heap.objs_update_self] at h1
    cases e2 : h.objs[a]? with
    | none => rw [e2] at h1; cases h1
    | some o2 =>
      rw [e2] at h1
      cases h1
      have h3 : (freed o2).alive = false := rfl
      rw [h3] at h2
      cases h2
theorem get_keep (h : Heap) {a b : Addr} (n : b ≠ a) : (h.update a freed).get? b = h.get? b := Heap.get?_update_ne _ _ _ _ n
theorem sk_rest {kS a f : Addr} {fo : Obj} {vs : List Value} {xs : List V} {ds : List PyData} {key : PyData → PyData} {H : Hp} {s : Shared} {e1 : Nat} {P : PySem.Fin → Shared → Prop} {E : Value → Shared → Prop}
    (I : Inv X ((f, fo) :: (kS, seqObj "list" #[] 0) :: (a, seqObj "list" #[] e1) :: pins) σ H s) (hka : kS ≠ a) (hfk : f ≠ kS) (hfa : f ≠ a) (fk : FpOk X pins H kS) (fa : FpOk X pins H a)
    (rv : Vals xs vs) (tp : TpAll H xs ds) (hZ : vs.length ≤ sizeLine) (hal : AllAlike (ds.map key)) (hsk : Sortable (ds.map key)) (hu : ∀ d ∈ ds, X.A.units + 2 + (key d).depth < cLine)
    (turn : Turn X T σ f fo key ds H)
    (h : ∀ H' s' ys, Inv X pins σ (upd H' a (.lst ys)) s' → Ext T H H' → H' a = none → TpAll H' ys (sortK key ds) → P (.done (.ret .none)) s') :
    wpAny (model X.prog X.w) X.A.in1.in1 (ksk_rest a (.ref f) false vs.toArray e1 (.ref kS)) P E s := by
  have hlv : vs.length = ds.length := by rw [← rv.length, tp.len]
  unfold ksk_rest
  refine wpAny_bind (wpAny_rule ?_)
  first
    | rw [List.forIn_toArray]
    | (rw [← Array.forIn_toList, List.toList_toArray])
    | rw [← Array.forIn_toList]
  refine wpAny_bind (ksk_fold (fun i s' => ∃ (H' : Hp) (kA : Array Value) (e : Nat) (ws : List V), Inv X ((f, fo) :: (kS, seqObj "list" kA e) :: (a, seqObj "list" #[] e1) :: pins) σ H' s' ∧ Ext T H H' ∧ Vals ws kA.toList ∧ TpAll H' ws ((ds.take i).map key)) vs 0 s
    ⟨H, #[], 0, [], I, Ext.refl H, .nil, .nil⟩ ?step ?done)
  case step =>
    rintro j u s' hx ⟨H', kA, e, ws, I', e', rw', tw⟩
    simp only [Nat.zero_add] at tw ⊢
    have inV : j < vs.length := (List.getElem?_eq_some_iff.mp hx).1
    have hjd : j < ds.length := by omega
    have ed : ds[j]? = some ds[j] := List.getElem?_eq_getElem hjd
    obtain ⟨x, hxx, tx⟩ := tp.get ed
    obtain ⟨u', hu', ru⟩ := rv.get hxx
    rw [hx] at hu'
    cases hu'
    have hsz : kA.size ≤ vs.length := by
      have h1 := tw.len
      rw [List.length_map, List.length_take, rw'.length, Array.length_toList] at h1
      omega
    refine wpAny_bind (wpAny_attempt (wpAny_mono (turn _ H' s' x u ds[j] (List.getElem_mem hjd) I' List.mem_cons_self e' ru (tx.mono e'.tx)) (fun v s'' he => ?_) fun _ _ hF => hF.elim))
    obtain ⟨w, H'', I2, e2, r2, t2⟩ := he
    try dsimp only
    have m1 := I2.pin (kS, seqObj "list" kA e) (List.mem_append_right _ (by simp))
    have m2 := I2.pin (a, seqObj "list" #[] e1) (List.mem_append_right _ (by simp))
    have m3 := I2.pin (f, fo) (List.mem_append_right _ (by simp))
    have nk2 : s''.heap.get? kS = some (seqObj "list" kA e) := m1.1
    have s1 := Heap.SameBut.update s''.heap kS (Obj.mapSeq (·.push v))
    obtain ⟨c2, hc2⟩ : ∃ c2, (s''.heap.update kS (Obj.mapSeq (·.push v))).get? kS = some (seqObj "list" (kA.push v) c2) := ⟨_, get?_update_seq nk2 (·.push v)⟩
    have ek : ds.take (j + 1) = ds.take j ++ [ds[j]] := by rw [List.take_add_one, ed]; rfl
    refine wpAny_bind (listUpdate_at nk2 rfl ?_ (Nat.le_trans hsz hZ) (Nat.le_trans (Nat.le_of_eq (Array.size_push ..)) (Nat.succ_le_succ (Nat.le_trans hsz hZ))))
    have J0 : Inv X ((f, fo) :: (a, seqObj "list" #[] e1) :: pins) σ H'' s'' := I2.pins_of fun p hp => I2.pin p (List.mem_append_right _ (by
      rcases List.mem_cons.mp hp with z | z
      · rw [z]; exact List.mem_cons_self
      · exact List.mem_cons_of_mem _ (List.mem_cons_of_mem _ z)))
    have J1 : Inv X ((f, fo) :: (a, seqObj "list" #[] e1) :: pins) σ H'' { s'' with heap := s''.heap.update kS (Obj.mapSeq (·.push v)), toks := s''.toks } :=
      J0.turned (it := kS) (fun b o hb eo => (s1.2 b hb).trans eo) m1.2.1 fk.2.1 fk.2.2.2.1 fk.2.2.2.2.1 (fun p hp => by
        rcases List.mem_append.mp hp with z | z
        · exact fk.2.2.2.2.2 p (List.mem_append_left _ z)
        · rcases List.mem_cons.mp z with z | z
          · rw [z]; exact hfk
          · rcases List.mem_cons.mp z with z | z
            · rw [z]; exact hka.symm
            · exact fk.2.2.2.2.2 p (List.mem_append_right _ z))
    refine wpAny_pure ⟨rfl, H'', kA.push v, c2, ws ++ [w], J1.pins_of fun p hp => ?_, e'.trans e2, ?_, ?_⟩
    · rcases List.mem_cons.mp hp with z | z
      · exact J1.pin p (List.mem_append_right _ (by rw [z]; exact List.mem_cons_self))
      · rcases List.mem_cons.mp z with z | z
        · rw [z]
          exact ⟨hc2, m1.2.1, m1.2.2.1, m1.2.2.2.1, fun v z => by cases z⟩
        · exact J1.pin p (List.mem_append_right _ (List.mem_cons_of_mem _ z))
    · rw [show (kA.push v).toList = kA.toList ++ [v] by simp]
      exact rw'.append (.cons r2 .nil)
    · rw [ek, List.map_append]
      exact (tw.mono e2.tx).append (.one t2)
  case done =>
    rintro s' ⟨H', kA, e, ws, I', e', rw', tw⟩
    rw [List.take_of_length_le (by omega)] at tw
    have m1 := I'.pin (kS, seqObj "list" kA e) (List.mem_append_right _ (by simp))
    have m2 := I'.pin (a, seqObj "list" #[] e1) (List.mem_append_right _ (by simp))
    have hk' : EachIs (fun v k => ∃ as, Reads s'.heap v k as) kA.toList (ds.map key) := by
      obtain ⟨as, hr⟩ := Dp.readsAll I' (ds.map key) ws kA.toList tw.dp rw'
      exact readsAll_each id (by rw [List.map_id]; exact hr)
    have hsz : kA.size = vs.length := by
      have h1 := hk'.length
      rw [Array.length_toList, List.length_map] at h1
      omega
    try dsimp only
    refine wpAny_bind (listItems_at m1.1 rfl ?_)
    have kp : KeepsBut a (s'.heap.update kS freed) s'.heap := fun b o hb eo => by
      by_cases hbk : b = kS
      · rw [hbk, get_freed] at eo; cases eo
      · rwa [get_keep _ hbk] at eo
    refine keyH_end (κ := dataKind s'.heap (ds.map key)) (h₁ := s'.heap.update kS freed) kp (get_freed _ _) m1.1 m2.1 hka (SortsAt.data hk' hal hsk (bound_map (A := X.A.in1.in1) fun d hd => by have := hu d hd; exact this)) hsz hZ fun h3 tk3 c k3 n3 => ?_
    have ko : KeyedOut false (ds.map key) vs (sortVals (dataKind s'.heap (ds.map key)) false kA.toList vs) := ⟨s'.heap, kA.toList, hal, rfl, hk'⟩
    have ee := keyedOut_each key ko (each_of rv (tp.mono e'.tx))
    obtain ⟨ys, ry, ty⟩ := of_each ee
    have J0 : Inv X pins σ H' s' := I'.pins_of fun p hp => I'.pin p (List.mem_append_right _ (List.mem_cons_of_mem _ (List.mem_cons_of_mem _ (List.mem_cons_of_mem _ hp))))
    have J1 : Inv X pins σ H' { s' with heap := (s'.heap.update kS freed).update a freed, toks := tk3 } := J0.turnedL (ch := [a, kS]) (fun b o hb eo => by
        simp only [List.mem_cons, List.not_mem_nil, or_false, not_or] at hb
        rw [get_keep _ hb.1, get_keep _ hb.2]
        exact eo) (fun b hb => by
        rcases List.mem_cons.mp hb with z | z
        · rw [z]; exact ⟨m2.2.1, fa.2⟩
        · rw [List.mem_singleton.mp z]; exact ⟨m1.2.1, fk.2⟩)
    have lz : ys.length ≤ sizeLine := by
      rw [ry.length, ko.length (by rw [List.length_map]; exact hlv.symm)]
      exact hZ
    have J2 : Inv X pins σ (upd H' a (.lst ys)) { s' with heap := h3, toks := tk3 } := J1.laidN (t' := tk3) (fun b u eu => by
        by_cases hba : b = a
        · rw [hba, get_freed] at eu; cases eu
        · rw [get_keep _ hba] at eu
          exact k3 b u hba eu) (get_freed _ _) m2.2.1 ⟨lz, _, c, ry, n3⟩
    exact h H' _ ys J2 e' m2.2.1 ty
/-- sorted(xs, key=f) -/
theorem sk_sorted {l f : Addr} {fo : Obj} {xs : List V} {ds : List PyData} {key : PyData → PyData} {H : Hp} {s : Shared} {Q : Value → Shared → Prop} {E : Value → Shared → Prop}
    (I : Inv X ((f, fo) :: pins) σ H s) (hl : H l = some (.lst xs)) (tp : TpAll H xs ds) (hal : AllAlike (ds.map key)) (hsk : Sortable (ds.map key)) (hu : ∀ d ∈ ds, X.A.units + 2 + (key d).depth < cLine)
    (turn : Turn X T σ f fo key ds H)
    (h : ∀ H' s' a ys, Inv X pins σ (upd H' a (.lst ys)) s' → Ext T H H' → H' a = none → TpAll H' ys (sortK key ds) → Q (.ref a) s') :
    wpAny (model X.prog X.w) X.A (PySem.call (.builtin "sorted") [.ref l] [(Str.ofString "key", .ref f)]) Q E s := by
  obtain ⟨vs, rv, hl', hlz⟩ := I.list (.inl (.inl hl))
  have small : vs.length ≤ sizeLine := by rw [← rv.length]; exact hlz
  refine sorted_of_sort hl'.isList small (ksk_s1 _ _) (fun _ => ksk_l1 _ _) fun E' => ?_
  rw [ksk_t1]
  have hA : H (s.heap.objs.size + 1) = none := I.hok.fresh (Nat.le_succ _)
  have cs : (copyHeap s.heap vs).objs.size = s.heap.objs.size + 2 := by
    unfold copyHeap
    rw [size_push', Heap.size_update, size_push']
  have atA := copyHeap_at s.heap vs
  obtain ⟨e1, atB⟩ : ∃ e1, ((copyHeap s.heap vs).update (s.heap.objs.size + 1) (Obj.mapSeq fun _ => (#[] : Array Value))).get? (s.heap.objs.size + 1) = some (seqObj "list" #[] e1) := ⟨_, get?_update_seq atA fun _ => #[]⟩
  have hkS : (((copyHeap s.heap vs).update (s.heap.objs.size + 1) (Obj.mapSeq fun _ => (#[] : Array Value))).push (seqObj "tuple" vs.toArray 0)).objs.size = s.heap.objs.size + 3 := by rw [size_push', Heap.size_update, cs]
  unfold ksk_tree
  refine wpAny_bind (listItems_at atA rfl ?_)
  refine wpAny_bind (listUpdate_at atA rfl ?_ (by rw [List.size_toArray]; exact small) (Nat.zero_le _))
  refine wpAny_bind (seqEpoch_at atB rfl ?_)
  refine wpAny_bind (wpAny_newTuple ?_ (by show vs.length ≤ _; exact small))
  refine wpAny_bind (wpAny_newList ?_ (Nat.zero_le _))
  refine wpAny_holding ?_
  have I0 : Inv X ((f, fo) :: pins) σ H { s with heap := ((((copyHeap s.heap vs).update (s.heap.objs.size + 1) (Obj.mapSeq fun _ => (#[] : Array Value))).push (seqObj "tuple" vs.toArray 0)).push (seqObj "list" #[] 0)), toks := s.toks } := I.kept fun b o eo => sorting_copy_old eo
  have mf := I.pin (f, fo) (List.mem_append_right _ List.mem_cons_self)
  have hflt : f < s.heap.objs.size := Heap.lt_size mf.1
  have Ip : Inv X pins σ H s := I.pins_of fun p hp => I.pin p (List.mem_append_right _ (List.mem_cons_of_mem _ hp))
  have fk : FpOk X pins H (s.heap.objs.size + 3) := Ip.fpOk (by omega) (Ip.hok.fresh (by omega))
  have fa : FpOk X pins H (s.heap.objs.size + 1) := Ip.fpOk (by omega) hA
  have gA : ((((copyHeap s.heap vs).update (s.heap.objs.size + 1) (Obj.mapSeq fun _ => (#[] : Array Value))).push (seqObj "tuple" vs.toArray 0)).push (seqObj "list" #[] 0)).get? (s.heap.objs.size + 1) = some (seqObj "list" #[] e1) := Heap.get?_push_of_some _ (Heap.get?_push_of_some _ atB)
  have gK : ((((copyHeap s.heap vs).update (s.heap.objs.size + 1) (Obj.mapSeq fun _ => (#[] : Array Value))).push (seqObj "tuple" vs.toArray 0)).push (seqObj "list" #[] 0)).get? (s.heap.objs.size + 3) = some (seqObj "list" #[] 0) := by
    have := Heap.get?_push_size (((copyHeap s.heap vs).update (s.heap.objs.size + 1) (Obj.mapSeq fun _ => (#[] : Array Value))).push (seqObj "tuple" vs.toArray 0)) (o := seqObj "list" #[] 0) rfl
    rwa [hkS] at this
  rw [hkS]
  refine sk_rest (kS := s.heap.objs.size + 3) (a := s.heap.objs.size + 1) (T := T) (f := f) (fo := fo) (pins := pins) (key := key) (xs := xs) (ds := ds) (H := H) (I0.pins_of fun p hp => ?_) (fun z => absurd (show s.heap.objs.size + 3 = s.heap.objs.size + 1 from z) (by omega)) (Nat.ne_of_lt (Nat.lt_of_lt_of_le hflt (Nat.le_add_right _ _))) (Nat.ne_of_lt (Nat.lt_of_lt_of_le hflt (Nat.le_add_right _ _))) fk fa rv tp small hal hsk hu turn fun H' s' ys J e' ha ty => ⟨rfl, h H' s' _ ys J e' ha ty⟩
  rcases List.mem_cons.mp hp with z | z
  · exact I0.pin p (List.mem_append_right _ (by rw [z]; exact List.mem_cons_self))
  · rcases List.mem_cons.mp z with z | z
    · rw [z]; exact ⟨gK, fk.1, fk.2.1, fk.2.2.1, fun v z => by cases z⟩
    · rcases List.mem_cons.mp z with z | z
      · rw [z]; exact ⟨gA, fa.1, fa.2.1, fa.2.2.1, fun v z => by cases z⟩
      · exact I0.pin p (List.mem_append_right _ (List.mem_cons_of_mem _ z))
end
end Pt
set_option maxHeartbeats 4000000
/-! Layer L: a lambda is made, and called. -/
namespace Pt
open PySem PySem.Spec PyProof.Rows L2 LamX
abbrev lamF (X : Cx) (params : Arguments) (scope : Scope) (c' : Addr) : NdefX.NF := ⟨"<lambda>", X.env.qual ++ "<lambda>", params, [], scope, cloFrom X.env.cells scope.names [], c'⟩
abbrev lamO (X : Cx) (params : Arguments) (body : Expr) (scope : Scope) (pm ctv : Value) (c' : Addr) : Obj := PySem.W.kla_obj "<lambda>" (X.env.qual ++ "<lambda>") params body scope (cloFrom X.env.cells scope.names []) pm c' ctv
/-- the context of the lambda's body -/
abbrev lamX (X : Cx) (N : List Str) (params : Arguments) (scope : Scope) (c' f : Addr) (s : Shared) (H : Hp) : Cx := NdefX.ncx CX0 X.prog X.w X.K X.mg X.base N (lamF X params scope c') f X.A.in1.in1 X.stack s H E0
section
variable {X : Cx} {T : List NTab} {σ : L2.St} {pins : List (Addr × Obj)} {H : Hp} {s : Shared} {params : Arguments} {body : Expr} {scope : Scope} {pos : Pos}
/-- the lambda is made -/
theorem lam_new {q : Str} {c P : Addr} {Er : Value → Shared → Prop} {Qe : Value → Shared → Prop} (I : Inv X pins σ H s) (TB : TabB X.base X.mg c P) (hcode : X.env.code = .ref c) (hm : (P, fun _ _ => q) ∈ T) (hq : q = X.env.qual ++ "<lambda>") (hu : ∀ p ∈ T, p.1 = P → p.2 = fun _ _ => q) (hT : TabsN T H)
    (hdef : defaultsOf params X.env = ([], [])) (hfree : ∀ y ∈ scope.names, y.2 = .free → ∃ c, X.env.cells.lookup y.1 = some c)
    (h : ∀ (f cc : Addr) (pm ctm : Value) (H1 : Hp) (s' : Shared), Inv X ((f, lamO X params body scope pm ctm cc) :: pins) σ H1 s' → Ext T H H1 → TabsN T H1 → H1 cc = some (CodeO cc (X.env.qual ++ "<lambda>")) → Qe (.ref f) s') :
    wpAny (model X.prog X.w) X.A (eval (.Lambda params body scope pos) X.env) Qe Er s := by
  subst hq
  obtain ⟨tb, atP, tri, ha⟩ := (show NdefX.TabN H P (fun _ _ => X.env.qual ++ "<lambda>") from hT _ hm)
  refine PySem.W.kla_eval hdef ?_
  have bmP : s.heap.BuiltinsAt X.mg P := TB.bm.keeps I.bk
  have tabP : s.heap.get? P = some { cls := .none, data := .fields tb } := I.hok P _ atP
  have fin : ∀ {hh : Heap} {tks : Nat} {H1 : Hp} {cc : Addr} {ctm pm : Value} {o : Obj}, Inv X pins σ H1 { s with heap := hh.push o, toks := tks } → s.heap.objs.size ≤ hh.objs.size → o = lamO X params body scope pm ctm cc → H1 hh.objs.size = none →
      Inv X ((hh.objs.size, lamO X params body scope pm ctm cc) :: pins) σ H1 { s with heap := hh.push o, toks := tks } := fun {hh tks H1 cc ctm pm o} J hs e hn => J.pins_of fun p hp => by
    rcases List.mem_cons.mp hp with z | z
    · rw [z, ← e]
      have fp : FpOk X pins H1 hh.objs.size := I.fpOk hs hn
      exact ⟨Heap.get?_push_size _ (by rw [e]; rfl), hn, fp.2.1, fp.2.2.1, fun v z => by rw [e] at z; cases z⟩
    · exact J.pin p (List.mem_append_right _ z)
  cases among : codeAmong pos tb.toList with
  | some cv =>
    obtain ⟨cc, e, hco⟩ := ha pos cv among
    subst e
    refine PySem.W.kla_makeFunctionHit (mg := X.mg) (c := c) (P := P) (ps := tb) (closure_ok hfree) I.ok.glob (I.mod.glob.keeps I.bk) hcode (TB.code.keeps I.bk) tabP tri among bmP fun ctm hh tks keptOld grew => ?_
    have J : Inv X pins σ H { s with heap := hh.push (lamO X params body scope ((X.mg "__name__").getD .none) ctm cc), toks := tks } := I.kept fun b o e => Heap.get?_push_of_some _ (keptOld b o e)
    exact h _ cc _ _ H _ (fin J grew rfl (I.hok.fresh grew)) (Ext.refl H) hT hco
  | none =>
    refine PySem.W.kla_makeFunction (mg := X.mg) (c := c) (P := P) (ps := tb) (closure_ok hfree) I.ok.glob (I.mod.glob.keeps I.bk) hcode (TB.code.keeps I.bk) tabP tri among TB.gP bmP fun cc ctm hh tks keptOld isNew below codeIs tabIs => ?_
    obtain ⟨cc2, ob, fsv, tn, e2, obAt, datAt, nameAt⟩ := codeIs
    cases e2
    have grew : s.heap.objs.size ≤ hh.objs.size := Nat.le_trans isNew (Nat.le_of_lt below)
    have newC : H cc = none := I.hok.fresh isNew
    have J := inv_table (t' := tks) (more := #[rawInt pos.line, rawInt pos.col, .ref cc]) (h' := hh.push (lamO X params body scope ((X.mg "__name__").getD .none) ctm cc)) I atP
      (fun b o hb e => Heap.get?_push_of_some _ (keptOld b o hb e)) (Heap.get?_push_of_some _ tabIs) isNew ⟨ob, fsv, tn, Heap.get?_push_of_some _ obAt, datAt, nameAt⟩
    have oldKept : ∀ b o, H b = some o → (∀ tb, o ≠ .tbl tb) → upd (upd H P (.tbl (tb ++ #[rawInt pos.line, rawInt pos.col, .ref cc]))) cc (CodeO cc (X.env.qual ++ "<lambda>")) b = some o := fun b o e n => by
      rw [upd_ne (ne_of_none e newC), upd_ne (fun z => n tb (Option.some.inj (e.symm.trans (by rw [z]; exact atP))))]
      exact e
    have eList : (tb ++ #[rawInt pos.line, rawInt pos.col, .ref cc]).toList = tb.toList ++ [rawInt pos.line, rawInt pos.col, .ref cc] := by simp
    have T1 : TabsN T (upd (upd H P (.tbl (tb ++ #[rawInt pos.line, rawInt pos.col, .ref cc]))) cc (CodeO cc (X.env.qual ++ "<lambda>"))) := fun p hp => by
      by_cases hb : p.1 = P
      · rw [hu p hp hb, hb]
        refine ⟨_, by rw [upd_ne (ne_of_none atP newC), upd_same], by rw [eList]; exact PySem.TriplesOk_snoc _ _ _ _ tri, fun p' cv hcd => ?_⟩
        rw [eList] at hcd
        rcases NdefX.among_app2 _ tri hcd with z | ⟨z, _, _⟩
        · obtain ⟨c0, e1, e2⟩ := ha p' cv z
          exact ⟨c0, e1, oldKept _ _ e2 codeO_ne⟩
        · exact ⟨cc, z, upd_same⟩
      · obtain ⟨tb2, u1, u2, u3⟩ := hT p hp
        refine ⟨tb2, by rw [upd_ne (ne_of_none u1 newC), upd_ne hb]; exact u1, u2, fun p' cv hcd => ?_⟩
        obtain ⟨c0, e1, e2⟩ := u3 p' cv hcd
        exact ⟨c0, e1, oldKept _ _ e2 codeO_ne⟩
    have hn : upd (upd H P (.tbl (tb ++ #[rawInt pos.line, rawInt pos.col, .ref cc]))) cc (CodeO cc (X.env.qual ++ "<lambda>")) hh.objs.size = none := by
      have neC : hh.objs.size ≠ cc := Nat.ne_of_gt below
      have neP : hh.objs.size ≠ P := Nat.ne_of_gt (Nat.lt_of_lt_of_le (Heap.lt_size tabP) grew)
      rw [upd_ne neC, upd_ne neP]
      exact I.hok.fresh grew
    exact h _ cc _ _ _ _ (fin J grew rfl hn) ⟨oldKept, fun b e => NdefX.upd_none (NdefX.upd_none e), fun _ => T1⟩ T1 upd_same
/-- the shapes at the lambda's entry -/
def lamG (d : PyData) (Γ : List Sh) (js : List Nat) : List Sh := .d d :: js.map fun j => Γ.getD j .any
theorem ok_lam {H0 : Hp} {Θ : Pins} {Γ : List Sh} {x : V} {d : PyData} {js : List Nat} {N : List Str} (k : Ok T H0 Θ Γ σ H) (h : Tp H x d) (hN : N.length = 1 + js.length) (hj : js.Nodup) (hl : ∀ j ∈ js, j < Γ.length) :
    Ok T H0 Θ (lamG d Γ js) (NdefX.startF N [x] (js.map (NdefX.slotAt σ))) H := by
  have es : NdefX.startF N [x] (js.map (NdefX.slotAt σ)) = some x :: js.map (NdefX.slotAt σ) := by
    unfold NdefX.startF
    rw [hN, List.length_map, List.length_singleton, show 1 + js.length - 1 - js.length = 0 by omega]
    simp
  rw [es]
  have at_ : ∀ {i : Nat} {o : Option V}, (js.map (NdefX.slotAt σ))[i]? = some o → ∃ j, js[i]? = some j ∧ σ[j]? = some o := fun {i o} e => by
    rw [List.getElem?_map] at e
    cases ej : js[i]? with
    | none => rw [ej] at e; cases e
    | some j =>
      rw [ej] at e
      have e : some (NdefX.slotAt σ j) = some o := e
      have hjl := hl j (List.mem_of_getElem? ej)
      rw [← k.len] at hjl
      refine ⟨j, rfl, ?_⟩
      rw [← Option.some.inj e]
      unfold NdefX.slotAt
      rw [List.getElem?_eq_getElem hjl]
  have gat : ∀ {i : Nat} {sh : Sh}, (js.map fun j => Γ.getD j .any)[i]? = some sh → ∃ j, js[i]? = some j ∧ Γ[j]? = some sh := fun {i sh} e => by
    rw [List.getElem?_map] at e
    cases ej : js[i]? with
    | none => rw [ej] at e; cases e
    | some j =>
      rw [ej] at e
      have e : some (Γ.getD j .any) = some sh := e
      have hjl := hl j (List.mem_of_getElem? ej)
      refine ⟨j, rfl, ?_⟩
      rw [← Option.some.inj e, List.getElem?_eq_getElem hjl]
      simp [List.getD, List.getElem?_eq_getElem hjl]
  have own : ∀ {i : Nat}, IsL (lamG d Γ js) i → ∃ i' j, i = i' + 1 ∧ js[i']? = some j ∧ IsL Γ j := fun {i} ⟨sh, a, b⟩ => by
    cases i with
    | zero =>
      have a : some (Sh.d d) = some sh := a
      cases a; cases b
    | succ i =>
      obtain ⟨j, c1, c2⟩ := gat (i := i) a
      exact ⟨i, j, rfl, c1, sh, c2, b⟩
  refine ⟨k.ext, k.tabs, by simp [lamG], k.pins, fun i o sh a b => ?_, fun i j p hi hj' a b => ?_, fun i p vs hi a => ?_⟩
  · cases i with
    | zero =>
      have a : some (some x) = some o := a
      have b : some (Sh.d d) = some sh := b
      cases a; cases b
      exact ⟨x, rfl, h⟩
    | succ i =>
      obtain ⟨j, c1, c2⟩ := gat (i := i) b
      obtain ⟨j', d1, d2⟩ := at_ (i := i) a
      rw [c1] at d1
      cases d1
      exact k.sat j o sh d2 c2
  · obtain ⟨i', j1, rfl, e1, o1⟩ := own hi
    obtain ⟨i2, j2, rfl, e2, o2⟩ := own hj'
    obtain ⟨j1', d1, d2⟩ := at_ (i := i') a
    obtain ⟨j2', f1, f2⟩ := at_ (i := i2) b
    rw [e1] at d1
    rw [e2] at f1
    cases d1; cases f1
    have := k.sep _ _ p o1 o2 d2 f2
    subst this
    obtain ⟨l1, g1⟩ := List.getElem?_eq_some_iff.mp e1
    obtain ⟨l2, g2⟩ := List.getElem?_eq_some_iff.mp e2
    exact congrArg (· + 1) ((List.getElem_inj hj).mp (g1.trans g2.symm))
  · obtain ⟨i', j1, rfl, e1, o1⟩ := own hi
    obtain ⟨j1', d1, d2⟩ := at_ (i := i') a
    rw [e1] at d1
    cases d1
    exact k.sepP _ p vs o1 d2
/-- a call of it in a sort -/
theorem lam_turn {H0 : Hp} {Θ : Pins} {Γ : List Sh} {js : List Nat} {fr : List Str} {p1 : Str} {N : List Str} {f c' : Addr} {pm ctv : Value} {kk : Nat} {key : PyData → PyData} {ds : List PyData} (hr : Room (kk + 3) X.A) (S : NdefX.NScope N [p1] fr scope) (hfree : ∀ y ∈ scope.names, y.2 = .free → X.env.scope.names.lookup y.1 = some .cell ∨ X.env.scope.names.lookup y.1 = some .free)
    (hfr : ∀ y ∈ fr, (y, NameKind.free) ∈ scope.names) (hjs : js.map (fun j => X.N[j]?) = fr.map some) (hN : N.length = 1 + js.length) (hjn : js.Nodup) (hjl : ∀ j ∈ js, j < Γ.length)
    (hbind : ∀ (pm ctv : Value) (u : Value), bindArgs (PySem.W.kla_fn "<lambda>" (X.env.qual ++ "<lambda>") params body scope (cloFrom X.env.cells scope.names []) pm (.ref c') ctv) ⟨[u], []⟩ = pure [(p1, u)])
    (k : Ok T H0 Θ Γ σ H) (hc : H c' = some (CodeO c' (X.env.qual ++ "<lambda>")))
    (he : ∀ d ∈ ds, ∀ (s : Shared) (H : Hp), Room kk (lamX X N params scope c' f s H).A → EE T (lamX X N params scope c' f s H) body (lamG d Γ js) (.d (key d))) : Turn X T σ f (lamO X params body scope pm ctv c') key ds H := by
  intro pins H' s x u d hd I hf e' ru tx
  have hf1 := (I.pin _ (List.mem_append_right _ hf)).1
  have k' := k.mono e'
  have hc' : H' c' = some (CodeO c' (X.env.qual ++ "<lambda>")) := e'.keep _ _ hc codeO_ne
  have C : NdefX.CellsAt (cloFrom X.env.cells scope.names []) fr (js.map (NdefX.slotAt σ)) s.heap H' := NdefX.cells_of I (NdefX.Caps.made I.ok hfree hfr hjs)
  have e0 : Env0 X.prog X.w X.K X.mg X.base X.A.in1.in1 X.stack s H' := ⟨I.env0.frames, I.env0.mod, I.env0.bs, I.env0.bsz, I.env0.funs, I.env0.frf, I.env0.hok, I.env0.bare⟩
  have hr2 : Room (kk + 1) X.A.in1.in1 := (hr.in1).in1
  have runs : codeAny (model X.prog X.w) X.A.in1.in1 (.call (.ref f) ⟨[u], []⟩) (CR CX0 X.stack X.prog X.w H' s (fun w H'' => Ext T H' H'' ∧ Tp H'' w (key d)) E0) s := by
    refine PySem.W.kla_callFunE hr2.depth hf1 rfl S.co S.gen rfl (NdefX.codeO_at I.hok hc') ?_
    rw [hbind]
    refine wpAny_pure (wpAny_newFunctionEnv S.nocell (fun ⟨n, _⟩ hy => by
      have : n = p1 := (Prod.mk.inj (List.mem_singleton.mp hy)).1
      rw [this]
      exact S.par p1 List.mem_cons_self) (fun h₁ hns sb2 => ⟨I.nolimit.fresh _ sb2, ?_⟩) S.kind)
    show codeAny _ _ (.expr body (NdefX.envF (lamF X params scope c') f s.heap.objs.size)) _ _
    have stays : ∀ b o, s.heap.get? b = some o → h₁.get? b = some o := fun b o e => sb2.extBut b o (Nat.ne_of_lt (Heap.lt_size e)) (Heap.get?_push_of_some _ e)
    have J : Inv (lamX X N params scope c' f s H') [] (NdefX.startF N [x] (js.map (NdefX.slotAt σ))) H' { s with heap := h₁, toks := s.toks + [(p1, u)].length } :=
      NdefX.inv_startN (F := lamF X params scope c') (ps := [p1]) (us := [u]) S hr2.hd e0 rfl (.cons ru .nil) C hns stays
    have ko := ok_lam k' tx hN hjn hjl
    have q := he d hd s H' (hr2.deeper _) H0 Θ _ H' ko (fun w H'' => Ext T H' H'' ∧ Tp H'' w (key d)) (fun w H'' a b => ⟨a, b⟩)
    refine PySem.W.kla_codeExpr (wpAny_mono (q [] _ J) (fun v s' ends => ?_) fun e s' ends => ends)
    obtain ⟨w', H'', J', rv, q⟩ := ends
    exact ⟨w', H'', J'.os, J'.bare, J'.base, J'.hok, rv, q⟩
  refine wpAny_call (codeAny_mono runs fun r s' ends => ?_)
  cases r with
  | error e => exact ends.elim
  | ok fl =>
    cases fl with
    | ret u =>
      obtain ⟨w, H'', a, b, c⟩ := I.after ends
      exact ⟨w, H'', a, c.1, b, c.2⟩
    | next => exact False.elim ends
    | brk => exact False.elim ends
    | cont => exact False.elim ends
end
section
variable {T : List NTab} {X : Cx} {Γ : List Sh} {a : Expr} {params : Arguments} {body : Expr} {scope : Scope}
/-- sorted(a list, key=lambda ..) -/
theorem ee_sortedK {p pos lpos kpos : Pos} {q : Str} {c P : Addr} {js : List Nat} {fr : List Str} {p1 : Str} {N : List Str} {kk : Nat} {key : PyData → PyData} {ds : List PyData}
    (hr : Room (kk + 3) X.A) (TB : TabB X.base X.mg c P) (hcode : X.env.code = .ref c) (hm : (P, fun _ _ => q) ∈ T) (hq : q = X.env.qual ++ "<lambda>") (hu : ∀ p ∈ T, p.1 = P → p.2 = fun _ _ => q)
    (ha : EE T X a Γ (.q ds)) (ms : X.mg "sorted" = none) (S : NdefX.NScope N [p1] fr scope) (hnd : NdefX.ndefB X.env.scope scope fr = true) (hjs : js.map (fun j => X.N[j]?) = fr.map some) (hN : N.length = 1 + js.length) (hjn : js.Nodup) (hjl : ∀ j ∈ js, j < Γ.length)
    (hbind : ∀ (c' : Addr) (pm ctv : Value) (u : Value), bindArgs (PySem.W.kla_fn "<lambda>" (X.env.qual ++ "<lambda>") params body scope (cloFrom X.env.cells scope.names []) pm (.ref c') ctv) ⟨[u], []⟩ = pure [(p1, u)])
    (hal : PySem.W.AllAlike (ds.map key)) (hsk : PySem.W.Sortable (ds.map key)) (hdep : ∀ d ∈ ds, (key d).depth ≤ 60)
    (he : ∀ d ∈ ds, ∀ (c' f : Addr) (s : Shared) (H : Hp), Room kk (lamX X N params scope c' f s H).A → EE T (lamX X N params scope c' f s H) body (lamG d Γ js) (.d (key d)))
    (hdef : defaultsOf params X.env = ([], []) := by rfl) (hg : Gl X "sorted" := by rfl) (hb : starEach [a] X.env = (false, eval a X.env) :: starEach [] X.env := by rfl) :
    EE T X (.Call (.Name "sorted" p) [a] [⟨some "key", .Lambda params body scope lpos, kpos⟩] pos) Γ (.n (sortK key ds)) := fun H0 Θ σ H k Q qq => by
  intro pins s I
  refine wpAny_Call_Name_kw (ld_blt (u := .builtin "sorted") I hg ms (by decide +kernel) ?_)
  have hA := (ea_cons ha ea_nil hb) H0 Θ σ H k (fun vs H1 => ∃ p xs, vs = [V.ref p] ∧ H1 p = some (.lst xs) ∧ TpAll H1 xs ds ∧ Ext T H H1) (fun vs H1 e1 hv => by
    match vs, hv with
    | [v], ⟨⟨p, e, xs, hp, hx⟩, _⟩ => exact ⟨p, xs, by rw [e], hp, hx, e1⟩)
  have hAll : (backToKw pos (keywordEach [⟨some "key", .Lambda params body scope lpos, kpos⟩] X.env)).filterMap (·.1) = [(Str.ofString "key")] := rfl
  refine PyProof.Rows.callWith_kw (id := "sorted") (thn (hA pos pins s I) fun us s1 ⟨vs, H1, I1, r1, p1, xs, ev, hp, hx, e1⟩ => ?_) (by rw [hb]; rfl) (by rw [hb]; rfl)
  subst ev
  have eu := Vals.ref1 r1
  subst eu
  refine PyProof.Rows.kws_cons ?_
  have k1 := k.mono e1
  refine lam_new (T := T) I1 TB hcode hm hq hu k1.tabs hdef (fun y hy e => (NdefX.ndef_free hnd y hy e).elim (fun z => I1.ok.has _ (.inl z)) fun z => I1.ok.has _ (.inr z)) fun f c' pm ctv H2 s2 I2 e2 t2 hc' => ?_
  refine PyProof.Rows.kws_nil ?_
  rw [hAll]
  show wpAny _ _ (PySem.call (.builtin "sorted") [.ref p1] [(Str.ofString "key", .ref f)]) _ _ _
  have k2 := k1.mono e2
  refine sk_sorted (T := T) (key := key) I2 (e2.lst hp) (hx.mono e2.tx) hal hsk (fun d hd => by have := hdep d hd; have := hr.un; omega) (lam_turn hr S (NdefX.ndef_free hnd) (NdefX.ndef_fr hnd) hjs hN hjn hjl (fun pm ctv u => hbind c' pm ctv u) k2 hc' (fun d hd s H hr' => he d hd c' f s H hr')) fun H3 s3 a3 ys I3 e3 h3 t3 => ?_
  have e12 := e1.trans e2
  refine ⟨.ref a3, _, I3, rfl, qq _ _ ((e12.trans e3).trans (Ext.new h3)) ⟨a3, rfl, e12.free _ (e3.free _ h3), ys, upd_same, t3.mono (Ext.new (T := T) h3).tx⟩⟩
end
end Pt
set_option maxHeartbeats 4000000
/-! Layer M: lists of lists, dicts with tuple keys. -/
namespace Pt
open PySem PySem.Spec PyProof.Rows L2
theorem Paired.snoc' {α β : Type} {R : α → β → Prop} : ∀ {as : List α} {bs : List β} {a : α} {b : β}, Paired R as bs → R a b → Paired R (as ++ [a]) (bs ++ [b])
  | _, _, _, _, .nil, h => .cons h .nil
  | _, _, _, _, .cons r t, h => .cons r (Paired.snoc' t h)
theorem Paired.get' {α β : Type} {R : α → β → Prop} : ∀ {as : List α} {bs : List β} {i : Nat} {b : β}, Paired R as bs → bs[i]? = some b → ∃ a, as[i]? = some a ∧ R a b
  | _, _, _, _, .nil, e => by simp at e
  | _, _, 0, _, .cons r t, e => by simp at e; subst e; exact ⟨_, rfl, r⟩
  | _, _, i + 1, _, .cons r t, e => by
    obtain ⟨a, h1, h2⟩ := Paired.get' (i := i) t (by simpa using e)
    exact ⟨a, by simpa using h1, h2⟩
theorem Paired.set' {α β : Type} {R : α → β → Prop} : ∀ {as : List α} {bs : List β} {a : α} {b : β} (i : Nat), Paired R as bs → R a b → Paired R (as.set i a) (bs.set i b)
  | _, _, _, _, _, .nil, _ => .nil
  | _, _, _, _, 0, .cons _ t, h => .cons h t
  | _, _, _, _, i + 1, .cons r t, h => .cons r (Paired.set' i t h)
theorem Paired.len' {α β : Type} {R : α → β → Prop} : ∀ {as : List α} {bs : List β}, Paired R as bs → as.length = bs.length
  | _, _, .nil => rfl
  | _, _, .cons _ t => congrArg (· + 1) (Paired.len' t)
def keyL (lot : List Nat) : List Key := lot.map fun (n : Nat) => (.inl (n : Int) : Key)
theorem keyL_v (lot : List Nat) : (keyL lot).map kV = lot.map fun (n : Nat) => V.int (n : Int) := by
  unfold keyL
  rw [List.map_map]
  rfl
theorem keyL_inj {a b : List Nat} : keyL a = keyL b ↔ a = b := by
  refine ⟨fun h => ?_, fun h => h ▸ rfl⟩
  unfold keyL at h
  refine (List.map_inj_right (f := fun (n : Nat) => (.inl (n : Int) : Key)) (fun x y e => ?_)).mp h
  have := Sum.inl.inj e
  omega
section
variable {T : List NTab} {X : Cx} {Γ : List Sh} {a b c e tg iter : Expr} {pos : Pos} {E : GE} {sts : List Stmt}
/-- an own list without items is a list of lists -/
theorem hs_ll {i : Nat} (hi : Γ[i]? = some (.l [])) (h : HS T X sts E (Γ.set i (.ll []))) : HS T X sts E Γ := fun H0 Θ σ H k => by
  obtain ⟨p, c, d, vs, d1, d2⟩ := k.own hi
  cases d2
  refine h H0 Θ σ H ?_
  refine ⟨k.ext, k.tabs, by rw [List.length_set]; exact k.len, k.pins, fun j o s x y => ?_, fun j l q h1 h2 h3 h4 => ?_, fun j q vs h1 h2 => ?_⟩
  · by_cases ej : i = j
    · subst ej
      have hl : i < Γ.length := (List.getElem?_eq_some_iff.mp hi).1
      rw [List.getElem?_set_self hl] at y
      rw [c] at x
      cases x; cases y
      exact ⟨p, [], rfl, d, d1, .nil⟩
    · rw [List.getElem?_set_ne ej] at y
      exact k.sat j o s x y
  · have back : ∀ {j}, IsL (Γ.set i (.ll [])) j → IsL Γ j := fun {j} z => by
      rcases isL_set z with ⟨e, _⟩ | ⟨_, z⟩
      · subst e; exact ⟨_, hi, rfl⟩
      · exact z
    exact k.sep j l q (back h1) (back h2) h3 h4
  · have back : ∀ {j}, IsL (Γ.set i (.ll [])) j → IsL Γ j := fun {j} z => by
      rcases isL_set z with ⟨e, _⟩ | ⟨_, z⟩
      · subst e; exact ⟨_, hi, rfl⟩
      · exact z
    exact k.sepP j q vs (back h1) h2
/-- a new list is frozen -/
theorem pin_new {H0 H H2 : Hp} {Θ : Pins} {σ : L2.St} {ys : List PyData} {v : V} (k : Ok T H0 Θ Γ σ H) (e2 : Ext T H H2) (h : RsOk Θ H H2 (.n ys) v) : ∃ Θ', Sub Θ Θ' ∧ Ok T H0 Θ' Γ σ H2 ∧ PinAt Θ' H2 v ys := by
  obtain ⟨p, rfl, hn, vs, hp, hx⟩ := h
  exact ⟨(p, vs) :: Θ, fun q hq => List.mem_cons_of_mem _ hq, (k.mono e2).pin hp fun i hi z => k.notNew hn i hi z, p, vs, rfl, List.mem_cons_self, hx⟩
/-- xs[k], xs a list of lists -/
theorem ee_llAt {i j : Nat} {x : Str} {px : Pos} {ie : Expr} {xss : List (List PyData)} {xs : List PyData} (hi : Γ[i]? = some (.ll xss)) (hk : EE T X ie Γ (.d (.int (j : Int)))) (hj : xss[j]? = some xs) (hN : X.N[i]? = some x := by rfl)
    (hv : Vis X.env.scope x := by first | exact Or.inl rfl | exact Or.inr (Or.inl rfl) | exact Or.inr (Or.inr rfl)) (hd : (x == ("__debug__" : Str)) = false := by decide) (hcd : (x == ("__classdict__" : Str)) = false := by decide) (hs : PlainIx ie := by exact fun _ _ => rfl) :
    EE T X (.Subscript (.Name x px) ie pos) Γ (.p xs) := fun H0 Θ σ H k Q q => by
  obtain ⟨p, vs, hs', h0, hp, hr⟩ := k.own2 hi
  refine leE (pe_ix ix_list (pe_var hN hv hd hcd) pe_w hs) ⟨_, hs', hk H0 Θ σ H k _ fun w H2 e2 hw => ?_⟩
  obtain ⟨v, g, hv⟩ := Paired.get' hr hj
  exact ⟨p, vs, (j : Int), v, rfl, Tp.inv_int hw, .inl (.inl (e2.lst hp)), atI_nat g, q v H2 e2 (hv.tx e2.tx)⟩
/-- xs.append(a new list) -/
theorem h1_appendLL {i : Nat} {x : Str} {px apos cpos : Pos} {xss : List (List PyData)} {ys : List PyData} (hi : Γ[i]? = some (.ll xss)) (he : EE T X e Γ (.n ys)) (hl : xss.length < 100000) (hn : E.nx (Γ.set i (.ll (xss ++ [ys])))) (hN : X.N[i]? = some x := by rfl)
    (hv : Vis X.env.scope x := by first | exact Or.inl rfl | exact Or.inr (Or.inl rfl) | exact Or.inr (Or.inr rfl)) (hd : (x == ("__debug__" : Str)) = false := by decide) (hcd : (x == ("__classdict__" : Str)) = false := by decide)
    (h1 : attributeBase (.Name x px) "append" X.env (eval (.Name x px) X.env) = eval (.Name x px) X.env := by rfl)
    (h2 : (((((backTo cpos (starEach [e] X.env)).all fun x => !x.fst) && (backToKw cpos (keywordEach [] X.env)).all fun x => x.fst.isSome) && decide (([e].length + ([] : List Keyword).length + if ([] : List Keyword).isEmpty = true then 0 else 1) < 30)) = true) := by rfl)
    (h3 : (apos.endLine == cpos.line) = true := by rfl) (h4 : starEach [e] X.env = (false, eval e X.env) :: starEach [] X.env := by rfl) (h5 : (backTo cpos (starEach [] X.env)).any (·.1) = false := by rfl)
    (h6 : swapsWith (.Call (.Attribute (.Name x px) "append" apos) [e] [] cpos) none pos.line X.env = pure false := by rfl) :
    H1 T X (.Expr (.Call (.Attribute (.Name x px) "append" apos) [e] [] cpos) pos) E Γ := fun H0 Θ σ H k => by
  obtain ⟨p, vs, hs, h0, hp, hr⟩ := k.own2 hi
  refine leS (ps_expr (pe_bm PySem.F.plainAttrs_list PySem.F.slot_list_append PySem.F.type_list_append mt_append (pe_var hN hv hd hcd) pa_w h1 h2 h3 h4 h5) h6) ⟨_, hs, .inl ⟨rfl, _, .inl (.inl hp)⟩, (ea_cons he ea_nil h4) H0 Θ σ H k _ fun us H2 e2 hu => ?_⟩
  obtain ⟨v, rfl⟩ : ∃ v, us = [v] := by
    have := hu.len
    match us, this with
    | [v], _ => exact ⟨v, rfl⟩
  obtain ⟨Θ', s', k', pv⟩ := pin_new k e2 hu.1
  refine ⟨p, vs, v, rfl, rfl, e2.lst hp, Nat.lt_of_lt_of_le (by rw [Paired.len' hr]; exact hl) (show 100000 ≤ sizeLine by decide), OkE.sub s' (okE (k'.mutI (s := .ll (xss ++ [ys])) ⟨_, hi, rfl⟩ hs rfl ⟨p, vs ++ [v], rfl, h0, upd_same, ?_⟩) hn)⟩
  have tx := Tx.mut (o := .lst (vs ++ [v])) (e2.lst hp)
  exact Paired.snoc' (Paired.mapQ hr fun _ _ z => ((z.tx e2.tx).sub s').tx tx) (pv.tx tx)
/-- xs[k] = a new list -/
theorem h1_setLL {i j : Nat} {x : Str} {px tpos : Pos} {ie : Expr} {xss : List (List PyData)} {ys : List PyData} (hi : Γ[i]? = some (.ll xss)) (he : EE T X e Γ (.n ys)) (hk : EE T X ie Γ (.d (.int (j : Int)))) (hj : j < xss.length) (hn : E.nx (Γ.set i (.ll (xss.set j ys)))) (hN : X.N[i]? = some x := by rfl)
    (hv : Vis X.env.scope x := by first | exact Or.inl rfl | exact Or.inr (Or.inl rfl) | exact Or.inr (Or.inr rfl)) (hd : (x == ("__debug__" : Str)) = false := by decide) (hcd : (x == ("__classdict__" : Str)) = false := by decide)
    (ha : ∀ v, assign (.Subscript (.Name x px) ie tpos) X.env v = (do
      let ov ← holding [v] (eval (.Name x px) X.env)
      let iv ← holding [v, ov] (eval ie X.env)
      standAt tpos
      holding [v, ov, iv] (setItem ov iv v)
      release [v, ov, iv] []) := by intro _; rfl)
    (hs : swapsWithSole [.Subscript (.Name x px) ie tpos] e pos.line X.env = pure false := by rfl) (hw : swappedStores [.Subscript (.Name x px) ie tpos] e X.env = pure none := by rfl)
    (h1 : (assignEach [.Subscript (.Name x px) ie tpos] X.env).map (·.2) = [assign (.Subscript (.Name x px) ie tpos) X.env] := by rfl) :
    H1 T X (.Assign [.Subscript (.Name x px) ie tpos] e pos) E Γ := fun H0 Θ σ H k => by
  obtain ⟨p, vs, hs', h0, hp, hr⟩ := k.own2 hi
  refine leS (ps_asg pe_w (pg_sub (pe_var hN hv hd hcd) pe_w set_list ha) hs hw h1) (he H0 Θ σ H k _ fun v H2 e2 hv2 => ⟨_, hs', ?_⟩)
  obtain ⟨Θ', s', k', pv⟩ := pin_new k e2 hv2
  refine hk H0 Θ' σ H2 k' _ fun u H3 e3 hu => ?_
  have e := e2.trans e3
  have k3 := k'.mono e3
  refine ⟨p, vs, (j : Int), j, rfl, Tp.inv_int hu, e.lst hp, ixN_of (by rw [Paired.len' hr]; exact hj), OkE.sub s' (okE (k3.mutI (s := .ll (xss.set j ys)) ⟨_, hi, rfl⟩ hs' rfl ⟨p, vs.set j v, rfl, h0, upd_same, ?_⟩) hn)⟩
  have tx := Tx.mut (o := .lst (vs.set j v)) (e.lst hp)
  exact Paired.set' j (Paired.mapQ hr fun _ _ z => ((z.tx e.tx).sub s').tx tx) ((pv.tx e3.tx).tx tx)
/-- name = {} -/
theorem h1_dnew {i : Nat} {x : Str} {px p2 : Pos} (hn : E.nx (Γ.set i (.t []))) (hN : X.N.Nodup) (hi : X.N[i]? = some x := by rfl)
    (hx : L2.Loc X.env.scope x := by first | exact Or.inl rfl | exact Or.inr rfl) (hs : swapsWith (.Dict [] [] p2) (some (.Name x px)) pos.line X.env = pure false := by rfl) (hf : X.fn x = true ∨ X.env.scope.names.lookup x = some .local := by first | exact .inl rfl | exact .inr rfl) :
    H1 T X (.Assign [.Name x px] (.Dict [] [] p2) pos) E Γ := fun H0 Θ σ H k =>
  leS (ps_set hN hi hx pe_dnewT hs hf) fun p hp => okE (k.setN (s := .t []) (Ext.new hp) hp fun h0 => ⟨p, rfl, h0, upd_same⟩) hn
/-- d[a lot] = an int -/
theorem h1_dput {i : Nat} {x : Str} {px tpos : Pos} {ie : Expr} {kvs : List (List Key × V)} {lot : List Nat} {v : Int} {kk : Nat} (hr : Room kk X.A) (hi : Γ[i]? = some (.t kvs)) (he : EE T X e Γ (.d (.int v))) (hk : EE T X ie Γ (.d (eL lot))) (hl : kvs.length < 100000) (hn : E.nx (Γ.set i (.t (putK kvs (keyL lot) (.int v))))) (hN : X.N[i]? = some x := by rfl)
    (hv : Vis X.env.scope x := by first | exact Or.inl rfl | exact Or.inr (Or.inl rfl) | exact Or.inr (Or.inr rfl)) (hd : (x == ("__debug__" : Str)) = false := by decide) (hcd : (x == ("__classdict__" : Str)) = false := by decide)
    (hs : swapsWith e (some (.Subscript (.Name x px) ie tpos)) pos.line X.env = pure false := by rfl) :
    H1 T X (.Assign [.Subscript (.Name x px) ie tpos] e pos) E Γ := fun H0 Θ σ H k => by
  obtain ⟨p, hs', h0, hp⟩ := k.tab hi
  refine leS (ps_dput (by have := hr.un; omega) (pe_var hN hv hd hcd) pe_w pe_w hs) (he H0 Θ σ H k _ fun w H2 e2 hw => ⟨_, hs', hk H0 Θ σ H2 (k.mono e2) _ fun u H3 e3 hu => ?_⟩)
  obtain ⟨b, xs, rfl, hb, hx⟩ := Tp.inv_tup hu
  have hn2 := hx.nats
  rw [← keyL_v] at hn2
  subst hn2
  have e := e2.trans e3
  have hp3 : H3 p = some (.dT kvs) := e.keep _ _ hp (fun _ z => by cases z)
  rw [Tp.inv_int hw]
  exact ⟨p, _, rfl, DPut.t hp3 hb (Nat.lt_of_lt_of_le hl (show 100000 ≤ sizeLine by decide)), okE ((k.mono e).mutI (s := .t (putK kvs (keyL lot) (.int v))) ⟨_, hi, rfl⟩ hs' rfl ⟨p, rfl, h0, upd_same⟩) hn⟩
/-- d[a lot] -/
theorem ee_dget {i : Nat} {x : Str} {px : Pos} {ie : Expr} {kvs : List (List Key × V)} {lot : List Nat} {v : Int} {kk : Nat} (hr : Room kk X.A) (hi : Γ[i]? = some (.t kvs)) (hk : EE T X ie Γ (.d (eL lot))) (hg : valV kvs (keyL lot) = some (.int v)) (hN : X.N[i]? = some x := by rfl)
    (hv : Vis X.env.scope x := by first | exact Or.inl rfl | exact Or.inr (Or.inl rfl) | exact Or.inr (Or.inr rfl)) (hd : (x == ("__debug__" : Str)) = false := by decide) (hcd : (x == ("__classdict__" : Str)) = false := by decide) (hs : NoSl ie := by exact fun _ _ => rfl) :
    EE T X (.Subscript (.Name x px) ie pos) Γ (.d (.int v)) := fun H0 Θ σ H k Q q => by
  obtain ⟨p, hs', h0, hp⟩ := k.tab hi
  refine leE (pe_dget (by have := hr.un; omega) (pe_var hN hv hd hcd) pe_w hs) ⟨_, hs', hk H0 Θ σ H k _ fun u H2 e2 hu => ?_⟩
  obtain ⟨b, xs, rfl, hb, hx⟩ := Tp.inv_tup hu
  have hn2 := hx.nats
  rw [← keyL_v] at hn2
  subst hn2
  have hp2 : H2 p = some (.dT kvs) := e2.keep _ _ hp (fun _ z => by cases z)
  have g := DGet.t hp2 hb
  rw [hg] at g
  exact ⟨p, _, rfl, g, q _ H2 e2 (.int _)⟩
/-- list(d) -/
theorem tp_keys {H : Hp} : ∀ {kvs : List (List Nat × Int)} {bs : List Addr}, IsKeys H (kvs.map fun p => (keyL p.1, V.int p.2)) bs → TpAll H (bs.map V.ref) (kvs.map fun p => eL p.1)
  | [], _, .nil => .nil
  | p :: kvs, b :: bs, .cons h t => by
    refine .cons (.tup h ?_) (tp_keys t)
    rw [keyL_v]
    have e : p.1.map eI = (p.1.map fun (n : Nat) => (n : Int)).map .int := by rw [List.map_map]; rfl
    have e2 : (p.1.map fun (n : Nat) => V.int (n : Int)) = (p.1.map fun (n : Nat) => (n : Int)).map V.int := by rw [List.map_map]; rfl
    rw [e, e2]
    exact tpAll_ints _
theorem ee_dkeys {i : Nat} {x : Str} {px p : Pos} {kvs : List (List Nat × Int)} (hi : Γ[i]? = some (.t (kvs.map fun p => (keyL p.1, V.int p.2)))) (hc : X.calm = true) (hm : X.mg "list" = none) (hN : X.N[i]? = some x := by rfl)
    (hv : Vis X.env.scope x := by first | exact Or.inl rfl | exact Or.inr (Or.inl rfl) | exact Or.inr (Or.inr rfl)) (hd : (x == ("__debug__" : Str)) = false := by decide) (hcd : (x == ("__classdict__" : Str)) = false := by decide) (hg : Gl X "list" := by rfl)
    (he : starEach [.Name x px] X.env = (false, eval (.Name x px) X.env) :: starEach [] X.env := by rfl) (hpl : (backTo pos (starEach [] X.env)).any (·.1) = false := by rfl) :
    EE T X (.Call (.Name "list" p) [.Name x px] [] pos) Γ (.n (kvs.map fun p => eL p.1)) := fun H0 Θ σ H k Q q => by
  obtain ⟨d, hs', h0, hp⟩ := k.tab hi
  refine leE (pe_callTy (call_list_dT hc) hg hm (by decide +kernel) (pa_cons (pe_var hN hv hd hcd) pa_nil he) (by decide) (by decide) he hpl) ⟨_, hs', ?_⟩
  refine ⟨d, _, rfl, .inl hp, fun p bs hpn hk => ?_⟩
  refine q _ _ (Ext.new hpn) ⟨p, rfl, hpn, _, upd_same, ?_⟩
  exact (tp_keys hk).mono (Ext.new (T := T) hpn).tx
end
end Pt
set_option maxHeartbeats 4000000
/-! Layer N: a tuple that holds a new list; isinstance; sorted(set(..)); tuple(range(..)). -/
namespace Pt
open PySem PySem.Spec PyProof.Rows L2
/-- an expression whose value is new since the base -/
def EO (T : List NTab) (X : Cx) (e : Expr) (Γ : List Sh) (r : RS) : Prop := ∀ (H0 : Hp) (Θ : Pins) (σ : L2.St) (H : Hp), Ok T H0 Θ Γ σ H → ∀ Q : VK, (∀ v H2, Ext T H H2 → RsOk [] H0 H2 r v → Q v H2) → wE X e σ H Q
section
variable {T : List NTab} {X : Cx} {Γ : List Sh} {a b c e tg iter : Expr} {pos : Pos} {E : GE}
theorem eo_if {x : Bool} {r : RS} (hc : ET T X c Γ x) (ha : x = true → EO T X a Γ r) (hb : x = false → EO T X b Γ r) : EO T X (.IfExp c a b pos) Γ r := fun H0 Θ σ H k Q q =>
  leE (pe_ifExp pt_w pe_w pe_w) (hc H0 Θ σ H k _ fun H2 e2 => by
    cases x with
    | true =>
      rw [if_pos rfl]
      exact ha rfl H0 Θ σ H2 (k.mono e2) _ fun w H3 e3 hw => q w H3 (e2.trans e3) hw
    | false =>
      rw [if_neg Bool.false_ne_true]
      exact hb rfl H0 Θ σ H2 (k.mono e2) _ fun w H3 e3 hw => q w H3 (e2.trans e3) hw)
/-- (a, b, an own list) -/
theorem eo_tup {i : Nat} {x : Str} {px : Pos} {d1 d2 : PyData} {xs : List PyData} {kk : Nat} (ha : EE T X a Γ (.d d1)) (hb : EE T X b Γ (.d d2)) (hi : Γ[i]? = some (.l xs)) (hN : X.N[i]? = some x := by rfl) (hv : Vis X.env.scope x := by first | exact Or.inl rfl | exact Or.inr (Or.inl rfl) | exact Or.inr (Or.inr rfl)) (hd : (x == ("__debug__" : Str)) = false := by decide)
    (hcd : (x == ("__classdict__" : Str)) = false := by decide) (e1 : starEach [a, b, .Name x px] X.env = (false, eval a X.env) :: starEach [b, .Name x px] X.env := by rfl) (e2 : starEach [b, .Name x px] X.env = (false, eval b X.env) :: starEach [.Name x px] X.env := by rfl) (e3 : starEach [.Name x px] X.env = (false, eval (.Name x px) X.env) :: starEach [] X.env := by rfl) :
    EO T X (.Tuple [a, b, .Name x px] kk pos) Γ (.w [d1, d2] xs) := fun H0 Θ σ H k Q q =>
  leE (pe_tup (pa_cons pe_w (pa_cons pe_w (pa_cons (pe_var hN hv hd hcd) pa_nil e3) e2) e1)) (ha H0 Θ σ H k _ fun v1 H1 f1 h1 => hb H0 Θ σ H1 (k.mono f1) _ fun v2 H2 f2 h2 => by
    obtain ⟨p, hs, h0, l⟩ := ((k.mono f1).mono f2).own hi
    refine ⟨_, hs, show 3 ≤ sizeLine by decide, fun t ht => ?_⟩
    have f3 : Ext T H2 (upd H2 t (.tup [v1, v2, V.ref p])) := Ext.new ht
    exact q _ _ ((f1.trans f2).trans f3) ⟨t, [v1, v2], p, rfl, upd_same, .cons (Tp.mono f3.tx (Tp.mono f2.tx h1)) (.cons (Tp.mono f3.tx h2) .nil), h0, l.ext f3⟩)
theorem set5 {α : Type} {G : List α} {i j l : Nat} {a b c d e : α} (hij : i ≠ j) (hil : i ≠ l) (hjl : j ≠ l) : ((((G.set i a).set j b).set l c).set i d).set j e = ((G.set i d).set j e).set l c := by
  rw [List.set_comm _ _ (Ne.symm hil), List.set_comm _ _ (Ne.symm hij), List.set_set, List.set_comm _ _ (Ne.symm hjl), List.set_set]
theorem h1_retO {r : RS} (he : EO T X e Γ r) (hn : E.rt r) : H1 T X (.Return (some e) pos) E Γ := fun H0 Θ σ H k =>
  leS (ps_ret pe_w) (he H0 Θ σ H k _ fun v H2 e2 hv => ⟨r, hn, k.ext.trans e2, hv⟩)
/-- x, y, z = a tuple that holds a new list -/
theorem h1_threeW {i j l : Nat} {x y z : Str} {px py pz tpos : Pos} {d1 d2 : PyData} {xs : List PyData} {kk : Nat} (he : EE T X e Γ (.w [d1, d2] xs)) (hn : E.nx (((Γ.set i (.d d1)).set j (.d d2)).set l (.l xs))) (hN : X.N.Nodup)
    (hc : X.calm = true := by rfl) (hi : X.N[i]? = some x := by rfl) (hj : X.N[j]? = some y := by rfl) (hl : X.N[l]? = some z := by rfl)
    (hx : X.env.scope.names.lookup x = some .local := by rfl) (hy : X.env.scope.names.lookup y = some .local := by rfl) (hz : X.env.scope.names.lookup z = some .local := by rfl)
    (hs : swapsWithSole [.Tuple [.Name x px, .Name y py, .Name z pz] kk tpos] e pos.line X.env = pure false := by rfl) (hw : swappedStores [.Tuple [.Name x px, .Name y py, .Name z pz] kk tpos] e X.env = pure none := by rfl)
    (h1 : (assignEach [.Tuple [.Name x px, .Name y py, .Name z pz] kk tpos] X.env).map (·.2) = [assign (.Tuple [.Name x px, .Name y py, .Name z pz] kk tpos) X.env] := by rfl) (hij : i ≠ j := by decide) (hil : i ≠ l := by decide) (hjl : j ≠ l := by decide) :
    H1 T X (.Assign [.Tuple [.Name x px, .Name y py, .Name z pz] kk tpos] e pos) E Γ := fun H0 Θ σ H k =>
  leS (ps_asg pe_w (pg_tup (n := 3) hc (pgs_cons (pg_name hN hi (.inl hx) (.inr hx)) (pgs_cons (pg_name hN hj (.inl hy) (.inr hy)) (pgs_cons (pg_name hN hl (.inl hz) (.inr hz)) pgs_nil)))) hs hw h1) (he H0 Θ σ H k _ fun v H2 e2 ⟨t, vs, p, e', ht, hx, hp, l'⟩ => by
    subst e'
    match vs, hx with
    | [v1, v2], .cons t1 (.cons t2 .nil) =>
      exact ⟨t, _, rfl, .inl (.inl ht), rfl, _, _, rfl, _, _, rfl, _, _, rfl, rfl, okE (by
        have k1 := (((k.setAny (i := i) (o := some v1)).setAny (i := j) (o := some v2)).setN (i := l) (s := .l xs) e2 hp fun h0 => ⟨p, rfl, h0, l'⟩)
        have k2 := (k1.setD (i := i) t1).setD (i := j) t2
        rw [set5 hij hil hjl, set5 hij hil hjl] at k2
        exact k2) hn⟩)
theorem tp_isTup {d : PyData} {H : Hp} {v : V} (h : Tp H v d) (K : PySem.W.Frag) : ∃ t, TyX K H v t ∧ (match d with | .tuple _ => t = .type "tuple" | .none => t = .type "NoneType" | .bool _ => t = .type "bool" | .int _ => t = .type "int" | .str _ => t = .type "str" | _ => False) := by
  cases h with
  | non => exact ⟨_, .base .non, rfl⟩
  | bl b => exact ⟨_, .base (.bl b), rfl⟩
  | int i => exact ⟨_, .base (.int i), rfl⟩
  | str x => exact ⟨_, .base (.str x), rfl⟩
  | tup h r => exact ⟨_, .base (.tup h), rfl⟩
/-- isinstance(a datum, tuple) -/
theorem ee_isTup {p p2 : Pos} {d : PyData} {b : Bool} (hd : (∃ ds, d = .tuple ds ∧ b = true) ∨ ∃ i, d = .int i ∧ b = false) (ha : EE T X a Γ (.d d)) (hk : PySem.W.kitOne X.K (.type "int") (.type "tuple") = some false) (hm : X.mg "isinstance" = none) (hm2 : X.mg "tuple" = none) (hg : Gl X "isinstance" := by rfl) (hg2 : Gl X "tuple" := by rfl)
    (he : starEach [a, .Name "tuple" p2] X.env = (false, eval a X.env) :: starEach [.Name "tuple" p2] X.env := by rfl) (he2 : starEach [.Name "tuple" p2] X.env = (false, eval (.Name "tuple" p2) X.env) :: starEach [] X.env := by rfl) (hpl : (backTo pos (starEach [.Name "tuple" p2] X.env)).any (·.1) = false := by rfl) :
    EE T X (.Call (.Name "isinstance" p) [a, .Name "tuple" p2] [] pos) Γ (.d (.bool b)) := fun H0 Θ σ H k Q q =>
  leE (pe_callB call_isi hg hm PyProof.Rows.boot_isinstance (pa_cons pe_w (pa_cons (pe_bltn (v := .ty "tuple") (u := .type "tuple") hg2 hm2 (by decide +kernel) rfl) pa_nil he2) he) (by decide) (by decide) he hpl) (ha H0 Θ σ H k _ fun v H2 e2 hv => by
    rcases hd with ⟨ds, rfl, rfl⟩ | ⟨i, rfl, rfl⟩
    · obtain ⟨t, xs, rfl, ht, _⟩ := Tp.inv_tup hv
      exact ⟨_, _, _, _, true, rfl, .ty "tuple", .base (.tup ht), (by unfold PySem.W.kitOne; rw [if_pos (by decide)]), q _ H2 e2 (.bl _)⟩
    · rw [Tp.inv_int hv]
      exact ⟨_, _, _, _, false, rfl, .ty "tuple", .base (.int i), hk, q _ H2 e2 (.bl _)⟩)
/-- d == e, two data -/
theorem co_eqDD {k : Nat} {d e : PyData} (hr : Room k X.A) (ha : EE T X a Γ (.d d)) (hb : EE T X b Γ (.d e)) (sd : SeqAt.shaped d = true) (se : SeqAt.shaped e = true) : CO T X .Eq a b Γ (PyData.eqv d e) := ⟨_, op_eqD (by have := room64 hr; omega), fun H0 Θ σ H kk Q q =>
  ha H0 Θ σ H kk _ fun v H2 e2 hv => hb H0 Θ σ H2 (kk.mono e2) _ fun w H3 e3 hw => ⟨_, _, (Tp.mono e3.tx hv).dp, Tp.dp hw, sd, se, q H3 (e2.trans e3)⟩⟩
/-- tuple(range(n)) -/
theorem ee_tupRg {p p2 pos2 : Pos} {n : Nat} (h : EE T X a Γ (.d (eI n))) (hn : n ≤ 100000) (hc : X.calm = true) (hm : X.mg "tuple" = none) (hm2 : X.mg "range" = none) (hg : Gl X "tuple" := by rfl) (hg2 : Gl X "range" := by rfl)
    (na : starEach [a] X.env = (false, eval a X.env) :: starEach [] X.env := by rfl) (na2 : starEach [.Call (.Name "range" p2) [a] [] pos2] X.env = (false, eval (.Call (.Name "range" p2) [a] [] pos2) X.env) :: starEach [] X.env := by rfl) :
    EE T X (.Call (.Name "tuple" p) [.Call (.Name "range" p2) [a] [] pos2] [] pos) Γ (.d (eL (List.range n))) := fun H0 Θ σ H k Q q =>
  leE (pe_tupRg hc hg hm (prg_1 hg2 hm2 pe_w na) na2) (h H0 Θ σ H k _ fun v H2 e2 hv => by
    refine ⟨(n : Int), Tp.inv_int hv, RgOk.of_le (by omega) (by omega) (by omega) (by omega), fun p hp => ?_⟩
    refine q _ _ (e2.trans (Ext.new hp)) (.tup upd_same ?_)
    have : rgV 0 (n : Int) = ((List.range n).map fun (i : Nat) => (i : Int)).map V.int := by
      unfold rgV
      rw [List.map_map]
      simp only [Int.zero_add, Int.sub_zero, Int.toNat_natCast]
      rfl
    rw [this]
    have e : (List.range n).map eI = ((List.range n).map fun (i : Nat) => (i : Int)).map .int := by rw [List.map_map]; rfl
    rw [e]
    exact tpAll_ints _)
/-- the kinds of pairs among ls, in their order -/
def kindsOf (ls : List (List Nat)) : List (List Nat) := [[0, 0], [0, 1], [1, 0], [1, 1]].filter fun k => decide (k ∈ ls)
def intL (l : List Nat) : List Int := l.map fun (n : Nat) => (n : Int)
theorem intL_v (l : List Nat) : (intL l).map V.int = l.map fun (n : Nat) => V.int (n : Int) := by
  unfold intL
  rw [List.map_map]
  rfl
theorem intL_inj {a b : List Nat} (h : intL a = intL b) : a = b := by
  unfold intL at h
  refine (List.map_inj_right (f := fun (n : Nat) => (n : Int)) (fun x y e => ?_)).mp h
  omega
/-- the tuples in a list -/
theorem tups_of {K : PySem.W.Frag} {H : Hp} : ∀ {vs : List V} {ls : List (List Nat)}, TpAll H vs (ls.map eL) → ∃ ks : List (Addr × List Int), vs = ks.map (fun p => V.ref p.1) ∧ ks.map (·.2) = ls.map intL ∧ (∀ p ∈ ks, H p.1 = some (.tup (p.2.map V.int)))
  | [], [], _ => ⟨[], rfl, rfl, fun _ z => by cases z⟩
  | [], _ :: _, h => by cases h
  | _ :: _, [], h => by cases h
  | v :: vs, l :: ls, h => by
    have h' : TpAll H (v :: vs) (eL l :: ls.map eL) := h
    cases h' with
    | cons h1 h2 =>
      obtain ⟨a, xs, rfl, ha, hx⟩ := Tp.inv_tup h1
      obtain ⟨ks, e1, e2, e3⟩ := tups_of (K := K) h2
      have hn := hx.nats
      rw [← intL_v] at hn
      subst hn
      refine ⟨(a, intL l) :: ks, by rw [e1]; rfl, by rw [List.map_cons, e2]; rfl, fun p hp => ?_⟩
      rcases List.mem_cons.mp hp with z | z
      · rw [z]; exact ha
      · exact e3 p z
theorem tp_tups {H : Hp} : ∀ {L : List (Addr × List Int)} {ls : List (List Nat)}, L.map (·.2) = ls.map intL → (∀ p ∈ L, H p.1 = some (.tup (p.2.map V.int))) → TpAll H (L.map fun p => V.ref p.1) (ls.map eL)
  | [], [], _, _ => .nil
  | [], _ :: _, h, _ => by cases h
  | _ :: _, [], h, _ => by cases h
  | p :: L, l :: ls, h, hp => by
    rw [List.map_cons, List.map_cons, List.cons.injEq] at h
    refine .cons (.tup (hp p List.mem_cons_self) ?_) (tp_tups h.2 fun q hq => hp q (List.mem_cons_of_mem _ hq))
    rw [h.1]
    have e : l.map eI = (intL l).map .int := by unfold intL; rw [List.map_map]; rfl
    rw [e]
    exact tpAll_ints _
theorem kind_bits {l : List Nat} (h : l ∈ ([[0, 0], [0, 1], [1, 0], [1, 1]] : List (List Nat))) : (intL l).length = 2 ∧ TS.Bd 64 (intL l) ∧ TS.code 64 (intL l) = (l.getD 0 0 : Nat) * 64 + (l.getD 1 0 : Nat) := by
  simp only [List.mem_cons, List.not_mem_nil, or_false] at h
  rcases h with rfl | rfl | rfl | rfl <;> refine ⟨rfl, ?_, ?_⟩ <;> first | exact fun x hx => by simp [intL] at hx; omega | exact code_pair _ _
/-- sorted(set(a list of pairs of 0 and 1)) -/
theorem ee_sortedSet {p p2 pos2 : Pos} {ls : List (List Nat)} {k : Nat} (hr : Room k X.A) (ha : EE T X a Γ (.q (ls.map eL))) (hl : ls.length < 64) (hb : ∀ l ∈ ls, l ∈ ([[0, 0], [0, 1], [1, 0], [1, 1]] : List (List Nat))) (hc : X.calm = true) (ms : X.mg "sorted" = none) (mse : X.mg "set" = none) (hg : Gl X "sorted" := by rfl) (hg2 : Gl X "set" := by rfl)
    (na : starEach [a] X.env = (false, eval a X.env) :: starEach [] X.env := by rfl) (na2 : starEach [.Call (.Name "set" p2) [a] [] pos2] X.env = (false, eval (.Call (.Name "set" p2) [a] [] pos2) X.env) :: starEach [] X.env := by rfl) (hpl : (backTo pos2 (starEach [] X.env)).any (·.1) = false := by rfl) (hpl2 : (backTo pos (starEach [] X.env)).any (·.1) = false := by rfl) :
    EE T X (.Call (.Name "sorted" p) [.Call (.Name "set" p2) [a] [] pos2] [] pos) Γ (.n ((kindsOf ls).map eL)) := fun H0 Θ σ H kk Q q =>
  leE (pe_callB (cr_sortedT hc) hg ms (by decide +kernel) (pa_cons (pe_callTy (cr_setOfT hc (by have := room64 hr; omega)) hg2 mse (by decide +kernel) (pa_cons pe_w pa_nil na) (by decide) (by decide) na hpl) pa_nil na2) (by decide) (by decide) na2 hpl2) (ha H0 Θ σ H kk _ fun v H2 e2 ⟨pl, ev, vs, hp, hx⟩ => by
    subst ev
    obtain ⟨ks, e1, e3, e4⟩ := tups_of (K := X.K) hx
    subst e1
    refine ⟨pl, ks, rfl, .inl (.inl hp), fun p hp' => .inl (.inl (e4 p hp')), ?_, fun sa L hsa hL1 hL2 => ?_⟩
    · have := congrArg List.length e3
      rw [List.length_map, List.length_map] at this
      omega
    have f1 : Ext T H2 (upd H2 sa (SetTO X.prog X.w sa L)) := Ext.new hsa
    have mem : ∀ p ∈ L, ∃ l ∈ ls, p.2 = intL l := fun p hp' => by
      have : p.2 ∈ ks.map (·.2) := List.mem_map.mpr ⟨p, hL1 p hp', rfl⟩
      rw [e3] at this
      obtain ⟨l, h1, h2⟩ := List.mem_map.mp this
      exact ⟨l, h1, h2.symm⟩
    refine ⟨sa, L, 2, 64, rfl, upd_same, fun p hp' => .inl (.inl (f1.tx _ _ (e4 p (hL1 p hp')))), by decide, fun p hp' => ?_, fun L' pq pm nd hfew pw hpq => ?_⟩
    · obtain ⟨l, hl', e⟩ := mem p hp'
      rw [e]
      exact ⟨(kind_bits (hb l hl')).1, (kind_bits (hb l hl')).2.1⟩
    -- L' is the kinds in their order
    have eq : L'.map (·.2) = (kindsOf ls).map intL := by
      refine List.Perm.eq_of_pairwise (le := fun x y => TS.code 64 x ≤ TS.code 64 y) (fun x y hx' hy' h1 h2 => ?_) (List.pairwise_map.mpr pw) ?_ ?_
      · obtain ⟨p, hp', rfl⟩ := List.mem_map.mp hx'
        obtain ⟨l, hl', e⟩ := mem p (pm.mem_iff.mp hp')
        obtain ⟨m, hm', rfl⟩ := List.mem_map.mp hy'
        have b1 := hb l hl'
        have b2 := (List.mem_filter.mp hm').1
        rw [e] at h1 h2 ⊢
        rw [(kind_bits b1).2.2, (kind_bits b2).2.2] at h1 h2
        have : l = m := by
          simp only [List.mem_cons, List.not_mem_nil, or_false] at b1 b2
          rcases b1 with rfl | rfl | rfl | rfl <;> rcases b2 with rfl | rfl | rfl | rfl <;> first | rfl | (exfalso; simp at h1 h2)
        rw [this]
      · refine List.pairwise_map.mpr (List.Pairwise.sublist List.filter_sublist ?_)
        have e0 : ∀ a b : Nat, TS.code 64 (intL [a, b]) = (a : Int) * 64 + (b : Int) := fun a b => code_pair _ _
        simp [e0]
      · refine (List.perm_ext_iff_of_nodup nd ?_).mpr fun x => ?_
        · refine List.pairwise_map.mpr ?_
          have nd0 : List.Pairwise (fun a b : List Nat => a ≠ b) [[0, 0], [0, 1], [1, 0], [1, 1]] := by decide
          exact (List.Pairwise.sublist List.filter_sublist nd0).imp fun h z => h (intL_inj z)
        · refine ⟨fun hx' => ?_, fun hx' => ?_⟩
          · obtain ⟨p, hp', rfl⟩ := List.mem_map.mp hx'
            obtain ⟨l, hl', e⟩ := mem p (pm.mem_iff.mp hp')
            rw [e]
            exact List.mem_map.mpr ⟨l, List.mem_filter.mpr ⟨hb l hl', decide_eq_true hl'⟩, rfl⟩
          · obtain ⟨l, hl', rfl⟩ := List.mem_map.mp hx'
            have hl2 : l ∈ ls := of_decide_eq_true (List.mem_filter.mp hl').2
            have : intL l ∈ ks.map (·.2) := by rw [e3]; exact List.mem_map.mpr ⟨l, hl2, rfl⟩
            obtain ⟨p, hp', e⟩ := List.mem_map.mp this
            have := hL2 p hp'
            rw [e] at this
            exact (pm.map (·.2)).mem_iff.mpr this
    have f2 : Ext T (upd H2 sa (SetTO X.prog X.w sa L)) (upd (upd H2 sa (SetTO X.prog X.w sa L)) pq (.lst (L'.map fun q => V.ref q.1))) := Ext.new hpq
    refine q _ _ ((e2.trans f1).trans f2) ⟨pq, rfl, e2.free _ (f1.free _ hpq), _, upd_same, ?_⟩
    exact tp_tups eq fun p hp' => f2.tx _ _ (f1.tx _ _ (e4 p (hL1 p (pm.mem_iff.mp hp')))))
end
end Pt
set_option maxHeartbeats 4000000
/-! Layer O: t[::-1], repr, calls with keywords. -/
namespace Pt.Rv
open PySem PySem.Spec PyProof.Rows L2 HT
section
variable {prog : Program} {w : World} {s : Shared} {Ar : Around} {Er : Value → Shared → Prop}
theorem places_rev (n : Nat) : Builtin.Slice.slicePlaces ((n : Int) - 1) (-1) (-1) = n := by
  unfold Builtin.Slice.slicePlaces
  have h1 : ¬ ((-1 : Int) > 0) := by omega
  simp only [h1, if_false]
  split
  · have : ((n : Int) - 1 - -1 - 1) / (- -1) = (n : Int) - 1 := by
      have e0 : (- -1 : Int) = 1 := by decide
      rw [e0, Int.ediv_one]
      omega
    rw [this]
    omega
  · omega
theorem pick_rev (xs : Array Value) : ((List.range xs.size).filterMap fun (k : Nat) => xs[(((xs.size : Int) - 1) + (k : Int) * (-1)).toNat]?).toArray = xs.toList.reverse.toArray := by
  have e : (fun (k : Nat) => xs[(((xs.size : Int) - 1) + (k : Int) * (-1)).toNat]?) = fun k => xs[xs.size - 1 - k]? := by
    funext k
    congr 1
    omega
  rw [e]
  have := PySem.W.krv_range xs.size
  have h2 : (List.range xs.size).filterMap (fun k => xs[xs.size - 1 - k]?) = ((List.range xs.size).map (fun k => xs.size - 1 - k)).filterMap (xs[·]?) := by
    rw [List.filterMap_map]; rfl
  rw [h2, this, List.filterMap_reverse, PySem.W.krv_all]
theorem getItem_tuple_rev {tp sc : Addr} {elems : Array Value} {vA vB vC : Value} {Q : Value → Shared → Prop} (isT : IsTup s.heap tp elems) (hs : s.heap.IsSliceOf sc vA vB vC) (pA : IsPart vA none) (pB : IsPart vB none) (pC : IsPart vC (some (-1)))
    (fin : Q (.ref s.heap.objs.size) { s with heap := s.heap.push { cls := .type "tuple", data := .seq elems.toList.reverse.toArray } })
    (small : elems.size ≤ sizeLine) : wpAny (model prog w) Ar (getItem (.ref tp) (.ref sc)) Q Er s := by
  have fits : sizeOk (.seq elems.toList.reverse.toArray) := by
    show elems.toList.reverse.toArray.size ≤ sizeLine
    rw [List.size_toArray, List.length_reverse, Array.length_toList]
    exact small
  obtain ⟨slO, slAt, slCls, slDat⟩ := id hs
  have isSl : s.TypeIs (.ref sc) "slice" := ⟨slO, slAt, slCls⟩
  unfold getItem
  try (with_reducible refine wpAny_holding ?_)
  try refine wpAny_bind (wpAny_pure ?_)
  refine wpAny_bind (wpAny_sequenceKey isT.typeIs (by decide) ?_)
  refine wpAny_bind (wpAny_callSpecial?_slot (name := Str.ofString "__getitem__") isT.typeIs PyProof.Rows.slot_tuple_getitem
    (wpAny_call_entry PyProof.Rows.slot_tuple_getitem isT.typeIs entry_tuple_getitem ?_ (args_tuple_getitem _ _)))
  show wpAny _ _ (Builtin.Tuple.tupleItemsOf (.ref tp) >>= _) _ _ s
  refine wpAny_bind (tupleItemsOf_ isT ?_)
  refine wpAny_bind (wpAny_typeOf isSl ?_)
  rw [if_pos (by decide)]
  have app : ∀ {Q : Int × Int × Nat → Shared → Prop} {Er : Value → Shared → Prop}, Q (((elems.size : Int) - 1), -1, elems.size) s → wpAny (model prog w) Ar.in1 (Builtin.Slice.sliceApplied (.ref sc) (pure (elems.size : Int))) Q Er s := fun {Q Er} fin => by
    unfold Builtin.Slice.sliceApplied
    unfold Builtin.Slice.sliceFields
    refine wpAny_bind (wpAny_bind (wpAny_field slAt slDat (x := vA) rfl (wpAny_bind (wpAny_field slAt slDat (x := vB) rfl (wpAny_bind (wpAny_field slAt slDat (x := vC) rfl (wpAny_pure ?_)))))))
    refine wpAny_bind (slicePart_ pC ?_)
    show wpAny _ _ (if ((-1 : Int) == 0) = true then _ else _) _ _ s
    rw [if_neg (by decide)]
    refine wpAny_bind (slicePart_ pA (wpAny_bind (slicePart_ pB (wpAny_bind (wpAny_pure ?_)))))
    show wpAny _ _ (pure (((elems.size : Int) - 1), (-1 : Int), Builtin.Slice.slicePlaces ((elems.size : Int) - 1) (-1) (-1))) _ _ s
    rw [places_rev]
    exact wpAny_pure fin
  refine wpAny_bind (app ?_)
  have hno : ¬ ((((elems.size : Int) - 1) == 0 && (-1 : Int) == 1 && elems.size == elems.size) = true) := by
    rw [show ((-1 : Int) == 1) = false by decide, Bool.and_false, Bool.false_and]
    exact Bool.false_ne_true
  show wpAny _ _ (if (((elems.size : Int) - 1) == 0 && (-1 : Int) == 1 && elems.size == elems.size) = true then _ else _) _ _ s
  rw [if_neg hno, pick_rev]
  first
    | exact wpAny_bind (m := Builtin.Tuple.tupleExact _) (wpAny_newObj_type (wpAny_pure ⟨_, rfl, wpAny_pure fin⟩) fits)
    | exact wpAny_bind (m := Builtin.Tuple.tupleExact _) (wpAny_newObj_type (wpAny_bind (wpAny_pure (wpAny_pure ⟨_, rfl, wpAny_pure fin⟩))) fits)
    | exact wpAny_bind (wpAny_bind (m := Builtin.Tuple.tupleExact _) (wpAny_newObj_type (wpAny_pure (wpAny_pure ⟨_, rfl, wpAny_pure fin⟩)) fits))
    | exact wpAny_bind (wpAny_bind (m := Builtin.Tuple.tupleExact _) (wpAny_newObj_type (wpAny_pure ⟨_, rfl, wpAny_pure fin⟩) fits))
end
end Pt.Rv
namespace Pt
open PySem PySem.Spec PyProof.Rows L2
section
variable {X : Cx}
def tRevT (K : PySem.W.Frag) (te : TE) : TE := fun st H Q => te st H fun x H1 => ∃ a xs, x = .ref a ∧ SqT K H1 a xs ∧ ∀ p, H1 p = none → Q (.ref p) (upd H1 p (.tup xs.reverse))
theorem pe_revT {e : Expr} {te : TE} {k : Nat} {p1 p2 p3 pos : Pos} (he : PE X e te) : PE X (.Subscript e (.Slice none none (some (.UnaryOp .USub (.Constant (.int 1) k p1) p2)) p3) pos) (tRevT X.K te) := by
  refine ⟨fun pins s st H Q Iv h => ?_⟩
  refine Subscript_ (thn (he.run pins s st H _ Iv h) fun v s1 ⟨x, H1, I1, r1, asks⟩ => ?_)
  obtain ⟨a, xs, ex, hx, q⟩ := asks
  subst ex
  cases r1
  have hStep : PO X (some (.UnaryOp .USub (.Constant (.int 1) k p1) p2)) (tPart (tUn (rU fun i => .int (-i)) (tC (.int 1)))) := po_some (pe_un un_neg pe_int)
  refine wpAny_Slice (thn (po_none.run pins s1 st H1 (fun o HA => o = none ∧ HA = H1) I1 ⟨rfl, rfl⟩) fun vA sA ⟨lo, HA, IA, pA, eA, eA2⟩ => ?_)
  subst eA eA2
  refine thn (po_none.run pins sA st HA (fun o HB => o = none ∧ HB = HA) IA ⟨rfl, rfl⟩) fun vB sB ⟨hi, HB, IB, pB, eB, eB2⟩ => ?_
  subst eB eB2
  refine thn (hStep.run pins sB st HB (fun o HC => o = some (-1) ∧ HC = HB) IB ⟨1, rfl, -1, rfl, rfl, rfl⟩) fun vC sC ⟨o, HC, IC, pC, eC, eC2⟩ => ?_
  subst eC eC2
  have ID : Inv X pins st HC { sC with heap := sC.heap.push { cls := .type "slice", data := .fields #[vA, vB, vC] } } := IC.kept (t' := sC.toks) fun b ob q => Heap.get?_push_of_some _ q
  obtain ⟨its, r, ht, hz⟩ := ID.tuple hx
  have hlen := r.length
  show wpAny (model X.prog X.w) X.A (subscriptTail e (.Slice none none (some (.UnaryOp .USub (.Constant (.int 1) k p1) p2)) p3) (.ref a) (.ref sC.heap.objs.size)) (EP X pins st Q) X.xe { sC with heap := sC.heap.push { cls := .type "slice", data := .fields #[vA, vB, vC] } }
  refine tail_any (ops := [.ref a, .ref sC.heap.objs.size]) ht.typeIs (PyProof.Rows.slot_tuple_getitem.lookup) ?_ (by with_unfolding_all rfl)
  refine Rv.getItem_tuple_rev ht (Heap.IsSliceOf.new _ vA vB vC) pA pB pC ?_ (by rw [List.size_toArray]; omega)
  refine ⟨.ref _, _, ID.laid (t' := sC.toks) (o := .tup xs.reverse) (fun b ob q => Heap.get?_push_of_some _ q) (Nat.le_refl _) ?_, rfl, q _ (ID.hok.fresh (Nat.le_refl _))⟩
  exact ⟨by rw [List.length_reverse]; exact hz, _, r.reverse, IsTup.new _ _⟩
end
section
variable {T : List NTab} {X : Cx} {Γ : List Sh} {a b c e tg iter : Expr} {pos : Pos} {E : GE}
theorem ee_revT {l : List Nat} {k : Nat} {p1 p2 p3 : Pos} (ha : EE T X a Γ (.d (eL l))) : EE T X (.Subscript a (.Slice none none (some (.UnaryOp .USub (.Constant (.int 1) k p1) p2)) p3) pos) Γ (.d (eL l.reverse)) := fun H0 Θ σ H kk Q q =>
  leE (pe_revT pe_w) (ha H0 Θ σ H kk _ fun v H2 e2 hv => by
    obtain ⟨p, xs, rfl, hp, hx⟩ := Tp.inv_tup hv
    refine ⟨p, xs, rfl, .inl (.inl hp), fun p3 hp3 => q _ _ (e2.trans (Ext.new hp3)) (.tup upd_same ?_)⟩
    have := (hx.reverse).mono (Ext.new (T := T) (o := .tup xs.reverse) hp3).tx
    rw [← List.map_reverse] at this
    exact this)
/-! ### repr -/
structure Sho (d : PyData) : Prop where
  sh : d.showable = true
  ls : d.leavesShort 13 = true
  bk : d.bulk ≤ 1000
  cl : d.canLay0 = true
  dp : d.depth ≤ 40
def rRepr (K : PySem.W.Frag) : List V → Hp → VK → Prop := fun vs H Q => ∃ a xs ds, vs = [V.ref a] ∧ H a = some (.lst xs) ∧ TpAll H xs ds ∧ Sho (.list ds) ∧ Q (.str (PyData.shown (.list ds))) H
theorem cr_repr {k : Nat} (hr : Room k X.A) (hg : X.A.guards = some []) : CallR X (.builtin "repr") (rRepr X.K) := by
  intro pins s σ H vs us Q I r h
  obtain ⟨a, xs, ds, rfl, hl, ht, hs, q⟩ := h
  rw [Vals.ref1 r]
  obtain ⟨as, hr'⟩ := Dp.reads I (.list ds) (.ref a) (.ref a) (.lst (.inl (.inl hl)) ht.dp) rfl
  refine repr_of_reads' hr' hs.sh (fun h => by rw [PyData.hasDict_of_canLay _ hs.cl] at h; cases h) hg (by have := hr.un; have := hs.dp; omega) (fun _ _ e => e) (fun h' u tk hk => ?_) (PyData.shown_fits_bulk (by decide) (by decide) hs.ls (Nat.le_trans hs.bk (by decide)))
  exact ⟨.str _, H, I.kept hk, ⟨u, rfl⟩, q⟩
theorem ee_repr {p : Pos} {xs : List PyData} {k : Nat} (hr : Room k X.A) (hgd : X.A.guards = some []) (ha : EA T X [a] Γ [.q xs]) (hs : Sho (.list xs)) (hm : X.mg "repr" = none) (hg : Gl X "repr" := by rfl) (he : starEach [a] X.env = (false, eval a X.env) :: starEach [] X.env := by rfl) (hpl : (backTo pos (starEach [] X.env)).any (·.1) = false := by rfl) :
    EE T X (.Call (.Name "repr" p) [a] [] pos) Γ (.d (.str (PyData.shown (.list xs)))) := fun H0 Θ σ H k Q q =>
  leE (pe_callB (cr_repr hr hgd) hg hm (by decide +kernel) pa_w (by decide) (by decide) he hpl) (ha H0 Θ σ H k _ fun vs H2 e2 hv => by
    obtain ⟨v, rfl⟩ : ∃ v, vs = [v] := by
      have := hv.len
      match vs, this with
      | [v], _ => exact ⟨v, rfl⟩
    obtain ⟨p, rfl, vs, hp, hx⟩ := hv.1
    exact ⟨p, vs, xs, rfl, hp, hx, hs, q _ H2 e2 (.str _)⟩)
theorem showAll {ds : List PyData} (h : ∀ d ∈ ds, d.showable = true) : PyData.showableAll ds = true := by
  induction ds with
  | nil => rfl
  | cons a l ih =>
    rw [PyData.showableAll, h a List.mem_cons_self, ih fun d hd => h d (List.mem_cons_of_mem _ hd)]
    rfl
theorem shortAll {ds : List PyData} (h : ∀ d ∈ ds, d.leavesShort 13 = true) : PyData.leavesShortAll 13 ds = true := by
  induction ds with
  | nil => rfl
  | cons a l ih =>
    rw [PyData.leavesShortAll, h a List.mem_cons_self, ih fun d hd => h d (List.mem_cons_of_mem _ hd)]
    rfl
theorem bulkAll_le {m : Nat} : ∀ {ds : List PyData}, (∀ d ∈ ds, d.bulk ≤ m) → PyData.bulkAll ds ≤ ds.length * (m + 1)
  | [], _ => Nat.zero_le _
  | d :: ds, h => by
    have := bulkAll_le (m := m) (ds := ds) fun x hx => h x (List.mem_cons_of_mem _ hx)
    have h1 := h d List.mem_cons_self
    rw [PyData.bulkAll, List.length_cons, Nat.succ_mul]
    omega
/-- lots of small numbers, None, truth values: what may be shown -/
inductive Small : PyData → Prop
  | lot (l : List Nat) (h : ∀ x ∈ l, x < 100) (hl : l.length ≤ 20) : Small (eL l)
  | non : Small .none
  | bl (b : Bool) : Small (.bool b)
theorem small_lot {d : PyData} (h : Small d) : d.showable = true ∧ d.leavesShort 13 = true ∧ d.bulk ≤ 20 ∧ d.canLay0 = true ∧ d.depth ≤ 2 := by
  cases h with
  | non => exact ⟨rfl, rfl, Nat.zero_le _, rfl, by rw [PyData.depth]; omega⟩
  | bl b => exact ⟨rfl, rfl, Nat.zero_le _, rfl, by rw [PyData.depth]; omega⟩
  | lot l h hl =>
    refine ⟨?_, ?_, ?_, ?_, ?_⟩
    · rw [PyData.showable]
      refine showAll fun d hd => ?_
      obtain ⟨x, hx, rfl⟩ := List.mem_map.mp hd
      rw [PyData.showable]
      have hx := h x hx
      have : ∀ x : Nat, x < 100 → decide ((x : Int).natAbs.log2 < 1920) = true := by decide +kernel
      exact this x hx
    · rw [PyData.leavesShort]
      refine shortAll fun d hd => ?_
      obtain ⟨x, hx, rfl⟩ := List.mem_map.mp hd
      rw [PyData.leavesShort]
      have hx := h x hx
      exact decide_eq_true (PyData.shown_int_le2 (by omega) (by omega))
    · rw [PyData.bulk]
      refine Nat.le_trans (bulkAll_le (m := 0) fun d hd => ?_) (by rw [List.length_map]; omega)
      obtain ⟨x, hx, rfl⟩ := List.mem_map.mp hd
      exact Nat.le_refl _
    · rw [PyData.canLay0, canAll_nats]
    · rw [PyData.depth, depthAll_nats]; omega
theorem sho_small {ds : List PyData} (h : ∀ d ∈ ds, Small d) (hl : ds.length ≤ 20) : Sho (.list ds) := by
  refine ⟨?_, ?_, ?_, ?_, ?_⟩
  · rw [PyData.showable]; exact showAll fun d hd => (small_lot (h d hd)).1
  · rw [PyData.leavesShort]; exact shortAll fun d hd => (small_lot (h d hd)).2.1
  · rw [PyData.bulk]
    refine Nat.le_trans (bulkAll_le (m := 20) fun d hd => (small_lot (h d hd)).2.2.1) ?_
    omega
  · rw [PyData.canLay0]
    clear hl
    induction ds with
    | nil => rfl
    | cons a l ih =>
      rw [PyData.canLayAll0, (small_lot (h a List.mem_cons_self)).2.2.2.1, ih fun d hd => h d (List.mem_cons_of_mem _ hd)]
      rfl
  · rw [PyData.depth]
    clear hl
    have : PyData.depthAll ds ≤ 2 := by
      induction ds with
      | nil => exact Nat.zero_le _
      | cons a l ih =>
        rw [PyData.depthAll]
        exact Nat.max_le.mpr ⟨(small_lot (h a List.mem_cons_self)).2.2.2.2, ih fun d hd => h d (List.mem_cons_of_mem _ hd)⟩
    omega
/-- f(b = .., a = ..), two keywords in the other order -/
theorem ee_callK2 {x n1 n2 : Str} {p kp1 kp2 : Pos} {e1 e2 : Expr} {r1 r2 a1 a2 r : RS} {k : Nat} {A : List RS → RS → Prop} (F : FnG X.prog X.w X.K X.mg X.base T k x A) (hr : Room k X.A) (h1 : EE T X e1 Γ r1) (h2 : EE T X e2 Γ r2) (p1 : Arg r1 a1) (p2 : Arg r2 a2) (hA : A [a2, a1] r)
    (hbk : ∃ (f : Addr) (fd : FuncData) (oc : Value) (od : Option Addr) (osl : Array (Option Value)), X.mg x = some (.ref f) ∧ X.K.lookup f = some ⟨oc, od, .func fd, osl⟩ ∧ ∀ (u1 u2 : Value), bindArgs fd ⟨[], [(n1, u1), (n2, u2)]⟩ = bindArgs fd ⟨[u2, u1], []⟩)
    (hg : Gl X x := by rfl) (hd : (x == ("__debug__" : Str)) = false := by decide) :
    EE T X (.Call (.Name x p) [] [⟨some n1, e1, kp1⟩, ⟨some n2, e2, kp2⟩] pos) Γ r := fun H0 Θ σ H kk Q q => by
  obtain ⟨f, fd, ps, hm, hk, hb, G, oc, od, osl, lk⟩ := F.ex
  obtain ⟨f2, fd2, oc2, od2, osl2, hm2, lk2, hbk⟩ := hbk
  rw [hm] at hm2
  cases hm2
  rw [lk] at lk2
  cases lk2
  intro pins s I
  refine wpAny_Call_Name_kw ?_
  refine ld_glob I hg hm ?_ hd
  refine PySem.W.callWith_KW0 (h₀ := X.base) I.ok.mod.kin hk rfl ?_ rfl
  refine PyProof.Rows.kws_cons (thn (h1 H0 Θ σ H kk (fun v H1 => Ext T H H1 ∧ RsOk Θ H H1 r1 v) (fun v H1 a b => ⟨a, b⟩) pins s I) fun u1 s1 ⟨v1, H1, I1, w1, x1, o1⟩ => ?_)
  refine PyProof.Rows.kws_cons (thn (h2 H0 Θ σ H1 (kk.mono x1) (fun v H2 => Ext T H1 H2 ∧ RsOk Θ H1 H2 r2 v) (fun v H1 a b => ⟨a, b⟩) pins s1 I1) fun u2 s2 ⟨v2, H2, I2, w2, x2, o2⟩ => ?_)
  refine PyProof.Rows.kws_nil ?_
  refine ⟨I2.kIn, ?_⟩
  show wpAny _ _ (PySem.call (.ref f) [] [(n1, u1), (n2, u2)]) _ _ _
  have e12 := x1.trans x2
  have k2 := kk.mono e12
  have hargs : RsAll [] H2 H2 [a2, a1] [v2, v1] := args_q (rs := [r2, r1]) (H := H) ⟨o2.back x1, o1.ext x2, trivial⟩ (.cons p2 (.cons p1 .nil)) e12 kk.pins
  have hsp : spG T A [v2, v1] H2 (fun v H3 => Ext T H2 H3 ∧ RsOk [] H2 H3 r v) E0 := ⟨_, r, hA, k2.tabs, hargs, fun v H3 a b => ⟨a, b⟩⟩
  have hpl : ps.length = 2 := (G.len _ _ _ _ hsp).symm
  refine wpAny_call (codeAny_mono (G.run X.A X.stack s2 H2 ⟨[], [(n1, u1), (n2, u2)]⟩ [u2, u1] [v2, v1] _ E0 hr I2.env0 (fun M B E' Q' hq => by rw [hbk]; exact (hb s2 [u2, u1] I2.kIn (by rw [List.append_nil]; exact hpl.symm)) M B E' Q' (by rw [List.append_nil]; exact hq)) (.cons w2 (.cons w1 .nil)) hsp) fun r' s' hq => ?_)
  cases r' with
  | error e => exact hq.elim
  | ok fl =>
    cases fl with
    | ret u =>
      obtain ⟨v, H3, I3, rv, e3, o3⟩ := I2.after hq
      exact ⟨v, H3, I3, rv, q v H3 (e12.trans e3) (rs_nil (o3.back e12))⟩
    | next => exact False.elim hq
    | brk => exact False.elim hq
    | cont => exact False.elim hq
end
end Pt
set_option maxHeartbeats 4000000
/-! Defs A: looks, pieces. -/
namespace Pt
open PySem PySem.Spec PyProof.Rows L2
/-! ### tables as functions -/
def eRow (n : Nat) (g : Nat → Nat) : PyData := .tuple ((List.range n).map fun y => eI (g y))
def eRows (n : Nat) (f : Nat → Nat → Nat) : PyData := .tuple ((List.range n).map fun x => eRow n (f x))
def eT (n : Nat) (f : Nat → Nat → Nat) : PyData := .tuple [eI n, eRows n f]
theorem atI_range {n i : Nat} {g : Nat → PyData} (h : i < n) : atI ((List.range n).map g) (i : Int) = some (g i) := atI_nat (by rw [List.getElem?_map, List.getElem?_range h]; rfl)
section
variable {T : List NTab} {X : Cx} {Γ : List Sh} {a b c : Expr} {p1 p2 : Pos} {n x y : Nat} {f : Nat → Nat → Nat}
/-- rows[x][y] -/
theorem ee_look (ha : EE T X a Γ (.d (eRows n f))) (hb : EE T X b Γ (.d (eI x))) (hc : EE T X c Γ (.d (eI y))) (hx : x < n) (hy : y < n) (hs : PlainIx b := by exact fun _ _ => rfl) (hs2 : PlainIx c := by exact fun _ _ => rfl) : EE T X (.Subscript (.Subscript a b p1) c p2) Γ (.d (eI (f x y))) :=
  ee_ixT (ds := (List.range n).map fun y => eI (f x y)) (i := (y : Int)) (d := eI (f x y)) (atI_range (g := fun y => eI (f x y)) hy) (ee_ixT (ds := (List.range n).map fun x => eRow n (f x)) (i := (x : Int)) (d := eRow n (f x)) (atI_range (g := fun x => eRow n (f x)) hx) ha hb hs) hc hs2
theorem ee_size (ha : EE T X a Γ (.d (eT n f))) {j : Nat} {pc : Pos} : EE T X (.Subscript a (.Constant (.int 0) j pc) p1) Γ (.d (eI n)) := ee_ixT (i := 0) rfl ha ee_int
theorem ee_rows (ha : EE T X a Γ (.d (eT n f))) {j : Nat} {pc : Pos} : EE T X (.Subscript a (.Constant (.int 1) j pc) p1) Γ (.d (eRows n f)) := ee_ixT (i := 1) rfl ha ee_int
end
/-! ### the mirrors -/
def partM (f : Nat → Nat → Nat) (lot : List Nat) : Nat → Nat → Nat := fun i j => f (lot.getD i 0) (lot.getD j 0)
theorem map_getD {α : Type} (g : Nat → α) (lot : List Nat) : (List.range lot.length).map (fun i => g (lot.getD i 0)) = lot.map g := by
  apply List.ext_getElem?
  intro i
  rw [List.getElem?_map, List.getElem?_map]
  by_cases h : i < lot.length
  · rw [List.getElem?_range h, List.getElem?_eq_getElem h]
    simp [List.getD, List.getElem?_eq_getElem h]
  · rw [List.getElem?_eq_none (by simpa using h), List.getElem?_eq_none (by simpa using h)]
    rfl
theorem part_enc (f : Nat → Nat → Nat) (lot : List Nat) : eRows lot.length (partM f lot) = .tuple (lot.map fun t => .tuple (lot.map fun o => eI (f t o))) := by
  unfold eRows eRow partM
  congr 1
  rw [← map_getD (fun t => PyData.tuple (lot.map fun o => eI (f t o))) lot]
  refine List.map_congr_left fun i _ => ?_
  congr 1
  exact map_getD (fun o => eI (f (lot.getD i 0) o)) lot
/-! telling -/
def apart (f : Nat → Nat → Nat) (o x y : Nat) : Bool := (!decide (f o x = f o y)) || (!decide (f x o = f y o))
abbrev Tri := Nat × Nat × Nat
def eTri (t : Tri) : PyData := .tuple [eI t.1, eI t.2.1, eI t.2.2]
def tellY (f : Nat → Nat → Nat) (z x y : Nat) : Option Tri := if apart f z x y then some (z, x, y) else none
def tellX (f : Nat → Nat → Nat) (lot : List Nat) (z : Nat) (p : Nat × Nat) : Option Tri := (lot.drop (p.2 + 1)).findSome? (tellY f z p.1)
def tellZ (f : Nat → Nat → Nat) (lot : List Nat) (z : Nat) : Option Tri := if z ∈ lot then none else lot.zipIdx.findSome? (tellX f lot z)
def tellM (n : Nat) (f : Nat → Nat → Nat) (lot : List Nat) : Option Tri := (List.range n).findSome? (tellZ f lot)
def eOT : Option Tri → PyData
  | none => .none
  | some t => eTri t
theorem find_map {α β γ : Type} (g : α → Option β) (h : β → γ) (l : List α) : l.findSome? (fun a => (g a).map h) = (l.findSome? g).map h := by
  induction l with
  | nil => rfl
  | cons a l ih =>
    rw [List.findSome?_cons, List.findSome?_cons]
    cases g a with
    | none => exact ih
    | some b => rfl
section
variable {P : Program} {w : World} {K : PySem.W.Frag} {mg : Str → Option Value} {base : Heap} {T : List NTab}
/-- a def of the text -/
structure Def (K : PySem.W.Frag) (mg : Str → Option Value) (x : Str) (i : Nat) (ps : List Str) : Prop where
  ex : ∃ (f : Addr) (fd : FuncData), Fun K x x (topS i) f fd ∧ Binds K fd ps [] ∧ mg x = some (.ref f)
theorem fnG {x : Str} {i : Nat} {N ps : List Str} {k : Nat} {A : List RS → RS → Prop} (D : Def K mg x i ps) (S : FnScope N ps (defScope (topS i))) (hl : ∀ as r, A as r → as.length = ps.length)
    (hbody : ∀ (as : List RS) (r : RS), A as r → ∀ (f : Addr) (cdv : Value) (A : Around) (outer : List Env) (s : Shared) (H : Hp) (E : XK), Room k (A.deeper (envOfC x (defScope (topS i)) s.heap.objs.size f cdv)) →
      HS T (cxOf CX0 P w K mg base N x (defScope (topS i)) f cdv A outer s H E).nox (defBody (topS i)) { nx := fun _ => r = .d .none, rt := fun r' => r' = r } (Args0 as N.length)) : FnG P w K mg base T (k + 1) x A := by
  obtain ⟨f, fd, F, hb, hm⟩ := D.ex
  exact fnG_of F hb hm S hl fun as r hA cdv A' outer s H E hr => hbody as r hA f cdv A' outer s H E hr
/-! part -/
theorem sc_part : FnScope ["table", "lot", "rows", "thing", "other"] ["table", "lot"] (defScope (topS 6)) := ⟨rfl, rfl, rfl, by decide +kernel, rfl, by decide +kernel, by decide +kernel⟩
def A_part : List RS → RS → Prop := fun as r => ∃ n f lot, as = [.d (eT n f), .d (eL lot)] ∧ r = .d (eT lot.length (partM f lot)) ∧ (∀ x ∈ lot, x < n) ∧ lot.length ≤ 100
theorem ok_part (D : Def K mg "part" 6 ["table", "lot"]) (mt : mg "tuple" = none) (ml : mg "len" = none) : FnG P w K mg base T 1 "part" A_part := by
  refine fnG D sc_part (fun as r ⟨_, _, _, e, _⟩ => by rw [e]; rfl) (fun as r hA f0 cdv A outer s H E hr => ?_)
  obtain ⟨n, f, lot, rfl, rfl, hx, hl⟩ := hA
  refine hs_cons (h1_set (i := 2) (ee_rows (ee_v (i := 0) rfl)) ?_ rfl sc_part.nd)
  refine hs_one (h1_ret (ee_tup (ds := [eI lot.length, eRows lot.length (partM f lot)]) (ea_cons (ee_cast (ee_lenT (ea_cons (ee_v (i := 1) rfl) ea_nil) ml) (by rw [List.length_map])) (ea_cons ?_ ea_nil))) rfl)
  rw [part_enc]
  refine ee_tuple (ea_cons (ee_q (ee_lc0 lot eI (fun t => .tuple (lot.map fun o => eI (f t o))) 3 (own := [("thing", 3)]) rfl sc_part.nd (blkOk_by (by kernel_rfl)) (ei_tup (ee_v (i := 1) rfl)) (by decide) (fun _ _ _ _ _ => pg_name (i := 3) sc_part.nd rfl (Or.inr rfl)) (fun t ht _ _ _ _ _ => ?_) (by omega))) ea_nil) mt
  refine ee_tuple (ea_cons (ee_q (ee_lc0 lot eI (fun o => eI (f t o)) 4 (own := [("other", 4)]) rfl sc_part.nd (blkOk_by (by kernel_rfl)) (ei_tup (ee_v (i := 1) rfl)) (by decide) (fun _ _ _ _ _ => pg_name (i := 4) sc_part.nd rfl (Or.inl rfl)) (fun o ho _ _ _ _ _ => ?_) (by omega))) ea_nil) mt
  exact ee_look (ee_v (i := 2) rfl) (ee_v (i := 3) rfl) (ee_v (i := 4) rfl) (hx t ht) (hx o ho)
/-! parts_two -/
theorem sc_parts_two : FnScope ["rows", "outer", "thing", "other"] ["rows", "outer", "thing", "other"] (defScope (topS 8)) := ⟨rfl, rfl, rfl, by decide +kernel, rfl, by decide +kernel, by decide +kernel⟩
def A_parts_two : List RS → RS → Prop := fun as r => ∃ n f o x y, as = [.d (eRows n f), .d (eI o), .d (eI x), .d (eI y)] ∧ r = .d (.bool (apart f o x y)) ∧ o < n ∧ x < n ∧ y < n
theorem ok_parts_two (D : Def K mg "parts_two" 8 ["rows", "outer", "thing", "other"]) : FnG P w K mg base T 1 "parts_two" A_parts_two := by
  refine fnG D sc_parts_two (fun as r ⟨_, _, _, _, _, e, _⟩ => by rw [e]; rfl) (fun as r hA f0 cdv A outer s H E hr => ?_)
  obtain ⟨n, f, o, x, y, rfl, rfl, ho, hx, hy⟩ := hA
  exact hs_one (h1_ret (ee_or2 (ee_co (co_neN (ee_look (ee_v (i := 0) rfl) (ee_v (i := 1) rfl) (ee_v (i := 2) rfl) ho hx) (ee_look (ee_v (i := 0) rfl) (ee_v (i := 1) rfl) (ee_v (i := 3) rfl) ho hy)))
    (fun _ => ee_co (co_neN (ee_look (ee_v (i := 0) rfl) (ee_v (i := 2) rfl) (ee_v (i := 1) rfl) hx ho) (ee_look (ee_v (i := 0) rfl) (ee_v (i := 3) rfl) (ee_v (i := 1) rfl) hy ho)))) rfl)
/-! telling -/
theorem sc_telling : FnScope ["table", "lot", "size", "rows", "outer", "place", "thing", "other"] ["table", "lot"] (defScope (topS 9)) := ⟨rfl, rfl, rfl, by decide +kernel, rfl, by decide +kernel, by decide +kernel⟩
def A_telling : List RS → RS → Prop := fun as r => ∃ n f lot, as = [.d (eT n f), .d (eL lot)] ∧ r = .d (eOT (tellM n f lot)) ∧ (∀ x ∈ lot, x < n) ∧ n ≤ 100 ∧ lot.length ≤ 100
theorem ok_telling (D : Def K mg "telling" 9 ["table", "lot"]) (G : FnG P w K mg base T 1 "parts_two" A_parts_two) (mr : mg "range" = none) (me : mg "enumerate" = none) : FnG P w K mg base T 2 "telling" A_telling := by
  refine fnG D sc_telling (fun as r ⟨_, _, _, e, _⟩ => by rw [e]; rfl) (fun as r hA f0 cdv A outer s H E hr => ?_)
  obtain ⟨n, f, lot, rfl, rfl, hx, hn, hl⟩ := hA
  refine hs_cons (h1_asg (ee_v (i := 0) rfl) (eg_pair (i := 2) (j := 3) rfl sc_telling.nd) ?_)
  refine hs_cons (h1_find (List.range n) eI (tellZ f lot) (fun t => .d (eTri t)) (fun z Γ => Γ.set 4 (.d (eI z))) (ei_rng1 (ea_cons (ee_v (i := 2) rfl) ea_nil) (by omega) mr) (fun _ _ => eg_name (i := 4) sc_telling.nd)
    [.d (eT n f), .d (eL lot), .d (eI n), .d (eRows n f), .any, .any, .any, .any] (Le.refl _) (fun z hz => ?_) (fun b hb => ?_) (fun hr => ?_) (fun _ _ _ l => le_set l) (fun _ _ l h => hs_le l h))
  · have hzn : z < n := List.mem_range.mp hz
    refine hs_cons (h1_if (et_co (co_inT (ee_v (i := 4) rfl) (ee_v (i := 1) rfl))) (fun h => hs_one (h1_cont ⟨?_, .keep (.keep (.keep (.keep (.drop (Le.refl _)))))⟩)) (fun h => hs_nil ?_))
    · unfold tellZ
      rw [if_pos (of_decide_eq_true h)]
    have hz2 : tellZ f lot z = lot.zipIdx.findSome? (tellX f lot z) := by
      unfold tellZ
      rw [if_neg (of_decide_eq_false h)]
    refine hs_one (h1_find lot.zipIdx (fun p => .tuple [eI p.2, eI p.1]) (tellX f lot z) (fun t => .d (eTri t)) (fun p Γ => (Γ.set 5 (.d (eI p.2))).set 6 (.d (eI p.1))) (ei_enumN (ea_cons (ee_v (i := 1) rfl) ea_nil) me) (fun _ _ => eg_pair (i := 5) (j := 6) rfl sc_telling.nd)
      [.d (eT n f), .d (eL lot), .d (eI n), .d (eRows n f), .d (eI z), .any, .any, .any] (Le.refl _) (fun p hp => ?_) (fun b hb => ⟨b, hz2.trans hb, rfl⟩) (fun hr => ⟨hz2.trans hr, .keep (.keep (.keep (.keep (.drop (Le.refl _)))))⟩) (fun _ _ _ l => le_set (le_set l)) (fun _ _ l h => ⟨h.1, l.trans h.2⟩))
    have hpx : p.1 < n := hx _ (List.fst_mem_of_mem_zipIdx hp)
    refine hs_one (h1_find (lot.drop (p.2 + 1)) eI (tellY f z p.1) (fun t => .d (eTri t)) (fun y Γ => Γ.set 7 (.d (eI y))) (ei_tup (ee_dropN (ee_v (i := 1) rfl) (ee_addN (ee_v (i := 5) rfl) (ee_nat (i := 1))))) (fun _ _ => eg_name (i := 7) sc_telling.nd)
      [.d (eT n f), .d (eL lot), .d (eI n), .d (eRows n f), .d (eI z), .d (eI p.2), .d (eI p.1), .any] (Le.refl _) (fun y hy => ?_) (fun b hb => ⟨b, hb, rfl⟩) (fun hr => ⟨hr, .keep (.keep (.keep (.keep (.keep (.drop (.drop (Le.refl _)))))))⟩) (fun _ _ _ l => le_set l) (fun _ _ l h => ⟨h.1, l.trans h.2⟩))
    have hyn : y < n := hx _ (List.mem_of_mem_drop hy)
    refine hs_one (h1_if (et_val (ee_call G (hr.mono (by decide)) (ea_cons (ee_v (i := 3) rfl) (ea_cons (ee_v (i := 4) rfl) (ea_cons (ee_v (i := 6) rfl) (ea_cons (ee_v (i := 7) rfl) ea_nil)))) (.cons rfl (.cons rfl (.cons rfl (.cons rfl .nil)))) ⟨n, f, z, p.1, y, rfl, rfl, hzn, hpx, hyn⟩))
      (fun h => hs_one (h1_ret (ee_tup (ds := [eI z, eI p.1, eI y]) (ea_cons (ee_v (i := 4) rfl) (ea_cons (ee_v (i := 6) rfl) (ea_cons (ee_v (i := 7) rfl) ea_nil)))) ⟨(z, p.1, y), if_pos h, rfl⟩))
      (fun h => hs_nil ⟨if_neg (by rw [h]; exact Bool.false_ne_true), .keep (.keep (.keep (.keep (.keep (.keep (.keep (.drop .nil)))))))⟩))
  · show _ = _
    unfold tellM
    rw [hb]
    rfl
  · refine hs_one (h1_ret ee_non ?_)
    show _ = _
    unfold tellM
    rw [hr]
    rfl
end
end Pt
set_option maxHeartbeats 4000000
/-! Defs B: is_piece, growing, least_piece, quotient. -/
namespace Pt
open PySem PySem.Spec PyProof.Rows L2
/-! ### the mirrors -/
/-- the thing z tells things of the lot apart -/
def splitZ (f : Nat → Nat → Nat) (lot : List Nat) (z : Nat) : Bool := (!decide (z ∈ lot)) && (lot.drop 1).any (apart f z (lot.getD 0 0))
def isPieceM (n : Nat) (f : Nat → Nat → Nat) (lot : List Nat) : Bool := !(List.range n).any (splitZ f lot)
/-- k turns of growing -/
def growN (n : Nat) (f : Nat → Nat → Nat) : Nat → List Nat → List Tri
  | 0, _ => []
  | k + 1, held => match tellM n f held with
    | none => []
    | some t => t :: growN n f k (sortN (held ++ [t.1]))
def growM (n : Nat) (f : Nat → Nat → Nat) (lot : List Nat) : List Tri := growN n f (n + 1 - lot.length) lot
def leastM (n : Nat) (f : Nat → Nat → Nat) (lot : List Nat) : List Nat := sortN (lot ++ (growM n f lot).map (·.1))
/-- a lot of a size: things below n, each once -/
structure Lot (n : Nat) (lot : List Nat) : Prop where
  lt : ∀ x ∈ lot, x < n
  nd : lot.Nodup
theorem nodup_le : ∀ (n : Nat) (l : List Nat), l.Nodup → (∀ x ∈ l, x < n) → l.length ≤ n
  | 0, [], _, _ => Nat.le_refl _
  | 0, x :: _, _, h => absurd (h x List.mem_cons_self) (Nat.not_lt_zero x)
  | n + 1, l, hn, h => by
    have h1 := nodup_le n (l.filter (fun x => decide (x ≠ n))) (hn.sublist List.filter_sublist) (fun x hx => by
      have := List.mem_filter.mp hx
      have h2 := h x this.1
      have h3 : x ≠ n := of_decide_eq_true this.2
      omega)
    by_cases hm : n ∈ l
    · have h2 : l.length = (l.filter (fun x => decide (x ≠ n))).length + l.count n := by
        rw [← List.countP_eq_length_filter, List.count]
        rw [List.length_eq_countP_add_countP (fun x => decide (x ≠ n))]
        congr 1
        apply List.countP_congr
        intro x _
        simp
      have h3 : l.count n ≤ 1 := List.nodup_iff_count.mp hn n
      omega
    · have h2 : l.filter (fun x => decide (x ≠ n)) = l := List.filter_eq_self.mpr fun x hx => decide_eq_true fun e => hm (e ▸ hx)
      rw [h2] at h1
      omega
theorem Lot.len {n : Nat} {lot : List Nat} (h : Lot n lot) : lot.length ≤ n := nodup_le n lot h.nd h.lt
theorem tell_some {n : Nat} {f : Nat → Nat → Nat} {lot : List Nat} {t : Tri} (h : tellM n f lot = some t) : t.1 < n ∧ t.1 ∉ lot := by
  unfold tellM at h
  obtain ⟨z, hz, h⟩ := List.exists_of_findSome?_eq_some h
  unfold tellZ at h
  split at h
  · cases h
  · obtain ⟨p, _, h⟩ := List.exists_of_findSome?_eq_some h
    unfold tellX at h
    obtain ⟨y, _, h⟩ := List.exists_of_findSome?_eq_some h
    unfold tellY at h
    split at h
    · cases h
      exact ⟨List.mem_range.mp hz, by assumption⟩
    · cases h
theorem Lot.snoc {n : Nat} {lot : List Nat} {x : Nat} (h : Lot n lot) (hx : x < n) (hn : x ∉ lot) : Lot n (sortN (lot ++ [x])) := by
  have p := sortN_perm (lot ++ [x])
  refine ⟨fun y hy => ?_, p.nodup_iff.mpr ?_⟩
  · rcases List.mem_append.mp (p.mem_iff.mp hy) with z | z
    · exact h.lt y z
    · rw [List.mem_singleton.mp z]; exact hx
  · rw [List.nodup_append]
    exact ⟨h.nd, by simp, fun a ha b hb => by rw [List.mem_singleton.mp hb]; exact fun e => hn (e ▸ ha)⟩
theorem sortN_len (l : List Nat) : (sortN l).length = l.length := (sortN_perm l).length_eq
theorem growN_len (n : Nat) (f : Nat → Nat → Nat) : ∀ k held, (growN n f k held).length ≤ k
  | 0, _ => Nat.le_refl _
  | k + 1, held => by
    show (match tellM n f held with | none => [] | some t => t :: growN n f k (sortN (held ++ [t.1]))).length ≤ k + 1
    cases tellM n f held with
    | none => exact Nat.zero_le _
    | some t => exact Nat.succ_le_succ (growN_len n f k _)
theorem eL_append (a b : List Nat) : eL (a ++ b) = .tuple (a.map eI ++ b.map eI) := by
  show PyData.tuple ((a ++ b).map eI) = _
  rw [List.map_append]
section
variable {P : Program} {w : World} {K : PySem.W.Frag} {mg : Str → Option Value} {base : Heap} {T : List NTab}
/-! is_piece -/
theorem sc_is_piece : FnScope ["table", "lot", "size", "rows", "outer", "other"] ["table", "lot"] (defScope (topS 10)) := ⟨rfl, rfl, rfl, by decide +kernel, rfl, by decide +kernel, by decide +kernel⟩
def A_is_piece : List RS → RS → Prop := fun as r => ∃ n f lot, as = [.d (eT n f), .d (eL lot)] ∧ r = .d (.bool (isPieceM n f lot)) ∧ (∀ x ∈ lot, x < n) ∧ lot ≠ [] ∧ n ≤ 100 ∧ lot.length ≤ 100
theorem ok_is_piece (D : Def K mg "is_piece" 10 ["table", "lot"]) (G : FnG P w K mg base T 1 "parts_two" A_parts_two) (mr : mg "range" = none) (ma : mg "any" = none) : FnG P w K mg base T 2 "is_piece" A_is_piece := by
  refine fnG D sc_is_piece (fun as r ⟨_, _, _, e, _⟩ => by rw [e]; rfl) (fun as r hA f0 cdv A outer s H E hr => ?_)
  obtain ⟨n, f, lot, rfl, rfl, hx, hne, hn, hl⟩ := hA
  obtain ⟨x0, lt, rfl⟩ : ∃ x0 lt, lot = x0 :: lt := by
    cases lot with
    | nil => exact absurd rfl hne
    | cons a b => exact ⟨a, b, rfl⟩
  have hx0 := hx x0 List.mem_cons_self
  refine hs_cons (h1_asg (ee_v (i := 0) rfl) (eg_pair (i := 2) (j := 3) rfl sc_is_piece.nd) ?_)
  refine hs_cons (h1_find (List.range n) eI (fun z => if splitZ f (x0 :: lt) z then some () else none) (fun _ => .d (.bool false)) (fun z Γ => Γ.set 4 (.d (eI z))) (ei_rng1 (ea_cons (ee_v (i := 2) rfl) ea_nil) (by omega) mr) (fun _ _ => eg_name (i := 4) sc_is_piece.nd)
    [.d (eT n f), .d (eL (x0 :: lt)), .d (eI n), .d (eRows n f), .any, .any] (Le.refl _) (fun z hz => ?_) (fun b hb => ?_) (fun hr => ?_) (fun _ _ _ l => le_set l) (fun _ _ l h => hs_le l h))
  · have hzn : z < n := List.mem_range.mp hz
    refine hs_one (h1_if (x := (!decide (z ∈ x0 :: lt)) && lt.any (apart f z x0)) (et_and2 (et_co (co_ninT (ee_v (i := 4) rfl) (ee_v (i := 1) rfl))) (fun _ => et_val ?_))
      (fun h => hs_one (h1_ret ee_bl ⟨(), if_pos h, rfl⟩)) (fun h => hs_nil ⟨if_neg (fun h2 => by
        have h2 : ((!decide (z ∈ x0 :: lt)) && lt.any (apart f z x0)) = true := h2
        rw [h] at h2
        cases h2), .keep (.keep (.keep (.keep (.drop (.drop .nil)))))⟩))
    refine ee_cast (ee_any (bs := lt.map (apart f z x0)) (ea_cons (ee_q ?_) ea_nil) rfl ma) (by rw [List.any_map]; rfl)
    rw [List.map_map]
    refine ee_lc0 lt eI (fun y => .bool (apart f z x0 y)) 5 (own := [("other", 5)]) rfl sc_is_piece.nd (blkOk_by (by kernel_rfl)) (ei_tup (ee_dropN (l := x0 :: lt) (n := 1) (ee_v (i := 1) rfl) (ee_nat (i := 1)))) (by decide) (fun _ _ _ _ _ => pg_name (i := 5) sc_is_piece.nd rfl (Or.inl rfl)) (fun y hy _ _ _ _ _ => ?_) ?_
    · exact ee_call G (hr.mono (by decide)) (ea_cons (ee_v (i := 3) rfl) (ea_cons (ee_v (i := 4) rfl) (ea_cons (ee_atN (i := 0) (x := x0) rfl (ee_v (i := 1) rfl) (ee_nat (i := 0))) (ea_cons (ee_v (i := 5) rfl) ea_nil)))) (.cons rfl (.cons rfl (.cons rfl (.cons rfl .nil)))) ⟨n, f, z, x0, y, rfl, rfl, hzn, hx0, hx y (List.mem_cons_of_mem _ hy)⟩
    · have : (x0 :: lt).length = lt.length + 1 := rfl
      omega
  · show _ = _
    obtain ⟨z, hz, h⟩ := List.exists_of_findSome?_eq_some hb
    have h2 : splitZ f (x0 :: lt) z = true := by
      cases e : splitZ f (x0 :: lt) z with
      | true => rfl
      | false => rw [e] at h; cases h
    unfold isPieceM
    rw [List.any_eq_true.mpr ⟨z, hz, h2⟩]
    rfl
  · refine hs_one (h1_ret ee_bl ?_)
    show _ = _
    unfold isPieceM
    have h2 : (List.range n).any (splitZ f (x0 :: lt)) = false := by
      rw [List.any_eq_false]
      intro z hz h
      have := List.findSome?_eq_none_iff.mp hr z hz
      rw [if_pos h] at this
      cases this
    rw [h2]
    rfl
/-! growing -/
theorem sc_growing : FnScope ["table", "lot", "held", "triples", "triple"] ["table", "lot"] (defScope (topS 11)) := ⟨rfl, rfl, rfl, by decide +kernel, rfl, by decide +kernel, by decide +kernel⟩
def A_growing : List RS → RS → Prop := fun as r => ∃ n f lot, as = [.d (eT n f), .d (eL lot)] ∧ r = .d (.tuple ((growM n f lot).map eTri)) ∧ Lot n lot ∧ n ≤ 100
theorem ok_growing (D : Def K mg "growing" 11 ["table", "lot"]) (G : FnG P w K mg base T 2 "telling" A_telling) (ms : mg "sorted" = none) (mt : mg "tuple" = none) : FnG P w K mg base T 3 "growing" A_growing := by
  refine fnG D sc_growing (fun as r ⟨_, _, _, e, _⟩ => by rw [e]; rfl) (fun as r hA f0 cdv A outer s H E hr => ?_)
  obtain ⟨n, f, lot, rfl, rfl, hx, hn⟩ := hA
  have hl := hx.len
  refine hs_cons (h1_par (i := 2) (j := 3) (r1 := .d (eL lot)) (r2 := .n []) (by decide) (ea_cons (ee_v (i := 1) rfl) (ea_cons (ee_lst (ds := []) ea_nil) ea_nil)) ?_ rfl rfl (fun _ _ h => by cases h.1) rfl sc_growing.nd)
  refine hs_cons (h1_set (i := 4) (ee_call G (hr.mono (by decide)) (ea_cons (ee_v (i := 0) rfl) (ea_cons (ee_v (i := 2) rfl) ea_nil)) (.cons rfl (.cons rfl .nil)) ⟨n, f, lot, rfl, rfl, hx.lt, hn, by omega⟩) ?_ rfl sc_growing.nd)
  refine hs_cons (h1_while (fun m Γ' => ∃ held ts, Γ' = [.d (eT n f), .d (eL lot), .d (eL held), .l (ts.map eTri), .d (eOT (tellM n f held))] ∧ Lot n held ∧ ts.length + (n + 1 - held.length) ≤ n + 1 ∧ m = n - held.length ∧ ts ++ growN n f (n + 1 - held.length) held = growM n f lot) (n - lot.length) ⟨lot, [], rfl, hx, by simp, rfl, rfl⟩ ?_)
  rintro m Γ' ⟨held, ts, rfl, hh, hts, rfl, hg⟩
  have hlen := hh.len
  refine ⟨_, et_co (co_notN (ee_v (i := 4) rfl)), fun h => ?_, fun h => ?_⟩
  · obtain ⟨t, et⟩ : ∃ t, tellM n f held = some t := by
      cases e : tellM n f held with
      | none => rw [e] at h; cases h
      | some t => exact ⟨t, rfl⟩
    rw [et]
    obtain ⟨h1, h2⟩ := tell_some et
    have hs := hh.snoc h1 h2
    have hsl := hs.len
    rw [sortN_len, List.length_append, List.length_singleton] at hsl
    have e1 : n + 1 - held.length = (n + 1 - (held.length + 1)) + 1 := by omega
    refine hs_cons (h1_append (i := 3) rfl (ea_cons (ee_v (i := 4) rfl) ea_nil) (by rw [List.length_map]; omega) ?_)
    refine hs_cons (h1_set (i := 2) (ee_tuple (ea_cons (ee_q (ee_sortedT (l := held ++ [t.1]) (hr.mono (by decide : 0 ≤ 2)) (ea_cons (ee_cast (ee_catT (ee_v (i := 2) rfl) (ee_tup (ds := [eI t.1]) (ea_cons (ee_ixT (i := 0) (d := eI t.1) rfl (ee_v (i := 4) rfl) ee_int) ea_nil)) (by rw [List.length_map]; simp; omega)) (by rw [eL_append]; rfl)) ea_nil) (by rw [List.length_append, List.length_singleton]; omega) ms)) ea_nil) mt) ?_ rfl sc_growing.nd)
    refine hs_one (h1_set (i := 4) (ee_call G (hr.mono (by decide)) (ea_cons (ee_v (i := 0) rfl) (ea_cons (ee_v (i := 2) rfl) ea_nil)) (.cons rfl (.cons rfl .nil)) ⟨n, f, sortN (held ++ [t.1]), rfl, rfl, hs.lt, hn, by have := hs.len; omega⟩) ?_ rfl sc_growing.nd)
    refine ⟨n - (held.length + 1), by omega, sortN (held ++ [t.1]), ts ++ [t], by rw [List.map_append]; rfl, hs, ?_, ?_, ?_⟩
    · rw [sortN_len, List.length_append, List.length_append]; simp; omega
    · rw [sortN_len, List.length_append]; simp
    · rw [sortN_len, List.length_append, List.length_singleton, ← hg, e1]
      show _ = ts ++ (match tellM n f held with | none => [] | some t => t :: growN n f (n + 1 - (held.length + 1)) (sortN (held ++ [t.1])))
      rw [et]
      simp
  · have et : tellM n f held = none := by
      cases e : tellM n f held with
      | none => rfl
      | some t => rw [e] at h; cases h
    refine hs_one (h1_ret (ee_tuple (ea_cons (ee_vl (i := 3) rfl) ea_nil) mt) ?_)
    show _ = _
    rw [← hg]
    have e1 : n + 1 - held.length = (n - held.length) + 1 := by omega
    rw [e1]
    show _ = RS.d (.tuple ((ts ++ (match tellM n f held with | none => [] | some t => t :: growN n f (n - held.length) (sortN (held ++ [t.1])))).map eTri))
    rw [et]
    simp
/-! least_piece -/
theorem sc_least_piece : FnScope ["table", "lot", "triple"] ["table", "lot"] (defScope (topS 12)) := ⟨rfl, rfl, rfl, by decide +kernel, rfl, by decide +kernel, by decide +kernel⟩
def A_least_piece : List RS → RS → Prop := fun as r => ∃ n f lot, as = [.d (eT n f), .d (eL lot)] ∧ r = .d (eL (leastM n f lot)) ∧ Lot n lot ∧ n ≤ 100
theorem ok_least_piece (D : Def K mg "least_piece" 12 ["table", "lot"]) (G : FnG P w K mg base T 3 "growing" A_growing) (ms : mg "sorted" = none) (mt : mg "tuple" = none) : FnG P w K mg base T 4 "least_piece" A_least_piece := by
  refine fnG D sc_least_piece (fun as r ⟨_, _, _, e, _⟩ => by rw [e]; rfl) (fun as r hA f0 cdv A outer s H E hr => ?_)
  obtain ⟨n, f, lot, rfl, rfl, hx, hn⟩ := hA
  have hl := hx.len
  have hg := growN_len n f (n + 1 - lot.length) lot
  have hgm : (growM n f lot).length ≤ n + 1 - lot.length := hg
  refine hs_one (h1_ret (ee_tuple (ea_cons (ee_q (ee_sortedT (l := lot ++ (growM n f lot).map (·.1)) (hr.mono (by decide : 0 ≤ 3)) (ea_cons (ee_cast (ee_catT (ee_v (i := 1) rfl) (ee_tuple (ea_cons (ee_q (ee_lc0 (growM n f lot) eTri (fun t => eI t.1) 2 (own := [("triple", 2)]) rfl sc_least_piece.nd (blkOk_by (by kernel_rfl)) (ei_tup (ee_call G (hr.mono (by decide)) (ea_cons (ee_v (i := 0) rfl) (ea_cons (ee_v (i := 1) rfl) ea_nil)) (.cons rfl (.cons rfl .nil)) ⟨n, f, lot, rfl, rfl, hx, hn⟩)) (by decide) (fun _ _ _ _ _ => pg_name (i := 2) sc_least_piece.nd rfl (Or.inl rfl)) (fun t ht _ _ _ _ _ => ee_ixT (i := 0) (d := eI t.1) rfl (ee_v (i := 2) rfl) ee_int) (by omega))) ea_nil) mt) ?_) ?_) ea_nil) ?_ ms)) ea_nil) mt) rfl)
  · rw [List.length_map, List.length_map]; omega
  · rw [eL_append, List.map_map]; rfl
  · rw [List.length_append, List.length_map]; omega
end
end Pt
set_option maxHeartbeats 4000000
/-! Defs C: quotient, greatest_lots. -/
namespace Pt
open PySem PySem.Spec PyProof.Rows L2
abbrev eLL (lots : List (List Nat)) : PyData := .tuple (lots.map eL)
def quoM (f : Nat → Nat → Nat) (lots : List (List Nat)) : Nat → Nat → Nat := fun i j => if i = j then 0 else f ((lots.getD i []).getD 0 0) ((lots.getD j []).getD 0 0)
/-- greatest_lots: the things that stand in a proper piece with a thing -/
def matesM (n : Nat) (f : Nat → Nat → Nat) (x : Nat) : List Nat := ((List.range n).filter fun o => !decide (o = x)).filter fun m => decide ((leastM n f (sortN [x, m])).length < n)
def lotOf (n : Nat) (f : Nat → Nat → Nat) (x : Nat) : List Nat := sortN ([x] ++ matesM n f x)
def greatestN (n : Nat) (f : Nat → Nat → Nat) : Nat → List (List Nat)
  | 0 => []
  | k + 1 => if (greatestN n f k).any (fun lot => decide (k ∈ lot)) then greatestN n f k else greatestN n f k ++ [lotOf n f k]
def greatestM (n : Nat) (f : Nat → Nat → Nat) : List (List Nat) := greatestN n f n
theorem rowPart (n : Nat) (g : Nat → Nat) (j : Nat) : (List.range (j + 1)).map (fun y => eI (g y)) = (List.range j).map (fun y => eI (g y)) ++ [eI (g j)] := by
  rw [List.range_succ, List.map_append]; rfl
section
variable {P : Program} {w : World} {K : PySem.W.Frag} {mg : Str → Option Value} {base : Heap} {T : List NTab}
theorem ei_enumL {X : Cx} {Γ : List Sh} {a : Expr} {pos p tpos : Pos} {elts : List Expr} {kk : Nat} {lots : List (List Nat)} (h : EA T X [a] Γ [.d (eLL lots)]) (hm : X.mg "enumerate" = none) (hg : Gl X "enumerate" := by rfl) (hs : starEach [a] X.env = [(false, eval a X.env)] := by rfl) :
    EI T X (.Tuple elts kk tpos) (.Call (.Name "enumerate" p) [a] [] pos) Γ (lots.zipIdx.map fun p => .tuple [eI p.2, eL p.1]) true := by
  have := ei_enumT (tpos := tpos) (elts := elts) (kk := kk) (p := p) (pos := pos) h hm hg hs
  unfold enumD at this
  rw [List.zipIdx_map, List.map_map] at this
  exact this
theorem zip_at {α : Type} {l : List α} {i : Nat} {p : α × Nat} (h : l.zipIdx[i]? = some p) : p.2 = i ∧ l[i]? = some p.1 := by
  rw [List.getElem?_zipIdx] at h
  cases e : l[i]? with
  | none => rw [e] at h; cases h
  | some a =>
    rw [e] at h
    have h : some (a, 0 + i) = some p := h
    cases h
    exact ⟨by simp, rfl⟩
theorem getD_of {α : Type} {l : List α} {i : Nat} {a d : α} (h : l[i]? = some a) : l.getD i d = a := by
  rw [List.getD_eq_getElem?_getD, h]; rfl
/-! quotient -/
theorem sc_quotient : FnScope ["table", "lots", "rows", "lot", "found", "place", "row", "far", "other"] ["table", "lots"] (defScope (topS 13)) := ⟨rfl, rfl, rfl, by decide +kernel, rfl, by decide +kernel, by decide +kernel⟩
def A_quotient : List RS → RS → Prop := fun as r => ∃ n f lots, as = [.d (eT n f), .d (eLL lots)] ∧ r = .d (eT lots.length (quoM f lots)) ∧ (∀ lot ∈ lots, (∀ x ∈ lot, x < n) ∧ lot ≠ [] ∧ lot.length ≤ 100 ∧ isPieceM n f lot = true) ∧ n ≤ 100 ∧ lots.length ≤ 100
theorem ok_quotient (D : Def K mg "quotient" 13 ["table", "lots"]) (G : FnG P w K mg base T 2 "is_piece" A_is_piece) (me : mg "enumerate" = none) (mt : mg "tuple" = none) (ml : mg "len" = none) : FnG P w K mg base T 3 "quotient" A_quotient := by
  refine fnG D sc_quotient (fun as r ⟨_, _, _, e, _⟩ => by rw [e]; rfl) (fun as r hA f0 cdv A outer s H E hr => ?_)
  obtain ⟨n, f, lots, rfl, rfl, hx, hn, hl⟩ := hA
  have m : lots.length = lots.length := rfl
  refine hs_cons (h1_set (i := 2) (ee_rows (ee_v (i := 0) rfl)) ?_ rfl sc_quotient.nd)
  refine hs_cons (h1_forG lots eL (fun lot Γ => Γ.set 3 (.d (eL lot))) (ei_tup (ee_v (i := 1) rfl)) (fun _ _ => eg_name (i := 3) sc_quotient.nd) (fun _ => [.d (eT n f), .d (eLL lots), .d (eRows n f), .any, .any, .any, .any, .any, .any]) (Le.refl _) (fun i lot hi => ?_) ?_ (fun _ _ _ l => le_set l) (fun _ _ l h => hs_le l h))
  · obtain ⟨h1, h2, h3, h4⟩ := hx lot (List.mem_of_getElem? hi)
    refine hs_one (h1_if (et_not (et_val (ee_call G (hr.mono (by decide)) (ea_cons (ee_v (i := 0) rfl) (ea_cons (ee_v (i := 3) rfl) ea_nil)) (.cons rfl (.cons rfl .nil)) ⟨n, f, lot, rfl, rfl, h1, h2, hn, h3⟩))) (fun h => absurd h (by rw [h4]; decide)) (fun _ => hs_nil (.keep (.keep (.keep (.drop (Le.refl _)))))))
  refine hs_cons (h1_set (i := 4) (ee_lst (ds := []) ea_nil) ?_ rfl sc_quotient.nd)
  refine hs_cons (h1_forG lots.zipIdx (fun p => .tuple [eI p.2, eL p.1]) (fun p Γ => (Γ.set 5 (.d (eI p.2))).set 3 (.d (eL p.1))) (ei_enumL (ea_cons (ee_v (i := 1) rfl) ea_nil) me) (fun _ _ => eg_pair (i := 5) (j := 3) rfl sc_quotient.nd)
    (fun i => [.d (eT n f), .d (eLL lots), .d (eRows n f), .any, .l ((List.range i).map fun x => eRow lots.length (quoM f lots x)), .any, .any, .any, .any]) (Le.refl _) (fun i p hi => ?_) ?_ (fun _ _ _ l => le_set (le_set l)) (fun _ _ l h => hs_le l h))
  · obtain ⟨e1, e2⟩ := zip_at hi
    obtain ⟨h1, h2, h3, h4⟩ := hx p.1 (List.mem_of_getElem? e2)
    have hil : i < lots.length := (List.getElem?_eq_some_iff.mp e2).1
    obtain ⟨x0, hx0⟩ : ∃ x0, p.1[0]? = some x0 := by
      cases hp : p.1 with
      | nil => exact absurd hp h2
      | cons a b => exact ⟨a, rfl⟩
    refine hs_cons (h1_set (i := 6) (ee_lst (ds := []) ea_nil) ?_ rfl sc_quotient.nd)
    refine hs_cons (h1_forG lots.zipIdx (fun p => .tuple [eI p.2, eL p.1]) (fun p Γ => (Γ.set 7 (.d (eI p.2))).set 8 (.d (eL p.1))) (ei_enumL (ea_cons (ee_v (i := 1) rfl) ea_nil) me) (fun _ _ => eg_pair (i := 7) (j := 8) rfl sc_quotient.nd)
      (fun j => [.d (eT n f), .d (eLL lots), .d (eRows n f), .d (eL p.1), .l ((List.range i).map fun x => eRow lots.length (quoM f lots x)), .d (eI p.2), .l ((List.range j).map fun y => eI (quoM f lots i y)), .any, .any]) (Le.refl _) (fun j q hj => ?_) ?_ (fun _ _ _ l => le_set (le_set l)) (fun _ _ l h => hs_le l h))
    · obtain ⟨d1, d2⟩ := zip_at hj
      obtain ⟨g1, g2, g3, g4⟩ := hx q.1 (List.mem_of_getElem? d2)
      have hjl : j < lots.length := (List.getElem?_eq_some_iff.mp d2).1
      obtain ⟨y0, hy0⟩ : ∃ y0, q.1[0]? = some y0 := by
        cases hq : q.1 with
        | nil => exact absurd hq g2
        | cons a b => exact ⟨a, rfl⟩
      refine hs_one (h1_append (i := 6) rfl (ea_cons (r := .d (eI (quoM f lots i j))) (ee_if (et_co (co_eqN (ee_v (i := 5) rfl) (ee_v (i := 7) rfl))) (fun h => ?_) (fun h => ?_)) ea_nil) (by rw [List.length_map, List.length_range]; omega) ?_)
      · have h : p.2 = q.2 := of_decide_eq_true h
        refine ee_cast (ee_nat (i := 0)) ?_
        unfold quoM
        rw [if_pos (by omega)]
      · have h : ¬ p.2 = q.2 := of_decide_eq_false h
        refine ee_cast (ee_look (x := x0) (y := y0) (ee_v (i := 2) rfl) (ee_atN (i := 0) hx0 (ee_v (i := 3) rfl) (ee_nat (i := 0))) (ee_atN (i := 0) hy0 (ee_v (i := 8) rfl) (ee_nat (i := 0))) (h1 _ (List.mem_of_getElem? hx0)) (g1 _ (List.mem_of_getElem? hy0))) ?_
        unfold quoM
        rw [if_neg (by omega), getD_of e2, getD_of d2, getD_of hx0, getD_of hy0]
      · rw [rowPart lots.length]
        exact .keep (.keep (.keep (.keep (.keep (.keep (.keep (.drop (.drop .nil))))))))
    · rw [List.length_zipIdx]
      refine hs_one (h1_append (i := 4) rfl (ea_cons (r := .d (eRow lots.length (quoM f lots i))) (ee_tuple (ea_cons (ee_vl (i := 6) rfl) ea_nil) mt) ea_nil) (by rw [List.length_map, List.length_range]; omega) ?_)
      rw [List.range_succ, List.map_append]
      exact .keep (.keep (.keep (.drop (.keep (.drop (.drop (.drop (.drop .nil))))))))
  · rw [List.length_zipIdx]
    exact hs_one (h1_ret (ee_tup (ds := [eI lots.length, eRows lots.length (quoM f lots)]) (ea_cons (ee_cast (ee_lenT (ea_cons (ee_v (i := 1) rfl) ea_nil) ml) (by rw [List.length_map])) (ea_cons (ee_tuple (ea_cons (ee_vl (i := 4) rfl) ea_nil) mt) ea_nil))) rfl)
/-! greatest_lots -/
theorem sc_greatest_lots : FnScope ["table", "size", "lots", "thing", "lot", "other", "mates", "mate"] ["table"] (defScope (topS 19)) := ⟨rfl, rfl, rfl, by decide +kernel, rfl, by decide +kernel, by decide +kernel⟩
def A_greatest : List RS → RS → Prop := fun as r => ∃ n f, as = [.d (eT n f)] ∧ r = .n ((greatestM n f).map eL) ∧ n ≤ 100
theorem greatest_len (n : Nat) (f : Nat → Nat → Nat) : ∀ k, (greatestN n f k).length ≤ k
  | 0 => Nat.le_refl _
  | k + 1 => by
    have := greatest_len n f k
    show (if (greatestN n f k).any (fun lot => decide (k ∈ lot)) then greatestN n f k else greatestN n f k ++ [lotOf n f k]).length ≤ k + 1
    split
    · omega
    · rw [List.length_append, List.length_singleton]; omega
theorem ok_greatest (D : Def K mg "greatest_lots" 19 ["table"]) (G : FnG P w K mg base T 4 "least_piece" A_least_piece) (mr : mg "range" = none) (ma : mg "any" = none) (ms : mg "sorted" = none) (mt : mg "tuple" = none) (ml : mg "len" = none) : FnG P w K mg base T 5 "greatest_lots" A_greatest := by
  refine fnG D sc_greatest_lots (fun as r ⟨_, _, e, _⟩ => by rw [e]; rfl) (fun as r hA f0 cdv A outer s H E hr => ?_)
  obtain ⟨n, f, rfl, rfl, hn⟩ := hA
  refine hs_cons (h1_parC (i := 1) (j := 2) (r1 := .d (eI n)) (r2 := .n []) (ee_size (ee_v (i := 0) rfl)) (ee_lst (ds := []) ea_nil) ?_ rfl rfl sc_greatest_lots.nd)
  refine hs_cons (h1_forG (List.range n) eI (fun x Γ => Γ.set 3 (.d (eI x))) (ei_rng1 (ea_cons (ee_v (i := 1) rfl) ea_nil) (by omega) mr) (fun _ _ => eg_name (i := 3) sc_greatest_lots.nd)
    (fun i => [.d (eT n f), .d (eI n), .l ((greatestN n f i).map eL), .any, .any, .any, .any, .any]) (.keep (.keep (.keep (Le.refl _)))) (fun i x hi => ?_) ?_ (fun _ _ _ l => le_set l) (fun _ _ l h => hs_le l h))
  · have hil : i < n := by
      have := (List.getElem?_eq_some_iff.mp hi).1
      rwa [List.length_range] at this
    have hxi : i = x := by
      rw [List.getElem?_range hil] at hi
      exact Option.some.inj hi
    subst hxi
    have gl := greatest_len n f i
    refine hs_one (h1_if (x := !(greatestN n f i).any (fun lot => decide (i ∈ lot))) (et_not (et_cast (et_val (ee_any (bs := (greatestN n f i).map fun lot => decide (i ∈ lot)) (ea_cons ?_ ea_nil) rfl ma)) (by rw [List.any_map]; rfl))) (fun h => ?_) (fun h => hs_nil ?_))
    · refine ee_cast (ee_q (ee_lc0 (greatestN n f i) eL (fun lot => .bool (decide (i ∈ lot))) 4 (own := [("lot", 4)]) rfl sc_greatest_lots.nd (blkOk_by (by kernel_rfl)) (ei_q (ee_vl (i := 2) rfl)) (by decide) (fun _ _ _ _ _ => pg_name (i := 4) sc_greatest_lots.nd rfl (Or.inl rfl)) (fun lot _ _ _ _ _ _ => ee_co (co_inT (ee_v (i := 3) rfl) (ee_v (i := 4) rfl))) (by omega))) (by rw [List.map_map]; rfl)
    · have hg : greatestN n f (i + 1) = greatestN n f i ++ [lotOf n f i] := by
        show (if _ then _ else _) = _
        rw [if_neg (by intro z; rw [z] at h; cases h)]
      refine hs_cons (h1_setLc (i := 6) (List.range n) eI (fun o => !decide (o = i)) eI 5 (own := [("other", 5)]) rfl sc_greatest_lots.nd (blkOk_by (by kernel_rfl)) (ei_rng1 (ea_cons (ee_v (i := 1) rfl) ea_nil) (by omega) mr) (by decide) (fun _ _ _ _ _ => pg_name (i := 5) sc_greatest_lots.nd rfl (Or.inl rfl)) (fun o _ _ _ _ _ _ => ets_one (et_co (co_neN (ee_v (i := 5) rfl) (ee_v (i := 3) rfl)))) (fun o _ _ _ _ _ _ _ => ee_v (i := 5) rfl) (by rw [List.length_range]; omega) ?_)
      refine hs_cons (h1_setLc (i := 6) ((List.range n).filter fun o => !decide (o = i)) eI (fun m => decide ((leastM n f (sortN [i, m])).length < n)) eI 7 (own := [("mate", 7)]) rfl sc_greatest_lots.nd (blkOk_by (by kernel_rfl)) (ei_q (ee_vl (i := 6) rfl)) (by decide) (fun _ _ _ _ _ => pg_name (i := 7) sc_greatest_lots.nd rfl (Or.inl rfl)) (fun m hm _ _ _ _ _ => ?_) (fun o _ _ _ _ _ _ _ => ee_v (i := 7) rfl) ?_ ?_)
      · have hm1 := List.mem_filter.mp hm
        have hmn : m < n := List.mem_range.mp hm1.1
        have hne : m ≠ i := by
          have := hm1.2
          simpa using this
        have hl : Lot n (sortN [i, m]) := by
          have p := sortN_perm [i, m]
          refine ⟨fun y hy => ?_, p.nodup_iff.mpr (by simp; omega)⟩
          have := p.mem_iff.mp hy
          simp at this
          rcases this with rfl | rfl <;> assumption
        refine ets_one (et_co (co_ltN (ee_lenN (ea_cons (ee_call G (hr.mono (by decide)) (ea_cons (ee_v (i := 0) rfl) (ea_cons (r := .d (eL (sortN [i, m]))) ?_ ea_nil)) (.cons rfl (.cons rfl .nil)) ⟨n, f, sortN [i, m], rfl, rfl, hl, hn⟩) ea_nil) ml) (ee_v (i := 1) rfl)))
        exact ee_tuple (ea_cons (ee_q (ee_sortedT (l := [i, m]) (hr.mono (by decide : 0 ≤ 4)) (ea_cons (ee_tup (ds := [eI i, eI m]) (ea_cons (ee_v (i := 3) rfl) (ea_cons (ee_v (i := 7) rfl) ea_nil))) ea_nil) (by simp) ms)) ea_nil) mt
      · have := List.length_filter_le (fun o => !decide (o = i)) (List.range n)
        rw [List.length_range] at this
        omega
      · have h1 := List.length_filter_le (fun o => !decide (o = i)) (List.range n)
        rw [List.length_range] at h1
        have h2 := List.length_filter_le (fun m => decide ((leastM n f (sortN [i, m])).length < n)) ((List.range n).filter fun o => !decide (o = i))
        refine hs_one (h1_append (i := 2) rfl (ea_cons (r := .d (eL (lotOf n f i))) (ee_tuple (ea_cons (ee_q (ee_sortedL (l := [i] ++ matesM n f i) (hr.mono (by decide : 0 ≤ 4)) (ea_cons (ee_q (ee_cast (ee_catL (xs := [eI i]) (ys := (matesM n f i).map eI) (ee_q (ee_lst (ds := [eI i]) (ea_cons (ee_v (i := 3) rfl) ea_nil))) (ee_vl (i := 6) rfl) ?_) (by rw [List.map_append]; rfl))) ea_nil) ?_ ms)) ea_nil) mt) ea_nil) (by rw [List.length_map]; omega) ?_)
        · rw [List.length_map]; show 1 + (matesM n f i).length ≤ _; unfold matesM; omega
        · rw [List.length_append]; show 1 + (matesM n f i).length ≤ _; unfold matesM; omega
        · show Le _ [.d (eT n f), .d (eI n), .l ((greatestN n f (i + 1)).map eL), .any, .any, .any, .any, .any]
          rw [hg, List.map_append]
          exact .keep (.keep (.keep (.drop (.drop (.drop (.drop (.drop .nil)))))))
    · have hg : greatestN n f (i + 1) = greatestN n f i := by
        show (if _ then _ else _) = _
        rw [if_pos (by simpa using h)]
      show Le _ [.d (eT n f), .d (eI n), .l ((greatestN n f (i + 1)).map eL), .any, .any, .any, .any, .any]
      rw [hg]
      exact .keep (.keep (.keep (.drop (Le.refl _))))
  · rw [List.length_range]
    exact hs_one (h1_retL (i := 2) rfl rfl)
end
end Pt
set_option maxHeartbeats 4000000
/-! Defs D: rest, _places, orders_of, drawn. -/
namespace Pt
open PySem PySem.Spec PyProof.Rows L2
def restM (f : Nat → Nat → Nat) : Nat → Nat → Nat := fun x y => if x = y then 0 else 1 - f x y
abbrev placeM (row : List Nat) (t : Nat) : Nat := row.idxOf t
def apartM (row other : List Nat) : Nat → Nat → Nat := fun x y => if placeM row x < placeM row y ∧ placeM other y < placeM other x then 1 else 0
def alikeM (row other : List Nat) : Nat → Nat → Nat := fun x y => if placeM row x < placeM row y ∧ placeM other x < placeM other y then 1 else 0
def drawnM (row other : List Nat) : Nat → Nat → Nat := fun x y => max (apartM row other x y) (apartM row other y x)
section
variable {P : Program} {w : World} {K : PySem.W.Frag} {mg : Str → Option Value} {base : Heap} {T : List NTab}
/-! rest -/
theorem sc_rest : FnScope ["web", "size", "rows", "x", "y"] ["web"] (defScope (topS 29)) := ⟨rfl, rfl, rfl, by decide +kernel, rfl, by decide +kernel, by decide +kernel⟩
def A_rest : List RS → RS → Prop := fun as r => ∃ n f, as = [.d (eT n f)] ∧ r = .d (eT n (restM f)) ∧ (∀ x y, f x y ≤ 1) ∧ n ≤ 100
theorem ok_rest (D : Def K mg "rest" 29 ["web"]) (mt : mg "tuple" = none) (mr : mg "range" = none) : FnG P w K mg base T 1 "rest" A_rest := by
  refine fnG D sc_rest (fun as r ⟨_, _, e, _⟩ => by rw [e]; rfl) (fun as r hA f0 cdv A outer s H E hr => ?_)
  obtain ⟨n, f, rfl, rfl, hf, hn⟩ := hA
  refine hs_cons (h1_asg (ee_v (i := 0) rfl) (eg_pair (i := 1) (j := 2) rfl sc_rest.nd) ?_)
  refine hs_one (h1_ret (ee_tup (ds := [eI n, eRows n (restM f)]) (ea_cons (ee_v (i := 1) rfl) (ea_cons ?_ ea_nil))) rfl)
  refine ee_tuple (ea_cons (ee_q (ee_lc0 (List.range n) eI (fun x => eRow n (restM f x)) 3 (own := [("x", 3)]) rfl sc_rest.nd (blkOk_by (by kernel_rfl)) (ei_rng1 (ea_cons (ee_v (i := 1) rfl) ea_nil) (by omega) mr) (by decide) (fun _ _ _ _ _ => pg_name (i := 3) sc_rest.nd rfl (by first | exact Or.inl rfl | exact Or.inr rfl)) (fun x hx _ _ _ _ _ => ?_) (by rw [List.length_range]; omega))) ea_nil) mt
  refine ee_tuple (ea_cons (ee_q (ee_lc0 (List.range n) eI (fun y => eI (restM f x y)) 4 (own := [("y", 4)]) rfl sc_rest.nd (blkOk_by (by kernel_rfl)) (ei_rng1 (ea_cons (ee_v (i := 1) rfl) ea_nil) (by omega) mr) (by decide) (fun _ _ _ _ _ => pg_name (i := 4) sc_rest.nd rfl (by first | exact Or.inl rfl | exact Or.inr rfl)) (fun y hy _ _ _ _ _ => ?_) (by rw [List.length_range]; omega))) ea_nil) mt
  refine ee_if (et_co (co_neN (ee_v (i := 3) rfl) (ee_v (i := 4) rfl))) (fun h => ?_) (fun h => ?_)
  · have h : ¬ x = y := by simpa using h
    refine ee_cast (ee_sub (ee_int (i := 1)) (ee_look (ee_v (i := 2) rfl) (ee_v (i := 3) rfl) (ee_v (i := 4) rfl) (List.mem_range.mp hx) (List.mem_range.mp hy))) ?_
    have := hf x y
    show RS.d (.int ((1 : Int) - (f x y : Int))) = RS.d (.int ((restM f x y : Nat) : Int))
    unfold restM
    rw [if_neg h]
    congr 2
    omega
  · have h : x = y := by simpa using h
    refine ee_cast (ee_nat (i := 0)) ?_
    unfold restM
    rw [if_pos h]
/-! _places -/
theorem sc_places : FnScope ["row", "found", "place", "thing"] ["row"] (defScope (topS 30)) := ⟨rfl, rfl, rfl, by decide +kernel, rfl, by decide +kernel, by decide +kernel⟩
/-- a row: the things below its length, each once -/
def Row (row : List Nat) : Prop := Lot row.length row
def A_places : List RS → RS → Prop := fun as r => ∃ row, as = [.d (eL row)] ∧ r = .n ((List.range row.length).map fun t => eI (placeM row t)) ∧ Row row ∧ row.length ≤ 100
def placesN (row : List Nat) (i : Nat) : List PyData := (List.range row.length).map fun t => eI (if placeM row t < i then placeM row t else 0)
theorem row_mem {row : List Nat} (h : Row row) {t : Nat} (ht : t < row.length) : t ∈ row := by
  refine Classical.byContradiction fun hm => ?_
  have := nodup_le (row.length) (t :: row) (List.nodup_cons.mpr ⟨hm, h.nd⟩) (fun x hx => by
    rcases List.mem_cons.mp hx with rfl | hx
    · exact ht
    · exact h.lt x hx)
  rw [List.length_cons] at this
  omega
theorem idx_get {row : List Nat} {t : Nat} (hm : t ∈ row) : row[placeM row t]? = some t := by
  have h := List.idxOf_lt_length_of_mem hm
  rw [List.getElem?_eq_getElem h]
  exact congrArg some (List.getElem_idxOf h)
theorem idx_of {row : List Nat} {i x : Nat} (h : Row row) (e : row[i]? = some x) : placeM row x = i := by
  obtain ⟨hi, e⟩ := List.getElem?_eq_some_iff.mp e
  subst e
  exact h.nd.idxOf_getElem i hi
theorem ok_places (D : Def K mg "_places" 30 ["row"]) (me : mg "enumerate" = none) (ml : mg "len" = none) : FnG P w K mg base T 1 "_places" A_places := by
  refine fnG D sc_places (fun as r ⟨_, e, _⟩ => by rw [e]; rfl) (fun as r hA f0 cdv A outer s H E hr => ?_)
  obtain ⟨row, rfl, rfl, hR, hn⟩ := hA
  refine hs_cons (h1_set (i := 1) (ee_rep (xs := [eI 0]) (n := row.length) (ee_q (ee_lst (ds := [eI 0]) (ea_cons (ee_nat (i := 0)) ea_nil))) (ee_lenN (ea_cons (ee_v (i := 0) rfl) ea_nil) ml) (by simp; omega) (by omega)) ?_ rfl sc_places.nd)
  refine hs_cons (h1_forG row.zipIdx (fun p => .tuple [eI p.2, eI p.1]) (fun p Γ => (Γ.set 2 (.d (eI p.2))).set 3 (.d (eI p.1))) (ei_enumN (ea_cons (ee_v (i := 0) rfl) ea_nil) me) (fun _ _ => eg_pair (i := 2) (j := 3) rfl sc_places.nd)
    (fun i => [.d (eL row), .l (placesN row i), .any, .any]) ?_ (fun i p hi => ?_) ?_ (fun _ _ _ l => le_set (le_set l)) (fun _ _ l h => hs_le l h))
  · have : (List.replicate row.length [eI 0]).flatten = placesN row 0 := by
      unfold placesN
      rw [List.flatten_replicate_singleton, ← List.map_const', List.map_const']
      apply List.ext_getElem?
      intro i
      rw [List.getElem?_replicate, List.getElem?_map]
      by_cases h : i < row.length
      · rw [if_pos h, List.getElem?_range h]; simp
      · rw [if_neg h, List.getElem?_eq_none (by simpa using h)]; rfl
    rw [this]
    exact Le.refl _
  · obtain ⟨e1, e2⟩ := zip_at hi
    have hx : p.1 < row.length := hR.lt _ (List.mem_of_getElem? e2)
    have hp := idx_of hR e2
    refine hs_one (h1_setItem (i := 1) (xs := placesN row i) (j := p.1) (d := eI p.2) rfl (ee_v (i := 2) rfl) (ee_v (i := 3) rfl) (by unfold placesN; rw [List.length_map, List.length_range]; exact hx) ?_)
    have : (placesN row i).set p.1 (eI p.2) = placesN row (i + 1) := by
      unfold placesN
      apply List.ext_getElem?
      intro t
      by_cases ht : p.1 = t
      · subst ht
        rw [List.getElem?_set_self (by rw [List.length_map, List.length_range]; exact hx), List.getElem?_map, List.getElem?_range hx]
        simp only [Option.map_some]
        rw [if_pos (by omega), hp, e1]
      · rw [List.getElem?_set_ne ht, List.getElem?_map, List.getElem?_map]
        by_cases h : t < row.length
        · rw [List.getElem?_range h]
          simp only [Option.map_some]
          have hne : placeM row t ≠ i := fun z => by
            have h1 := idx_get (row_mem hR h)
            rw [z, e2] at h1
            exact ht (Option.some.inj h1)
          by_cases hlt : placeM row t < i
          · rw [if_pos hlt, if_pos (by omega)]
          · rw [if_neg hlt, if_neg (by omega)]
        · rw [List.getElem?_eq_none (by simpa using h)]; rfl
    show Le [.d (eL row), .l ((placesN row i).set p.1 (eI p.2)), .d (eI p.2), .d (eI p.1)] [.d (eL row), .l (placesN row (i + 1)), .any, .any]
    rw [this]
    exact .keep (.keep (.drop (.drop .nil)))
  · rw [List.length_zipIdx]
    refine hs_one (h1_retL (i := 1) (xs := placesN row row.length) rfl ?_)
    show _ = _
    congr 1
    unfold placesN
    refine List.map_congr_left fun t ht => ?_
    have ht := List.mem_range.mp ht
    by_cases h : placeM row t < row.length
    · rw [if_pos h]
    · exact absurd (List.idxOf_lt_length_of_mem (row_mem hR ht)) h
/-! orders_of -/
theorem sc_orders : FnScope ["row", "other", "size", "things", "first", "second", "apart", "alike", "x", "y"] ["row", "other"] (defScope (topS 31)) := ⟨rfl, rfl, rfl, by decide +kernel, rfl, by decide +kernel, by decide +kernel⟩
def A_orders : List RS → RS → Prop := fun as r => ∃ row other, as = [.d (eL row), .d (eL other)] ∧ r = .d (.tuple [eT row.length (apartM row other), eT row.length (alikeM row other)]) ∧ Row row ∧ Row other ∧ other.length = row.length ∧ row.length ≤ 100
abbrev plL (row : List Nat) : List PyData := (List.range row.length).map fun t => eI (placeM row t)
theorem ee_pl {X : Cx} {Γ : List Sh} {a b : Expr} {p1 : Pos} {row : List Nat} {x : Nat} (ha : EE T X a Γ (.q (plL row))) (hb : EE T X b Γ (.d (eI x))) (hx : x < row.length) (hs : PlainIx b := by exact fun _ _ => rfl) : EE T X (.Subscript a b p1) Γ (.d (eI (placeM row x))) :=
  ee_ixL (i := (x : Int)) (atI_range (g := fun t => eI (placeM row t)) hx) ha hb hs
set_option maxHeartbeats 8000000 in
theorem ok_orders (D : Def K mg "orders_of" 31 ["row", "other"]) (G : FnG P w K mg base T 1 "_places" A_places) (mt : mg "tuple" = none) (mr : mg "range" = none) (ml : mg "len" = none) (mi : mg "list" = none) : FnG P w K mg base T 2 "orders_of" A_orders := by
  refine fnG D sc_orders (fun as r ⟨_, _, e, _⟩ => by rw [e]; rfl) (fun as r hA f0 cdv A outer s H E hr => ?_)
  obtain ⟨row, other, rfl, rfl, hR, hO, hlen, hn⟩ := hA
  refine hs_cons (h1_if (et_co (co_neN (ee_lenN (ea_cons (ee_v (i := 0) rfl) ea_nil) ml) (ee_lenN (ea_cons (ee_v (i := 1) rfl) ea_nil) ml))) (fun h => absurd h (by simp [hlen])) (fun _ => hs_nil ?_))
  refine hs_cons (h1_par2 (i := 2) (j := 3) (r1 := .d (eI row.length)) (r2 := .n ((List.range row.length).map eI)) (by decide) (ee_lenN (ea_cons (ee_v (i := 0) rfl) ea_nil) ml) (ee_listRg (ee_lenN (ea_cons (ee_v (i := 0) rfl) ea_nil) ml) (by omega) rfl mi mr) ?_ rfl rfl sc_orders.nd)
  refine hs_cons (h1_parC (i := 4) (j := 5) (r1 := .n (plL row)) (r2 := .n (plL other)) (ee_call G (hr.mono (by decide)) (ea_cons (ee_v (i := 0) rfl) ea_nil) (.cons rfl .nil) ⟨row, rfl, rfl, hR, hn⟩) (ee_call G (hr.mono (by decide)) (ea_cons (ee_v (i := 1) rfl) ea_nil) (.cons rfl .nil) ⟨other, rfl, rfl, hO, by omega⟩) ?_ rfl rfl sc_orders.nd)
  refine hs_cons (h1_par2 (i := 6) (j := 7) (r1 := .n []) (r2 := .n []) (by decide) (ee_lst (ds := []) ea_nil) (ee_lst (ds := []) ea_nil) ?_ rfl rfl sc_orders.nd)
  refine hs_freeze (i := 3) (xs := (List.range row.length).map eI) rfl ?_
  refine hs_cons (h1_forG (List.range row.length) eI (fun x Γ => Γ.set 8 (.d (eI x))) (ei_p (ee_vr (i := 3) rfl)) (fun _ _ => eg_name (i := 8) sc_orders.nd)
    (fun i => [.d (eL row), .d (eL other), .d (eI row.length), .r ((List.range row.length).map eI), .l (plL row), .l (plL other), .l ((List.range i).map fun x => eRow row.length (apartM row other x)), .l ((List.range i).map fun x => eRow row.length (alikeM row other x)), .any, .any]) (Le.refl _) (fun i x hi => ?_) ?_ (fun _ _ _ l => le_set l) (fun _ _ l h => hs_le l h))
  · have hil : i < row.length := by
      have := (List.getElem?_eq_some_iff.mp hi).1
      rwa [List.length_range] at this
    have hxi : i = x := by
      rw [List.getElem?_range hil] at hi
      exact Option.some.inj hi
    subst hxi
    have each : ∀ (g : Nat → Nat → Nat), True := fun _ => trivial
    refine hs_cons (h1_append (i := 6) rfl (ea_cons (r := .d (eRow row.length (apartM row other i))) (ee_tuple (ea_cons (ee_q (ee_lc0 (List.range row.length) eI (fun y => eI (apartM row other i y)) 9 (own := [("y", 9)]) rfl sc_orders.nd (blkOk_by (by kernel_rfl)) (ei_p (ee_vr (i := 3) rfl)) (by decide) (fun _ _ _ _ _ => pg_name (i := 9) sc_orders.nd rfl (by first | exact Or.inl rfl | exact Or.inr rfl)) (fun y hy _ _ _ _ _ => ?_) (by rw [List.length_range]; omega))) ea_nil) mt) ea_nil) (by rw [List.length_map, List.length_range]; omega) ?_)
    · have hy := List.mem_range.mp hy
      refine ee_if (et_and2 (et_co (co_ltN (ee_pl (ee_vl (i := 4) rfl) (ee_v (i := 8) rfl) hil) (ee_pl (ee_vl (i := 4) rfl) (ee_v (i := 9) rfl) hy))) (fun _ => et_co (co_gtN (ee_pl (ee_vl (i := 5) rfl) (ee_v (i := 8) rfl) (by omega)) (ee_pl (ee_vl (i := 5) rfl) (ee_v (i := 9) rfl) (by omega))))) (fun h => ?_) (fun h => ?_)
      · refine ee_cast (ee_nat (i := 1)) ?_
        unfold apartM
        rw [if_pos (by simpa using h)]
      · refine ee_cast (ee_nat (i := 0)) ?_
        unfold apartM
        rw [if_neg (by simpa using h)]
    refine hs_one (h1_append (i := 7) rfl (ea_cons (r := .d (eRow row.length (alikeM row other i))) (ee_tuple (ea_cons (ee_q (ee_lc0 (List.range row.length) eI (fun y => eI (alikeM row other i y)) 9 (own := [("y", 9)]) rfl sc_orders.nd (blkOk_by (by kernel_rfl)) (ei_p (ee_vr (i := 3) rfl)) (by decide) (fun _ _ _ _ _ => pg_name (i := 9) sc_orders.nd rfl (by first | exact Or.inl rfl | exact Or.inr rfl)) (fun y hy _ _ _ _ _ => ?_) (by rw [List.length_range]; omega))) ea_nil) mt) ea_nil) (by rw [List.length_map, List.length_range]; omega) ?_)
    · have hy := List.mem_range.mp hy
      refine ee_if (et_and2 (et_co (co_ltN (ee_pl (ee_vl (i := 4) rfl) (ee_v (i := 8) rfl) hil) (ee_pl (ee_vl (i := 4) rfl) (ee_v (i := 9) rfl) hy))) (fun _ => et_co (co_ltN (ee_pl (ee_vl (i := 5) rfl) (ee_v (i := 8) rfl) (by omega)) (ee_pl (ee_vl (i := 5) rfl) (ee_v (i := 9) rfl) (by omega))))) (fun h => ?_) (fun h => ?_)
      · refine ee_cast (ee_nat (i := 1)) ?_
        unfold alikeM
        rw [if_pos (by simpa using h)]
      · refine ee_cast (ee_nat (i := 0)) ?_
        unfold alikeM
        rw [if_neg (by simpa using h)]
    · show Le [_, _, _, _, _, _, .l ((List.range i).map (fun x => eRow row.length (apartM row other x)) ++ [eRow row.length (apartM row other i)]), .l ((List.range i).map (fun x => eRow row.length (alikeM row other x)) ++ [eRow row.length (alikeM row other i)]), _, _] _
      rw [List.range_succ, List.map_append, List.map_append]
      exact .keep (.keep (.keep (.keep (.keep (.keep (.keep (.keep (.drop (.drop .nil)))))))))
  · rw [List.length_range]
    exact hs_one (h1_ret (ee_tup (ds := [eT row.length (apartM row other), eT row.length (alikeM row other)]) (ea_cons (ee_tup (ds := [eI row.length, eRows row.length (apartM row other)]) (ea_cons (ee_v (i := 2) rfl) (ea_cons (ee_tuple (ea_cons (ee_vl (i := 6) rfl) ea_nil) mt) ea_nil)))
      (ea_cons (ee_tup (ds := [eI row.length, eRows row.length (alikeM row other)]) (ea_cons (ee_v (i := 2) rfl) (ea_cons (ee_tuple (ea_cons (ee_vl (i := 7) rfl) ea_nil) mt) ea_nil))) ea_nil))) rfl)
/-! drawn -/
theorem sc_drawn : FnScope ["row", "other", "order", "size", "rows", "x", "y"] ["row", "other"] (defScope (topS 32)) := ⟨rfl, rfl, rfl, by decide +kernel, rfl, by decide +kernel, by decide +kernel⟩
def A_drawn : List RS → RS → Prop := fun as r => ∃ row other, as = [.d (eL row), .d (eL other)] ∧ r = .d (eT row.length (drawnM row other)) ∧ Row row ∧ Row other ∧ other.length = row.length ∧ row.length ≤ 100
theorem apart_le (row other : List Nat) (x y : Nat) : apartM row other x y = 0 ∨ apartM row other x y = 1 := by
  unfold apartM
  split
  · exact .inr rfl
  · exact .inl rfl
theorem ok_drawn (D : Def K mg "drawn" 32 ["row", "other"]) (G : FnG P w K mg base T 2 "orders_of" A_orders) (mt : mg "tuple" = none) (mr : mg "range" = none) : FnG P w K mg base T 3 "drawn" A_drawn := by
  refine fnG D sc_drawn (fun as r ⟨_, _, e, _⟩ => by rw [e]; rfl) (fun as r hA f0 cdv A outer s H E hr => ?_)
  obtain ⟨row, other, rfl, rfl, hR, hO, hlen, hn⟩ := hA
  refine hs_cons (h1_set (i := 2) (ee_ixT (i := 0) (d := eT row.length (apartM row other)) rfl (ee_call G (hr.mono (by decide)) (ea_cons (ee_v (i := 0) rfl) (ea_cons (ee_v (i := 1) rfl) ea_nil)) (.cons rfl (.cons rfl .nil)) ⟨row, other, rfl, rfl, hR, hO, hlen, hn⟩) ee_int) ?_ rfl sc_drawn.nd)
  refine hs_cons (h1_asg (ee_v (i := 2) rfl) (eg_pair (i := 3) (j := 4) rfl sc_drawn.nd) ?_)
  refine hs_one (h1_ret (ee_tup (ds := [eI row.length, eRows row.length (drawnM row other)]) (ea_cons (ee_v (i := 3) rfl) (ea_cons ?_ ea_nil))) rfl)
  refine ee_tuple (ea_cons (ee_q (ee_lc0 (List.range row.length) eI (fun x => eRow row.length (drawnM row other x)) 5 (own := [("x", 5)]) rfl sc_drawn.nd (blkOk_by (by kernel_rfl)) (ei_rng1 (ea_cons (ee_v (i := 3) rfl) ea_nil) (by omega) mr) (by decide) (fun _ _ _ _ _ => pg_name (i := 5) sc_drawn.nd rfl (by first | exact Or.inl rfl | exact Or.inr rfl)) (fun x hx _ _ _ _ _ => ?_) (by rw [List.length_range]; omega))) ea_nil) mt
  refine ee_tuple (ea_cons (ee_q (ee_lc0 (List.range row.length) eI (fun y => eI (drawnM row other x y)) 6 (own := [("y", 6)]) rfl sc_drawn.nd (blkOk_by (by kernel_rfl)) (ei_rng1 (ea_cons (ee_v (i := 3) rfl) ea_nil) (by omega) mr) (by decide) (fun _ _ _ _ _ => pg_name (i := 6) sc_drawn.nd rfl (by first | exact Or.inl rfl | exact Or.inr rfl)) (fun y hy _ _ _ _ _ => ?_) (by rw [List.length_range]; omega))) ea_nil) mt
  refine ee_cast (ee_or (ee_look (ee_v (i := 4) rfl) (ee_v (i := 5) rfl) (ee_v (i := 6) rfl) (List.mem_range.mp hx) (List.mem_range.mp hy)) (ee_look (ee_v (i := 4) rfl) (ee_v (i := 6) rfl) (ee_v (i := 5) rfl) (List.mem_range.mp hy) (List.mem_range.mp hx))) ?_
  congr 2
  unfold drawnM
  rcases apart_le row other x y with h | h <;> rcases apart_le row other y x with h' | h' <;> rw [h, h'] <;> decide +kernel
end
end Pt
set_option maxHeartbeats 4000000
/-! Defs E: lots of four, twisted. -/
namespace Pt
open PySem PySem.Spec PyProof.Rows L2
theorem flat_le {α β : Type} {f : α → List β} {n : Nat} : ∀ {l : List α}, (∀ a ∈ l, (f a).length ≤ n) → (l.flatMap f).length ≤ l.length * n
  | [], _ => by simp
  | a :: l, h => by
    have := flat_le (f := f) (n := n) (l := l) fun b hb => h b (List.mem_cons_of_mem _ hb)
    have h1 := h a List.mem_cons_self
    rw [List.flatMap_cons, List.length_append, List.length_cons, Nat.succ_mul]
    omega
theorem nextM_len (n : Nat) (lot : List Nat) : (nextM n lot).length ≤ n := by
  unfold nextM
  rw [List.length_map, List.length_range']
  omega
theorem fours_len (n : Nat) : ∀ k, (foursN n k).length ≤ n ^ k
  | 0 => by simp [foursN]
  | k + 1 => by
    have h := flat_le (f := nextM n) (n := n) (l := foursN n k) fun a _ => nextM_len n a
    have h2 := fours_len n k
    show ((foursN n k).flatMap (nextM n)).length ≤ _
    rw [Nat.pow_succ]
    exact Nat.le_trans h (Nat.mul_le_mul_right _ h2)
theorem loN_le {lot : List Nat} {t : Nat} (h : loN lot ≤ t) (hp : lot.Pairwise (· < ·)) : ∀ x ∈ lot, x < t := by
  intro x hx
  unfold loN at h
  cases e : lot.getLast? with
  | none => rw [List.getLast?_eq_none_iff.mp e] at hx; cases hx
  | some l =>
    rw [e] at h
    have h : l + 1 ≤ t := h
    obtain ⟨ys, rfl⟩ := List.getLast?_eq_some_iff.mp e
    rcases List.mem_append.mp hx with z | z
    · have := (List.pairwise_append.mp hp).2.2 x z l (by simp)
      omega
    · rw [List.mem_singleton.mp z]; omega
theorem mem_next {n : Nat} {lot l : List Nat} (h : l ∈ nextM n lot) : ∃ t, l = lot ++ [t] ∧ loN lot ≤ t ∧ t < n := by
  unfold nextM at h
  obtain ⟨t, ht, rfl⟩ := List.mem_map.mp h
  obtain ⟨h1, h2⟩ := List.mem_range'_1.mp ht
  exact ⟨t, rfl, h1, by omega⟩
structure Up (n k : Nat) (lot : List Nat) : Prop where
  len : lot.length = k
  up : lot.Pairwise (· < ·)
  lt : ∀ x ∈ lot, x < n
theorem fours_mem (n : Nat) : ∀ k lot, lot ∈ foursN n k → Up n k lot
  | 0, lot, h => by
    have : lot = [] := List.mem_singleton.mp h
    subst this
    exact ⟨rfl, .nil, fun _ z => by cases z⟩
  | k + 1, lot, h => by
    obtain ⟨l0, h0, h1⟩ := List.mem_flatMap.mp (show lot ∈ (foursN n k).flatMap (nextM n) from h)
    have u := fours_mem n k l0 h0
    obtain ⟨t, rfl, h2, h3⟩ := mem_next h1
    refine ⟨by rw [List.length_append, u.len]; rfl, List.pairwise_append.mpr ⟨u.up, by simp, fun x hx y hy => ?_⟩, fun x hx => ?_⟩
    · rw [List.mem_singleton.mp hy]
      exact loN_le h2 u.up x hx
    · rcases List.mem_append.mp hx with z | z
      · exact u.lt x z
      · rw [List.mem_singleton.mp z]; exact h3
theorem mem_fours (n : Nat) : ∀ k lot, Up n k lot → lot ∈ foursN n k
  | 0, lot, u => by
    have : lot = [] := List.eq_nil_of_length_eq_zero u.len
    subst this
    exact List.mem_singleton.mpr rfl
  | k + 1, lot, u => by
    have hne : lot ≠ [] := fun z => by have := u.len; rw [z] at this; cases this
    obtain ⟨l0, t, rfl⟩ : ∃ l0 t, lot = l0 ++ [t] := ⟨lot.dropLast, lot.getLast hne, (List.dropLast_concat_getLast hne).symm⟩
    have hp := List.pairwise_append.mp u.up
    have u0 : Up n k l0 := ⟨by have := u.len; rw [List.length_append] at this; simpa using this, hp.1, fun x hx => u.lt x (List.mem_append_left _ hx)⟩
    have ht : t < n := u.lt t (by simp)
    refine List.mem_flatMap.mpr ⟨l0, mem_fours n k l0 u0, ?_⟩
    have hlo : loN l0 ≤ t := by
      unfold loN
      cases e : l0.getLast? with
      | none => exact Nat.zero_le _
      | some l =>
        have := hp.2.2 l (List.mem_of_getLast? e) t (by simp)
        exact this
    exact List.mem_map.mpr ⟨t, List.mem_range'_1.mpr ⟨hlo, by omega⟩, rfl⟩
theorem Up.nd {n k : Nat} {lot : List Nat} (u : Up n k lot) : lot.Nodup := u.up.imp fun h => Nat.ne_of_lt h
theorem filt_len {n : Nat} {row lot : List Nat} (hR : Row row) (hn : row.length = n) (hl : Lot n lot) : (row.filter fun t => decide (t ∈ lot)).Perm lot := by
  refine (List.perm_ext_iff_of_nodup (hR.nd.sublist List.filter_sublist) hl.nd).mpr fun x => ?_
  rw [List.mem_filter]
  refine ⟨fun h => of_decide_eq_true h.2, fun h => ⟨row_mem hR (by rw [hn]; exact hl.lt x h), decide_eq_true h⟩⟩
def isTw (l m : List Nat) : Bool := match l with
  | [a, b, c, d] => decide (m = [b, d, a, c] ∨ m = [c, a, d, b])
  | _ => false
def within (row lot : List Nat) : List Nat := row.filter fun t => decide (t ∈ lot)
def twG (row other lot : List Nat) : Option (List Nat) := if isTw (within row lot) (within other lot) then some lot else none
def twistedM (row other : List Nat) : Option (List Nat) := (foursN row.length 4).findSome? (twG row other)
def eOL : Option (List Nat) → PyData
  | none => .none
  | some l => eL l
section
variable {P : Program} {w : World} {K : PySem.W.Frag} {mg : Str → Option Value} {base : Heap} {T : List NTab}
def A_fours : List RS → RS → Prop := fun as r => ∃ n, as = [.d (eI n)] ∧ r = .n ((foursN n 4).map eL) ∧ n ≤ 8
theorem four_bound {n i : Nat} (hn : n ≤ 8) (hi : i ≤ 4) : (foursN n i).length ≤ 4096 := by
  refine Nat.le_trans (fours_len n i) (Nat.le_trans (Nat.pow_le_pow_left hn i) ?_)
  exact Nat.le_trans (Nat.pow_le_pow_right (by decide : 1 ≤ 8) hi) (by decide)
theorem take_flat (n : Nat) {l : List (List Nat)} {i : Nat} {a : List Nat} (h : l[i]? = some a) : (l.take (i + 1)).flatMap (nextM n) = (l.take i).flatMap (nextM n) ++ nextM n a := by
  rw [List.take_add_one, h, List.flatMap_append]
  simp
theorem take_flat_le (n : Nat) (l : List (List Nat)) (i : Nat) : ((l.take i).flatMap (nextM n)).length ≤ l.length * n := by
  refine Nat.le_trans (flat_le (n := n) fun a _ => nextM_len n a) (Nat.mul_le_mul_right _ ?_)
  rw [List.length_take]
  omega
theorem sc_fours : FnScope ["size", "found", "step", "longer", "lot", "thing"] ["size"] (defScope (topS 33)) := ⟨rfl, rfl, rfl, by decide +kernel, rfl, by decide +kernel, by decide +kernel⟩
theorem ok_fours (D : Def K mg "_fours" 33 ["size"]) (mr : mg "range" = none) : FnG P w K mg base T 1 "_fours" A_fours := by
  refine fnG D sc_fours (fun as r ⟨_, e, _⟩ => by rw [e]; rfl) (fun as r hA f0 cdv A outer s H E hr => ?_)
  obtain ⟨n, rfl, rfl, hn⟩ := hA
  refine hs_cons (h1_set (i := 1) (r := .n ((foursN n 0).map eL)) (ee_lst (ds := [eL []]) (ea_cons (ee_tup (ds := []) ea_nil) ea_nil)) ?_ rfl sc_fours.nd)
  refine hs_cons (h1_forG (List.range 4) eI (fun x Γ => Γ.set 2 (.d (eI x))) (ei_rng1 (n := 4) (ea_cons (ee_nat (i := 4)) ea_nil) (by omega) mr) (fun _ _ => eg_name (i := 2) sc_fours.nd)
    (fun i => [.d (eI n), .l ((foursN n i).map eL), .any, .any, .any, .any]) (Le.refl _) (fun i x hi => ?_) ?_ (fun _ _ _ l => le_set l) (fun _ _ l h => hs_le l h))
  · have hi4 : i < 4 := by
      have := (List.getElem?_eq_some_iff.mp hi).1
      rwa [List.length_range] at this
    have fb := four_bound hn (Nat.le_of_lt hi4)
    have fb2 : (foursN n i).length * n ≤ 4096 * 8 := Nat.mul_le_mul fb hn
    refine hs_cons (h1_set (i := 3) (ee_lst (ds := []) ea_nil) ?_ rfl sc_fours.nd)
    refine hs_freeze (i := 1) (xs := (foursN n i).map eL) rfl ?_
    refine hs_cons (h1_forG (foursN n i) eL (fun lot Γ => Γ.set 4 (.d (eL lot))) (ei_p (ee_vr (i := 1) rfl)) (fun _ _ => eg_name (i := 4) sc_fours.nd)
      (fun j => [.d (eI n), .r ((foursN n i).map eL), .d (eI x), .l ((((foursN n i).take j).flatMap (nextM n)).map eL), .any, .any]) (Le.refl _) (fun j lot hj => ?_) ?_ (fun _ _ _ l => le_set l) (fun _ _ l h => hs_le l h))
    · have u := fours_mem n i lot (List.mem_of_getElem? hj)
      have tl := take_flat_le n (foursN n i) j
      have nl := nextM_len n lot
      have hlo : loN lot ≤ n := by
        unfold loN
        cases e : lot.getLast? with
        | none => exact Nat.zero_le _
        | some l => exact u.lt l (List.mem_of_getLast? e)
      refine hs_one (h1_set (i := 3) (r := .n ((((foursN n i).take (j + 1)).flatMap (nextM n)).map eL)) (ee_cast (ee_catL (xs := (((foursN n i).take j).flatMap (nextM n)).map eL) (ys := (nextM n lot).map eL) (ee_vl (i := 3) rfl) (ee_q (ee_cast (ee_lc0 (List.range' (loN lot) (n - loN lot)) eI (fun t => eL (lot ++ [t])) 5 (own := [("thing", 5)]) rfl sc_fours.nd (blkOk_by (by kernel_rfl)) (ei_rng2 (ea_cons (ee_lo (hr.mono (by decide : 0 ≤ 0)) (fun _ => ee_v (i := 4) rfl)) (ea_cons (ee_v (i := 0) rfl) ea_nil)) ⟨by omega, by omega⟩ mr) (by decide) (fun _ _ _ _ _ => pg_name (i := 5) sc_fours.nd rfl (by first | exact Or.inl rfl | exact Or.inr rfl)) (fun t ht _ _ _ _ _ => ?_) ?_) ?_)) ?_) ?_) ?_ rfl sc_fours.nd)
      · refine ee_cast (ee_catT (xs := lot.map eI) (ys := [eI t]) (ee_v (i := 4) rfl) (ee_tup (ds := [eI t]) (ea_cons (ee_v (i := 5) rfl) ea_nil)) ?_) ?_
        · rw [List.length_map, u.len]; show i + 1 ≤ _; omega
        · rw [eL_append]; rfl
      · rw [List.length_range']; omega
      · unfold nextM; rw [List.map_map]; rfl
      · rw [List.length_map, List.length_map]; omega
      · rw [take_flat n hj, List.map_append]
      · exact .keep (.keep (.keep (.keep (.drop (.drop .nil)))))
    · rw [List.take_length]
      refine hs_one (h1_move (i := 1) (j := 3) rfl rfl (by decide) ?_ sc_fours.nd (hil := by simp))
      exact .keep (.keep (.drop (.keep (.drop (.drop .nil)))))
  · rw [List.length_range]
    exact hs_one (h1_retL (i := 1) rfl rfl)
theorem sc_lfours : FnScope ["_law_size", "_law_found", "_law_turn", "_law_longer", "_law_own", "_law_x"] ["_law_size"] (defScope (topS 49)) := ⟨rfl, rfl, rfl, by decide +kernel, rfl, by decide +kernel, by decide +kernel⟩
theorem ok_lfours (D : Def K mg "_law_fours" 49 ["_law_size"]) (mr : mg "range" = none) : FnG P w K mg base T 1 "_law_fours" A_fours := by
  refine fnG D sc_lfours (fun as r ⟨_, e, _⟩ => by rw [e]; rfl) (fun as r hA f0 cdv A outer s H E hr => ?_)
  obtain ⟨n, rfl, rfl, hn⟩ := hA
  refine hs_cons (h1_set (i := 1) (r := .n ((foursN n 0).map eL)) (ee_lst (ds := [eL []]) (ea_cons (ee_tup (ds := []) ea_nil) ea_nil)) ?_ rfl sc_lfours.nd)
  refine hs_cons (h1_forG (List.range 4) eI (fun x Γ => Γ.set 2 (.d (eI x))) (ei_rng1 (n := 4) (ea_cons (ee_nat (i := 4)) ea_nil) (by omega) mr) (fun _ _ => eg_name (i := 2) sc_lfours.nd)
    (fun i => [.d (eI n), .l ((foursN n i).map eL), .any, .any, .any, .any]) (Le.refl _) (fun i x hi => ?_) ?_ (fun _ _ _ l => le_set l) (fun _ _ l h => hs_le l h))
  · have hi4 : i < 4 := by
      have := (List.getElem?_eq_some_iff.mp hi).1
      rwa [List.length_range] at this
    have fb := four_bound hn (Nat.le_of_lt hi4)
    have fb2 : (foursN n i).length * n ≤ 4096 * 8 := Nat.mul_le_mul fb hn
    refine hs_cons (h1_set (i := 3) (ee_lst (ds := []) ea_nil) ?_ rfl sc_lfours.nd)
    refine hs_freeze (i := 1) (xs := (foursN n i).map eL) rfl ?_
    refine hs_cons (h1_forG (foursN n i) eL (fun lot Γ => Γ.set 4 (.d (eL lot))) (ei_p (ee_vr (i := 1) rfl)) (fun _ _ => eg_name (i := 4) sc_lfours.nd)
      (fun j => [.d (eI n), .r ((foursN n i).map eL), .d (eI x), .l ((((foursN n i).take j).flatMap (nextM n)).map eL), .any, .any]) (Le.refl _) (fun j lot hj => ?_) ?_ (fun _ _ _ l => le_set l) (fun _ _ l h => hs_le l h))
    · have u := fours_mem n i lot (List.mem_of_getElem? hj)
      have tl := take_flat_le n (foursN n i) j
      have nl := nextM_len n lot
      have hlo : loN lot ≤ n := by
        unfold loN
        cases e : lot.getLast? with
        | none => exact Nat.zero_le _
        | some l => exact u.lt l (List.mem_of_getLast? e)
      refine hs_one (h1_set (i := 3) (r := .n ((((foursN n i).take (j + 1)).flatMap (nextM n)).map eL)) (ee_cast (ee_catL (xs := (((foursN n i).take j).flatMap (nextM n)).map eL) (ys := (nextM n lot).map eL) (ee_vl (i := 3) rfl) (ee_q (ee_cast (ee_lc0 (List.range' (loN lot) (n - loN lot)) eI (fun t => eL (lot ++ [t])) 5 (own := [("_law_x", 5)]) rfl sc_lfours.nd (blkOk_by (by kernel_rfl)) (ei_rng2 (ea_cons (ee_lo (hr.mono (by decide : 0 ≤ 0)) (fun _ => ee_v (i := 4) rfl)) (ea_cons (ee_v (i := 0) rfl) ea_nil)) ⟨by omega, by omega⟩ mr) (by decide) (fun _ _ _ _ _ => pg_name (i := 5) sc_lfours.nd rfl (by first | exact Or.inl rfl | exact Or.inr rfl)) (fun t ht _ _ _ _ _ => ?_) ?_) ?_)) ?_) ?_) ?_ rfl sc_lfours.nd)
      · refine ee_cast (ee_catT (xs := lot.map eI) (ys := [eI t]) (ee_v (i := 4) rfl) (ee_tup (ds := [eI t]) (ea_cons (ee_v (i := 5) rfl) ea_nil)) ?_) ?_
        · rw [List.length_map, u.len]; show i + 1 ≤ _; omega
        · rw [eL_append]; rfl
      · rw [List.length_range']; omega
      · unfold nextM; rw [List.map_map]; rfl
      · rw [List.length_map, List.length_map]; omega
      · rw [take_flat n hj, List.map_append]
      · exact .keep (.keep (.keep (.keep (.drop (.drop .nil)))))
    · rw [List.take_length]
      refine hs_one (h1_move (i := 1) (j := 3) rfl rfl (by decide) ?_ sc_lfours.nd (hil := by simp))
      exact .keep (.keep (.drop (.keep (.drop (.drop .nil)))))
  · rw [List.length_range]
    exact hs_one (h1_retL (i := 1) rfl rfl)
/-! twisted -/
def A_twisted : List RS → RS → Prop := fun as r => ∃ row other, as = [.d (eL row), .d (eL other)] ∧ r = .d (eOL (twistedM row other)) ∧ Row row ∧ Row other ∧ other.length = row.length ∧ row.length ≤ 8
theorem sc_twisted : FnScope ["row", "other", "lot", "thing", "a", "b", "c", "d"] ["row", "other"] (defScope (topS 34)) := ⟨rfl, rfl, rfl, by decide +kernel, rfl, by decide +kernel, by decide +kernel⟩
set_option maxHeartbeats 8000000 in
theorem ok_twisted (D : Def K mg "twisted" 34 ["row", "other"]) (G : FnG P w K mg base T 1 "_fours" A_fours) (ml : mg "len" = none) (mt : mg "tuple" = none) : FnG P w K mg base T 2 "twisted" A_twisted := by
  refine fnG D sc_twisted (fun as r ⟨_, _, e, _⟩ => by rw [e]; rfl) (fun as r hA f0 cdv A outer s H E hr => ?_)
  obtain ⟨row, other, rfl, rfl, hR, hO, hlen, hn⟩ := hA
  refine hs_cons (h1_if (et_co (co_neN (ee_lenN (ea_cons (ee_v (i := 0) rfl) ea_nil) ml) (ee_lenN (ea_cons (ee_v (i := 1) rfl) ea_nil) ml))) (fun h => absurd h (by simp [hlen])) (fun _ => hs_nil ?_))
  refine hs_cons (h1_find (foursN row.length 4) eL (twG row other) (fun l => .d (eL l)) (fun lot Γ => Γ.set 2 (.d (eL lot))) (ei_n (ee_call G (hr.mono (by decide)) (ea_cons (ee_lenN (ea_cons (ee_v (i := 0) rfl) ea_nil) ml) ea_nil) (.cons rfl .nil) ⟨row.length, rfl, rfl, hn⟩)) (fun _ _ => eg_name (i := 2) sc_twisted.nd)
    [.d (eL row), .d (eL other), .any, .any, .any, .any, .any, .any] (Le.refl _) (fun lot hl => ?_) (fun l hb => ?_) (fun hb => ?_) (fun _ _ _ l => le_set l) (fun _ _ l h => hs_le l h))
  · have u := fours_mem _ _ _ hl
    have L : Lot row.length lot := ⟨u.lt, u.nd⟩
    have p1 := filt_len hR rfl L
    have w1 : (within row lot).length = 4 := p1.length_eq.trans u.len
    obtain ⟨a, b, c, d, e1⟩ : ∃ a b c d, within row lot = [a, b, c, d] := by
      match h : within row lot, w1 with
      | [a, b, c, d], _ => exact ⟨a, b, c, d, rfl⟩
    have ll : ∀ l : List Nat, l.length ≤ 8 → (l.filter fun t => decide (t ∈ lot)).length ≤ 8 := fun l h => Nat.le_trans (List.length_filter_le _ _) h
    have f1 : ∀ {Γ : List Sh} {i j : Nat} {x : Str} {l : List Nat}, True := trivial
    refine hs_cons (h1_four (i := 4) (j := 5) (l := 6) (m := 7) (d1 := eI a) (d2 := eI b) (d3 := eI c) (d4 := eI d) (ee_cast (ee_q (ee_lc row eI (fun t => decide (t ∈ lot)) eI 3 (own := [("thing", 3)]) rfl sc_twisted.nd (blkOk_by (by kernel_rfl)) (ei_tup (ee_v (i := 0) rfl)) (by decide) (fun _ _ _ _ _ => pg_name (i := 3) sc_twisted.nd rfl (by first | exact Or.inl rfl | exact Or.inr rfl)) (fun t _ _ _ _ _ _ => ets_one (et_co (co_inT (ee_v (i := 3) rfl) (ee_v (i := 2) rfl)))) (fun t _ _ _ _ _ _ _ => ee_v (i := 3) rfl) (by omega))) (by show RS.q ((within row lot).map eI) = _; rw [e1]; rfl)) ?_ sc_twisted.nd)
    have eg : twG row other lot = if decide (within other lot = [b, d, a, c] ∨ within other lot = [c, a, d, b]) = true then some lot else none := by
      unfold twG
      rw [e1]
      rfl
    refine hs_one (h1_if (x := decide (within other lot = [b, d, a, c] ∨ within other lot = [c, a, d, b])) (et_co (co_inLL (k := 0) (l := within other lot) (m1 := [b, d, a, c]) (m2 := [c, a, d, b]) (hr.mono (by decide)) ?_ (ee_q (ee_lst (ds := [eI b, eI d, eI a, eI c]) (ea_cons (ee_v (i := 5) rfl) (ea_cons (ee_v (i := 7) rfl) (ea_cons (ee_v (i := 4) rfl) (ea_cons (ee_v (i := 6) rfl) ea_nil)))))) (ee_q (ee_lst (ds := [eI c, eI a, eI d, eI b]) (ea_cons (ee_v (i := 6) rfl) (ea_cons (ee_v (i := 4) rfl) (ea_cons (ee_v (i := 7) rfl) (ea_cons (ee_v (i := 5) rfl) ea_nil)))))))) (fun h => ?_) (fun h => ?_))
    · refine ee_cast (ee_q (ee_lc other eI (fun t => decide (t ∈ lot)) eI 3 (own := [("thing", 3)]) rfl sc_twisted.nd (blkOk_by (by kernel_rfl)) (ei_tup (ee_v (i := 1) rfl)) (by decide) (fun _ _ _ _ _ => pg_name (i := 3) sc_twisted.nd rfl (by first | exact Or.inl rfl | exact Or.inr rfl)) (fun t _ _ _ _ _ _ => ets_one (et_co (co_inT (ee_v (i := 3) rfl) (ee_v (i := 2) rfl)))) (fun t _ _ _ _ _ _ _ => ee_v (i := 3) rfl) (by omega))) rfl
    · exact hs_one (h1_ret (ee_v (i := 2) rfl) ⟨lot, eg.trans (if_pos h), rfl⟩)
    · exact hs_nil ⟨eg.trans (if_neg (by rw [h]; exact Bool.false_ne_true)), .keep (.keep (.drop (.drop (.drop (.drop (.drop (.drop .nil)))))))⟩
  · show _ = _
    unfold twistedM
    rw [hb]
    rfl
  · refine hs_one (h1_ret ee_non ?_)
    show _ = _
    unfold twistedM
    rw [hb]
    rfl
theorem sc_lfirst : FnScope ["_law_row", "_law_other", "_law_own", "_law_x", "_law_a", "_law_b", "_law_c", "_law_d"] ["_law_row", "_law_other"] (defScope (topS 50)) := ⟨rfl, rfl, rfl, by decide +kernel, rfl, by decide +kernel, by decide +kernel⟩
set_option maxHeartbeats 8000000 in
theorem ok_lfirst (D : Def K mg "_law_first" 50 ["_law_row", "_law_other"]) (G : FnG P w K mg base T 1 "_law_fours" A_fours) (ml : mg "len" = none) (mt : mg "tuple" = none) : FnG P w K mg base T 2 "_law_first" A_twisted := by
  refine fnG D sc_lfirst (fun as r ⟨_, _, e, _⟩ => by rw [e]; rfl) (fun as r hA f0 cdv A outer s H E hr => ?_)
  obtain ⟨row, other, rfl, rfl, hR, hO, hlen, hn⟩ := hA
  refine hs_cons (h1_find (foursN row.length 4) eL (twG row other) (fun l => .d (eL l)) (fun lot Γ => Γ.set 2 (.d (eL lot))) (ei_n (ee_call G (hr.mono (by decide)) (ea_cons (ee_lenN (ea_cons (ee_v (i := 0) rfl) ea_nil) ml) ea_nil) (.cons rfl .nil) ⟨row.length, rfl, rfl, hn⟩)) (fun _ _ => eg_name (i := 2) sc_lfirst.nd)
    [.d (eL row), .d (eL other), .any, .any, .any, .any, .any, .any] (Le.refl _) (fun lot hl => ?_) (fun l hb => ?_) (fun hb => ?_) (fun _ _ _ l => le_set l) (fun _ _ l h => hs_le l h))
  · have u := fours_mem _ _ _ hl
    have L : Lot row.length lot := ⟨u.lt, u.nd⟩
    have p1 := filt_len hR rfl L
    have w1 : (within row lot).length = 4 := p1.length_eq.trans u.len
    obtain ⟨a, b, c, d, e1⟩ : ∃ a b c d, within row lot = [a, b, c, d] := by
      match h : within row lot, w1 with
      | [a, b, c, d], _ => exact ⟨a, b, c, d, rfl⟩
    have ll : ∀ l : List Nat, l.length ≤ 8 → (l.filter fun t => decide (t ∈ lot)).length ≤ 8 := fun l h => Nat.le_trans (List.length_filter_le _ _) h
    have f1 : ∀ {Γ : List Sh} {i j : Nat} {x : Str} {l : List Nat}, True := trivial
    refine hs_cons (h1_four (i := 4) (j := 5) (l := 6) (m := 7) (d1 := eI a) (d2 := eI b) (d3 := eI c) (d4 := eI d) (ee_cast (ee_q (ee_lc row eI (fun t => decide (t ∈ lot)) eI 3 (own := [("_law_x", 3)]) rfl sc_lfirst.nd (blkOk_by (by kernel_rfl)) (ei_tup (ee_v (i := 0) rfl)) (by decide) (fun _ _ _ _ _ => pg_name (i := 3) sc_lfirst.nd rfl (by first | exact Or.inl rfl | exact Or.inr rfl)) (fun t _ _ _ _ _ _ => ets_one (et_co (co_inT (ee_v (i := 3) rfl) (ee_v (i := 2) rfl)))) (fun t _ _ _ _ _ _ _ => ee_v (i := 3) rfl) (by omega))) (by show RS.q ((within row lot).map eI) = _; rw [e1]; rfl)) ?_ sc_lfirst.nd)
    have eg : twG row other lot = if decide (within other lot = [b, d, a, c] ∨ within other lot = [c, a, d, b]) = true then some lot else none := by
      unfold twG
      rw [e1]
      rfl
    refine hs_one (h1_if (x := decide (within other lot = [b, d, a, c] ∨ within other lot = [c, a, d, b])) (et_co (co_cast (co_inTT (k := 0) (l := within other lot) (ls := [[b, d, a, c], [c, a, d, b]]) (hr.mono (by decide)) (ee_tuple (ea_cons ?_ ea_nil) mt) (ee_tup (ds := [eL [b, d, a, c], eL [c, a, d, b]]) (ea_cons (ee_tup (ds := [eI b, eI d, eI a, eI c]) (ea_cons (ee_v (i := 5) rfl) (ea_cons (ee_v (i := 7) rfl) (ea_cons (ee_v (i := 4) rfl) (ea_cons (ee_v (i := 6) rfl) ea_nil))))) (ea_cons (ee_tup (ds := [eI c, eI a, eI d, eI b]) (ea_cons (ee_v (i := 6) rfl) (ea_cons (ee_v (i := 4) rfl) (ea_cons (ee_v (i := 7) rfl) (ea_cons (ee_v (i := 5) rfl) ea_nil))))) ea_nil)))) (decide_eq_decide.mpr (by simp)))) (fun h => ?_) (fun h => ?_))
    · refine ee_cast (ee_q (ee_lc other eI (fun t => decide (t ∈ lot)) eI 3 (own := [("_law_x", 3)]) rfl sc_lfirst.nd (blkOk_by (by kernel_rfl)) (ei_tup (ee_v (i := 1) rfl)) (by decide) (fun _ _ _ _ _ => pg_name (i := 3) sc_lfirst.nd rfl (by first | exact Or.inl rfl | exact Or.inr rfl)) (fun t _ _ _ _ _ _ => ets_one (et_co (co_inT (ee_v (i := 3) rfl) (ee_v (i := 2) rfl)))) (fun t _ _ _ _ _ _ _ => ee_v (i := 3) rfl) (by omega))) rfl
    · exact hs_one (h1_ret (ee_v (i := 2) rfl) ⟨lot, eg.trans (if_pos h), rfl⟩)
    · exact hs_nil ⟨eg.trans (if_neg (by rw [h]; exact Bool.false_ne_true)), .keep (.keep (.drop (.drop (.drop (.drop (.drop (.drop .nil)))))))⟩
  · show _ = _
    unfold twistedM
    rw [hb]
    rfl
  · refine hs_one (h1_ret ee_non ?_)
    show _ = _
    unfold twistedM
    rw [hb]
    rfl
end
end Pt
set_option maxHeartbeats 4000000
/-! Defs F: firm lots. -/
namespace Pt
open PySem PySem.Spec PyProof.Rows L2
def tellB (f : Nat → Nat → Nat) (one own z : Nat) : Bool := (!decide (f z own = f z one)) || (!decide (f own z = f one z))
def fillsN (f : Nat → Nat → Nat) (one : Nat) : Nat → List Nat → List Nat → List Nat
  | 0, left, _ => left
  | k + 1, left, waiting => match waiting.getLast? with
    | none => left
    | some own => if left = [] then left else fillsN f one k (left.filter fun z => !decide (z ∈ left.filter (tellB f one own))) (waiting.dropLast ++ left.filter (tellB f one own))
def leftM (lot : List Nat) (one other : Nat) : List Nat := lot.filter fun t => (!decide (t = one)) && (!decide (t = other))
def fillsM (f : Nat → Nat → Nat) (lot : List Nat) (one other : Nat) : Bool := decide (fillsN f one ((leftM lot one other).length + 1) (leftM lot one other) [other] = [])
theorem part_len (l : List Nat) (p : Nat → Bool) : (l.filter fun z => !decide (z ∈ l.filter p)).length + (l.filter p).length ≤ l.length := by
  have e : (l.filter fun z => !decide (z ∈ l.filter p)) = l.filter fun z => !p z := by
    apply List.filter_congr
    intro x hx
    congr 1
    cases h : p x with
    | true => exact decide_eq_true (List.mem_filter.mpr ⟨hx, h⟩)
    | false => exact decide_eq_false fun z => Bool.false_ne_true (h.symm.trans (List.mem_filter.mp z).2)
  rw [e]
  clear e
  induction l with
  | nil => exact Nat.le_refl _
  | cons a l ih =>
    rw [List.filter_cons, List.filter_cons]
    cases p a
    · simp only [Bool.not_false, if_true, Bool.false_eq_true, if_false, List.length_cons]; omega
    · simp only [Bool.not_true, if_true, Bool.false_eq_true, if_false, List.length_cons]; omega
def firmO (f : Nat → Nat → Nat) (lot : List Nat) (one other : Nat) : Option Unit := if fillsM f lot one other then none else some ()
def firmP (f : Nat → Nat → Nat) (lot : List Nat) (p : Nat × Nat) : Option Unit := (lot.drop (p.2 + 1)).findSome? (firmO f lot p.1)
def firmLot (f : Nat → Nat → Nat) (lot : List Nat) : Bool := decide (3 ≤ lot.length) && (lot.zipIdx.findSome? (firmP f lot)).isNone
def firmG (f : Nat → Nat → Nat) (lot : List Nat) : Option (List Nat) := if firmLot f lot then some lot else none
def firmMany (n : Nat) (f : Nat → Nat → Nat) (many : Nat) : Option (List Nat) := (foursN n many).findSome? (firmG f)
def firstFirm (n : Nat) (f : Nat → Nat → Nat) : Option (List Nat) := (List.range' 3 (n + 1 - 3)).findSome? (firmMany n f)
section
variable {P : Program} {w : World} {K : PySem.W.Frag} {mg : Str → Option Value} {base : Heap} {T : List NTab}
/-! _fills -/
theorem sc_fills : FnScope ["rows", "lot", "one", "other", "thing", "left", "waiting", "own", "z", "told"] ["rows", "lot", "one", "other"] (defScope (topS 36)) := ⟨rfl, rfl, rfl, by decide +kernel, rfl, by decide +kernel, by decide +kernel⟩
def A_fills : List RS → RS → Prop := fun as r => ∃ n f lot one other, as = [.d (eRows n f), .d (eL lot), .d (eI one), .d (eI other)] ∧ r = .d (.bool (fillsM f lot one other)) ∧ (∀ x ∈ lot, x < n) ∧ one < n ∧ other < n ∧ lot.length ≤ 100
set_option maxHeartbeats 8000000 in
theorem ok_fills (D : Def K mg "_fills" 36 ["rows", "lot", "one", "other"]) : FnG P w K mg base T 1 "_fills" A_fills := by
  refine fnG D sc_fills (fun as r ⟨_, _, _, _, _, e, _⟩ => by rw [e]; rfl) (fun as r hA f0 cdv A outer s H E hr => ?_)
  obtain ⟨n, f, lot, one, other, rfl, rfl, hx, h1n, h2n, hl⟩ := hA
  have hL : (leftM lot one other).length ≤ 100 := Nat.le_trans (List.length_filter_le _ _) hl
  refine hs_cons (h1_setLc (i := 5) lot eI (fun t => (!decide (t = one)) && (!decide (t = other))) eI 4 (own := [("thing", 4)]) rfl sc_fills.nd (blkOk_by (by kernel_rfl)) (ei_tup (ee_v (i := 1) rfl)) (by decide) (fun _ _ _ _ _ => pg_name (i := 4) sc_fills.nd rfl (by first | exact Or.inl rfl | exact Or.inr rfl)) (fun t _ _ _ _ _ _ => ets_one (et_and2 (et_co (co_neN (ee_v (i := 4) rfl) (ee_v (i := 2) rfl))) (fun _ => et_co (co_neN (ee_v (i := 4) rfl) (ee_v (i := 3) rfl))))) (fun t _ _ _ _ _ _ _ => ee_v (i := 4) rfl) (by omega) ?_)
  refine hs_cons (h1_set (i := 6) (ee_lst (ds := [eI other]) (ea_cons (ee_v (i := 3) rfl) ea_nil)) ?_ rfl sc_fills.nd)
  refine hs_cons (h1_while (fun m Γ' => ∃ left waiting a7 a9, Γ' = [.d (eRows n f), .d (eL lot), .d (eI one), .d (eI other), .any, .l (left.map eI), .l (waiting.map eI), a7, .any, a9] ∧ a7.own = false ∧ (∀ x ∈ left, x < n) ∧ (∀ x ∈ waiting, x < n) ∧ left.length + waiting.length ≤ 101 ∧ m = left.length + waiting.length ∧ ∃ k, m ≤ k ∧ fillsN f one k left waiting = fillsN f one ((leftM lot one other).length + 1) (leftM lot one other) [other])
    ((leftM lot one other).length + 1) ⟨leftM lot one other, [other], .any, .any, rfl, rfl, fun x hx' => hx x (List.mem_filter.mp hx').1, fun x hx' => by rw [List.mem_singleton.mp hx']; exact h2n, by simp; omega, rfl, _, Nat.le_refl _, rfl⟩ ?_)
  rintro m Γ' ⟨left, waiting, a7, a9, rfl, ha7, hleft, hwait, hsum, hm, k, hk, hf⟩
  refine ⟨_, et_and2 (et_list (ee_vl (i := 6) rfl)) (fun _ => et_list (ee_vl (i := 5) rfl)), fun h => ?_, fun h => ?_⟩
  · have hw : waiting ≠ [] := fun z => by rw [z] at h; cases h
    have hl2 : left ≠ [] := fun z => by rw [z] at h; simp at h
    obtain ⟨w0, own, rfl⟩ : ∃ w0 own, waiting = w0 ++ [own] := ⟨waiting.dropLast, waiting.getLast hw, (List.dropLast_concat_getLast hw).symm⟩
    have hon : own < n := hwait own (by simp)
    have pl := part_len left (tellB f one own)
    have ll := List.length_filter_le (tellB f one own) left
    rw [List.length_append, List.length_singleton] at hsum hm
    rw [List.map_append]
    refine hs_cons (h1_pop (i := 6) (j := 7) (xs := w0.map eI) (d := eI own) rfl ?_ sc_fills.nd)
    refine hs_cons (h1_set (i := 9) (r := .n ((left.filter (tellB f one own)).map eI)) (ee_lc left eI (tellB f one own) eI 8 (own := [("z", 8)]) rfl sc_fills.nd (blkOk_by (by kernel_rfl)) (ei_q (ee_vl (i := 5) rfl)) (by decide) (fun _ _ _ _ _ => pg_name (i := 8) sc_fills.nd rfl (by first | exact Or.inl rfl | exact Or.inr rfl)) (fun z hz _ _ _ _ _ => ets_one (et_or2 (et_co (co_neN (ee_look (ee_v (i := 0) rfl) (ee_v (i := 8) rfl) (ee_v (i := 7) rfl) (hleft z hz) hon) (ee_look (ee_v (i := 0) rfl) (ee_v (i := 8) rfl) (ee_v (i := 2) rfl) (hleft z hz) h1n))) (fun _ => et_co (co_neN (ee_look (ee_v (i := 0) rfl) (ee_v (i := 7) rfl) (ee_v (i := 8) rfl) hon (hleft z hz)) (ee_look (ee_v (i := 0) rfl) (ee_v (i := 2) rfl) (ee_v (i := 8) rfl) h1n (hleft z hz)))))) (fun t _ _ _ _ _ _ _ => ee_v (i := 8) rfl) (by omega)) ?_ rfl sc_fills.nd)
    refine hs_cons (h1_setLc (i := 5) left eI (fun z => !decide (z ∈ left.filter (tellB f one own))) eI 8 (own := [("z", 8)]) rfl sc_fills.nd (blkOk_by (by kernel_rfl)) (ei_q (ee_vl (i := 5) rfl)) (by decide) (fun _ _ _ _ _ => pg_name (i := 8) sc_fills.nd rfl (by first | exact Or.inl rfl | exact Or.inr rfl)) (fun z hz _ _ _ _ _ => ets_one (et_co (co_ninL (ee_v (i := 8) rfl) (ee_vl (i := 9) rfl)))) (fun t _ _ _ _ _ _ _ => ee_v (i := 8) rfl) (by omega) ?_)
    refine hs_one (h1_extend (i := 6) (xs := w0.map eI) (ys := (left.filter (tellB f one own)).map eI) rfl (ea_cons (ee_vl (i := 9) rfl) ea_nil) (by rw [List.length_map, List.length_map]; omega) ?_)
    refine ⟨(left.filter fun z => !decide (z ∈ left.filter (tellB f one own))).length + (w0 ++ left.filter (tellB f one own)).length, by rw [List.length_append]; omega, left.filter (fun z => !decide (z ∈ left.filter (tellB f one own))), w0 ++ left.filter (tellB f one own), .d (eI own), .l ((left.filter (tellB f one own)).map eI), by rw [List.map_append]; rfl, rfl, fun x hx' => hleft x (List.mem_filter.mp hx').1, fun x hx' => ?_, by rw [List.length_append]; omega, rfl, ?_⟩
    · rcases List.mem_append.mp hx' with z | z
      · exact hwait x (by simp [z])
      · exact hleft x (List.mem_filter.mp z).1
    · obtain ⟨k', rfl⟩ : ∃ k', k = k' + 1 := ⟨k - 1, by omega⟩
      refine ⟨k', by rw [List.length_append]; omega, ?_⟩
      rw [← hf]
      simp only [fillsN, List.getLast?_concat, List.dropLast_concat, if_neg hl2]
  · have hend : left = fillsN f one k left waiting := by
      cases k with
      | zero => rfl
      | succ k' =>
        show left = (match waiting.getLast? with | none => left | some own => if left = [] then left else _)
        cases hw : waiting.getLast? with
        | none => rfl
        | some own =>
          have hl2 : left = [] := by
            have hw2 : waiting ≠ [] := fun z => by rw [z] at hw; cases hw
            cases left with
            | nil => rfl
            | cons a b => cases waiting with
              | nil => exact absurd rfl hw2
              | cons c d => cases h
          show left = if left = [] then left else _
          rw [if_pos hl2]
    refine hs_one (h1_ret (ee_co (co_eqL (l := left) (m := []) (hr.mono (by decide : 0 ≤ 0)) (ee_vl (i := 5) rfl) (ee_q (ee_lst (ds := []) ea_nil)))) ?_)
    show _ = _
    unfold fillsM
    rw [← hf, ← hend]
/-! _is_firm_lot -/
theorem sc_is_firm : FnScope ["rows", "lot", "at", "one", "other"] ["rows", "lot"] (defScope (topS 37)) := ⟨rfl, rfl, rfl, by decide +kernel, rfl, by decide +kernel, by decide +kernel⟩
def A_is_firm : List RS → RS → Prop := fun as r => ∃ n f lot, as = [.d (eRows n f), .d (eL lot)] ∧ r = .d (.bool (firmLot f lot)) ∧ (∀ x ∈ lot, x < n) ∧ lot.length ≤ 100
theorem ok_is_firm (D : Def K mg "_is_firm_lot" 37 ["rows", "lot"]) (G : FnG P w K mg base T 1 "_fills" A_fills) (ml : mg "len" = none) (me : mg "enumerate" = none) : FnG P w K mg base T 2 "_is_firm_lot" A_is_firm := by
  refine fnG D sc_is_firm (fun as r ⟨_, _, _, e, _⟩ => by rw [e]; rfl) (fun as r hA f0 cdv A outer s H E hr => ?_)
  obtain ⟨n, f, lot, rfl, rfl, hx, hl⟩ := hA
  refine hs_cons (h1_if (et_co (co_ltN (ee_lenN (ea_cons (ee_v (i := 1) rfl) ea_nil) ml) (ee_nat (i := 3)))) (fun h => hs_one (h1_ret ee_bl ?_)) (fun h => hs_nil ?_))
  · have h : lot.length < 3 := of_decide_eq_true h
    show _ = _
    unfold firmLot
    rw [decide_eq_false (by omega)]
    rfl
  have h : ¬ lot.length < 3 := of_decide_eq_false h
  have e3 : firmLot f lot = (lot.zipIdx.findSome? (firmP f lot)).isNone := by
    unfold firmLot
    rw [decide_eq_true (by omega), Bool.true_and]
  refine hs_cons (h1_find lot.zipIdx (fun p => .tuple [eI p.2, eI p.1]) (firmP f lot) (fun _ => .d (.bool false)) (fun p Γ => (Γ.set 2 (.d (eI p.2))).set 3 (.d (eI p.1))) (ei_enumN (ea_cons (ee_v (i := 1) rfl) ea_nil) me) (fun _ _ => eg_pair (i := 2) (j := 3) rfl sc_is_firm.nd)
    [.d (eRows n f), .d (eL lot), .any, .any, .any] (Le.refl _) (fun p hp => ?_) (fun b hb => ?_) (fun hb => ?_) (fun _ _ _ l => le_set (le_set l)) (fun _ _ l h => hs_le l h))
  · have hpx : p.1 < n := hx _ (List.fst_mem_of_mem_zipIdx hp)
    refine hs_one (h1_find (lot.drop (p.2 + 1)) eI (firmO f lot p.1) (fun _ => .d (.bool false)) (fun y Γ => Γ.set 4 (.d (eI y))) (ei_tup (ee_dropN (ee_v (i := 1) rfl) (ee_addN (ee_v (i := 2) rfl) (ee_nat (i := 1))))) (fun _ _ => eg_name (i := 4) sc_is_firm.nd)
      [.d (eRows n f), .d (eL lot), .d (eI p.2), .d (eI p.1), .any] (Le.refl _) (fun y hy => ?_) (fun b hb => ⟨b, hb, rfl⟩) (fun hr => ⟨hr, .keep (.keep (.drop (.drop (.keep .nil))))⟩) (fun _ _ _ l => le_set l) (fun _ _ l h => ⟨h.1, l.trans h.2⟩))
    have hyn : y < n := hx _ (List.mem_of_mem_drop hy)
    refine hs_one (h1_if (et_not (et_val (ee_call G (hr.mono (by decide)) (ea_cons (ee_v (i := 0) rfl) (ea_cons (ee_v (i := 1) rfl) (ea_cons (ee_v (i := 3) rfl) (ea_cons (ee_v (i := 4) rfl) ea_nil)))) (.cons rfl (.cons rfl (.cons rfl (.cons rfl .nil)))) ⟨n, f, lot, p.1, y, rfl, rfl, hx, hpx, hyn, hl⟩)))
      (fun h => hs_one (h1_ret ee_bl ⟨(), ?_, rfl⟩)) (fun h => hs_nil ⟨?_, .keep (.keep (.keep (.keep (.drop .nil))))⟩))
    · unfold firmO
      rw [if_neg (by simpa using h)]
    · unfold firmO
      rw [if_pos (by simpa using h)]
  · show _ = _
    rw [e3, hb]
    rfl
  · refine hs_one (h1_ret ee_bl ?_)
    show _ = _
    rw [e3, hb]
    rfl
/-! _lots_of -/
theorem sc_lots_of : FnScope ["size", "many", "found", "turn", "lot", "thing"] ["size", "many"] (defScope (topS 38)) := ⟨rfl, rfl, rfl, by decide +kernel, rfl, by decide +kernel, by decide +kernel⟩
def A_lots_of : List RS → RS → Prop := fun as r => ∃ n m, as = [.d (eI n), .d (eI m)] ∧ r = .n ((foursN n m).map eL) ∧ n ≤ 6 ∧ m ≤ n
theorem up_sub {n k : Nat} {lot : List Nat} (u : Up n k lot) : k ≤ n := by
  have := nodup_le n lot u.nd u.lt
  rw [u.len] at this
  exact this
theorem lots_bound : ∀ n, n ≤ 6 → ∀ i, i ≤ 6 → (foursN n i).length ≤ 20 := by
  intro n hn i hi
  have : ∀ n < 7, ∀ i < 7, (foursN n i).length ≤ 20 := by decide +kernel
  exact this n (by omega) i (by omega)
theorem ok_lots_of (D : Def K mg "_lots_of" 38 ["size", "many"]) (mr : mg "range" = none) : FnG P w K mg base T 1 "_lots_of" A_lots_of := by
  refine fnG D sc_lots_of (fun as r ⟨_, _, e, _⟩ => by rw [e]; rfl) (fun as r hA f0 cdv A outer s H E hr => ?_)
  obtain ⟨n, m, rfl, rfl, hn, hm⟩ := hA
  refine hs_cons (h1_set (i := 2) (r := .n ((foursN n 0).map eL)) (ee_lst (ds := [eL []]) (ea_cons (ee_tup (ds := []) ea_nil) ea_nil)) ?_ rfl sc_lots_of.nd)
  refine hs_cons (h1_forG (List.range m) eI (fun x Γ => Γ.set 3 (.d (eI x))) (ei_rng1 (ea_cons (ee_v (i := 1) rfl) ea_nil) (by omega) mr) (fun _ _ => eg_name (i := 3) sc_lots_of.nd)
    (fun i => [.d (eI n), .d (eI m), .l ((foursN n i).map eL), .any, .any, .any]) (Le.refl _) (fun i x hi => ?_) ?_ (fun _ _ _ l => le_set l) (fun _ _ l h => hs_le l h))
  · have hi4 : i < m := by
      have := (List.getElem?_eq_some_iff.mp hi).1
      rwa [List.length_range] at this
    have lb := lots_bound n hn (i + 1) (by omega)
    have e : ((foursN n i).flatMap fun lot => (List.range' (loN lot) (n - loN lot)).map fun t => eL (lot ++ [t])) = (foursN n (i + 1)).map eL := by
      show _ = ((foursN n i).flatMap (nextM n)).map eL
      rw [List.map_flatMap]
      congr 1
      funext lot
      unfold nextM
      rw [List.map_map]
      rfl
    refine hs_one (h1_setLc2 (i := 2) (foursN n i) eL (fun lot => List.range' (loN lot) (n - loN lot)) eI (fun lot t => eL (lot ++ [t])) 4 5 (own := [("lot", 4), ("thing", 5)]) (vs1 := [5]) rfl sc_lots_of.nd (blkOk_by (by kernel_rfl)) (by decide) (ei_q (ee_vl (i := 2) rfl)) (by decide) (by decide) (fun _ _ _ _ _ => pg_name (i := 4) sc_lots_of.nd rfl (by first | exact Or.inl rfl | exact Or.inr rfl)) (fun _ _ _ _ _ => pg_name (i := 5) sc_lots_of.nd rfl (by first | exact Or.inl rfl | exact Or.inr rfl)) (fun lot hlot _ _ _ _ _ => ?_) (fun lot hlot t ht _ _ _ _ _ => ?_) ?_ ?_)
    · have u := fours_mem n i lot hlot
      have hlo : loN lot ≤ n := by
        unfold loN
        cases e : lot.getLast? with
        | none => exact Nat.zero_le _
        | some l => exact u.lt l (List.mem_of_getLast? e)
      exact ei0_rng2 (ea_cons (ee_lo (hr.mono (by decide : 0 ≤ 0)) (fun _ => ee_v (i := 4) rfl)) (ea_cons (ee_v (i := 0) rfl) ea_nil)) ⟨by omega, by omega⟩ mr
    · have u := fours_mem n i lot hlot
      refine ee_cast (ee_catT (xs := lot.map eI) (ys := [eI t]) (ee_v (i := 4) rfl) (ee_tup (ds := [eI t]) (ea_cons (ee_v (i := 5) rfl) ea_nil)) ?_) ?_
      · rw [List.length_map, u.len]; show i + 1 ≤ _; omega
      · rw [eL_append]; rfl
    · rw [e, List.length_map]; omega
    · rw [e]
      exact .keep (.keep (.keep (.drop (.keep (.keep .nil)))))
  · rw [List.length_range]
    exact hs_one (h1_retL (i := 2) rfl rfl)
/-! first_firm -/
theorem sc_first_firm : FnScope ["table", "size", "rows", "many", "lot"] ["table"] (defScope (topS 39)) := ⟨rfl, rfl, rfl, by decide +kernel, rfl, by decide +kernel, by decide +kernel⟩
def A_first_firm : List RS → RS → Prop := fun as r => ∃ n f, as = [.d (eT n f)] ∧ r = .d (eOL (firstFirm n f)) ∧ n ≤ 6
theorem ok_first_firm (D : Def K mg "first_firm" 39 ["table"]) (G : FnG P w K mg base T 1 "_lots_of" A_lots_of) (G2 : FnG P w K mg base T 2 "_is_firm_lot" A_is_firm) (mr : mg "range" = none) : FnG P w K mg base T 3 "first_firm" A_first_firm := by
  refine fnG D sc_first_firm (fun as r ⟨_, _, e, _⟩ => by rw [e]; rfl) (fun as r hA f0 cdv A outer s H E hr => ?_)
  obtain ⟨n, f, rfl, rfl, hn⟩ := hA
  refine hs_cons (h1_asg (ee_v (i := 0) rfl) (eg_pair (i := 1) (j := 2) rfl sc_first_firm.nd) ?_)
  refine hs_cons (h1_find (List.range' 3 (n + 1 - 3)) eI (firmMany n f) (fun l => .d (eL l)) (fun x Γ => Γ.set 3 (.d (eI x))) (ei_rng2 (lo := 3) (n := n + 1) (ea_cons (ee_nat (i := 3)) (ea_cons (ee_addN (ee_v (i := 1) rfl) (ee_nat (i := 1))) ea_nil)) ⟨by omega, by omega⟩ mr) (fun _ _ => eg_name (i := 3) sc_first_firm.nd)
    [.d (eT n f), .d (eI n), .d (eRows n f), .any, .any] (Le.refl _) (fun many hmany => ?_) (fun b hb => ?_) (fun hb => ?_) (fun _ _ _ l => le_set l) (fun _ _ l h => hs_le l h))
  · obtain ⟨m1, m2⟩ := List.mem_range'_1.mp hmany
    refine hs_one (h1_find (foursN n many) eL (firmG f) (fun l => .d (eL l)) (fun lot Γ => Γ.set 4 (.d (eL lot))) (ei_n (ee_call G (hr.mono (by decide)) (ea_cons (ee_v (i := 1) rfl) (ea_cons (ee_v (i := 3) rfl) ea_nil)) (.cons rfl (.cons rfl .nil)) ⟨n, many, rfl, rfl, hn, by omega⟩)) (fun _ _ => eg_name (i := 4) sc_first_firm.nd)
      [.d (eT n f), .d (eI n), .d (eRows n f), .d (eI many), .any] (Le.refl _) (fun lot hlot => ?_) (fun b hb => ⟨b, hb, rfl⟩) (fun hr => ⟨hr, .keep (.keep (.keep (.drop (.keep .nil))))⟩) (fun _ _ _ l => le_set l) (fun _ _ l h => ⟨h.1, l.trans h.2⟩))
    have u := fours_mem n many lot hlot
    refine hs_one (h1_if (et_val (ee_call G2 (hr.mono (by decide)) (ea_cons (ee_v (i := 2) rfl) (ea_cons (ee_v (i := 4) rfl) ea_nil)) (.cons rfl (.cons rfl .nil)) ⟨n, f, lot, rfl, rfl, u.lt, by rw [u.len]; omega⟩)) (fun h => hs_one (h1_ret (ee_v (i := 4) rfl) ⟨lot, if_pos h, rfl⟩)) (fun h => hs_nil ⟨if_neg (by rw [h]; exact Bool.false_ne_true), .keep (.keep (.keep (.keep (.drop .nil))))⟩))
  · show _ = _
    unfold firstFirm
    rw [hb]
    rfl
  · refine hs_one (h1_ret ee_non ?_)
    show _ = _
    unfold firstFirm
    rw [hb]
    rfl
/-! has_formula -/
theorem sc_has_formula : FnScope ["table"] ["table"] (defScope (topS 41)) := ⟨rfl, rfl, rfl, by decide +kernel, rfl, by decide +kernel, by decide +kernel⟩
def A_has_formula : List RS → RS → Prop := fun as r => ∃ n f, as = [.d (eT n f)] ∧ r = .d (.bool (firstFirm n f).isNone) ∧ n ≤ 6
theorem ok_has_formula (D : Def K mg "has_formula" 41 ["table"]) (G : FnG P w K mg base T 3 "first_firm" A_first_firm) : FnG P w K mg base T 4 "has_formula" A_has_formula := by
  refine fnG D sc_has_formula (fun as r ⟨_, _, e, _⟩ => by rw [e]; rfl) (fun as r hA f0 cdv A outer s H E hr => ?_)
  obtain ⟨n, f, rfl, rfl, hn⟩ := hA
  refine hs_one (h1_ret (ee_co (co_isN (ee_call G (hr.mono (by decide)) (ea_cons (ee_v (i := 0) rfl) ea_nil) (.cons rfl .nil) ⟨n, f, rfl, rfl, hn⟩))) ?_)
  show _ = _
  cases firstFirm n f <;> rfl
end
end Pt
set_option maxHeartbeats 8000000
/-! Defs G: row_of_blocks. -/
namespace Pt
open PySem PySem.Spec PyProof.Rows L2
/-! ### the mirrors -/
def lateI (f : Nat → Nat → Nat) (a b : Nat) : Nat → Nat → Bool := fun x y => (!decide (f x y = a)) || (!decide (f y x = b))
def warT (m : Nat) (L : Nat → Nat → Bool) : Nat → Nat → Nat → Bool
  | 0 => L
  | t + 1 => if warT m L t t m then fun x y => if x = t then warT m L t t y || warT m L t m y else warT m L t x y else warT m L t
def warM (n : Nat) (L : Nat → Nat → Bool) : Nat → Nat → Nat → Bool
  | 0 => L
  | m + 1 => warT m (warM n L m) n
def lateM (n : Nat) (f : Nat → Nat → Nat) (a b : Nat) : Nat → Nat → Bool := warM n (lateI f a b) n
def inBlock (L : Nat → Nat → Bool) (t o : Nat) : Bool := (L t o && L o t) || decide (o = t)
def blockM (n : Nat) (L : Nat → Nat → Bool) (t : Nat) : List Nat := (List.range n).filter (inBlock L t)
def cntM (n : Nat) (L : Nat → Nat → Bool) (t : Nat) : Nat := ((List.range n).filter fun o => L t o || decide (o = t)).length
def putN (kvs : List (List Nat × Int)) (k : List Nat) (v : Int) : List (List Nat × Int) := if (kvs.any fun p => decide (p.1 = k)) = true then kvs.map (fun p => if p.1 = k then (p.1, v) else p) else kvs ++ [(k, v)]
def kvN (n : Nat) (L : Nat → Nat → Bool) : Nat → List (List Nat × Int)
  | 0 => []
  | i + 1 => putN (kvN n L i) (blockM n L i) (cntM n L i : Int)
def lookN (kvs : List (List Nat × Int)) (d : PyData) : Int := ((kvs.find? fun p => PyData.eqv (eL p.1) d).map (·.2)).getD 0
def keyR (kvs : List (List Nat × Int)) (a b : Nat) (d : PyData) : PyData := .tuple [.int (if a < b then lookN kvs d else 0), d]
def robM (n : Nat) (f : Nat → Nat → Nat) (a b : Nat) : List (List Nat) :=
  ((kvN n (lateM n f a b) n).map (·.1)).mergeSort fun x y => PySem.W.dataLe false (keyR (kvN n (lateM n f a b) n) a b) (eL x) (eL y)
abbrev eKV (kvs : List (List Nat × Int)) : List (List Key × V) := kvs.map fun p => (keyL p.1, V.int p.2)
theorem putN_enc (kvs : List (List Nat × Int)) (k : List Nat) (v : Int) : putK (eKV kvs) (keyL k) (.int v) = eKV (putN kvs k v) := by
  unfold putK putN eKV
  have e : ((kvs.map fun p => (keyL p.1, V.int p.2)).any fun kv => decide (kv.1 = keyL k)) = kvs.any fun p => decide (p.1 = k) := by
    rw [List.any_map]
    congr 1
    funext p
    exact decide_eq_decide.mpr keyL_inj
  rw [e]
  by_cases h : (kvs.any fun p => decide (p.1 = k)) = true
  · rw [if_pos h, if_pos h, List.map_map, List.map_map]
    refine List.map_congr_left fun p _ => ?_
    simp only [Function.comp, keyL_inj]
    by_cases h2 : p.1 = k
    · simp [h2]
    · simp [h2]
  · rw [if_neg h, if_neg h, List.map_append]
    rfl
theorem putN_len (kvs : List (List Nat × Int)) (k : List Nat) (v : Int) : (putN kvs k v).length ≤ kvs.length + 1 := by
  unfold putN
  split
  · rw [List.length_map]; omega
  · rw [List.length_append]; exact Nat.le_refl _
theorem kvN_len (n : Nat) (L : Nat → Nat → Bool) : ∀ i, (kvN n L i).length ≤ i
  | 0 => Nat.le_refl _
  | i + 1 => Nat.le_trans (putN_len _ _ _) (Nat.succ_le_succ (kvN_len n L i))
theorem find_key (kvs : List (List Nat × Int)) (lot : List Nat) (h : lot ∈ kvs.map (·.1)) : ∃ v, valV (eKV kvs) (keyL lot) = some (.int v) ∧ lookN kvs (eL lot) = v := by
  have e1 : (fun (p : List Nat × Int) => PyData.eqv (eL p.1) (eL lot)) = fun p => decide (p.1 = lot) := by
    funext p
    rw [PyData.eqv, eqvAll_nats]
  obtain ⟨q, hq⟩ : ∃ q, kvs.find? (fun p => decide (p.1 = lot)) = some q := by
    cases hf : kvs.find? (fun p => decide (p.1 = lot)) with
    | some q => exact ⟨q, rfl⟩
    | none =>
      obtain ⟨p, hp, e⟩ := List.mem_map.mp h
      have := List.find?_eq_none.mp hf p hp
      simp [e] at this
  refine ⟨q.2, ?_, ?_⟩
  · unfold valV eKV
    rw [List.find?_map]
    have e2 : ((fun (kv : List Key × V) => decide (kv.1 = keyL lot)) ∘ fun (p : List Nat × Int) => (keyL p.1, V.int p.2)) = fun p => decide (p.1 = lot) := by
      funext p
      exact decide_eq_decide.mpr keyL_inj
    rw [e2, hq]
    rfl
  · unfold lookN
    rw [e1, hq]
    rfl
theorem alikeAll_nats : ∀ l m : List Nat, PySem.W.alikeAll (l.map eI) (m.map eI) = true
  | [], _ => by cases ‹List Nat› <;> rfl
  | _ :: _, [] => rfl
  | a :: l, b :: m => by
    rw [List.map_cons, List.map_cons, PySem.W.alikeAll, alikeAll_nats l m]
    rfl
abbrev rowL (n : Nat) (L : Nat → Nat → Bool) (x : Nat) : List PyData := (List.range n).map fun y => PyData.bool (L x y)
abbrev matL (n : Nat) (L : Nat → Nat → Bool) : List (List PyData) := (List.range n).map (rowL n L)
theorem mat_at {n x : Nat} {L : Nat → Nat → Bool} (h : x < n) : (matL n L)[x]? = some (rowL n L x) := by rw [List.getElem?_map, List.getElem?_range h]; rfl
theorem mat_set (m n t : Nat) (L : Nat → Nat → Bool) (g : Nat → Bool) : (matL n L).set t ((List.range n).map fun y => PyData.bool (g y)) = matL n (fun x y => if x = t then g y else L x y) := by
  apply List.ext_getElem?
  intro i
  by_cases hi : t = i
  · subst hi
    by_cases hl : t < n
    · rw [List.getElem?_set_self (by simpa using hl), mat_at hl]
      simp
    · rw [List.getElem?_eq_none (by simpa using hl), List.getElem?_eq_none (by simpa using hl)]
  · rw [List.getElem?_set_ne hi]
    by_cases hl : i < n
    · rw [mat_at hl, mat_at hl]
      have : ¬ i = t := fun z => hi z.symm
      simp [this]
    · rw [List.getElem?_eq_none (by simpa using hl), List.getElem?_eq_none (by simpa using hl)]
section
variable {P : Program} {w : World} {K : PySem.W.Frag} {mg : Str → Option Value} {base : Heap} {T : List NTab}
/-- a def whose code object is c -/
structure DefT (K : PySem.W.Frag) (mg : Str → Option Value) (x : Str) (i : Nat) (ps : List Str) (c : Addr) : Prop where
  ex : ∃ (f : Addr) (fd : FuncData), Fun K x x (topS i) f fd ∧ Binds K fd ps [] ∧ mg x = some (.ref f) ∧ fd.code = .ref c
theorem fnGT {x : Str} {i : Nat} {N ps : List Str} {k : Nat} {c : Addr} {A : List RS → RS → Prop} (D : DefT K mg x i ps c) (S : FnScope N ps (defScope (topS i))) (hl : ∀ as r, A as r → as.length = ps.length)
    (hbody : ∀ (as : List RS) (r : RS), A as r → ∀ (f : Addr) (A : Around) (outer : List Env) (s : Shared) (H : Hp) (E : XK), Room k (A.deeper (envOfC x (defScope (topS i)) s.heap.objs.size f (.ref c))) →
      HS T (cxOf CX0 P w K mg base N x (defScope (topS i)) f (.ref c) A outer s H E).nox (defBody (topS i)) { nx := fun _ => r = .d .none, rt := fun r' => r' = r } (Args0 as N.length)) : FnG P w K mg base T (k + 1) x A := by
  obtain ⟨f, fd, F, hb, hm, hcd⟩ := D.ex
  obtain ⟨oc, od, kV, doc, pm, an, cdv, ct, osl, rfl, lk, hcd2⟩ := F.ex
  have hpl : ps.length ≤ N.length := by have h0 := congrArg List.length S.pre; rw [List.length_take] at h0; omega
  have hc : cdv = .ref c := hcd
  subst hc
  refine ⟨f, _, ps, hm, F.kp, hb, fn_of lk hcd2 S (fun vs H Q E h => ?_) (fun A' outer s H vs Q E hr h => ?_), oc, od, osl, lk⟩
  · obtain ⟨as, r, hA, _, hv, _⟩ := h
    rw [hv.len, hl as r hA]
  · obtain ⟨as, r, hA, ht, hv, q⟩ := h
    obtain ⟨Θ, k0⟩ := ok_start (N := N) ht hv (by rw [hl as r hA]; exact hpl)
    refine ⟨_, pss_w.nox, ?_⟩
    refine (hbody as r hA f A' outer s H E hr H Θ _ H k0).mono (fun σ' H' ⟨Γ', Θ', a, b, c⟩ => ?_) (fun v H' ⟨r', a, b, c⟩ => ?_) (fun _ _ ⟨_, _, z, _⟩ => z.elim) (fun _ _ ⟨_, _, z, _⟩ => z.elim)
    · have a : r = .d .none := a
      subst a
      exact q _ H' c.ext .non
    · have a : r' = r := a
      subst a
      exact q v H' b c
def qRob : Str := "row_of_blocks.<locals>.<lambda>"
theorem sc_rob : FnScope ["table", "first", "second", "size", "rows", "late", "thing", "row", "other", "middle", "lot", "lots"] ["table", "first", "second"] (defScope (topS 18)) := ⟨rfl, rfl, rfl, by decide +kernel, rfl, by decide +kernel, by decide +kernel⟩
def A_rob : List RS → RS → Prop := fun as r => ∃ n f a b, as = [.d (eT n f), .d (eI a), .d (eI b)] ∧ r = .n ((robM n f a b).map eL) ∧ n ≤ 20
theorem enum_rows (n : Nat) (f : Nat → Nat → Nat) : enumD ((List.range n).map fun x => eRow n (f x)) = (List.range n).map fun x => PyData.tuple [eI x, eRow n (f x)] := by
  unfold enumD
  apply List.ext_getElem?
  intro i
  rw [List.getElem?_map, List.getElem?_map, List.getElem?_zipIdx, List.getElem?_map]
  by_cases h : i < n
  · rw [List.getElem?_range h]
    simp
  · rw [List.getElem?_eq_none (by simpa using h)]
    rfl
theorem range_at {n i x : Nat} (h : (List.range n)[i]? = some x) : i = x ∧ i < n := by
  have hil : i < n := by
    have := (List.getElem?_eq_some_iff.mp h).1
    rwa [List.length_range] at this
  rw [List.getElem?_range hil] at h
  exact ⟨Option.some.inj h, hil⟩
theorem ee_cell {X : Cx} {Γ : List Sh} {i n x y : Nat} {L : Nat → Nat → Bool} {nm : Str} {p1 p2 p3 : Pos} {e1 e2 : Expr} (hi : Γ[i]? = some (.ll (matL n L))) (h1 : EE T X e1 Γ (.d (eI x))) (h2 : EE T X e2 Γ (.d (eI y))) (hx : x < n) (hy : y < n) (hN : X.N[i]? = some nm := by rfl)
    (hv : Vis X.env.scope nm := by first | exact Or.inl rfl | exact Or.inr (Or.inl rfl) | exact Or.inr (Or.inr rfl)) (hd : (nm == ("__debug__" : Str)) = false := by decide) (hcd : (nm == ("__classdict__" : Str)) = false := by decide) (hs : PlainIx e1 := by exact fun _ _ => rfl) (hs2 : PlainIx e2 := by exact fun _ _ => rfl) :
    EE T X (.Subscript (.Subscript (.Name nm p1) e1 p2) e2 p3) Γ (.d (.bool (L x y))) :=
  ee_ixL (i := (y : Int)) (atI_range (g := fun y => PyData.bool (L x y)) hy) (ee_pq (ee_llAt hi h1 (mat_at hx) hN hv hd hcd hs)) h2 hs2
theorem ok_rob {c1 P1 : Addr} (D : DefT K mg "row_of_blocks" 18 ["table", "first", "second"] c1) (TB : LamX.TabB base mg c1 P1) (hm : (P1, fun _ _ => qRob) ∈ T) (hu : ∀ p ∈ T, p.1 = P1 → p.2 = fun _ _ => qRob)
    (mr : mg "range" = none) (me : mg "enumerate" = none) (mt : mg "tuple" = none) (ml : mg "len" = none) (ms : mg "sorted" = none) (mi : mg "list" = none) : FnG P w K mg base T 4 "row_of_blocks" A_rob := by
  refine fnGT D sc_rob (fun as r ⟨_, _, _, _, e, _⟩ => by rw [e]; rfl) (fun as r hA f0 A outer s H E hr => ?_)
  obtain ⟨n, f, a, b, rfl, rfl, hn⟩ := hA
  refine hs_cons (h1_asg (ee_v (i := 0) rfl) (eg_pair (i := 3) (j := 4) rfl sc_rob.nd) ?_)
  refine hs_cons (h1_set (i := 5) (ee_lst (ds := []) ea_nil) ?_ rfl sc_rob.nd)
  refine hs_ll (i := 5) rfl ?_
  refine hs_cons (h1_forG (List.range n) (fun x => .tuple [eI x, eRow n (f x)]) (fun x Γ => (Γ.set 6 (.d (eI x))).set 7 (.d (eRow n (f x)))) (by rw [← enum_rows]; exact ei_enumT (ea_cons (ee_v (i := 4) rfl) ea_nil) me) (fun _ _ => eg_pair (i := 6) (j := 7) rfl sc_rob.nd)
    (fun i => [.d (eT n f), .d (eI a), .d (eI b), .d (eI n), .d (eRows n f), .ll ((List.range i).map (rowL n (lateI f a b))), .any, .any, .any, .any, .any, .any]) (Le.refl _) (fun i x hi => ?_) ?_ (fun _ _ _ l => le_set (le_set l)) (fun _ _ l h => hs_le l h))
  · obtain ⟨rfl, hil⟩ := range_at hi
    refine hs_one (h1_appendLL (i := 5) rfl (ee_lc0 (List.range n) eI (fun o => .bool (lateI f a b i o)) 8 (own := [("other", 8)]) rfl sc_rob.nd (blkOk_by (by kernel_rfl)) (ei_rng1 (ea_cons (ee_v (i := 3) rfl) ea_nil) (by omega) mr) (by decide) (fun _ _ _ _ _ => pg_name (i := 8) sc_rob.nd rfl (by first | exact Or.inl rfl | exact Or.inr rfl)) (fun o ho _ _ _ _ _ => ?_) (by rw [List.length_range]; omega)) (by rw [List.length_map, List.length_range]; omega) ?_)
    · have ho := List.mem_range.mp ho
      exact ee_or2 (ee_co (co_neN (ee_ixT (i := (o : Int)) (atI_range (g := fun y => eI (f i y)) ho) (ee_v (i := 7) rfl) (ee_v (i := 8) rfl)) (ee_v (i := 1) rfl))) (fun _ => ee_co (co_neN (ee_look (ee_v (i := 4) rfl) (ee_v (i := 8) rfl) (ee_v (i := 6) rfl) ho hil) (ee_v (i := 2) rfl)))
    · show Le [_, _, _, _, _, .ll ((List.range i).map (rowL n (lateI f a b)) ++ [rowL n (lateI f a b) i]), _, _, _, _, _, _] _
      rw [List.range_succ, List.map_append]
      exact .keep (.keep (.keep (.keep (.keep (.keep (.drop (.drop (.keep (.keep (.keep (.keep .nil)))))))))))
  rw [List.length_range]
  refine hs_cons (h1_forG (List.range n) eI (fun x Γ => Γ.set 9 (.d (eI x))) (ei_rng1 (ea_cons (ee_v (i := 3) rfl) ea_nil) (by omega) mr) (fun _ _ => eg_name (i := 9) sc_rob.nd)
    (fun m => [.d (eT n f), .d (eI a), .d (eI b), .d (eI n), .d (eRows n f), .ll (matL n (warM n (lateI f a b) m)), .any, .any, .any, .any, .any, .any]) (Le.refl _) (fun m x hx => ?_) ?_ (fun _ _ _ l => le_set l) (fun _ _ l h => hs_le l h))
  · obtain ⟨rfl, hml⟩ := range_at hx
    refine hs_one (h1_forG (List.range n) eI (fun x Γ => Γ.set 6 (.d (eI x))) (ei_rng1 (ea_cons (ee_v (i := 3) rfl) ea_nil) (by omega) mr) (fun _ _ => eg_name (i := 6) sc_rob.nd)
      (fun t => [.d (eT n f), .d (eI a), .d (eI b), .d (eI n), .d (eRows n f), .ll (matL n (warT m (warM n (lateI f a b) m) t)), .any, .any, .any, .d (eI m), .any, .any]) (Le.refl _) (fun t x hx => ?_) ?_ (fun _ _ _ l => le_set l) (fun _ _ l h => l.trans h))
    · obtain ⟨rfl, htl⟩ := range_at hx
      refine hs_one (h1_if (x := warT m (warM n (lateI f a b) m) t t m) (et_val (ee_cell (i := 5) rfl (ee_v (i := 6) rfl) (ee_v (i := 9) rfl) htl hml)) (fun h => hs_one ?_) (fun h => hs_nil ?_))
      · refine h1_setLL (i := 5) (j := t) rfl (ee_lc0 (List.range n) eI (fun o => .bool (warT m (warM n (lateI f a b) m) t t o || warT m (warM n (lateI f a b) m) t m o)) 8 (own := [("other", 8)]) rfl sc_rob.nd (blkOk_by (by kernel_rfl)) (ei_rng1 (ea_cons (ee_v (i := 3) rfl) ea_nil) (by omega) mr) (by decide) (fun _ _ _ _ _ => pg_name (i := 8) sc_rob.nd rfl (by first | exact Or.inl rfl | exact Or.inr rfl)) (fun o ho _ _ _ _ _ => ?_) (by rw [List.length_range]; omega)) (ee_v (i := 6) rfl) (by rw [List.length_map, List.length_range]; exact htl) ?_
        · have ho := List.mem_range.mp ho
          exact ee_or2 (ee_cell (i := 5) rfl (ee_v (i := 6) rfl) (ee_v (i := 8) rfl) htl ho) (fun _ => ee_cell (i := 5) rfl (ee_v (i := 9) rfl) (ee_v (i := 8) rfl) hml ho)
        · rw [mat_set m]
          have e : warT m (warM n (lateI f a b) m) (t + 1) = fun x y => if x = t then warT m (warM n (lateI f a b) m) t t y || warT m (warM n (lateI f a b) m) t m y else warT m (warM n (lateI f a b) m) t x y := by
            show (if _ then _ else _) = _
            rw [if_pos h]
          show Le _ [_, _, _, _, _, .ll (matL n (warT m (warM n (lateI f a b) m) (t + 1))), _, _, _, _, _, _]
          rw [e]
          exact .keep (.keep (.keep (.keep (.keep (.keep (.drop (.keep (.keep (.keep (.keep (.keep .nil)))))))))))
      · have e : warT m (warM n (lateI f a b) m) (t + 1) = warT m (warM n (lateI f a b) m) t := by
          show (if _ then _ else _) = _
          rw [if_neg (by rw [h]; exact Bool.false_ne_true)]
        show Le _ [_, _, _, _, _, .ll (matL n (warT m (warM n (lateI f a b) m) (t + 1))), _, _, _, _, _, _]
        rw [e]
        exact .keep (.keep (.keep (.keep (.keep (.keep (.drop (.keep (.keep (.keep (.keep (.keep .nil)))))))))))
    · rw [List.length_range]
      exact .keep (.keep (.keep (.keep (.keep (.keep (.keep (.keep (.keep (.drop (.keep (.keep .nil)))))))))))
  rw [List.length_range]
  have eL0 : warM n (lateI f a b) n = lateM n f a b := rfl
  rw [eL0]
  generalize hL : lateM n f a b = L
  refine hs_cons (h1_dnew (i := 11) ?_ sc_rob.nd)
  refine hs_cons (h1_forG (List.range n) eI (fun x Γ => Γ.set 6 (.d (eI x))) (ei_rng1 (ea_cons (ee_v (i := 3) rfl) ea_nil) (by omega) mr) (fun _ _ => eg_name (i := 6) sc_rob.nd)
    (fun t => [.d (eT n f), .d (eI a), .d (eI b), .d (eI n), .d (eRows n f), .ll (matL n L), .any, .any, .any, .any, .any, .t (eKV (kvN n L t))]) (Le.refl _) (fun t x hx => ?_) ?_ (fun _ _ _ l => le_set l) (fun _ _ l h => hs_le l h))
  · obtain ⟨rfl, htl⟩ := range_at hx
    have kl := kvN_len n L t
    refine hs_cons (h1_setLc (i := 10) (List.range n) eI (inBlock L t) eI 8 (own := [("other", 8)]) rfl sc_rob.nd (blkOk_by (by kernel_rfl)) (ei_rng1 (ea_cons (ee_v (i := 3) rfl) ea_nil) (by omega) mr) (by decide) (fun _ _ _ _ _ => pg_name (i := 8) sc_rob.nd rfl (by first | exact Or.inl rfl | exact Or.inr rfl)) (fun o ho _ _ _ _ _ => ?_) (fun o _ _ _ _ _ _ _ => ee_v (i := 8) rfl) (by rw [List.length_range]; omega) ?_)
    · have ho := List.mem_range.mp ho
      exact ets_one (et_or2 (et_and2 (et_val (ee_cell (i := 5) rfl (ee_v (i := 6) rfl) (ee_v (i := 8) rfl) htl ho)) (fun _ => et_val (ee_cell (i := 5) rfl (ee_v (i := 8) rfl) (ee_v (i := 6) rfl) ho htl))) (fun _ => et_co (co_eqN (ee_v (i := 8) rfl) (ee_v (i := 6) rfl))))
    refine hs_one (h1_dput (i := 11) (lot := blockM n L t) (v := (cntM n L t : Int)) (hr.mono (by decide : 0 ≤ 3)) rfl (ee_cast (ee_lenL (ds := ((List.range n).filter fun o => L t o || decide (o = t)).map eI) (ea_cons (ee_q (ee_lc (List.range n) eI (fun o => L t o || decide (o = t)) eI 8 (own := [("other", 8)]) rfl sc_rob.nd (blkOk_by (by kernel_rfl)) (ei_rng1 (ea_cons (ee_v (i := 3) rfl) ea_nil) (by omega) mr) (by decide) (fun _ _ _ _ _ => pg_name (i := 8) sc_rob.nd rfl (by first | exact Or.inl rfl | exact Or.inr rfl)) (fun o ho _ _ _ _ _ => ?_) (fun o _ _ _ _ _ _ _ => ee_v (i := 8) rfl) (by rw [List.length_range]; omega))) ea_nil) ml) ?_) (ee_tuple (ea_cons (ee_vl (i := 10) rfl) ea_nil) mt) (by rw [List.length_map]; omega) ?_)
    · have ho := List.mem_range.mp ho
      exact ets_one (et_or2 (et_val (ee_cell (i := 5) rfl (ee_v (i := 6) rfl) (ee_v (i := 8) rfl) htl ho)) (fun _ => et_co (co_eqN (ee_v (i := 8) rfl) (ee_v (i := 6) rfl))))
    · rw [List.length_map]; rfl
    · rw [putN_enc]
      exact .keep (.keep (.keep (.keep (.keep (.keep (.drop (.keep (.keep (.keep (.drop (.keep .nil)))))))))))
  rw [List.length_range]
  have ekv : (kvN n L n).map (fun p => eL p.1) = ((kvN n L n).map (·.1)).map eL := by rw [List.map_map]; rfl
  have hk : sortK (keyR (kvN n L n) a b) ((kvN n L n).map fun p => eL p.1) = (robM n f a b).map eL := by
    unfold robM
    rw [hL, ekv]
    unfold sortK
    rw [List.map_mergeSort (s := PySem.W.dataLe false (keyR (kvN n L n) a b))]
    intro x _ y _
    rfl
  have dmem : ∀ d ∈ (kvN n L n).map (fun p => eL p.1), ∃ lot, d = eL lot ∧ lot ∈ (kvN n L n).map (·.1) := fun d hd => by
    rw [ekv] at hd
    obtain ⟨lot, h1, h2⟩ := List.mem_map.mp hd
    exact ⟨lot, h2.symm, h1⟩
  refine hs_one (h1_ret (r := .n ((robM n f a b).map eL)) (ee_cast (ee_sortedK (q := qRob) (js := [1, 11, 2]) (fr := ["first", "lots", "second"]) (p1 := "lot") (N := ["lot", "first", "lots", "second"]) (key := keyR (kvN n L n) a b) (ds := (kvN n L n).map fun p => eL p.1) (kk := 0) hr TB rfl hm (by rfl) hu (ee_q (ee_dkeys (i := 11) rfl rfl mi)) ms (NdefX.nscope_by (by decide +kernel)) (by kernel_rfl) rfl rfl (by decide) (by simp) (fun _ _ _ _ => rfl) (fun d hd d' hd' => ?_) (.inl fun d hd => ?_) (fun d hd => ?_) (fun d hd c' f s H hr' => ?_)) (by rw [hk])) rfl)
  · obtain ⟨d0, h0, rfl⟩ := List.mem_map.mp hd
    obtain ⟨d1, h1, rfl⟩ := List.mem_map.mp hd'
    obtain ⟨l0, rfl, _⟩ := dmem d0 h0
    obtain ⟨l1, rfl, _⟩ := dmem d1 h1
    unfold keyR
    rw [PySem.W.alike, PySem.W.alikeAll, PySem.W.alike, PySem.W.alikeAll, PySem.W.alike, alikeAll_nats, PySem.W.alikeAll]
    rfl
  · obtain ⟨d0, h0, rfl⟩ := List.mem_map.mp hd
    exact ⟨_, _, rfl⟩
  · obtain ⟨l0, rfl, _⟩ := dmem d hd
    unfold keyR
    rw [PyData.depth, PyData.depthAll, PyData.depth, PyData.depthAll, PyData.depth, depthAll_nats, PyData.depthAll]
    decide
  · obtain ⟨lot, rfl, hl⟩ := dmem d hd
    obtain ⟨v, hv1, hv2⟩ := find_key _ _ hl
    refine ee_tup (ds := [.int (if a < b then lookN (kvN n L n) (eL lot) else 0), eL lot]) (ea_cons (ee_if (et_co (co_ltN (ee_v (i := 1) rfl) (ee_v (i := 3) rfl))) (fun h => ?_) (fun h => ?_)) (ea_cons (ee_v (i := 0) rfl) ea_nil))
    · rw [if_pos (of_decide_eq_true h), hv2]
      exact ee_dget (i := 2) hr' rfl (ee_v (i := 0) rfl) hv1
    · rw [if_neg (of_decide_eq_false h)]
      exact ee_int
end
end Pt
set_option maxHeartbeats 8000000
/-! Defs H: top_knot, tree_at, tree_of. -/
namespace Pt
open PySem PySem.Spec PyProof.Rows L2
def kindLs (n : Nat) (f : Nat → Nat → Nat) : List (List Nat) := (List.range' 1 (n - 1)).map fun o => sortN [f 0 o, f o 0]
def tkG (n : Nat) (f : Nat → Nat → Nat) (l : List Nat) : Option (List Nat) := if 1 < (robM n f (l.getD 0 0) (l.getD 1 0)).length then some l else none
def topK (n : Nat) (f : Nat → Nat → Nat) : Option (List Nat) := (kindsOf (kindLs n f)).findSome? (tkG n f)
def topR (n : Nat) (f : Nat → Nat → Nat) (l : List Nat) : Str × PyData × List (List Nat) :=
  if l.getD 0 0 = l.getD 1 0 then ("all", .tuple [eI (l.getD 0 0)], robM n f (l.getD 0 0) (l.getD 1 0)) else ("line", .tuple [eI (l.getD 0 0), eI (l.getD 1 0)], robM n f (l.getD 0 0) (l.getD 1 0))
def topW (n : Nat) (f : Nat → Nat → Nat) : Str × PyData × List (List Nat) := match topK n f with
  | some l => topR n f l
  | none => ("firm", eRows (greatestM n f).length (quoM f (greatestM n f)), greatestM n f)
def resW (x : Str × PyData × List (List Nat)) : RS := .w [.str x.1, x.2.1] (x.2.2.map eL)
structure TopOk (n : Nat) (f : Nat → Nat → Nat) : Prop where
  le : n ≤ 20
  one : ∀ x y, f x y ≤ 1
  piece : topK n f = none → ∀ lot ∈ greatestM n f, (∀ x ∈ lot, x < n) ∧ lot ≠ [] ∧ lot.length ≤ 100 ∧ isPieceM n f lot = true
def treeN : Nat → (Nat → Nat → Nat) → List Nat → PyData
  | 0, _, lot => eI (lot.getD 0 0)
  | k + 1, f, lot => if lot.length = 1 then eI (lot.getD 0 0) else .tuple [.str (topW lot.length (partM f lot)).1, (topW lot.length (partM f lot)).2.1, .tuple ((topW lot.length (partM f lot)).2.2.map fun son => treeN k f (son.map fun p => lot.getD p 0))]
def TreeOk : Nat → Nat → (Nat → Nat → Nat) → List Nat → Prop
  | 0, n, _, lot => lot.length = 1 ∧ ∀ x ∈ lot, x < n
  | k + 1, n, f, lot => (∀ x ∈ lot, x < n) ∧ lot ≠ [] ∧ lot.length ≤ k + 2 ∧ (lot.length ≠ 1 → TopOk lot.length (partM f lot) ∧ (topW lot.length (partM f lot)).2.2.length ≤ lot.length ∧
      ∀ son ∈ (topW lot.length (partM f lot)).2.2, (∀ p ∈ son, p < lot.length) ∧ son.length ≤ 100 ∧ TreeOk k n f (son.map fun p => lot.getD p 0))
def treeTop (n : Nat) (f : Nat → Nat → Nat) : PyData := if n = 0 then .tuple [] else treeN 5 f (List.range n)
theorem sortN_unique {l l' : List Nat} (p : l'.Perm l) (h : l'.Pairwise (· ≤ ·)) : sortN l = l' :=
  List.Perm.eq_of_pairwise (le := fun a b : Nat => a ≤ b) (fun a b _ _ h1 h2 => Nat.le_antisymm h1 h2) (sortN_sorted l) h ((sortN_perm l).trans p.symm)
theorem sort_pair (a b : Nat) : sortN [a, b] = if a ≤ b then [a, b] else [b, a] := by
  by_cases h : a ≤ b
  · rw [if_pos h]
    exact sortN_unique (List.Perm.refl _) (by simp [h])
  · rw [if_neg h]
    exact sortN_unique (List.Perm.swap a b []) (by simp; omega)
theorem sort_bits {a b : Nat} (ha : a ≤ 1) (hb : b ≤ 1) : sortN [a, b] ∈ ([[0, 0], [0, 1], [1, 0], [1, 1]] : List (List Nat)) := by
  have e1 : a = 0 ∨ a = 1 := by omega
  have e2 : b = 0 ∨ b = 1 := by omega
  rw [sort_pair]
  rcases e1 with rfl | rfl <;> rcases e2 with rfl | rfl <;> simp
theorem kinds_pair {ls : List (List Nat)} {l : List Nat} (h : l ∈ kindsOf ls) : ∃ a b, l = [a, b] := by
  have := (List.mem_filter.mp h).1
  simp only [List.mem_cons, List.not_mem_nil, or_false] at this
  rcases this with rfl | rfl | rfl | rfl <;> exact ⟨_, _, rfl⟩
theorem rob_len (n : Nat) (f : Nat → Nat → Nat) (a b : Nat) : (robM n f a b).length ≤ n := by
  unfold robM
  rw [List.length_mergeSort, List.length_map]
  exact kvN_len _ _ _
section
variable {P : Program} {w : World} {K : PySem.W.Frag} {mg : Str → Option Value} {base : Heap} {T : List NTab}
theorem sc_top : FnScope ["table", "size", "rows", "other", "kinds", "first", "second", "lots"] ["table"] (defScope (topS 20)) := ⟨rfl, rfl, rfl, by decide +kernel, rfl, by decide +kernel, by decide +kernel⟩
def A_top : List RS → RS → Prop := fun as r => ∃ n f, as = [.d (eT n f)] ∧ r = resW (topW n f) ∧ TopOk n f
theorem ok_top {t1 t2 t3 : Tok} (D : Def K mg "top_knot" 20 ["table"]) (G : FnG P w K mg base T 4 "row_of_blocks" A_rob) (G2 : FnG P w K mg base T 5 "greatest_lots" A_greatest) (G3 : FnG P w K mg base T 3 "quotient" A_quotient)
    (mr : mg "range" = none) (mt : mg "tuple" = none) (ml : mg "len" = none) (ms : mg "sorted" = none) (mse : mg "set" = none) (m1 : mg "ALL" = some (.str "all" t1)) (m2 : mg "LINE" = some (.str "line" t2)) (m3 : mg "FIRM" = some (.str "firm" t3)) : FnG P w K mg base T 6 "top_knot" A_top := by
  refine fnG D sc_top (fun as r ⟨_, _, e, _⟩ => by rw [e]; rfl) (fun as r hA f0 cdv A outer s H E hr => ?_)
  obtain ⟨n, f, rfl, rfl, ⟨hn, hf, hp⟩⟩ := hA
  refine hs_cons (h1_asg (ee_v (i := 0) rfl) (eg_pair (i := 1) (j := 2) rfl sc_top.nd) ?_)
  have hbits : ∀ l ∈ kindLs n f, l ∈ ([[0, 0], [0, 1], [1, 0], [1, 1]] : List (List Nat)) := fun l hl => by
    obtain ⟨o, _, rfl⟩ := List.mem_map.mp hl
    exact sort_bits (hf _ _) (hf _ _)
  have hkl : (kindLs n f).length < 64 := by
    unfold kindLs
    rw [List.length_map, List.length_range']
    omega
  refine hs_cons (h1_set (i := 4) (ee_sortedSet (ls := kindLs n f) (hr.mono (by decide : 0 ≤ 5)) (ee_q (ee_cast (ee_lc0 (List.range' 1 (n - 1)) eI (fun o => eL (sortN [f 0 o, f o 0])) 3 (own := [("other", 3)]) rfl sc_top.nd (blkOk_by (by kernel_rfl)) (ei_rng2 (lo := 1) (ea_cons (ee_nat (i := 1)) (ea_cons (ee_v (i := 1) rfl) ea_nil)) ⟨by omega, by omega⟩ mr) (by decide) (fun _ _ _ _ _ => pg_name (i := 3) sc_top.nd rfl (by first | exact Or.inl rfl | exact Or.inr rfl)) (fun o ho _ _ _ _ _ => ?_) (by rw [List.length_range']; omega)) (by unfold kindLs; rw [List.map_map]; rfl))) hkl hbits rfl ms mse) ?_ rfl sc_top.nd)
  · have ho := List.mem_range'_1.mp ho
    have ho' : o < n := by omega
    have h0 : 0 < n := by omega
    exact ee_tuple (ea_cons (ee_q (ee_sortedT (l := [f 0 o, f o 0]) (hr.mono (by decide : 0 ≤ 5)) (ea_cons (ee_tup (ds := [eI (f 0 o), eI (f o 0)]) (ea_cons (ee_look (x := 0) (ee_v (i := 2) rfl) (ee_nat (i := 0)) (ee_v (i := 3) rfl) h0 ho') (ea_cons (ee_look (y := 0) (ee_v (i := 2) rfl) (ee_v (i := 3) rfl) (ee_nat (i := 0)) ho' h0) ea_nil))) ea_nil) (by simp) ms)) ea_nil) mt
  refine hs_freeze (i := 4) (xs := (kindsOf (kindLs n f)).map eL) rfl ?_
  refine hs_cons (h1_find (kindsOf (kindLs n f)) eL (tkG n f) (fun l => resW (topR n f l)) (fun l Γ => (Γ.set 5 (.d (eI (l.getD 0 0)))).set 6 (.d (eI (l.getD 1 0)))) (ei_p (ee_vr (i := 4) rfl)) (fun l hl => ?_)
    [.d (eT n f), .d (eI n), .d (eRows n f), .any, .any, .any, .any, .any] (.keep (.keep (.keep (.keep (.drop (.keep (.keep (.keep .nil)))))))) (fun l hl => ?_) (fun l hb => ?_) (fun hb => ?_) (fun _ _ _ l => le_set (le_set l)) (fun _ _ l h => hs_le l h))
  · obtain ⟨a, b, rfl⟩ := kinds_pair hl
    exact eg_pair (i := 5) (j := 6) (d1 := eI a) (d2 := eI b) rfl sc_top.nd
  · obtain ⟨a, b, rfl⟩ := kinds_pair hl
    have rl := rob_len n f a b
    refine hs_cons (h1_set (i := 7) (ee_call G (hr.mono (by decide)) (ea_cons (ee_v (i := 0) rfl) (ea_cons (ee_v (i := 5) rfl) (ea_cons (ee_v (i := 6) rfl) ea_nil))) (.cons rfl (.cons rfl (.cons rfl .nil))) ⟨n, f, a, b, rfl, rfl, hn⟩) ?_ rfl sc_top.nd)
    refine hs_one (h1_if (x := decide (1 < (robM n f a b).length)) (et_co (co_gtN (ee_cast (ee_lenL (ea_cons (ee_vl (i := 7) rfl) ea_nil) ml) (by rw [List.length_map])) (ee_nat (i := 1)))) (fun h => ?_) (fun h => hs_nil ⟨if_neg (of_decide_eq_false h), .keep (.keep (.keep (.keep (.keep (.drop (.drop (.drop .nil)))))))⟩))
    have h := of_decide_eq_true h
    refine hs_one (h1_retO (r := resW (topR n f [a, b])) (eo_if (et_co (co_eqN (ee_v (i := 5) rfl) (ee_v (i := 6) rfl))) (fun z => ?_) (fun z => ?_)) ⟨[a, b], if_pos h, rfl⟩)
    · have z : a = b := of_decide_eq_true z
      have e : resW (topR n f [a, b]) = .w [.str "all", .tuple [eI a]] ((robM n f a b).map eL) := by
        unfold topR
        rw [if_pos (show [a, b].getD 0 0 = [a, b].getD 1 0 from z)]
        rfl
      rw [e]
      exact eo_tup (i := 7) (ee_gstr m1) (ee_tup (ds := [eI a]) (ea_cons (ee_v (i := 5) rfl) ea_nil)) rfl
    · have z : ¬ a = b := of_decide_eq_false z
      have e : resW (topR n f [a, b]) = .w [.str "line", .tuple [eI a, eI b]] ((robM n f a b).map eL) := by
        unfold topR
        rw [if_neg (show ¬ [a, b].getD 0 0 = [a, b].getD 1 0 from z)]
        rfl
      rw [e]
      exact eo_tup (i := 7) (ee_gstr m2) (ee_tup (ds := [eI a, eI b]) (ea_cons (ee_v (i := 5) rfl) (ea_cons (ee_v (i := 6) rfl) ea_nil))) rfl
  · show _ = _
    unfold topW topK
    rw [hb]
  · have gl := greatest_len n f n
    refine hs_cons (h1_set (i := 7) (ee_call G2 (hr.mono (by decide)) (ea_cons (ee_v (i := 0) rfl) ea_nil) (.cons rfl .nil) ⟨n, f, rfl, rfl, by omega⟩) ?_ rfl sc_top.nd)
    have e : resW (topW n f) = .w [.str "firm", eRows (greatestM n f).length (quoM f (greatestM n f))] ((greatestM n f).map eL) := by
      unfold topW topK
      rw [hb]
      rfl
    rw [e]
    exact hs_one (h1_retO (eo_tup (i := 7) (ee_gstr m3) (ee_ixT (i := 1) (d := eRows (greatestM n f).length (quoM f (greatestM n f))) rfl (ee_call G3 (hr.mono (by decide)) (ea_cons (ee_v (i := 0) rfl) (ea_cons (ee_tuple (ea_cons (ee_vl (i := 7) rfl) ea_nil) mt) ea_nil)) (.cons rfl (.cons rfl .nil)) ⟨n, f, greatestM n f, rfl, rfl, hp hb, by omega, Nat.le_trans gl (by omega)⟩) ee_int) rfl) rfl)
/-! tree_at -/
theorem sc_tree : FnScope ["table", "lot", "word", "looks", "sons", "son", "place"] ["table", "lot"] (defScope (topS 21)) := ⟨rfl, rfl, rfl, by decide +kernel, rfl, by decide +kernel, by decide +kernel⟩
def A_tree (k : Nat) : List RS → RS → Prop := fun as r => ∃ n f lot, as = [.d (eT n f), .d (eL lot)] ∧ r = .d (treeN k f lot) ∧ TreeOk k n f lot
theorem getD_at {lot : List Nat} {p : Nat} (h : p < lot.length) : lot[p]? = some (lot.getD p 0) := by
  rw [List.getElem?_eq_getElem h, List.getD_eq_getElem?_getD, List.getElem?_eq_getElem h]
  rfl
theorem ok_tree (D : Def K mg "tree_at" 21 ["table", "lot"]) (G : FnG P w K mg base T 6 "top_knot" A_top) (G2 : FnG P w K mg base T 1 "part" A_part) (mt : mg "tuple" = none) (ml : mg "len" = none) : ∀ k, FnG P w K mg base T (7 + k) "tree_at" (A_tree k)
  | 0 => by
    refine fnG (k := 6) D sc_tree (fun as r ⟨_, _, _, e, _⟩ => by rw [e]; rfl) (fun as r hA f0 cdv A outer s H E hr => ?_)
    obtain ⟨n, f, lot, rfl, rfl, h1, hx⟩ := hA
    exact hs_cons (h1_if (et_co (co_eqN (ee_lenN (ea_cons (ee_v (i := 1) rfl) ea_nil) ml) (ee_nat (i := 1)))) (fun _ => hs_one (h1_ret (ee_atN (i := 0) (getD_at (by omega)) (ee_v (i := 1) rfl) (ee_nat (i := 0))) rfl)) (fun h => absurd h (by simp [h1])))
  | k + 1 => by
    have ih := ok_tree D G G2 mt ml k
    refine fnG (k := 7 + k) D sc_tree (fun as r ⟨_, _, _, e, _⟩ => by rw [e]; rfl) (fun as r hA f0 cdv A outer s H E hr => ?_)
    obtain ⟨n, f, lot, rfl, rfl, hx, hne, hlen, hrest⟩ := hA
    have hpos : 0 < lot.length := List.length_pos_iff.mpr hne
    refine hs_cons (h1_if (et_co (co_eqN (ee_lenN (ea_cons (ee_v (i := 1) rfl) ea_nil) ml) (ee_nat (i := 1)))) (fun h => hs_one (h1_ret (ee_atN (i := 0) (getD_at hpos) (ee_v (i := 1) rfl) (ee_nat (i := 0))) ?_)) (fun h => hs_nil ?_))
    · show _ = _
      rw [treeN, if_pos (of_decide_eq_true h)]
    have h1 : ¬ lot.length = 1 := of_decide_eq_false h
    obtain ⟨tok, tl, ts⟩ := hrest h1
    refine hs_cons (h1_threeW (i := 2) (j := 3) (l := 4) (ee_call G (hr.mono (by omega)) (ea_cons (ee_call G2 (hr.mono (by omega)) (ea_cons (ee_v (i := 0) rfl) (ea_cons (ee_v (i := 1) rfl) ea_nil)) (.cons rfl (.cons rfl .nil)) ⟨n, f, lot, rfl, rfl, hx, by have := tok.le; omega⟩) ea_nil) (.cons rfl .nil) ⟨lot.length, partM f lot, rfl, rfl, tok⟩) ?_ sc_tree.nd)
    rw [treeN, if_neg h1]
    generalize hW : topW lot.length (partM f lot) = W at *
    refine hs_one (h1_ret (ee_tup (ds := [.str W.1, W.2.1, .tuple (W.2.2.map fun son => treeN k f (son.map fun p => lot.getD p 0))]) (ea_cons (ee_v (i := 2) rfl) (ea_cons (ee_v (i := 3) rfl) (ea_cons (ee_tuple (ea_cons (ee_q (ee_lc0 W.2.2 eL (fun son => treeN k f (son.map fun p => lot.getD p 0)) 5 (own := [("son", 5)]) rfl sc_tree.nd (blkOk_by (by kernel_rfl)) (ei_q (ee_vl (i := 4) rfl)) (by decide) (fun _ _ _ _ _ => pg_name (i := 5) sc_tree.nd rfl (by first | exact Or.inl rfl | exact Or.inr rfl)) (fun son hson _ _ _ _ _ => ?_) (by have := tok.le; omega))) ea_nil) mt) ea_nil)))) rfl)
    obtain ⟨s1, s2, s3⟩ := ts son hson
    refine ee_call ih (hr.mono (by omega)) (ea_cons (ee_v (i := 0) rfl) (ea_cons (r := .d (eL (son.map fun p => lot.getD p 0))) (ee_tuple (ea_cons (ee_q (ee_cast (ee_lc0 son eI (fun p => eI (lot.getD p 0)) 6 (own := [("place", 6)]) rfl sc_tree.nd (blkOk_by (by kernel_rfl)) (ei_tup (ee_v (i := 5) rfl)) (by decide) (fun _ _ _ _ _ => pg_name (i := 6) sc_tree.nd rfl (by first | exact Or.inl rfl | exact Or.inr rfl)) (fun p hp _ _ _ _ _ => ?_) (by omega)) (by rw [List.map_map]; rfl))) ea_nil) mt) ea_nil)) (.cons rfl (.cons rfl .nil)) ⟨n, f, _, rfl, rfl, s3⟩
    exact ee_atN (getD_at (s1 p hp)) (ee_v (i := 1) rfl) (ee_v (i := 6) rfl)
/-! tree_of -/
theorem sc_tree_of : FnScope ["table"] ["table"] (defScope (topS 22)) := ⟨rfl, rfl, rfl, by decide +kernel, rfl, by decide +kernel, by decide +kernel⟩
def A_tree_of : List RS → RS → Prop := fun as r => ∃ n f, as = [.d (eT n f)] ∧ r = .d (treeTop n f) ∧ n ≤ 6 ∧ (n ≠ 0 → TreeOk 5 n f (List.range n))
theorem ok_tree_of (D : Def K mg "tree_of" 22 ["table"]) (G : FnG P w K mg base T 12 "tree_at" (A_tree 5)) (mt : mg "tuple" = none) (mr : mg "range" = none) : FnG P w K mg base T 13 "tree_of" A_tree_of := by
  refine fnG D sc_tree_of (fun as r ⟨_, _, e, _⟩ => by rw [e]; rfl) (fun as r hA f0 cdv A outer s H E hr => ?_)
  obtain ⟨n, f, rfl, rfl, hn, ht⟩ := hA
  refine hs_one (h1_ret (ee_if (et_co (co_eqN (ee_size (ee_v (i := 0) rfl)) (ee_nat (i := 0)))) (fun h => ?_) (fun h => ?_)) rfl)
  · refine ee_cast (ee_tup (ds := []) ea_nil) ?_
    unfold treeTop
    rw [if_pos (of_decide_eq_true h)]
  · have h : ¬ n = 0 := of_decide_eq_false h
    unfold treeTop
    rw [if_neg h]
    exact ee_call G (hr.mono (by decide)) (ea_cons (ee_v (i := 0) rfl) (ea_cons (ee_tupRg (ee_size (ee_v (i := 0) rfl)) (by omega) rfl mt mr) ea_nil)) (.cons rfl (.cons rfl .nil)) ⟨n, f, List.range n, rfl, rfl, ht h⟩
end
end Pt
set_option maxHeartbeats 8000000
/-! Defs I: knots. -/
namespace Pt
open PySem PySem.Spec PyProof.Rows L2
/-! ### trees as data -/
def isNode : PyData → Bool
  | .tuple (_ :: _) => true
  | _ => false
def sonsD : PyData → List PyData
  | .tuple [_, _, .tuple s] => s
  | _ => []
def leafD : PyData → Nat
  | .int i => i.toNat
  | _ => 0
def wordS : PyData → Str
  | .tuple (.str w :: _) => w
  | _ => ""
def looksD : PyData → PyData
  | .tuple (_ :: l :: _) => l
  | _ => .none
def Tre : Nat → PyData → Prop
  | 0, d => ∃ x : Nat, d = eI x
  | k + 1, d => (∃ x : Nat, d = eI x) ∨ ∃ w l sons, d = .tuple [.str w, l, .tuple sons] ∧ sons.length ≤ k + 2 ∧ PyData.strOk w = true ∧ l.canLay0 = true ∧ l.depth ≤ 3 ∧ ∀ s ∈ sons, Tre k s
def kbN : Nat → PyData → List PyData
  | 0, _ => []
  | k + 1, d => if isNode d then d :: (sonsD d).flatMap (kbN k) else []
def thN : Nat → PyData → List Nat
  | 0, d => [leafD d]
  | k + 1, d => if isNode d then sortN ((sonsD d).flatMap (thN k)) else [leafD d]
def facN : Nat → Nat
  | 0 => 1
  | k + 1 => (k + 2) * facN k
def kcN : Nat → Nat
  | 0 => 0
  | k + 1 => 1 + (k + 2) * kcN k
def rowK (d : PyData) : PyData := .tuple [eL (thN 5 d), .str (wordS d), looksD d, .tuple ((sonsD d).map fun s => eL (thN 5 s))]
def keyK : PyData → PyData
  | .tuple (.tuple l :: _) => .tuple [eI l.length, .tuple l]
  | _ => .none
def knotsM (n : Nat) (f : Nat → Nat → Nat) : List PyData := sortK keyK ((kbN 5 (treeTop n f)).map rowK)
def hasFirm (n : Nat) (f : Nat → Nat → Nat) : Bool := (kbN 5 (treeTop n f)).any fun d => decide (wordS d = "firm")
theorem flat_mul {α β : Type} {g : α → List β} {m : Nat} {l : List α} (h : ∀ a ∈ l, (g a).length ≤ m) : (l.flatMap g).length ≤ l.length * m := flat_le h
theorem Tre.leaf (k : Nat) (x : Nat) : Tre k (eI x) := by
  cases k with
  | zero => exact ⟨x, rfl⟩
  | succ k => exact .inl ⟨x, rfl⟩
theorem Tre.up : ∀ {k : Nat} {d : PyData}, Tre k d → Tre (k + 1) d
  | 0, _, h => .inl h
  | k + 1, _, h => by
    rcases h with h | ⟨w, l, sons, e, h1, h2, h3, h4, h5⟩
    · exact .inl h
    · exact .inr ⟨w, l, sons, e, by omega, h2, h3, h4, fun s hs => Tre.up (h5 s hs)⟩
theorem th_len : ∀ {k : Nat} {d : PyData}, Tre k d → (thN k d).length ≤ facN k
  | 0, _, _ => Nat.le_refl _
  | k + 1, d, h => by
    unfold thN
    rcases h with ⟨x, rfl⟩ | ⟨w, l, sons, rfl, h1, h2, h3, h4, h5⟩
    · show [x].length ≤ _
      have : 0 < facN k := by
        have : ∀ k, 0 < facN k := fun k => by
          induction k with
          | zero => exact Nat.one_pos
          | succ k ih => exact Nat.mul_pos (by omega) ih
        exact this k
      show 1 ≤ (k + 2) * facN k
      exact Nat.mul_pos (by omega) this
    · show (sortN (sons.flatMap (thN k))).length ≤ _
      rw [sortN_len]
      exact Nat.le_trans (flat_mul (g := thN k) fun s hs => th_len (h5 s hs)) (Nat.mul_le_mul_right _ h1)
theorem kb_len : ∀ {k : Nat} {d : PyData}, Tre k d → (kbN k d).length ≤ kcN k
  | 0, _, _ => Nat.le_refl _
  | k + 1, d, h => by
    unfold kbN
    rcases h with ⟨x, rfl⟩ | ⟨w, l, sons, rfl, h1, h2, h3, h4, h5⟩
    · exact Nat.zero_le _
    · show (_ :: sons.flatMap (kbN k)).length ≤ _
      rw [List.length_cons]
      have := Nat.le_trans (flat_mul (g := kbN k) fun s hs => kb_len (h5 s hs)) (Nat.mul_le_mul_right (kcN k) h1)
      show _ ≤ 1 + (k + 2) * kcN k
      omega
/-- each knot is a node -/
theorem kb_node : ∀ {k : Nat} {d x : PyData}, Tre k d → x ∈ kbN k d → Tre k x ∧ isNode x = true
  | 0, _, _, _, hx => by cases hx
  | k + 1, d, x, h, hx => by
    unfold kbN at hx
    rcases h with ⟨y, rfl⟩ | ⟨w, l, sons, rfl, h1, h2, h3, h4, h5⟩
    · cases hx
    · have hx : x ∈ (PyData.tuple [.str w, l, .tuple sons] :: sons.flatMap (kbN k)) := hx
      rcases List.mem_cons.mp hx with z | z
      · subst z
        exact ⟨.inr ⟨w, l, sons, rfl, h1, h2, h3, h4, h5⟩, rfl⟩
      · obtain ⟨s, hs, hx⟩ := List.mem_flatMap.mp z
        obtain ⟨a, b⟩ := kb_node (h5 s hs) hx
        exact ⟨a.up, b⟩
theorem canAll_iff : ∀ xs : List PyData, (∀ x ∈ xs, x.canLay0 = true) → PyData.canLayAll0 xs = true
  | [], _ => rfl
  | x :: xs, h => by
    rw [PyData.canLayAll0, h x List.mem_cons_self, canAll_iff xs fun y hy => h y (List.mem_cons_of_mem _ hy)]
    rfl
theorem depthAll_le : ∀ (xs : List PyData) (m : Nat), (∀ x ∈ xs, x.depth ≤ m) → PyData.depthAll xs ≤ m
  | [], _, _ => Nat.zero_le _
  | x :: xs, m, h => by
    rw [PyData.depthAll]
    exact Nat.max_le.mpr ⟨h x List.mem_cons_self, depthAll_le xs m fun y hy => h y (List.mem_cons_of_mem _ hy)⟩
theorem tre_lay : ∀ {k : Nat} {d : PyData}, Tre k d → d.canLay0 = true ∧ d.depth ≤ 3 * k + 4
  | 0, _, ⟨x, e⟩ => by subst e; exact ⟨rfl, by rw [PyData.depth]; omega⟩
  | k + 1, d, h => by
    rcases h with ⟨x, rfl⟩ | ⟨w, l, sons, rfl, h1, h2, h3, h4, h5⟩
    · exact ⟨rfl, by rw [PyData.depth]; omega⟩
    · have a := canAll_iff sons fun s hs => (tre_lay (h5 s hs)).1
      have b := depthAll_le sons (3 * k + 4) fun s hs => (tre_lay (h5 s hs)).2
      refine ⟨?_, ?_⟩
      · rw [PyData.canLay0, PyData.canLayAll0, PyData.canLay0, h2, PyData.canLayAll0, h3, PyData.canLayAll0, PyData.canLay0, a, PyData.canLayAll0]; rfl
      · simp only [PyData.depth, PyData.depthAll]
        omega
theorem tre_shaped {k : Nat} {d : PyData} (hk : k ≤ 5) (h : Tre k d) : SeqAt.shaped d = true := by
  have := tre_lay h
  unfold SeqAt.shaped
  rw [this.1, decide_eq_true (by omega)]; rfl
section
variable {P : Program} {w : World} {K : PySem.W.Frag} {mg : Str → Option Value} {base : Heap} {T : List NTab}
/-! lot_key -/
theorem sc_lot_key : FnScope ["lot"] ["lot"] (defScope (topS 24)) := ⟨rfl, rfl, rfl, by decide +kernel, rfl, by decide +kernel, by decide +kernel⟩
def A_lot_key : List RS → RS → Prop := fun as r => ∃ l : List PyData, as = [.d (.tuple l)] ∧ r = .d (.tuple [eI l.length, .tuple l])
theorem ok_lot_key (D : Def K mg "lot_key" 24 ["lot"]) (ml : mg "len" = none) : FnG P w K mg base T 1 "lot_key" A_lot_key := by
  refine fnG D sc_lot_key (fun as r ⟨_, e, _⟩ => by rw [e]; rfl) (fun as r hA f0 cdv A outer s H E hr => ?_)
  obtain ⟨l, rfl, rfl⟩ := hA
  exact hs_one (h1_ret (ee_tup (ds := [eI l.length, .tuple l]) (ea_cons (ee_lenT (ea_cons (ee_v (i := 0) rfl) ea_nil) ml) (ea_cons (ee_v (i := 0) rfl) ea_nil))) rfl)
/-! knots_below -/
theorem sc_kb : FnScope ["tree", "found", "son"] ["tree"] (defScope (topS 25)) := ⟨rfl, rfl, rfl, by decide +kernel, rfl, by decide +kernel, by decide +kernel⟩
def A_kb (k : Nat) : List RS → RS → Prop := fun as r => ∃ d, as = [.d d] ∧ r = .n (kbN k d) ∧ (Tre k d ∨ d = .tuple []) ∧ k ≤ 5
theorem kc_le : ∀ k, k ≤ 5 → kcN k ≤ 600 := by decide
theorem fac_le : ∀ k, k ≤ 5 → facN k ≤ 720 := by decide
theorem take_snoc {α : Type} {l : List α} {i : Nat} {a : α} (h : l[i]? = some a) : l.take (i + 1) = l.take i ++ [a] := by rw [List.take_add_one, h]; rfl
theorem ok_kb (D : Def K mg "knots_below" 25 ["tree"]) (hk : PySem.W.kitOne K (.type "int") (.type "tuple") = some false) (mi : mg "isinstance" = none) (mt : mg "tuple" = none) : ∀ k, FnG P w K mg base T (k + 1) "knots_below" (A_kb k)
  | 0 => by
    refine fnG (k := 0) D sc_kb (fun as r ⟨_, e, _⟩ => by rw [e]; rfl) (fun as r hA f0 cdv A outer s H E hr => ?_)
    obtain ⟨d, rfl, rfl, hd, _⟩ := hA
    rcases hd with ⟨x, rfl⟩ | rfl
    · exact hs_cons (h1_if (et_or2 (y := true) (et_not (et_val (ee_isTup (b := false) (.inr ⟨_, rfl, rfl⟩) (ee_v (i := 0) rfl) hk mi mt))) (fun h => by cases h)) (fun _ => hs_one (h1_ret (ee_lst (ds := []) ea_nil) rfl)) (fun h => by cases h))
    · exact hs_cons (h1_if (et_or2 (et_not (et_val (ee_isTup (b := true) (.inl ⟨_, rfl, rfl⟩) (ee_v (i := 0) rfl) hk mi mt))) (fun _ => et_co (co_eqDD (e := .tuple []) (hr.mono (by decide : 0 ≤ 0)) (ee_v (i := 0) rfl) (ee_tup (ds := []) ea_nil) rfl rfl))) (fun _ => hs_one (h1_ret (ee_lst (ds := []) ea_nil) rfl)) (fun h => by cases h))
  | k + 1 => by
    have ih := ok_kb D hk mi mt k
    refine fnG (k := k + 1) D sc_kb (fun as r ⟨_, e, _⟩ => by rw [e]; rfl) (fun as r hA f0 cdv A outer s H E hr => ?_)
    obtain ⟨d, rfl, rfl, hd, hk5⟩ := hA
    rcases hd with hd | rfl
    · have hsh := tre_shaped hk5 hd
      have hdd := hd
      rcases hd with ⟨x, rfl⟩ | ⟨w, l, sons, rfl, h1, h2, h3, h4, h5⟩
      · exact hs_cons (h1_if (et_or2 (y := true) (et_not (et_val (ee_isTup (b := false) (.inr ⟨_, rfl, rfl⟩) (ee_v (i := 0) rfl) hk mi mt))) (fun h => by cases h)) (fun _ => hs_one (h1_ret (ee_lst (ds := []) ea_nil) rfl)) (fun h => by cases h))
      · refine hs_cons (h1_if (et_or2 (et_not (et_val (ee_isTup (b := true) (.inl ⟨_, rfl, rfl⟩) (ee_v (i := 0) rfl) hk mi mt))) (fun _ => et_co (co_eqDD (e := .tuple []) (hr.mono (by omega : 0 ≤ k + 1)) (ee_v (i := 0) rfl) (ee_tup (ds := []) ea_nil) hsh rfl))) (fun h => by simp [PyData.eqv, PyData.eqvAll] at h) (fun _ => hs_nil ?_))
        have ekb : kbN (k + 1) (.tuple [.str w, l, .tuple sons]) = .tuple [.str w, l, .tuple sons] :: sons.flatMap (kbN k) := rfl
        rw [ekb]
        generalize hdg : PyData.tuple [.str w, l, .tuple sons] = d at *
        have kcb := kc_le (k + 1) hk5
        have kl := kb_len hdd
        rw [ekb, List.length_cons] at kl
        have tl : ∀ i, ((sons.take i).flatMap (kbN k)).length ≤ 600 := fun i => by
          have e0 : sons.flatMap (kbN k) = (sons.take i).flatMap (kbN k) ++ (sons.drop i).flatMap (kbN k) := by rw [← List.flatMap_append, List.take_append_drop]
          rw [e0, List.length_append] at kl
          omega
        refine hs_cons (h1_set (i := 1) (ee_lst (ds := [d]) (ea_cons (ee_v (i := 0) rfl) ea_nil)) ?_ rfl sc_kb.nd)
        refine hs_cons (h1_forG sons id (fun s Γ => Γ.set 2 (.d s)) (by rw [List.map_id]; exact ei_tup (ee_ixT (i := 2) (d := .tuple sons) rfl (ee_cast (ee_v (i := 0) rfl) (by rw [← hdg])) ee_int)) (fun _ _ => eg_name (i := 2) sc_kb.nd)
          (fun i => [.d d, .l (d :: (sons.take i).flatMap (kbN k)), .any]) (Le.refl _) (fun i s hi => ?_) ?_ (fun _ _ _ l => le_set l) (fun _ _ l h => hs_le l h))
        · have hs5 := h5 s (List.mem_of_getElem? hi)
          have t1 := tl i
          have t2 := tl (i + 1)
          have e1 : (sons.take (i + 1)).flatMap (kbN k) = (sons.take i).flatMap (kbN k) ++ kbN k s := by
            rw [take_snoc hi, List.flatMap_append]
            simp
          rw [e1, List.length_append] at t2
          refine hs_one (h1_set (i := 1) (ee_catL (ee_vl (i := 1) rfl) (ee_q (ee_call ih (hr.mono (by omega)) (ea_cons (ee_v (i := 2) rfl) ea_nil) (.cons rfl .nil) ⟨s, rfl, rfl, .inl hs5, by omega⟩)) (by rw [List.length_cons]; omega)) ?_ rfl sc_kb.nd)
          rw [e1]
          exact .keep (.keep (.drop .nil))
        · rw [List.take_length]
          exact hs_one (h1_retL (i := 1) rfl rfl)
    · exact hs_cons (h1_if (et_or2 (et_not (et_val (ee_isTup (b := true) (.inl ⟨_, rfl, rfl⟩) (ee_v (i := 0) rfl) hk mi mt))) (fun _ => et_co (co_eqDD (e := .tuple []) (hr.mono (by omega : 0 ≤ k + 1)) (ee_v (i := 0) rfl) (ee_tup (ds := []) ea_nil) rfl rfl))) (fun _ => hs_one (h1_ret (ee_lst (ds := []) ea_nil) rfl)) (fun h => by cases h))
/-! things_of -/
theorem sc_th : FnScope ["tree", "things", "son"] ["tree"] (defScope (topS 26)) := ⟨rfl, rfl, rfl, by decide +kernel, rfl, by decide +kernel, by decide +kernel⟩
def A_th (k : Nat) : List RS → RS → Prop := fun as r => ∃ d, as = [.d d] ∧ r = .d (eL (thN k d)) ∧ Tre k d ∧ k ≤ 5
theorem ok_th (D : Def K mg "things_of" 26 ["tree"]) (hk : PySem.W.kitOne K (.type "int") (.type "tuple") = some false) (mi : mg "isinstance" = none) (mt : mg "tuple" = none) (ms : mg "sorted" = none) : ∀ k, FnG P w K mg base T (k + 1) "things_of" (A_th k)
  | 0 => by
    refine fnG (k := 0) D sc_th (fun as r ⟨_, e, _⟩ => by rw [e]; rfl) (fun as r hA f0 cdv A outer s H E hr => ?_)
    obtain ⟨d, rfl, rfl, ⟨x, rfl⟩, _⟩ := hA
    exact hs_cons (h1_if (et_not (et_val (ee_isTup (b := false) (.inr ⟨_, rfl, rfl⟩) (ee_v (i := 0) rfl) hk mi mt))) (fun _ => hs_one (h1_ret (ee_tup (ds := [eI x]) (ea_cons (ee_v (i := 0) rfl) ea_nil)) rfl)) (fun h => by cases h))
  | k + 1 => by
    have ih := ok_th D hk mi mt ms k
    refine fnG (k := k + 1) D sc_th (fun as r ⟨_, e, _⟩ => by rw [e]; rfl) (fun as r hA f0 cdv A outer s H E hr => ?_)
    obtain ⟨d, rfl, rfl, hd, hk5⟩ := hA
    have hdd := hd
    rcases hd with ⟨x, rfl⟩ | ⟨w, l, sons, rfl, h1, h2, h3, h4, h5⟩
    · exact hs_cons (h1_if (et_not (et_val (ee_isTup (b := false) (.inr ⟨_, rfl, rfl⟩) (ee_v (i := 0) rfl) hk mi mt))) (fun _ => hs_one (h1_ret (ee_tup (ds := [eI x]) (ea_cons (ee_v (i := 0) rfl) ea_nil)) rfl)) (fun h => by cases h))
    · refine hs_cons (h1_if (et_not (et_val (ee_isTup (b := true) (.inl ⟨_, rfl, rfl⟩) (ee_v (i := 0) rfl) hk mi mt))) (fun h => by cases h) (fun _ => hs_nil ?_))
      have eth : thN (k + 1) (.tuple [.str w, l, .tuple sons]) = sortN (sons.flatMap (thN k)) := rfl
      rw [eth]
      have fl := fac_le (k + 1) hk5
      have kl := th_len hdd
      rw [eth, sortN_len] at kl
      generalize hdg : PyData.tuple [.str w, l, .tuple sons] = d at *
      have tl : ∀ i, ((sons.take i).flatMap (thN k)).length ≤ 720 := fun i => by
        have e0 : sons.flatMap (thN k) = (sons.take i).flatMap (thN k) ++ (sons.drop i).flatMap (thN k) := by rw [← List.flatMap_append, List.take_append_drop]
        rw [e0, List.length_append] at kl
        omega
      refine hs_cons (h1_set (i := 1) (ee_lst (ds := []) ea_nil) ?_ rfl sc_th.nd)
      refine hs_cons (h1_forG sons id (fun s Γ => Γ.set 2 (.d s)) (by rw [List.map_id]; exact ei_tup (ee_ixT (i := 2) (d := .tuple sons) rfl (ee_cast (ee_v (i := 0) rfl) (by rw [← hdg])) ee_int)) (fun _ _ => eg_name (i := 2) sc_th.nd)
        (fun i => [.d d, .l (((sons.take i).flatMap (thN k)).map eI), .any]) (Le.refl _) (fun i s hi => ?_) ?_ (fun _ _ _ l => le_set l) (fun _ _ l h => hs_le l h))
      · have hs5 := h5 s (List.mem_of_getElem? hi)
        have t1 := tl i
        have t2 := tl (i + 1)
        have e1 : (sons.take (i + 1)).flatMap (thN k) = (sons.take i).flatMap (thN k) ++ thN k s := by
          rw [take_snoc hi, List.flatMap_append]
          simp
        rw [e1, List.length_append] at t2
        refine hs_one (h1_extendT (i := 1) (ys := (thN k s).map eI) rfl (ea_cons (ee_call ih (hr.mono (by omega)) (ea_cons (ee_v (i := 2) rfl) ea_nil) (.cons rfl .nil) ⟨s, rfl, rfl, hs5, by omega⟩) ea_nil) (by rw [List.length_map, List.length_map]; omega) ?_)
        rw [e1, List.map_append]
        exact .keep (.keep (.drop .nil))
      · rw [List.take_length]
        exact hs_one (h1_ret (ee_tuple (ea_cons (ee_q (ee_sortedL (l := sons.flatMap (thN k)) (hr.mono (by omega : 0 ≤ k + 1)) (ea_cons (ee_vl (i := 1) rfl) ea_nil) (by omega) ms)) ea_nil) mt) rfl)
/-! knots -/
def qKnots : Str := "knots.<locals>.<lambda>"
theorem sc_knots : FnScope ["table", "found", "knot", "son"] ["table"] (defScope (topS 27)) := ⟨rfl, rfl, rfl, by decide +kernel, rfl, by decide +kernel, by decide +kernel⟩
def A_knots : List RS → RS → Prop := fun as r => ∃ n f, as = [.d (eT n f)] ∧ r = .d (.tuple (knotsM n f)) ∧ n ≤ 6 ∧ (n ≠ 0 → TreeOk 5 n f (List.range n) ∧ Tre 5 (treeTop n f))
theorem node_form {d : PyData} (h : Tre 5 d) (hn : isNode d = true) : ∃ w l sons, d = .tuple [.str w, l, .tuple sons] ∧ sons.length ≤ 6 ∧ ∀ s ∈ sons, Tre 5 s := by
  rcases h with ⟨x, rfl⟩ | ⟨w, l, sons, rfl, h1, h2, h3, h4, h5⟩
  · cases hn
  · exact ⟨w, l, sons, rfl, h1, fun s hs => (h5 s hs).up⟩
set_option maxHeartbeats 16000000 in
theorem ok_knots {c2 P2 : Addr} (D : DefT K mg "knots" 27 ["table"] c2) (TB : LamX.TabB base mg c2 P2) (hm : (P2, fun _ _ => qKnots) ∈ T) (hu : ∀ p ∈ T, p.1 = P2 → p.2 = fun _ _ => qKnots)
    (G : FnG P w K mg base T 13 "tree_of" A_tree_of) (G2 : FnG P w K mg base T 6 "knots_below" (A_kb 5)) (G3 : FnG P w K mg base T 6 "things_of" (A_th 5)) (G4 : FnG P w K mg base T 1 "lot_key" A_lot_key)
    (mt : mg "tuple" = none) (ms : mg "sorted" = none) : FnG P w K mg base T 14 "knots" A_knots := by
  refine fnGT D sc_knots (fun as r ⟨_, _, e, _⟩ => by rw [e]; rfl) (fun as r hA f0 A outer s H E hr => ?_)
  obtain ⟨n, f, rfl, rfl, hn, ht⟩ := hA
  have hd : Tre 5 (treeTop n f) ∨ treeTop n f = .tuple [] := by
    by_cases h0 : n = 0
    · right
      unfold treeTop
      rw [if_pos h0]
    · exact .inl (ht h0).2
  have hall : ∀ x ∈ kbN 5 (treeTop n f), Tre 5 x ∧ isNode x = true := fun x hx => by
    rcases hd with z | z
    · exact kb_node z hx
    · rw [z] at hx
      cases hx
  have hlen : (kbN 5 (treeTop n f)).length ≤ 600 := by
    rcases hd with z | z
    · exact Nat.le_trans (kb_len z) (kc_le 5 (by decide))
    · rw [z]; exact Nat.zero_le _
  generalize hKB : kbN 5 (treeTop n f) = KB at *
  refine hs_cons (h1_set (i := 1) (ee_lst (ds := []) ea_nil) ?_ rfl sc_knots.nd)
  refine hs_cons (h1_forG KB id (fun s Γ => Γ.set 2 (.d s)) (by rw [List.map_id]; exact ei_n (ee_cast (ee_call G2 (hr.mono (by decide)) (ea_cons (ee_call G (hr.mono (by decide)) (ea_cons (ee_v (i := 0) rfl) ea_nil) (.cons rfl .nil) ⟨n, f, rfl, rfl, hn, fun h => (ht h).1⟩) ea_nil) (.cons rfl .nil) ⟨treeTop n f, rfl, rfl, hd, by decide⟩) (by rw [hKB]))) (fun _ _ => eg_name (i := 2) sc_knots.nd)
    (fun i => [.d (eT n f), .l ((KB.take i).map rowK), .any, .any]) (Le.refl _) (fun i d hi => ?_) ?_ (fun _ _ _ l => le_set l) (fun _ _ l h => hs_le l h))
  · obtain ⟨d1, d2⟩ := hall d (List.mem_of_getElem? hi)
    obtain ⟨w, l, sons, hdeq, hsl, hss⟩ := node_form d1 d2
    have er : rowK d = .tuple [eL (thN 5 d), .str w, l, .tuple (sons.map fun s => eL (thN 5 s))] := by rw [hdeq]; rfl
    have hil := (List.getElem?_eq_some_iff.mp hi).1
    refine hs_one (h1_append (i := 1) rfl (ea_cons (r := .d (rowK d)) ?_ ea_nil) (by rw [List.length_map, List.length_take]; omega) ?_)
    · rw [er]
      show EE T _ _ [.d (eT n f), .l ((KB.take i).map rowK), .d d, .any] _
      refine ee_tup (ds := [eL (thN 5 d), .str w, l, .tuple (sons.map fun s => eL (thN 5 s))]) (ea_cons (ee_call G3 (hr.mono (by decide)) (ea_cons (ee_v (i := 2) rfl) ea_nil) (.cons rfl .nil) ⟨d, rfl, rfl, d1, by decide⟩) ?_)
      subst hdeq
      refine ea_cons (ee_ixT (i := 0) (d := .str w) rfl (ee_v (i := 2) rfl) ee_int) (ea_cons (ee_ixT (i := 1) (d := l) rfl (ee_v (i := 2) rfl) ee_int) (ea_cons ?_ ea_nil))
      refine ee_tuple (ea_cons (ee_q (ee_lc0 sons id (fun s => eL (thN 5 s)) 3 (own := [("son", 3)]) rfl sc_knots.nd (blkOk_by (by kernel_rfl)) (by rw [List.map_id]; exact ei_tup (ee_ixT (i := 2) (d := .tuple sons) rfl (ee_v (i := 2) rfl) ee_int)) (by decide) (fun _ _ _ _ _ => pg_name (i := 3) sc_knots.nd rfl (by first | exact Or.inl rfl | exact Or.inr rfl)) (fun s hs _ _ _ _ _ => ?_) (by omega))) ea_nil) mt
      exact ee_call G3 (hr.mono (by decide)) (ea_cons (ee_v (i := 3) rfl) ea_nil) (.cons rfl .nil) ⟨s, rfl, rfl, hss s hs, by decide⟩
    · rw [take_snoc hi, List.map_append]
      exact .keep (.keep (.drop (.keep .nil)))
  · rw [List.take_length]
    have row_of : ∀ r ∈ KB.map rowK, ∃ d, r = rowK d ∧ d ∈ KB := fun r hr => by
      obtain ⟨d, h1, h2⟩ := List.mem_map.mp hr
      exact ⟨d, h2.symm, h1⟩
    refine hs_one (h1_ret (r := .d (.tuple (knotsM n f))) (ee_cast (ee_tuple (ea_cons (ee_q (ee_sortedK (q := qKnots) (js := []) (fr := []) (p1 := "knot") (N := ["knot"]) (key := keyK) (ds := KB.map rowK) (kk := 10) hr TB rfl hm (by rfl) hu (ee_vl (i := 1) rfl) ms (NdefX.nscope_by (by decide +kernel)) (by kernel_rfl) rfl rfl (by decide) (by simp) (fun _ _ _ _ => rfl) (fun d hd d' hd' => ?_) (.inl fun d hd => ?_) (fun d hd => ?_) (fun d hd c' f' s H hr' => ?_))) ea_nil) mt) (by unfold knotsM; rw [hKB])) rfl)
    · obtain ⟨r0, h0, rfl⟩ := List.mem_map.mp hd
      obtain ⟨r1, h1, rfl⟩ := List.mem_map.mp hd'
      obtain ⟨d0, rfl, _⟩ := row_of r0 h0
      obtain ⟨d1, rfl, _⟩ := row_of r1 h1
      unfold rowK keyK
      rw [PySem.W.alike, PySem.W.alikeAll, PySem.W.alike, PySem.W.alikeAll, PySem.W.alike, alikeAll_nats, PySem.W.alikeAll]
      rfl
    · obtain ⟨r0, h0, rfl⟩ := List.mem_map.mp hd
      obtain ⟨d0, rfl, _⟩ := row_of r0 h0
      exact ⟨_, _, rfl⟩
    · obtain ⟨d0, rfl, _⟩ := row_of d hd
      unfold rowK keyK
      rw [PyData.depth, PyData.depthAll, PyData.depth, PyData.depthAll, PyData.depth, depthAll_nats, PyData.depthAll]
      decide
    · obtain ⟨d0, rfl, _⟩ := row_of d hd
      have ek : keyK (rowK d0) = .tuple [eI ((thN 5 d0).map eI).length, eL (thN 5 d0)] := rfl
      rw [ek]
      exact ee_call G4 (hr'.mono (by decide)) (ea_cons (ee_ixT (i := 0) (d := eL (thN 5 d0)) rfl (ee_v (i := 0) rfl) ee_int) ea_nil) (.cons rfl .nil) ⟨_, rfl, rfl⟩
/-! _law_has_firm -/
theorem sc_has_firm : FnScope ["_law_table", "_law_own"] ["_law_table"] (defScope (topS 51)) := ⟨rfl, rfl, rfl, by decide +kernel, rfl, by decide +kernel, by decide +kernel⟩
def A_has_firm : List RS → RS → Prop := fun as r => ∃ n f, as = [.d (eT n f)] ∧ r = .d (.bool (hasFirm n f)) ∧ n ≤ 6 ∧ (n ≠ 0 → TreeOk 5 n f (List.range n) ∧ Tre 5 (treeTop n f))
theorem co_neL {X : Cx} {Γ : List Sh} {a b : Expr} {k : Nat} {l m : List Nat} (hr : Room k X.A) (ha : EE T X a Γ (.q (l.map eI))) (hb : EE T X b Γ (.q (m.map eI))) : CO T X .NotEq a b Γ (!decide (l = m)) := ⟨_, op_neD (by have := room64 hr; omega), fun H0 Θ σ H kk Q q =>
  ha H0 Θ σ H kk _ fun v H2 e2 ⟨p, e, hv⟩ => hb H0 Θ σ H2 (kk.mono e2) _ fun w H3 e3 ⟨p2, e', hw⟩ => by
    subst e e'
    exact ⟨_, _, ls_dp (hv.ext e3), ls_dp hw, shaped_L l, shaped_L m, by rw [PyData.eqv, eqvAll_nats]; exact q H3 (e2.trans e3)⟩⟩
theorem ok_has_firm (D : Def K mg "_law_has_firm" 51 ["_law_table"]) (G : FnG P w K mg base T 14 "knots" A_knots) : FnG P w K mg base T 15 "_law_has_firm" A_has_firm := by
  refine fnG D sc_has_firm (fun as r ⟨_, _, e, _⟩ => by rw [e]; rfl) (fun as r hA f0 cdv A outer s H E hr => ?_)
  obtain ⟨n, f, rfl, rfl, hn, ht⟩ := hA
  have hd : Tre 5 (treeTop n f) ∨ treeTop n f = .tuple [] := by
    by_cases h0 : n = 0
    · right
      unfold treeTop
      rw [if_pos h0]
    · exact .inl (ht h0).2
  have hlen : (kbN 5 (treeTop n f)).length ≤ 600 := by
    rcases hd with z | z
    · exact Nat.le_trans (kb_len z) (kc_le 5 (by decide))
    · rw [z]; exact Nat.zero_le _
  have mem : ∀ r, r ∈ knotsM n f ↔ ∃ d ∈ kbN 5 (treeTop n f), rowK d = r := fun r => by
    unfold knotsM sortK
    rw [(List.mergeSort_perm _ _).mem_iff, List.mem_map]
  have klen : (knotsM n f).length ≤ 600 := by
    unfold knotsM sortK
    rw [List.length_mergeSort, List.length_map]
    exact hlen
  have ew : ∀ r ∈ knotsM n f, ∃ d, r = rowK d ∧ d ∈ kbN 5 (treeTop n f) := fun r hr => by
    obtain ⟨d, h1, h2⟩ := (mem r).mp hr
    exact ⟨d, h2.symm, h1⟩
  let F : PyData → Bool := fun r => match r with
    | .tuple (_ :: .str w :: _) => decide (w = "firm")
    | _ => false
  have hF : ∀ d, F (rowK d) = decide (wordS d = "firm") := fun d => rfl
  refine hs_one (h1_ret (ee_co (co_neL (l := ((knotsM n f).filter F).map fun _ => 1) (m := []) (hr.mono (by decide : 0 ≤ 14)) (ee_q (ee_cast (ee_lc (knotsM n f) id F (fun _ => eI 1) 1 (own := [("_law_own", 1)]) rfl sc_has_firm.nd (blkOk_by (by kernel_rfl)) (by rw [List.map_id]; exact ei_tup (ee_call G (hr.mono (by decide)) (ea_cons (ee_v (i := 0) rfl) ea_nil) (.cons rfl .nil) ⟨n, f, rfl, rfl, hn, ht⟩)) (by decide) (fun _ _ _ _ _ => pg_name (i := 1) sc_has_firm.nd rfl (by first | exact Or.inl rfl | exact Or.inr rfl)) (fun r hr' _ _ _ _ _ => ?_) (fun r _ _ _ _ _ _ _ => ee_nat (i := 1)) (by omega)) (by rw [List.map_map]; rfl))) (ee_q (ee_lst (ds := []) ea_nil)))) ?_)
  · obtain ⟨d, rfl, _⟩ := ew r hr'
    refine ets_one (et_cast (et_co (co_eqS (i := wordS d) (j := "firm") (ee_ixT (i := 1) (d := .str (wordS d)) rfl (ee_v (i := 1) rfl) ee_int) ee_str)) (hF d).symm)
  · have e : hasFirm n f = !decide (((knotsM n f).filter F).map (fun _ => 1) = []) := by
      unfold hasFirm
      rw [Bool.eq_iff_iff, List.any_eq_true]
      constructor
      · rintro ⟨d, hd', hw⟩
        have : rowK d ∈ (knotsM n f).filter F := List.mem_filter.mpr ⟨(mem _).mpr ⟨d, hd', rfl⟩, by rw [hF]; exact hw⟩
        cases hfl : (knotsM n f).filter F with
        | nil => rw [hfl] at this; cases this
        | cons a b => simp
      · intro h
        cases hfl : (knotsM n f).filter F with
        | nil => rw [hfl] at h; simp at h
        | cons a b =>
          have ha : a ∈ (knotsM n f).filter F := by rw [hfl]; exact List.mem_cons_self
          obtain ⟨h1, h2⟩ := List.mem_filter.mp ha
          obtain ⟨d, rfl, hd'⟩ := ew a h1
          rw [hF] at h2
          exact ⟨d, hd', h2⟩
    show _ = _
    rw [e]
end
end Pt
set_option maxHeartbeats 4000000
/-! Layer P: defs that look at no guard (repr under nothing). -/
namespace Pt
open PySem PySem.Spec PyProof.Rows L2
/-- a def that may be called where no repr is under way -/
structure FnGg (P : Program) (w : World) (K : PySem.W.Frag) (mg : Str → Option Value) (base : Heap) (T : List NTab) (k : Nat) (x : Str) (A : List RS → RS → Prop) : Prop where
  ex : ∃ (f : Addr) (fd : FuncData) (ps : List Str), mg x = some (.ref f) ∧ PySem.W.keepIn K (.ref f) = true ∧ Binds K fd ps [] ∧ (∀ as r, A as r → as.length = ps.length) ∧
    ∀ (B : Around) (outer : List Env) (s : Shared) (H : Hp) (args : Args) (us : List Value) (vs : List V) (Q : VK), B.guards = some [] → Room k B → Env0 P w K mg base B outer s H → BindsTo s fd args (ps.zip us) → Vals vs us → spG T A vs H Q E0 →
      codeAny (model P w) B (.call (.ref f) args) (CR CX0 outer P w H s Q E0) s
theorem FnG.g {P : Program} {w : World} {K : PySem.W.Frag} {mg : Str → Option Value} {base : Heap} {T : List NTab} {k : Nat} {x : Str} {A : List RS → RS → Prop} (F : FnG P w K mg base T k x A) (hl : ∀ as r, A as r → ∀ f fd ps, mg x = some (.ref f) → Binds K fd ps [] → as.length = ps.length) : FnGg P w K mg base T k x A := by
  obtain ⟨f, fd, ps, hm, hk, hb, G, _⟩ := F.ex
  exact ⟨f, fd, ps, hm, hk, hb, fun as r h => hl as r h f fd ps hm hb, fun B outer s H args us vs Q _ hr e0 hbt rv h => G.run B outer s H args us vs Q E0 hr e0 hbt rv h⟩
section
variable {P : Program} {w : World} {K : PySem.W.Frag} {mg : Str → Option Value} {base : Heap} {T : List NTab}
theorem fnGg {x : Str} {i : Nat} {N ps : List Str} {k : Nat} {A : List RS → RS → Prop} (D : Def K mg x i ps) (S : FnScope N ps (defScope (topS i))) (hl : ∀ as r, A as r → as.length = ps.length)
    (hbody : ∀ (as : List RS) (r : RS), A as r → ∀ (f : Addr) (cdv : Value) (B : Around) (outer : List Env) (s : Shared) (H : Hp), B.guards = some [] → Room k (B.deeper (envOfC x (defScope (topS i)) s.heap.objs.size f cdv)) →
      HS T (cxOf CX0 P w K mg base N x (defScope (topS i)) f cdv B outer s H E0).nox (defBody (topS i)) { nx := fun _ => r = .d .none, rt := fun r' => r' = r } (Args0 as N.length)) : FnGg P w K mg base T (k + 1) x A := by
  obtain ⟨f, fd, F, hb, hm⟩ := D.ex
  obtain ⟨o1, o2, kV, o3, o4, o5, cdv, o6, o7, rfl, look, isCode⟩ := F.ex
  have short : ps.length ≤ N.length := by have := congrArg List.length S.pre; rw [List.length_take] at this; omega
  refine ⟨f, _, ps, hm, F.kp, hb, hl, fun B outer s H args us vs Q hgd hr e0 hbt vals hsp => ?_⟩
  obtain ⟨as, r, hA, ht, hv, z0⟩ := hsp
  have kin : K.In s.heap := e0.mod.kin.keeps fun b o e => (e0.bs b o e).1
  have noLim : s.heap.NoLimit := e0.mod.nolimit.keeps fun b o e => (e0.bs b o e).1
  have hkind : ∀ y ∈ ps.zip us, (defScope (topS i)).names.lookup y.1 = some .local ∨ ((defScope (topS i)).names.lookup y.1 = some .cell ∧ ((cellsFrom (s.heap.objs.size + 1) (defScope (topS i)).names []).lookup y.1).isSome = true) := fun ⟨n, v⟩ inZ => by
    rcases S.par n (List.of_mem_zip inZ).1 with z0 | z0
    · exact .inl z0
    · exact .inr ⟨z0, PySem.W.cellsFrom_some _ _ _ (.inl z0)⟩
  have hlv : vs.length = ps.length := by rw [hv.len, hl as r hA]
  refine codeAny_call_function hr.depth (kin _ _ look) rfl S.co S.gen rfl (PySem.W.codeRec_of kin isCode) (hbt _ _ _ _ ?_)
  refine wpAny_newFunctionEnv_cells S.kind hkind fun env he s1 x1 => ?_
  subst he
  refine ⟨noLim.keeps x1.toInCall.keep, codeAny_func ?_⟩
  obtain ⟨Θ, k0⟩ := ok_start (N := N) ht hv (by rw [hl as r hA]; exact short)
  have hq := hbody as r hA f cdv B outer s H hgd (hr.deeper _) H Θ _ H k0
  have tk : PSs (cxOf CX0 P w K mg base N x (defScope (topS i)) f cdv B outer s H E0) (defBody (topS i)) _ := pss_w.nox
  have I : Inv (cxOf CX0 P w K mg base N x (defScope (topS i)) f cdv B outer s H E0) [] (start N vs) H s1 := inv_start S hr.hd e0 hlv vals x1
  refine wpAny_mono (tk.run [] s1 (start N vs) H _ I hq) (fun fl s' hs => ?_) fun e s' hs => hs
  have fin : ∀ {σ' : L2.St} {H' : Hp} {v : V} {u : Value}, Inv (cxOf CX0 P w K mg base N x (defScope (topS i)) f cdv B outer s H E0) [] σ' H' s' → L2.RelV v u → Q v H' → CE outer P w H s Q u s' :=
    fun {σ' H' v u} Jv vals z0 => ⟨v, H', Jv.os, Jv.bare, Jv.base, Jv.hok, vals, z0⟩
  cases fl with
  | ret u =>
    obtain ⟨v, σ', H', Jv, rv', r', a, b, c⟩ := hs
    have a : r' = r := a
    subst a
    exact fin Jv rv' (z0 v H' b c)
  | next =>
    obtain ⟨σ', H', Jv, Γ', Θ', a, b, c⟩ := hs
    have a : r = .d .none := a
    subst a
    exact fin (v := V.non) (u := Value.none) Jv rfl (z0 _ H' c.ext .non)
  | brk =>
    obtain ⟨_, _, _, _, _, z, _⟩ := hs
    exact False.elim z
  | cont =>
    obtain ⟨_, _, _, _, _, z, _⟩ := hs
    exact False.elim z
end
section
variable {T : List NTab} {X : Cx} {Γ : List Sh} {a b c e : Expr} {pos : Pos}
theorem ee_callg {x : Str} {p : Pos} {es : List Expr} {rs as : List RS} {r : RS} {k : Nat} {A : List RS → RS → Prop} (F : FnGg X.prog X.w X.K X.mg X.base T k x A) (hr : Room k X.A) (hgd : X.A.guards = some []) (ha : EA T X (a :: es) Γ rs) (hp : Paired Arg rs as) (hA : A as r)
    (hg : Gl X x := by rfl) (hd : (x == ("__debug__" : Str)) = false := by decide) (he : starEach (a :: es) X.env = (false, eval a X.env) :: starEach es X.env := by rfl) (hpl : (backTo pos (starEach es X.env)).any (·.1) = false := by rfl) :
    EE T X (.Call (.Name x p) (a :: es) [] pos) Γ r := fun H0 Θ σ H kk Q q => by
  obtain ⟨f, fd, ps, hm, hk, hb, hlen, G⟩ := F.ex
  intro pins s I
  refine wpAny_Call_Name_kw ?_
  refine ld_glob I hg hm ?_ hd
  refine PySem.W.callWith_K (h₀ := X.base) I.ok.mod.kin hk (thn (ha H0 Θ σ H kk (fun vs H2 => Ext T H H2 ∧ RsAll Θ H H2 rs vs) (fun vs H2 a b => ⟨a, b⟩) pos pins s I) fun us s1 ⟨vs, H1, I1, rv, e2, hv⟩ => ⟨I1.kIn, ?_⟩) he hpl
  have hargs := args_q hv hp e2 kk.pins
  have hl : us.length = ps.length := by rw [← rv.length, hargs.len, hlen _ _ hA]
  refine wpAny_call (codeAny_mono (G X.A X.stack s1 H1 ⟨us, []⟩ us vs (fun v H3 => Ext T H1 H3 ∧ RsOk [] H1 H3 r v) hgd hr I1.env0 (by have := hb s1 us I1.kIn (by rw [List.append_nil]; exact hl); rwa [List.append_nil] at this) rv ⟨as, r, hA, e2.tabs kk.tabs, hargs, fun v H3 a b => ⟨a, b⟩⟩) fun r' s' hq => ?_)
  cases r' with
  | error e => exact hq.elim
  | ok fl =>
    cases fl with
    | ret u =>
      obtain ⟨v, H3, I3, rv', e3, o3⟩ := I1.after hq
      exact ⟨v, H3, I3, rv', q v H3 (e2.trans e3) (rs_nil (o3.back e2))⟩
    | next => exact False.elim hq
    | brk => exact False.elim hq
    | cont => exact False.elim hq
end
end Pt
set_option maxHeartbeats 4000000
/-! Math A: an order without a twist splits. -/
namespace Pt
/-- the order r on the listed things has a twist -/
def Tw (r : Nat → Nat → Prop) (l : List Nat) : Prop := ∃ a b c d, [a, b, c, d].Sublist l ∧ ((r b d ∧ r d a ∧ r a c) ∨ (r c a ∧ r a d ∧ r d b))
structure Tot (r : Nat → Nat → Prop) (l : List Nat) : Prop where
  tot : ∀ x ∈ l, ∀ y ∈ l, x ≠ y → r x y ∨ r y x
  trans : ∀ x y z, r x y → r y z → r x z
  irr : ∀ x, ¬ r x x
theorem Tw.flip {r : Nat → Nat → Prop} {l : List Nat} (h : Tw (fun x y => r y x) l) : Tw r l := by
  obtain ⟨a, b, c, d, s, h⟩ := h
  refine ⟨a, b, c, d, s, ?_⟩
  rcases h with ⟨h1, h2, h3⟩ | ⟨h1, h2, h3⟩
  · exact .inr ⟨h3, h2, h1⟩
  · exact .inl ⟨h3, h2, h1⟩
theorem Tot.flip {r : Nat → Nat → Prop} {l : List Nat} (h : Tot r l) : Tot (fun x y => r y x) l :=
  ⟨fun x hx y hy n => (h.tot x hx y hy n).symm, fun x y z a b => h.trans _ _ _ b a, h.irr⟩
theorem Tot.sub {r : Nat → Nat → Prop} {l m : List Nat} (h : Tot r l) (s : ∀ x ∈ m, x ∈ l) : Tot r m := ⟨fun x hx y hy => h.tot x (s x hx) y (s y hy), h.trans, h.irr⟩
theorem Tw.sub {r : Nat → Nat → Prop} {l m : List Nat} (h : Tw r m) (s : m.Sublist l) : Tw r l := by
  obtain ⟨a, b, c, d, x, y⟩ := h
  exact ⟨a, b, c, d, x.trans s, y⟩
/-- a list falls in two by p, or two of it stand the wrong way round -/
theorem parts_or (p : Nat → Bool) : ∀ a : List Nat, a = a.filter p ++ a.filter (fun x => !p x) ∨ ∃ c d, [c, d].Sublist a ∧ p c = false ∧ p d = true
  | [] => .inl rfl
  | x :: a => by
    rcases parts_or p a with h | ⟨c, d, s, h1, h2⟩
    · cases hx : p x with
      | true =>
        left
        rw [List.filter_cons, List.filter_cons, hx]
        simp only [if_true, Bool.not_true, Bool.false_eq_true, if_false]
        rw [List.cons_append, ← h]
      | false =>
        cases hf : a.filter p with
        | nil =>
          left
          rw [List.filter_cons, List.filter_cons, hx]
          simp only [Bool.false_eq_true, if_false, Bool.not_false, if_true]
          rw [hf] at h
          rw [hf, List.nil_append, ← h.trans (List.nil_append _)]
        | cons d ds =>
          right
          have hd : d ∈ a.filter p := by rw [hf]; exact List.mem_cons_self
          exact ⟨x, d, List.Sublist.cons_cons x (List.singleton_sublist.mpr (List.mem_filter.mp hd).1), hx, (List.mem_filter.mp hd).2⟩
    · exact .inr ⟨c, d, s.trans (List.sublist_cons_self _ _), h1, h2⟩
def Split (r : Nat → Nat → Prop) (l : List Nat) : Prop := ∃ l1 l2, l = l1 ++ l2 ∧ l1 ≠ [] ∧ l2 ≠ [] ∧ ((∀ x ∈ l1, ∀ y ∈ l2, r x y) ∨ (∀ x ∈ l1, ∀ y ∈ l2, r y x))
theorem Split.flip {r : Nat → Nat → Prop} {l : List Nat} (h : Split (fun x y => r y x) l) : Split r l := by
  obtain ⟨l1, l2, e, n1, n2, h⟩ := h
  exact ⟨l1, l2, e, n1, n2, h.symm⟩
theorem split_step {r : Nat → Nat → Prop} {a b : List Nat} {x : Nat} (t : Tot r (a ++ b ++ [x])) (nd : (a ++ b ++ [x]).Nodup) (nt : ¬ Tw r (a ++ b ++ [x])) (na : a ≠ []) (nb : b ≠ []) (h : ∀ y ∈ a, ∀ z ∈ b, r y z) : Split r (a ++ b ++ [x]) := by
  classical
  have hx : x ∉ a := fun z => by
    have := (List.nodup_append.mp nd).2.2 x (List.mem_append_left _ z) x (by simp)
    exact this rfl
  have ta : ∀ y ∈ a, r y x ∨ r x y := fun y hy => t.tot y (by simp [hy]) x (by simp) (fun e => hx (e ▸ hy))
  obtain ⟨w, hw⟩ : ∃ w, w ∈ b := List.exists_mem_of_ne_nil b nb
  rcases parts_or (fun y => decide (r y x)) a with e | ⟨c, d, s, h1, h2⟩
  · by_cases hlo : a.filter (fun y => decide (r y x)) = []
    · -- x before all
      refine ⟨a ++ b, [x], rfl, by simp [na], by simp, .inr fun y hy z hz => ?_⟩
      rw [List.mem_singleton.mp hz]
      have low : ∀ y ∈ a, r x y := fun y hy => by
        rcases ta y hy with k | k
        · have : y ∈ a.filter (fun y => decide (r y x)) := List.mem_filter.mpr ⟨hy, decide_eq_true k⟩
          rw [hlo] at this; cases this
        · exact k
      rcases List.mem_append.mp hy with k | k
      · exact low y k
      · obtain ⟨a0, ha0⟩ := List.exists_mem_of_ne_nil a na
        exact t.trans _ _ _ (low a0 ha0) (h a0 ha0 y k)
    · by_cases hhi : a.filter (fun y => !decide (r y x)) = []
      · refine ⟨a, b ++ [x], by rw [List.append_assoc], na, by simp, .inl fun y hy z hz => ?_⟩
        rcases List.mem_append.mp hz with k | k
        · exact h y hy z k
        · rw [List.mem_singleton.mp k]
          rcases ta y hy with k2 | k2
          · exact k2
          · have : y ∈ a.filter (fun y => !decide (r y x)) := List.mem_filter.mpr ⟨hy, by
              have : ¬ r y x := fun z => t.irr _ (t.trans _ _ _ z k2)
              simp [this]⟩
            rw [hhi] at this; cases this
      · refine ⟨a.filter (fun y => decide (r y x)), a.filter (fun y => !decide (r y x)) ++ b ++ [x], ?_, hlo, by simp, .inl fun y hy z hz => ?_⟩
        · conv => lhs; rw [e]
          simp [List.append_assoc]
        · obtain ⟨y1, y2⟩ := List.mem_filter.mp hy
          have y2 : r y x := of_decide_eq_true y2
          rcases List.mem_append.mp hz with k | k
          · rcases List.mem_append.mp k with k | k
            · obtain ⟨z1, z2⟩ := List.mem_filter.mp k
              have z2 : ¬ r z x := by simpa using z2
              rcases ta z z1 with k2 | k2
              · exact absurd k2 z2
              · exact t.trans _ _ _ y2 k2
            · exact h y y1 z k
          · rw [List.mem_singleton.mp k]
            exact y2
  · exfalso
    have h1 : ¬ r c x := of_decide_eq_false h1
    have h2 : r d x := of_decide_eq_true h2
    have hc : c ∈ a := s.subset (by simp)
    have hd : d ∈ a := s.subset (by simp)
    have h1 : r x c := by
      rcases ta c hc with k | k
      · exact absurd k h1
      · exact k
    refine nt ⟨c, d, w, x, ?_, .inl ⟨h2, h1, h c hc w hw⟩⟩
    have s2 : [c, d, w, x] = [c, d] ++ [w] ++ [x] := rfl
    rw [s2]
    exact (s.append (List.singleton_sublist.mpr hw)).append (List.Sublist.refl _)
theorem snoc_ind {P : List Nat → Prop} (h0 : P []) (h1 : ∀ l x, P l → P (l ++ [x])) : ∀ l, P l := by
  intro l
  have : ∀ m : List Nat, P m.reverse := fun m => by
    induction m with
    | nil => exact h0
    | cons a m ih => rw [List.reverse_cons]; exact h1 _ _ ih
  have := this l.reverse
  rwa [List.reverse_reverse] at this
/-- THE SPLIT -/
theorem split_of : ∀ (l : List Nat) (r : Nat → Nat → Prop), Tot r l → l.Nodup → ¬ Tw r l → 2 ≤ l.length → Split r l := by
  refine snoc_ind (fun r _ _ _ h => absurd h (by simp)) fun l x ih r t nd nt hl => ?_
  have ndl : l.Nodup := nd.sublist (List.sublist_append_left _ _)
  by_cases h2 : 2 ≤ l.length
  · obtain ⟨a, b, rfl, na, nb, h⟩ := ih r (t.sub fun y hy => List.mem_append_left _ hy) ndl (fun z => nt (z.sub (List.sublist_append_left _ _))) h2
    rcases h with h | h
    · exact split_step t nd nt na nb h
    · exact (split_step (r := fun x y => r y x) t.flip nd (fun z => nt z.flip) na nb h).flip
  · rw [List.length_append, List.length_singleton] at hl
    match l, hl, h2 with
    | [z], _, _ =>
      have hz : z ≠ x := fun e => by
        subst e
        simp at nd
      refine ⟨[z], [x], rfl, by simp, by simp, ?_⟩
      rcases t.tot z (by simp) x (by simp) hz with k | k
      · exact .inl fun y hy y' hy' => by rw [List.mem_singleton.mp hy, List.mem_singleton.mp hy']; exact k
      · exact .inr fun y hy y' hy' => by rw [List.mem_singleton.mp hy, List.mem_singleton.mp hy']; exact k
    | _ :: _ :: _, _, h => exact absurd (by simp : 2 ≤ (_ :: _ :: _ : List Nat).length) h
end Pt
set_option maxHeartbeats 4000000
/-! Math B: the closure of row_of_blocks. -/
namespace Pt
/-! ### Warshall -/
structure WInv (L : Nat → Nat → Bool) (K : Nat → Prop) : Prop where
  tr : ∀ k, K k → ∀ x y, L x k = true → L k y = true → L x y = true
/-- after the inner loop: with m added -/
theorem warT_spec (m n : Nat) (L : Nat → Nat → Bool) : ∀ t x y, warT m L t x y = if x < t then (L x y || (L x m && L m y)) else L x y
  | 0, x, y => by simp [warT]
  | t + 1, x, y => by
    have ih := warT_spec m n L t
    have hm : ∀ y, warT m L t m y = L m y := fun y => by
      rw [ih]
      by_cases h : m < t
      · rw [if_pos h]
        cases L m y <;> cases L m m <;> rfl
      · rw [if_neg h]
    show (if warT m L t t m then fun x y => if x = t then warT m L t t y || warT m L t m y else warT m L t x y else warT m L t) x y = _
    have ht : ∀ y, warT m L t t y = L t y := fun y => by rw [ih, if_neg (Nat.lt_irrefl t)]
    by_cases hc : warT m L t t m = true
    · rw [if_pos hc]
      show (if x = t then _ else _) = _
      rw [ht] at hc
      by_cases hx : x = t
      · subst hx
        rw [if_pos rfl, if_pos (Nat.lt_succ_self x), ht, hm, hc, Bool.true_and]
      · rw [if_neg hx, ih]
        by_cases h : x < t
        · rw [if_pos h, if_pos (by omega)]
        · rw [if_neg h, if_neg (by omega)]
    · rw [if_neg hc, ih]
      rw [ht] at hc
      by_cases hx : x = t
      · subst hx
        rw [if_neg (Nat.lt_irrefl x), if_pos (Nat.lt_succ_self x)]
        have : L x m = false := by simpa using hc
        rw [this, Bool.false_and, Bool.or_false]
      · by_cases h : x < t
        · rw [if_pos h, if_pos (by omega)]
        · rw [if_neg h, if_neg (by omega)]
theorem warM_mono (n : Nat) (L : Nat → Nat → Bool) : ∀ m x y, L x y = true → warM n L m x y = true
  | 0, _, _, h => h
  | m + 1, x, y, h => by
    show warT m (warM n L m) n x y = true
    rw [warT_spec m n]
    have := warM_mono n L m x y h
    split
    · rw [this]; rfl
    · exact this
/-- transitive below n -/
theorem warM_trans (n : Nat) (L : Nat → Nat → Bool) : ∀ m k x y, m ≤ n → k < m → x < n → k < n → warM n L m x k = true → warM n L m k y = true → warM n L m x y = true
  | 0, _, _, _, _, h, _, _, _, _ => absurd h (Nat.not_lt_zero _)
  | m + 1, k, x, y, hmn', hk, hx, hkn, h1, h2 => by
    have ih := fun k x y => warM_trans n L m k x y (by omega)
    change warT m (warM n L m) n x k = true at h1
    change warT m (warM n L m) n k y = true at h2
    show warT m (warM n L m) n x y = true
    rw [warT_spec m n, if_pos hx] at h1 ⊢
    rw [warT_spec m n, if_pos hkn] at h2
    generalize hW : warM n L m = W at *
    have cases_or : ∀ {a b : Bool}, (a || b) = true → a = true ∨ b = true := fun {a b} h => by cases a <;> cases b <;> simp_all
    have cases_and : ∀ {a b : Bool}, (a && b) = true → a = true ∧ b = true := fun {a b} h => by cases a <;> cases b <;> simp_all
    have goal : W x y = true ∨ (W x m = true ∧ W m y = true) := by
      by_cases hkm : k = m
      · subst hkm
        have a : W x k = true := by
          rcases cases_or h1 with z | z
          · exact z
          · exact (cases_and z).1
        have b : W k y = true := by
          rcases cases_or h2 with z | z
          · exact z
          · exact (cases_and z).2
        exact .inr ⟨a, b⟩
      · have hk' : k < m := by omega
        rcases cases_or h1 with a | a <;> rcases cases_or h2 with b | b
        · exact .inl (ih k x y hk' hx hkn a b)
        · obtain ⟨b1, b2⟩ := cases_and b
          exact .inr ⟨ih k x m hk' hx hkn a b1, b2⟩
        · obtain ⟨a1, a2⟩ := cases_and a
          exact .inr ⟨a1, ih k m y hk' (by omega) hkn a2 b⟩
        · obtain ⟨a1, a2⟩ := cases_and a
          obtain ⟨b1, b2⟩ := cases_and b
          exact .inr ⟨a1, b2⟩
    rcases goal with g | ⟨g1, g2⟩
    · rw [g]; rfl
    · rw [g1, g2]; cases W x y <;> rfl
theorem late_trans {n : Nat} {f : Nat → Nat → Nat} {a b x k y : Nat} (hx : x < n) (hk : k < n) (h1 : lateM n f a b x k = true) (h2 : lateM n f a b k y = true) : lateM n f a b x y = true :=
  warM_trans n _ n k x y (Nat.le_refl n) hk hx hk h1 h2
theorem late_edge {n : Nat} {f : Nat → Nat → Nat} {a b x y : Nat} (h : f x y ≠ a ∨ f y x ≠ b) : lateM n f a b x y = true := by
  refine warM_mono n _ n x y ?_
  unfold lateI
  rcases h with h | h
  · rw [decide_eq_false h]; rfl
  · rw [decide_eq_false h, Bool.not_false, Bool.or_true]
/-- a closed set is not left -/
theorem late_closed {n : Nat} {f : Nat → Nat → Nat} {a b : Nat} (S : Nat → Prop) (h : ∀ x y, x < n → y < n → S x → ¬ S y → f x y = a ∧ f y x = b) : ∀ x y, x < n → y < n → S x → ¬ S y → lateM n f a b x y = false := by
  have go : ∀ m, m ≤ n → ∀ x y, x < n → y < n → S x → ¬ S y → warM n (lateI f a b) m x y = false := by
    intro m
    induction m with
    | zero =>
      intro _ x y hx hy sx sy
      obtain ⟨h1, h2⟩ := h x y hx hy sx sy
      show lateI f a b x y = false
      unfold lateI
      rw [h1, h2]; simp
    | succ m ih =>
      intro hm x y hx hy sx sy
      have ih := ih (by omega)
      show warT m (warM n (lateI f a b) m) n x y = false
      rw [warT_spec m n, if_pos hx, ih x y hx hy sx sy, Bool.false_or]
      by_cases sm : S m
      · rw [ih m y (by omega) hy sm sy, Bool.and_false]
      · rw [ih x m hx (by omega) sx sm, Bool.false_and]
  exact go n (Nat.le_refl n)
/-! ### the blocks as a list -/
theorem putN_keys (kvs : List (List Nat × Int)) (k : List Nat) (v : Int) : ∀ l, l ∈ (putN kvs k v).map (·.1) ↔ l = k ∨ l ∈ kvs.map (·.1) := by
  intro l
  unfold putN
  by_cases h : (kvs.any fun p => decide (p.1 = k)) = true
  · rw [if_pos h]
    have e : (kvs.map fun p => if p.1 = k then (p.1, v) else p).map (·.1) = kvs.map (·.1) := by
      rw [List.map_map]
      refine List.map_congr_left fun p _ => ?_
      simp only [Function.comp]
      split <;> rfl
    rw [e]
    obtain ⟨p, hp, e2⟩ := List.any_eq_true.mp h
    have e2 : p.1 = k := of_decide_eq_true e2
    exact ⟨.inr, fun z => z.elim (fun z => by rw [z, ← e2]; exact List.mem_map.mpr ⟨p, hp, rfl⟩) id⟩
  · rw [if_neg h, List.map_append, List.mem_append]
    simp [or_comm]
theorem putN_nodup (kvs : List (List Nat × Int)) (k : List Nat) (v : Int) (h : (kvs.map (·.1)).Nodup) : ((putN kvs k v).map (·.1)).Nodup := by
  unfold putN
  by_cases hc : (kvs.any fun p => decide (p.1 = k)) = true
  · rw [if_pos hc]
    have e : (kvs.map fun p => if p.1 = k then (p.1, v) else p).map (·.1) = kvs.map (·.1) := by
      rw [List.map_map]
      refine List.map_congr_left fun p _ => ?_
      simp only [Function.comp]
      split <;> rfl
    rw [e]
    exact h
  · rw [if_neg hc, List.map_append, List.nodup_append]
    refine ⟨h, by simp, fun a ha b hb => ?_⟩
    simp at hb
    subst hb
    intro e
    subst e
    obtain ⟨p, hp, e⟩ := List.mem_map.mp ha
    exact hc (List.any_eq_true.mpr ⟨p, hp, decide_eq_true e⟩)
theorem kvN_keys (n : Nat) (L : Nat → Nat → Bool) : ∀ i l, l ∈ (kvN n L i).map (·.1) ↔ ∃ t, t < i ∧ l = blockM n L t
  | 0, l => by simp [kvN]
  | i + 1, l => by
    show l ∈ (putN (kvN n L i) (blockM n L i) (cntM n L i : Int)).map (·.1) ↔ _
    rw [putN_keys, kvN_keys n L i]
    constructor
    · rintro (h | ⟨t, h1, h2⟩)
      · exact ⟨i, by omega, h⟩
      · exact ⟨t, by omega, h2⟩
    · rintro ⟨t, h1, h2⟩
      by_cases e : t = i
      · subst e; exact .inl h2
      · exact .inr ⟨t, by omega, h2⟩
theorem kvN_nodup (n : Nat) (L : Nat → Nat → Bool) : ∀ i, ((kvN n L i).map (·.1)).Nodup
  | 0 => by simp [kvN]
  | i + 1 => putN_nodup _ _ _ (kvN_nodup n L i)
theorem rob_perm (n : Nat) (f : Nat → Nat → Nat) (a b : Nat) : (robM n f a b).Perm ((kvN n (lateM n f a b) n).map (·.1)) := List.mergeSort_perm _ _
theorem rob_mem {n : Nat} {f : Nat → Nat → Nat} {a b : Nat} {l : List Nat} : l ∈ robM n f a b ↔ ∃ t, t < n ∧ l = blockM n (lateM n f a b) t := by
  rw [(rob_perm n f a b).mem_iff, kvN_keys]
theorem mem_block {n : Nat} {L : Nat → Nat → Bool} {t o : Nat} : o ∈ blockM n L t ↔ o < n ∧ ((L t o = true ∧ L o t = true) ∨ o = t) := by
  unfold blockM inBlock
  rw [List.mem_filter, List.mem_range]
  simp
/-- two that are not mutual: more than one block -/
theorem rob_two {n : Nat} {f : Nat → Nat → Nat} {a b x y : Nat} (hx : x < n) (hy : y < n) (hne : x ≠ y) (h : lateM n f a b x y = false ∨ lateM n f a b y x = false) : 1 < (robM n f a b).length := by
  have mx : blockM n (lateM n f a b) x ∈ robM n f a b := rob_mem.mpr ⟨x, hx, rfl⟩
  have my : blockM n (lateM n f a b) y ∈ robM n f a b := rob_mem.mpr ⟨y, hy, rfl⟩
  have hxx : x ∈ blockM n (lateM n f a b) x := mem_block.mpr ⟨hx, .inr rfl⟩
  have hxy : x ∉ blockM n (lateM n f a b) y := fun z => by
    rcases (mem_block.mp z).2 with ⟨z1, z2⟩ | z
    · rcases h with h | h
      · rw [h] at z2; cases z2
      · rw [h] at z1; cases z1
    · exact hne z
  match hl : robM n f a b, mx, my with
  | [], mx, _ => cases mx
  | [u], mx, my =>
    have e1 := List.mem_singleton.mp mx
    have e2 := List.mem_singleton.mp my
    rw [e1, ← e2] at hxx
    exact absurd hxx hxy
  | _ :: _ :: _, _, _ => simp
/-- two mutual ones stand in one block -/
theorem rob_same {n : Nat} {f : Nat → Nat → Nat} {a b : Nat} {l : List Nat} (hl : l ∈ robM n f a b) {x y : Nat} (hx : x ∈ l) (hy : y < n) (h1 : lateM n f a b x y = true) (h2 : lateM n f a b y x = true) : y ∈ l := by
  obtain ⟨t, ht, rfl⟩ := rob_mem.mp hl
  obtain ⟨hxn, hx⟩ := mem_block.mp hx
  refine mem_block.mpr ⟨hy, ?_⟩
  rcases hx with ⟨a1, a2⟩ | rfl
  · exact .inl ⟨late_trans ht hxn a1 h1, late_trans hy hxn h2 a2⟩
  · exact .inl ⟨h1, h2⟩
/-- each block is a lot -/
theorem block_lot {n : Nat} {L : Nat → Nat → Bool} {t : Nat} (ht : t < n) : (∀ x ∈ blockM n L t, x < n) ∧ (blockM n L t).Nodup ∧ blockM n L t ≠ [] := by
  refine ⟨fun x hx => (mem_block.mp hx).1, List.nodup_range.sublist List.filter_sublist, fun z => ?_⟩
  have : t ∈ blockM n L t := mem_block.mpr ⟨ht, .inr rfl⟩
  rw [z] at this; cases this
/-- with more than one block each is smaller than the whole -/
theorem rob_small {n : Nat} {f : Nat → Nat → Nat} {a b : Nat} (h : 1 < (robM n f a b).length) {l : List Nat} (hl : l ∈ robM n f a b) : l.length < n := by
  obtain ⟨t, ht, rfl⟩ := rob_mem.mp hl
  obtain ⟨h1, h2, h3⟩ := block_lot (L := lateM n f a b) ht
  have hle := nodup_le n _ h2 h1
  refine Nat.lt_of_le_of_ne hle fun e => ?_
  -- then all stand in it, and every block is it
  have all : ∀ x, x < n → x ∈ blockM n (lateM n f a b) t := fun x hx => by
    refine Classical.byContradiction fun hn => ?_
    have := nodup_le n (x :: blockM n (lateM n f a b) t) (List.nodup_cons.mpr ⟨hn, h2⟩) (fun y hy => by
      rcases List.mem_cons.mp hy with z | z
      · rw [z]; exact hx
      · exact h1 y z)
    rw [List.length_cons] at this
    omega
  have same : ∀ u, u < n → blockM n (lateM n f a b) u = blockM n (lateM n f a b) t := fun u hu => by
    unfold blockM
    refine List.filter_congr fun o ho => ?_
    have ho := List.mem_range.mp ho
    have key : ∀ v, v < n → inBlock (lateM n f a b) v o = true := fun v hv => by
      have m1 := (mem_block.mp (all v hv)).2
      have m2 := (mem_block.mp (all o ho)).2
      unfold inBlock
      by_cases hov : o = v
      · simp [hov]
      · have : lateM n f a b v o = true ∧ lateM n f a b o v = true := by
          rcases m1 with ⟨p1, p2⟩ | rfl <;> rcases m2 with ⟨q1, q2⟩ | rfl
          · exact ⟨late_trans hv ht p2 q1, late_trans ho ht q2 p1⟩
          · exact ⟨p2, p1⟩
          · exact ⟨q1, q2⟩
          · exact absurd rfl hov
        simp [this.1, this.2]
    rw [key u hu, key t ht]
  have nd := (rob_perm n f a b).nodup_iff.mpr (kvN_nodup n (lateM n f a b) n)
  match hr : robM n f a b, h with
  | p :: q :: rest, _ =>
    have hp : p ∈ robM n f a b := by rw [hr]; simp
    have hq : q ∈ robM n f a b := by rw [hr]; simp
    obtain ⟨u, hu, rfl⟩ := rob_mem.mp hp
    obtain ⟨v, hv, rfl⟩ := rob_mem.mp hq
    rw [hr, same u hu, same v hv] at nd
    simp at nd
end Pt
set_option maxHeartbeats 4000000
/-! Math C: pieces, greatest lots. -/
namespace Pt
/-- no thing outside tells things of S apart -/
def Piece (n : Nat) (f : Nat → Nat → Nat) (S : Nat → Prop) : Prop := ∀ z, z < n → ¬ S z → ∀ x y, x < n → y < n → S x → S y → f z x = f z y ∧ f x z = f y z
theorem apart_false {f : Nat → Nat → Nat} {z x y : Nat} : apart f z x y = false ↔ f z x = f z y ∧ f x z = f y z := by
  unfold apart
  simp
theorem tell_none {n : Nat} {f : Nat → Nat → Nat} {lot : List Nat} (h : tellM n f lot = none) : Piece n f (· ∈ lot) := by
  intro z hz hzl x y _ _ hx hy
  have h1 := List.findSome?_eq_none_iff.mp h z (List.mem_range.mpr hz)
  unfold tellZ at h1
  rw [if_neg hzl] at h1
  have pair : ∀ i j : Nat, i < j → ∀ u v, lot[i]? = some u → lot[j]? = some v → apart f z u v = false := fun i j hij u v hu hv => by
    have hm : (u, i) ∈ lot.zipIdx := by
      rw [List.mem_iff_getElem?]
      exact ⟨i, by rw [List.getElem?_zipIdx, hu]; simp⟩
    have h2 := List.findSome?_eq_none_iff.mp h1 (u, i) hm
    unfold tellX at h2
    have hv2 : v ∈ lot.drop (i + 1) := by
      rw [List.mem_iff_getElem?]
      exact ⟨j - (i + 1), by rw [List.getElem?_drop, show i + 1 + (j - (i + 1)) = j by omega]; exact hv⟩
    have h3 := List.findSome?_eq_none_iff.mp h2 v hv2
    unfold tellY at h3
    cases ha : apart f z u v with
    | false => rfl
    | true =>
      rw [if_pos ha] at h3
      cases h3
  obtain ⟨i, hi⟩ := List.mem_iff_getElem?.mp hx
  obtain ⟨j, hj⟩ := List.mem_iff_getElem?.mp hy
  rcases Nat.lt_trichotomy i j with h | h | h
  · exact apart_false.mp (pair i j h x y hi hj)
  · subst h
    rw [hi] at hj
    cases hj
    exact ⟨rfl, rfl⟩
  · have := apart_false.mp (pair j i h y x hj hi)
    exact ⟨this.1.symm, this.2.symm⟩
theorem tell_apart {n : Nat} {f : Nat → Nat → Nat} {lot : List Nat} {t : Tri} (h : tellM n f lot = some t) : t.1 < n ∧ t.1 ∉ lot ∧ ∃ x y, x ∈ lot ∧ y ∈ lot ∧ ¬ (f t.1 x = f t.1 y ∧ f x t.1 = f y t.1) := by
  obtain ⟨h1, h2⟩ := tell_some h
  refine ⟨h1, h2, ?_⟩
  unfold tellM at h
  obtain ⟨z, hz, h⟩ := List.exists_of_findSome?_eq_some h
  unfold tellZ at h
  split at h
  · cases h
  · obtain ⟨p, hp, h⟩ := List.exists_of_findSome?_eq_some h
    unfold tellX at h
    obtain ⟨y, hy, h⟩ := List.exists_of_findSome?_eq_some h
    unfold tellY at h
    split at h
    · rename_i ha
      cases h
      refine ⟨p.1, y, List.fst_mem_of_mem_zipIdx hp, List.mem_of_mem_drop hy, fun z => ?_⟩
      rw [apart_false.mpr z] at ha
      cases ha
    · cases h
theorem grow_spec (n : Nat) (f : Nat → Nat → Nat) : ∀ (k : Nat) (held : List Nat), Lot n held → n + 1 - held.length ≤ k → ∃ fin, Lot n fin ∧ fin.Perm (held ++ (growN n f k held).map (·.1)) ∧ tellM n f fin = none ∧
    ∀ S : Nat → Prop, Piece n f S → (∀ x ∈ held, S x) → ∀ x ∈ fin, S x
  | 0, held, h, hk => by have := h.len; omega
  | k + 1, held, h, hk => by
    unfold growN
    cases e : tellM n f held with
    | none => exact ⟨held, h, by simp, e, fun S _ h2 => h2⟩
    | some t =>
      obtain ⟨t1, t2, x, y, hx, hy, hne⟩ := tell_apart e
      have hs := h.snoc t1 t2
      obtain ⟨fin, l, p, tn, mn⟩ := grow_spec n f k (sortN (held ++ [t.1])) hs (by rw [sortN_len, List.length_append]; simp; omega)
      refine ⟨fin, l, p.trans ?_, tn, fun S hS hh => mn S hS fun u hu => ?_⟩
      · have := (sortN_perm (held ++ [t.1])).append_right ((growN n f k (sortN (held ++ [t.1]))).map (·.1))
        refine this.trans ?_
        rw [List.append_assoc]
        exact List.Perm.refl _
      · rcases List.mem_append.mp ((sortN_perm _).mem_iff.mp hu) with z | z
        · exact hh u z
        · rw [List.mem_singleton.mp z]
          refine Classical.byContradiction fun hn => hne ?_
          exact hS t.1 t1 hn x y (h.lt x hx) (h.lt y hy) (hh x hx) (hh y hy)
/-- the least piece round a lot -/
theorem least_spec {n : Nat} {f : Nat → Nat → Nat} {lot : List Nat} (h : Lot n lot) : Lot n (leastM n f lot) ∧ (∀ x ∈ lot, x ∈ leastM n f lot) ∧ Piece n f (· ∈ leastM n f lot) ∧ ∀ S : Nat → Prop, Piece n f S → (∀ x ∈ lot, S x) → ∀ x ∈ leastM n f lot, S x := by
  obtain ⟨fin, l, p, tn, mn⟩ := grow_spec n f (n + 1 - lot.length) lot h (Nat.le_refl _)
  have pm : (leastM n f lot).Perm fin := (sortN_perm _).trans p.symm
  have me : ∀ x, x ∈ leastM n f lot ↔ x ∈ fin := fun x => pm.mem_iff
  refine ⟨⟨fun x hx => l.lt x ((me x).mp hx), pm.nodup_iff.mpr l.nd⟩, fun x hx => (me x).mpr (p.mem_iff.mpr (List.mem_append_left _ hx)), ?_, fun S hS hh x hx => mn S hS hh x ((me x).mp hx)⟩
  have := tell_none tn
  intro z hz hzn x y hx hy sx sy
  exact this z hz (fun q => hzn ((me z).mpr q)) x y hx hy ((me x).mp sx) ((me y).mp sy)
theorem sub_len : ∀ (l1 l2 : List Nat), l1.Nodup → (∀ x ∈ l1, x ∈ l2) → l1.length ≤ l2.length
  | [], _, _, _ => Nat.zero_le _
  | a :: t, l2, nd, h => by
    obtain ⟨n1, n2⟩ := List.nodup_cons.mp nd
    have ha := h a List.mem_cons_self
    have := sub_len t (l2.erase a) n2 fun x hx => (List.mem_erase_of_ne (fun e => by subst e; exact n1 hx)).mpr (h x (List.mem_cons_of_mem _ hx))
    rw [List.length_erase_of_mem ha] at this
    have := List.length_pos_of_mem ha
    rw [List.length_cons]
    omega
theorem pair_lot {n x y : Nat} (hx : x < n) (hy : y < n) (hne : x ≠ y) : Lot n (sortN [x, y]) := by
  have p := sortN_perm [x, y]
  refine ⟨fun z hz => ?_, p.nodup_iff.mpr (by simp [hne])⟩
  have := p.mem_iff.mp hz
  simp at this
  rcases this with rfl | rfl <;> assumption
theorem mem_lotOf {n : Nat} {f : Nat → Nat → Nat} {x y : Nat} : y ∈ lotOf n f x ↔ y = x ∨ (y < n ∧ y ≠ x ∧ (leastM n f (sortN [x, y])).length < n) := by
  unfold lotOf
  rw [(sortN_perm _).mem_iff]
  unfold matesM
  rw [List.mem_append, List.mem_filter, List.mem_filter, List.mem_range]
  simp [and_assoc]
theorem lotOf_lot {n : Nat} {f : Nat → Nat → Nat} {x : Nat} (hx : x < n) : Lot n (lotOf n f x) := by
  refine ⟨fun y hy => ?_, ?_⟩
  · rcases mem_lotOf.mp hy with rfl | h
    · exact hx
    · exact h.1
  · refine (sortN_perm _).nodup_iff.mpr ?_
    rw [List.nodup_append]
    refine ⟨by simp, (List.nodup_range.sublist List.filter_sublist).sublist List.filter_sublist, fun a ha b hb e => ?_⟩
    rw [List.mem_singleton.mp ha] at e
    subst e
    have := (List.mem_filter.mp (List.mem_filter.mp hb).1).2
    simp at this
/-- the lot is a piece -/
theorem lotOf_piece {n : Nat} {f : Nat → Nat → Nat} {x : Nat} (hx : x < n) : Piece n f (· ∈ lotOf n f x) := by
  have key : ∀ z, z < n → z ∉ lotOf n f x → ∀ y, y ∈ lotOf n f x → f z x = f z y ∧ f x z = f y z := fun z hz hzl y hy => by
    rcases mem_lotOf.mp hy with rfl | ⟨hyn, hyx, hlt⟩
    · exact ⟨rfl, rfl⟩
    · obtain ⟨l, sub, pc, _⟩ := least_spec (f := f) (pair_lot hx hyn hyx.symm)
      have mx : x ∈ leastM n f (sortN [x, y]) := sub x ((sortN_perm _).mem_iff.mpr (by simp))
      have my : y ∈ leastM n f (sortN [x, y]) := sub y ((sortN_perm _).mem_iff.mpr (by simp))
      refine pc z hz (fun hzp => hzl ?_) x y hx hyn mx my
      by_cases e : z = x
      · exact mem_lotOf.mpr (.inl e)
      · refine mem_lotOf.mpr (.inr ⟨hz, e, Nat.lt_of_le_of_lt ?_ hlt⟩)
        obtain ⟨l2, _, _, mn⟩ := least_spec (f := f) (pair_lot hx hz (Ne.symm e))
        have sb : ∀ u ∈ leastM n f (sortN [x, z]), u ∈ leastM n f (sortN [x, y]) := mn (· ∈ leastM n f (sortN [x, y])) pc fun u hu => by
          have := (sortN_perm _).mem_iff.mp hu
          simp at this
          rcases this with rfl | rfl <;> assumption
        exact sub_len _ _ l2.nd sb
  intro z hz hzl u v hu hv mu mv
  have a := key z hz hzl u mu
  have b := key z hz hzl v mv
  exact ⟨a.1.symm.trans b.1, a.2.symm.trans b.2⟩
theorem piece_is {n : Nat} {f : Nat → Nat → Nat} {lot : List Nat} (hl : ∀ x ∈ lot, x < n) (h : Piece n f (· ∈ lot)) : isPieceM n f lot = true := by
  unfold isPieceM
  rw [Bool.not_eq_true', List.any_eq_false]
  intro z hz
  have hz := List.mem_range.mp hz
  unfold splitZ
  by_cases hzl : z ∈ lot
  · simp [hzl]
  · have : (lot.drop 1).any (apart f z (lot.getD 0 0)) = false := by
      rw [List.any_eq_false]
      intro y hy
      have hy' := List.mem_of_mem_drop hy
      cases lot with
      | nil => cases hy'
      | cons a l =>
        have := h z hz hzl a y (hl a List.mem_cons_self) (hl y hy') List.mem_cons_self hy'
        have e := apart_false.mpr this
        rw [show (a :: l).getD 0 0 = a from rfl, e]
        exact Bool.false_ne_true
    rw [this, Bool.and_false]
    exact Bool.false_ne_true
/-! ### a set with one pair of values across decomposes -/
theorem across_top {n : Nat} {f : Nat → Nat → Nat} (hf : ∀ x y, f x y ≤ 1) (M : Nat → Prop) {p q m0 z0 : Nat} (hm : m0 < n) (hz : z0 < n) (hM : M m0) (hZ : ¬ M z0) (h : ∀ u v, u < n → v < n → M u → ¬ M v → f u v = p ∧ f v u = q) : topK n f ≠ none := by
  have hne : m0 ≠ z0 := fun e => hZ (e ▸ hM)
  have hpq := h m0 z0 hm hz hM hZ
  -- the sorted pair is a kind of row 0
  obtain ⟨o, ho0, hon, e⟩ : ∃ o, 0 < o ∧ o < n ∧ sortN [f 0 o, f o 0] = sortN [p, q] := by
    have h0 : 0 < n := by omega
    by_cases h0M : M 0
    · refine ⟨z0, Nat.pos_of_ne_zero (fun e => hZ (e ▸ h0M)), hz, ?_⟩
      obtain ⟨a, b⟩ := h 0 z0 h0 hz h0M hZ
      rw [a, b]
    · refine ⟨m0, Nat.pos_of_ne_zero (fun e => h0M (e ▸ hM)), hm, ?_⟩
      obtain ⟨a, b⟩ := h m0 0 hm h0 hM h0M
      rw [a, b]
      exact sortN_unique ((sortN_perm [p, q]).trans (List.Perm.swap q p [])) (sortN_sorted _)
  have hp1 : p ≤ 1 := by rw [← hpq.1]; exact hf _ _
  have hq1 : q ≤ 1 := by rw [← hpq.2]; exact hf _ _
  have hk : sortN [p, q] ∈ kindsOf (kindLs n f) := by
    unfold kindsOf
    refine List.mem_filter.mpr ⟨sort_bits hp1 hq1, decide_eq_true ?_⟩
    unfold kindLs
    exact List.mem_map.mpr ⟨o, List.mem_range'_1.mpr ⟨by omega, by omega⟩, e⟩
  have two : 1 < (robM n f ((sortN [p, q]).getD 0 0) ((sortN [p, q]).getD 1 0)).length := by
    rw [sort_pair]
    by_cases hle : p ≤ q
    · rw [if_pos hle]
      show 1 < (robM n f p q).length
      exact rob_two hm hz hne (.inl (late_closed M (fun x y hx hy sx sy => h x y hx hy sx sy) m0 z0 hm hz hM hZ))
    · rw [if_neg hle]
      show 1 < (robM n f q p).length
      exact rob_two hz hm hne.symm (.inl (late_closed (fun x => ¬ M x) (fun x y hx hy sx sy => by
        have := h y x hy hx (Classical.byContradiction sy) sx
        exact ⟨this.2, this.1⟩) z0 m0 hz hm hZ (fun z => z hM)))
  intro ht
  have := List.findSome?_eq_none_iff.mp ht _ hk
  unfold tkG at this
  rw [if_pos two] at this
  cases this
theorem max_exists {α : Type} {Q : α → Prop} (len : α → Nat) (n : Nat) (hb : ∀ a, Q a → len a ≤ n) : ∀ (k : Nat) (a : α), Q a → n - len a ≤ k → ∃ m, Q m ∧ ∀ b, Q b → len b ≤ len m
  | 0, a, h, hk => ⟨a, h, fun b hb' => by have := hb b hb'; have := hb a h; omega⟩
  | k + 1, a, h, hk => by
    by_cases hx : ∃ b, Q b ∧ len a < len b
    · obtain ⟨b, h1, h2⟩ := hx
      exact max_exists len n hb k b h1 (by have := hb b h1; omega)
    · exact ⟨a, h, fun b hb' => Nat.le_of_not_lt fun z => hx ⟨b, hb', z⟩⟩
theorem lot_out {n : Nat} {l : List Nat} (h : Lot n l) (hl : l.length < n) : ∃ z, z < n ∧ z ∉ l := by
  refine Classical.byContradiction fun hn => ?_
  have all : ∀ z ∈ List.range n, z ∈ l := fun z hz => Classical.byContradiction fun k => hn ⟨z, List.mem_range.mp hz, k⟩
  have := sub_len _ _ (List.nodup_range (n := n)) all
  rw [List.length_range] at this
  omega
/-- without a decomposition each lot is proper -/
theorem lotOf_small {n : Nat} {f : Nat → Nat → Nat} (hf : ∀ x y, f x y ≤ 1) (ht : topK n f = none) {x : Nat} (hx : x < n) (hn : 2 ≤ n) : (lotOf n f x).length < n := by
  have L := lotOf_lot (f := f) hx
  refine Nat.lt_of_le_of_ne L.len fun e => ?_
  have all : ∀ y, y < n → y ∈ lotOf n f x := fun y hy => by
    refine Classical.byContradiction fun k => ?_
    have := nodup_le n (y :: lotOf n f x) (List.nodup_cons.mpr ⟨k, L.nd⟩) (fun u hu => by
      rcases List.mem_cons.mp hu with z | z
      · rw [z]; exact hy
      · exact L.lt u z)
    rw [List.length_cons] at this
    omega
  -- a greatest proper piece round x
  obtain ⟨M, ⟨ML, MP, Mx, Mn⟩, Mmax⟩ := max_exists (Q := fun M : List Nat => Lot n M ∧ Piece n f (· ∈ M) ∧ x ∈ M ∧ M.length < n) List.length n (fun a h => Nat.le_of_lt h.2.2.2) n [x]
    ⟨⟨fun y hy => by rw [List.mem_singleton.mp hy]; exact hx, by simp⟩, fun z _ _ u v _ _ hu hv => by rw [List.mem_singleton.mp hu, List.mem_singleton.mp hv]; exact ⟨rfl, rfl⟩, by simp, (show 1 < n from hn)⟩ (by simp)
  obtain ⟨z0, hz0, hz0M⟩ := lot_out ML Mn
  have hz0x : z0 ≠ x := fun e => hz0M (e ▸ Mx)
  obtain ⟨hz0', _, hB⟩ : z0 < n ∧ z0 ≠ x ∧ (leastM n f (sortN [x, z0])).length < n := by
    rcases mem_lotOf.mp (all z0 hz0) with k | k
    · exact absurd k hz0x
    · exact k
  obtain ⟨BL, Bsub, BP, _⟩ := least_spec (f := f) (pair_lot hx hz0 hz0x.symm)
  generalize hBe : leastM n f (sortN [x, z0]) = B at *
  have Bx : x ∈ B := Bsub x ((sortN_perm _).mem_iff.mpr (by simp))
  have Bz : z0 ∈ B := Bsub z0 ((sortN_perm _).mem_iff.mpr (by simp))
  obtain ⟨m0, hm0, hm0B⟩ := lot_out BL hB
  -- their union is a piece, so it is all
  have UL : Lot n (M ++ B.filter fun b => !decide (b ∈ M)) := by
    refine ⟨fun y hy => ?_, ?_⟩
    · rcases List.mem_append.mp hy with k | k
      · exact ML.lt y k
      · exact BL.lt y (List.mem_filter.mp k).1
    · rw [List.nodup_append]
      refine ⟨ML.nd, BL.nd.sublist List.filter_sublist, fun a ha b hb e => ?_⟩
      subst e
      have := (List.mem_filter.mp hb).2
      simp [ha] at this
  have Umem : ∀ y, y ∈ (M ++ B.filter fun b => !decide (b ∈ M)) ↔ y ∈ M ∨ y ∈ B := fun y => by
    rw [List.mem_append, List.mem_filter]
    by_cases k : y ∈ M <;> simp [k]
  have UP : Piece n f (· ∈ (M ++ B.filter fun b => !decide (b ∈ M))) := by
    intro z hz hzU u v hu hv su sv
    have hzM : z ∉ M := fun k => hzU ((Umem z).mpr (.inl k))
    have hzB : z ∉ B := fun k => hzU ((Umem z).mpr (.inr k))
    have key : ∀ u, u < n → (u ∈ M ∨ u ∈ B) → f z x = f z u ∧ f x z = f u z := fun u hu h => by
      rcases h with h | h
      · exact MP z hz hzM x u hx hu Mx h
      · exact BP z hz hzB x u hx hu Bx h
    have a := key u hu ((Umem u).mp su)
    have b := key v hv ((Umem v).mp sv)
    exact ⟨a.1.symm.trans b.1, a.2.symm.trans b.2⟩
  have Ulen : M.length < (M ++ B.filter fun b => !decide (b ∈ M)).length := by
    rw [List.length_append]
    have : z0 ∈ B.filter fun b => !decide (b ∈ M) := List.mem_filter.mpr ⟨Bz, by simp [hz0M]⟩
    have := List.length_pos_of_mem this
    omega
  have Uall : ∀ y, y < n → y ∈ M ∨ y ∈ B := fun y hy => by
    refine Classical.byContradiction fun k => ?_
    have hyU : y ∉ (M ++ B.filter fun b => !decide (b ∈ M)) := fun z => k ((Umem y).mp z)
    have h1 := nodup_le n (y :: (M ++ B.filter fun b => !decide (b ∈ M))) (List.nodup_cons.mpr ⟨hyU, UL.nd⟩) (fun u hu => by
      rcases List.mem_cons.mp hu with z | z
      · rw [z]; exact hy
      · exact UL.lt u z)
    rw [List.length_cons] at h1
    have := Mmax _ ⟨UL, UP, (Umem x).mpr (.inl Mx), by omega⟩
    omega
  have hm0M : m0 ∈ M := by
    rcases Uall m0 hm0 with k | k
    · exact k
    · exact absurd k hm0B
  refine across_top hf (· ∈ M) (p := f m0 z0) (q := f z0 m0) hm0 hz0 hm0M hz0M (fun u v hu hv su sv => ?_) ht
  have vB : v ∈ B := by
    rcases Uall v hv with k | k
    · exact absurd k sv
    · exact k
  have a := MP v hv sv u m0 hu hm0 su hm0M
  have b := BP m0 hm0 hm0B v z0 hv hz0 vB Bz
  exact ⟨a.2.trans b.1, a.1.trans b.2⟩
theorem greatest_mem {n : Nat} {f : Nat → Nat → Nat} : ∀ {k : Nat} {l : List Nat}, l ∈ greatestN n f k → ∃ x, x < k ∧ l = lotOf n f x
  | 0, l, h => by cases h
  | k + 1, l, h => by
    have h : l ∈ (if (greatestN n f k).any (fun lot => decide (k ∈ lot)) then greatestN n f k else greatestN n f k ++ [lotOf n f k]) := h
    split at h
    · obtain ⟨x, h1, h2⟩ := greatest_mem h
      exact ⟨x, by omega, h2⟩
    · rcases List.mem_append.mp h with h | h
      · obtain ⟨x, h1, h2⟩ := greatest_mem h
        exact ⟨x, by omega, h2⟩
      · exact ⟨k, by omega, List.mem_singleton.mp h⟩
theorem lotOf_ne {n : Nat} {f : Nat → Nat → Nat} {x : Nat} : lotOf n f x ≠ [] := fun z => by
  have : x ∈ lotOf n f x := mem_lotOf.mpr (.inl rfl)
  rw [z] at this; cases this
theorem topOk_of {n : Nat} {f : Nat → Nat → Nat} (hn : n ≤ 20) (hf : ∀ x y, f x y ≤ 1) : TopOk n f := by
  refine ⟨hn, hf, fun _ lot hl => ?_⟩
  obtain ⟨x, hx, rfl⟩ := greatest_mem hl
  have L := lotOf_lot (f := f) hx
  exact ⟨L.lt, lotOf_ne, Nat.le_trans L.len (by omega), piece_is L.lt (lotOf_piece hx)⟩
/-- the sons of a knot -/
theorem sons_ok {n : Nat} {f : Nat → Nat → Nat} (hf : ∀ x y, f x y ≤ 1) (hn : 2 ≤ n) : (topW n f).2.2.length ≤ n ∧ ∀ son ∈ (topW n f).2.2, (∀ p ∈ son, p < n) ∧ son ≠ [] ∧ son.length < n := by
  unfold topW
  cases ht : topK n f with
  | some l =>
    obtain ⟨l0, hl0, hk⟩ := List.exists_of_findSome?_eq_some ht
    unfold tkG at hk
    split at hk
    · rename_i h2
      cases hk
      have e : (topR n f l).2.2 = robM n f (l.getD 0 0) (l.getD 1 0) := by
        unfold topR
        split <;> rfl
      show (topR n f l).2.2.length ≤ n ∧ ∀ son ∈ (topR n f l).2.2, _
      rw [e]
      refine ⟨rob_len _ _ _ _, fun son hs => ?_⟩
      obtain ⟨t, ht', rfl⟩ := rob_mem.mp hs
      obtain ⟨a, b, c⟩ := block_lot (L := lateM n f (l.getD 0 0) (l.getD 1 0)) ht'
      exact ⟨a, c, rob_small h2 hs⟩
    · cases hk
  | none =>
    show (greatestM n f).length ≤ n ∧ ∀ son ∈ greatestM n f, _
    refine ⟨greatest_len n f n, fun son hs => ?_⟩
    obtain ⟨x, hx, rfl⟩ := greatest_mem hs
    exact ⟨(lotOf_lot hx).lt, lotOf_ne, lotOf_small hf ht hx hn⟩
end Pt
set_option maxHeartbeats 4000000
/-! Math D: the tree is well; a firm knot stands in it exactly if there is a twist. -/
namespace Pt
open PySem
theorem part_le {f : Nat → Nat → Nat} (hf : ∀ x y, f x y ≤ 1) (lot : List Nat) : ∀ x y, partM f lot x y ≤ 1 := fun _ _ => hf _ _
theorem treeOk_of {f : Nat → Nat → Nat} (hf : ∀ x y, f x y ≤ 1) {n : Nat} : ∀ (k : Nat) (lot : List Nat), (∀ x ∈ lot, x < n) → lot ≠ [] → lot.length ≤ k + 1 → lot.length ≤ 20 → TreeOk k n f lot
  | 0, lot, h1, h2, h3, _ => by
    have := List.length_pos_iff.mpr h2
    exact ⟨by omega, h1⟩
  | k + 1, lot, h1, h2, h3, h4 => by
    have hp := List.length_pos_iff.mpr h2
    refine ⟨h1, h2, h3, fun hne => ?_⟩
    obtain ⟨s1, s2⟩ := sons_ok (n := lot.length) (part_le hf lot) (by omega)
    refine ⟨topOk_of h4 (part_le hf lot), s1, fun son hs => ?_⟩
    obtain ⟨a, b, c⟩ := s2 son hs
    refine ⟨a, by omega, treeOk_of hf k _ (fun x hx => ?_) (by simpa using b) (by rw [List.length_map]; omega) (by rw [List.length_map]; omega)⟩
    obtain ⟨p, hp', rfl⟩ := List.mem_map.mp hx
    have := getD_at (a p hp')
    exact h1 _ (List.mem_of_getElem? this)
theorem word_ok (n : Nat) (f : Nat → Nat → Nat) : PyData.strOk (topW n f).1 = true ∧ (topW n f).2.1.canLay0 = true ∧ (topW n f).2.1.depth ≤ 3 := by
  unfold topW
  cases topK n f with
  | some l =>
    show PyData.strOk (topR n f l).1 = true ∧ (topR n f l).2.1.canLay0 = true ∧ (topR n f l).2.1.depth ≤ 3
    unfold topR
    split
    · exact ⟨(by decide +kernel : PyData.strOk "all" = true), rfl, by simp only [PyData.depth, PyData.depthAll]; omega⟩
    · exact ⟨(by decide +kernel : PyData.strOk "line" = true), rfl, by simp only [PyData.depth, PyData.depthAll]; omega⟩
  | none =>
    show PyData.strOk "firm" = true ∧ (eRows (greatestM n f).length (quoM f (greatestM n f))).canLay0 = true ∧ (eRows (greatestM n f).length (quoM f (greatestM n f))).depth ≤ 3
    refine ⟨by decide +kernel, ?_, ?_⟩
    · unfold eRows
      rw [PyData.canLay0]
      refine canAll_iff _ fun x hx => ?_
      obtain ⟨i, _, rfl⟩ := List.mem_map.mp hx
      unfold eRow
      rw [PyData.canLay0]
      refine canAll_iff _ fun y hy => ?_
      obtain ⟨j, _, rfl⟩ := List.mem_map.mp hy
      rfl
    · unfold eRows
      rw [PyData.depth]
      have := depthAll_le ((List.range (greatestM n f).length).map fun x => eRow (greatestM n f).length (quoM f (greatestM n f) x)) 1 fun x hx => by
        obtain ⟨i, _, rfl⟩ := List.mem_map.mp hx
        unfold eRow
        rw [PyData.depth]
        have := depthAll_le ((List.range (greatestM n f).length).map fun y => eI (quoM f (greatestM n f) i y)) 0 fun y hy => by
          obtain ⟨j, _, rfl⟩ := List.mem_map.mp hy
          rw [PyData.depth]; exact Nat.le_refl _
        omega
      omega
theorem tre_of {f : Nat → Nat → Nat} (hf : ∀ x y, f x y ≤ 1) : ∀ (k : Nat) (lot : List Nat), lot ≠ [] → lot.length ≤ k + 1 → Tre k (treeN k f lot)
  | 0, lot, _, _ => ⟨_, rfl⟩
  | k + 1, lot, h2, h3 => by
    unfold treeN
    have hp := List.length_pos_iff.mpr h2
    by_cases h1 : lot.length = 1
    · rw [if_pos h1]; exact .inl ⟨_, rfl⟩
    · rw [if_neg h1]
      obtain ⟨s1, s2⟩ := sons_ok (n := lot.length) (part_le hf lot) (by omega)
      obtain ⟨w1, w2, w3⟩ := word_ok lot.length (partM f lot)
      refine .inr ⟨_, _, _, rfl, by rw [List.length_map]; omega, w1, w2, w3, fun s hs => ?_⟩
      obtain ⟨son, hson, rfl⟩ := List.mem_map.mp hs
      obtain ⟨a, b, c⟩ := s2 son hson
      exact tre_of hf k _ (by simpa using b) (by rw [List.length_map]; omega)
/-- a firm knot in it -/
def firmK (k : Nat) (d : PyData) : Prop := ∃ x ∈ kbN k d, wordS x = "firm"
theorem firm_node {k : Nat} {f : Nat → Nat → Nat} {lot : List Nat} (h1 : lot.length ≠ 1) : firmK (k + 1) (treeN (k + 1) f lot) ↔ ((topW lot.length (partM f lot)).1 = "firm" ∨ ∃ son ∈ (topW lot.length (partM f lot)).2.2, firmK k (treeN k f (son.map fun p => lot.getD p 0))) := by
  unfold firmK
  have e : treeN (k + 1) f lot = .tuple [.str (topW lot.length (partM f lot)).1, (topW lot.length (partM f lot)).2.1, .tuple ((topW lot.length (partM f lot)).2.2.map fun son => treeN k f (son.map fun p => lot.getD p 0))] := by
    show (if lot.length = 1 then _ else _) = _
    rw [if_neg h1]
  rw [e]
  have ekb : ∀ w l sons, kbN (k + 1) (.tuple [.str w, l, .tuple sons]) = .tuple [.str w, l, .tuple sons] :: sons.flatMap (kbN k) := fun _ _ _ => rfl
  rw [ekb]
  constructor
  · rintro ⟨x, hx, hw⟩
    rcases List.mem_cons.mp hx with rfl | hx
    · exact .inl hw
    · obtain ⟨s, hs, hx⟩ := List.mem_flatMap.mp hx
      obtain ⟨son, hson, rfl⟩ := List.mem_map.mp hs
      exact .inr ⟨son, hson, x, hx, hw⟩
  · rintro (h | ⟨son, hson, x, hx, hw⟩)
    · exact ⟨_, List.mem_cons_self, h⟩
    · exact ⟨x, List.mem_cons_of_mem _ (List.mem_flatMap.mpr ⟨_, List.mem_map.mpr ⟨son, hson, rfl⟩, hx⟩), hw⟩
theorem firm_leaf {k : Nat} {f : Nat → Nat → Nat} {lot : List Nat} (h1 : lot.length = 1) : ¬ firmK k (treeN k f lot) := by
  rintro ⟨x, hx, _⟩
  cases k with
  | zero => cases hx
  | succ k =>
    have e : treeN (k + 1) f lot = eI (lot.getD 0 0) := by
      show (if lot.length = 1 then _ else _) = _
      rw [if_pos h1]
    rw [e] at hx
    cases hx
theorem top_firm {n : Nat} {f : Nat → Nat → Nat} : (topW n f).1 = "firm" ↔ topK n f = none := by
  unfold topW
  cases topK n f with
  | some l =>
    refine ⟨fun h => ?_, fun h => by cases h⟩
    have h : (topR n f l).1 = "firm" := h
    unfold topR at h
    split at h
    · have h : ("all" : Str) = "firm" := h
      exact absurd h (by decide +kernel)
    · have h : ("line" : Str) = "firm" := h
      exact absurd h (by decide +kernel)
  | none => exact ⟨fun _ => rfl, fun _ => rfl⟩
/-- the kinds of a top that decomposes -/
theorem top_some {n : Nat} {f : Nat → Nat → Nat} {l : List Nat} (h : topK n f = some l) : ∃ a b, l = [a, b] ∧ a ≤ b ∧ (topW n f).2.2 = robM n f a b ∧ 1 < (robM n f a b).length := by
  have h0 := h
  obtain ⟨l0, hl0, hk⟩ := List.exists_of_findSome?_eq_some h
  unfold tkG at hk
  split at hk
  · rename_i h2
    cases hk
    obtain ⟨a, b, rfl⟩ := kinds_pair hl0
    refine ⟨a, b, rfl, ?_, ?_, h2⟩
    · have := (List.mem_filter.mp hl0).2
      have hm : [a, b] ∈ kindLs n f := of_decide_eq_true this
      obtain ⟨o, _, e⟩ := List.mem_map.mp hm
      rw [sort_pair] at e
      split at e
      · cases e; assumption
      · cases e; omega
    · unfold topW
      rw [h0]
      show (topR n f [a, b]).2.2 = _
      unfold topR
      split <;> rfl
  · cases hk
/-! ### a twist gives a firm knot -/
/-- four things, a path by cr, and a path by its contrary -/
structure Four (cr : Nat → Nat → Prop) (u1 u2 u3 u4 : Nat) : Prop where
  ne : u1 ≠ u2 ∧ u1 ≠ u3 ∧ u1 ≠ u4 ∧ u2 ≠ u3 ∧ u2 ≠ u4 ∧ u3 ≠ u4
  yes : cr u1 u2 ∧ cr u2 u3 ∧ cr u3 u4
  no : ¬ cr u1 u3 ∧ ¬ cr u1 u4 ∧ ¬ cr u2 u4
/-- each kind leaves the pairs of cr, or those of its contrary, mutually late -/
def Dich (f : Nat → Nat → Nat) (cr : Nat → Nat → Prop) (S : Nat → Prop) : Prop := ∀ a b, a ≤ b →
  (∀ x y, S x → S y → x ≠ y → cr x y → (f x y ≠ a ∨ f y x ≠ b) ∧ (f y x ≠ a ∨ f x y ≠ b)) ∨ (∀ x y, S x → S y → x ≠ y → ¬ cr x y → (f x y ≠ a ∨ f y x ≠ b) ∧ (f y x ≠ a ∨ f x y ≠ b))
theorem four_block {n : Nat} {f : Nat → Nat → Nat} {cr : Nat → Nat → Prop} {a b : Nat} (hab : a ≤ b) (D : Dich f cr (· < n)) {u1 u2 u3 u4 : Nat} (F : Four cr u1 u2 u3 u4) (h1 : u1 < n) (h2 : u2 < n) (h3 : u3 < n) (h4 : u4 < n) :
    ∃ l ∈ robM n f a b, u1 ∈ l ∧ u2 ∈ l ∧ u3 ∈ l ∧ u4 ∈ l := by
  obtain ⟨n12, n13, n14, n23, n24, n34⟩ := F.ne
  have mk : ∀ {x y : Nat}, (f x y ≠ a ∨ f y x ≠ b) ∧ (f y x ≠ a ∨ f x y ≠ b) → lateM n f a b x y = true ∧ lateM n f a b y x = true := fun h => ⟨late_edge h.1, late_edge h.2⟩
  refine ⟨blockM n (lateM n f a b) u1, rob_mem.mpr ⟨u1, h1, rfl⟩, mem_block.mpr ⟨h1, .inr rfl⟩, ?_⟩
  have me : blockM n (lateM n f a b) u1 ∈ robM n f a b := rob_mem.mpr ⟨u1, h1, rfl⟩
  have m1 : u1 ∈ blockM n (lateM n f a b) u1 := mem_block.mpr ⟨h1, .inr rfl⟩
  rcases D a b hab with D | D
  · have e12 := mk (D u1 u2 h1 h2 n12 F.yes.1)
    have e23 := mk (D u2 u3 h2 h3 n23 F.yes.2.1)
    have e34 := mk (D u3 u4 h3 h4 n34 F.yes.2.2)
    have m2 := rob_same me m1 h2 e12.1 e12.2
    have m3 := rob_same me m2 h3 e23.1 e23.2
    exact ⟨m2, m3, rob_same me m3 h4 e34.1 e34.2⟩
  · have e13 := mk (D u1 u3 h1 h3 n13 F.no.1)
    have e14 := mk (D u1 u4 h1 h4 n14 F.no.2.1)
    have e24 := mk (D u2 u4 h2 h4 n24 F.no.2.2)
    have m3 := rob_same me m1 h3 e13.1 e13.2
    have m4 := rob_same me m1 h4 e14.1 e14.2
    exact ⟨rob_same me m4 h2 e24.2 e24.1, m3, m4⟩
theorem twist_firm {f : Nat → Nat → Nat} (hf : ∀ x y, f x y ≤ 1) {cr : Nat → Nat → Prop} : ∀ (k : Nat) (lot : List Nat), lot.Nodup → lot.length ≤ k + 1 → Dich f cr (· ∈ lot) → (∃ u1 u2 u3 u4, Four cr u1 u2 u3 u4 ∧ u1 ∈ lot ∧ u2 ∈ lot ∧ u3 ∈ lot ∧ u4 ∈ lot) → firmK k (treeN k f lot)
  | 0, lot, nd, hl, _, ⟨u1, u2, _, _, F, m1, m2, _, _⟩ => by
    exfalso
    match lot, hl, m1, m2 with
    | [a], _, m1, m2 => exact F.ne.1 ((List.mem_singleton.mp m1).trans (List.mem_singleton.mp m2).symm)
  | k + 1, lot, nd, hl, D, ⟨u1, u2, u3, u4, F, m1, m2, m3, m4⟩ => by
    have h1 : lot.length ≠ 1 := fun e => by
      match lot, e, m1, m2 with
      | [a], _, m1, m2 => exact F.ne.1 ((List.mem_singleton.mp m1).trans (List.mem_singleton.mp m2).symm)
    rw [firm_node h1]
    cases ht : topK lot.length (partM f lot) with
    | none => exact .inl (top_firm.mpr ht)
    | some l =>
      right
      obtain ⟨a, b, _, hab, e, h2⟩ := top_some ht
      rw [e]
      obtain ⟨i1, j1⟩ := List.mem_iff_getElem?.mp m1
      obtain ⟨i2, j2⟩ := List.mem_iff_getElem?.mp m2
      obtain ⟨i3, j3⟩ := List.mem_iff_getElem?.mp m3
      obtain ⟨i4, j4⟩ := List.mem_iff_getElem?.mp m4
      have lt : ∀ {i u : Nat}, lot[i]? = some u → i < lot.length ∧ lot.getD i 0 = u := fun {i u} h => by
        obtain ⟨hi, e⟩ := List.getElem?_eq_some_iff.mp h
        exact ⟨hi, getD_of h⟩
      have inj : ∀ i j, i < lot.length → j < lot.length → i ≠ j → lot.getD i 0 ≠ lot.getD j 0 := fun i j hi hj hne e => by
        have a1 := getD_at hi
        have a2 := getD_at hj
        rw [← e] at a2
        obtain ⟨b1, c1⟩ := List.getElem?_eq_some_iff.mp a1
        obtain ⟨b2, c2⟩ := List.getElem?_eq_some_iff.mp a2
        exact hne ((List.getElem_inj nd).mp (c1.trans c2.symm))
      have D' : Dich (partM f lot) (fun i j => cr (lot.getD i 0) (lot.getD j 0)) (· < lot.length) := fun a b hab => by
        have mem : ∀ i, i < lot.length → lot.getD i 0 ∈ lot := fun i hi => List.mem_of_getElem? (getD_at hi)
        rcases D a b hab with D | D
        · exact .inl fun x y hx hy hne hc => D _ _ (mem x hx) (mem y hy) (inj x y hx hy hne) hc
        · exact .inr fun x y hx hy hne hc => D _ _ (mem x hx) (mem y hy) (inj x y hx hy hne) hc
      obtain ⟨l1, g1⟩ := lt j1
      obtain ⟨l2, g2⟩ := lt j2
      obtain ⟨l3, g3⟩ := lt j3
      obtain ⟨l4, g4⟩ := lt j4
      have F' : Four (fun i j => cr (lot.getD i 0) (lot.getD j 0)) i1 i2 i3 i4 := by
        obtain ⟨n12, n13, n14, n23, n24, n34⟩ := F.ne
        refine ⟨⟨?_, ?_, ?_, ?_, ?_, ?_⟩, ?_, ?_⟩
        · intro z; subst z; exact n12 (g1.symm.trans g2)
        · intro z; subst z; exact n13 (g1.symm.trans g3)
        · intro z; subst z; exact n14 (g1.symm.trans g4)
        · intro z; subst z; exact n23 (g2.symm.trans g3)
        · intro z; subst z; exact n24 (g2.symm.trans g4)
        · intro z; subst z; exact n34 (g3.symm.trans g4)
        · simp only [g1, g2, g3, g4]; exact F.yes
        · simp only [g1, g2, g3, g4]; exact F.no
      obtain ⟨son, hson, s1, s2, s3, s4⟩ := four_block hab D' F' l1 l2 l3 l4
      have hsm := rob_small h2 hson
      obtain ⟨t, ht', es⟩ := rob_mem.mp hson
      obtain ⟨b1, b2, b3⟩ := block_lot (L := lateM lot.length (partM f lot) a b) ht'
      rw [← es] at b1 b2 b3
      refine ⟨son, hson, twist_firm hf k _ ?_ (by rw [List.length_map]; omega) (fun a b hab => ?_) ⟨u1, u2, u3, u4, F, ?_, ?_, ?_, ?_⟩⟩
      · refine List.pairwise_map.mpr ?_
        refine (List.Pairwise.and_mem.mp b2).imp fun {x y} h => ?_
        exact inj x y (b1 x h.1) (b1 y h.2.1) h.2.2
      · have sub : ∀ x, x ∈ son.map (fun p => lot.getD p 0) → x ∈ lot := fun x hx => by
          obtain ⟨p, hp, rfl⟩ := List.mem_map.mp hx
          exact List.mem_of_getElem? (getD_at (b1 p hp))
        rcases D a b hab with D | D
        · exact .inl fun x y hx hy => D x y (sub x hx) (sub y hy)
        · exact .inr fun x y hx hy => D x y (sub x hx) (sub y hy)
      · exact List.mem_map.mpr ⟨i1, s1, g1⟩
      · exact List.mem_map.mpr ⟨i2, s2, g2⟩
      · exact List.mem_map.mpr ⟨i3, s3, g3⟩
      · exact List.mem_map.mpr ⟨i4, s4, g4⟩
/-! ### without a twist no firm knot -/
/-- across the order l with the second order r each pair has one of two pairs of values -/
structure Vals2 (f : Nat → Nat → Nat) (r : Nat → Nat → Prop) (l : List Nat) (p q c d : Nat) : Prop where
  up : ∀ x y, [x, y].Sublist l → r x y → f x y = p ∧ f y x = q
  dn : ∀ x y, [x, y].Sublist l → r y x → f x y = c ∧ f y x = d
theorem Vals2.sub {f : Nat → Nat → Nat} {r : Nat → Nat → Prop} {l m : List Nat} {p q c d : Nat} (h : Vals2 f r l p q c d) (s : m.Sublist l) : Vals2 f r m p q c d := ⟨fun x y z => h.up x y (z.trans s), fun x y z => h.dn x y (z.trans s)⟩
theorem pair_across {l1 l2 : List Nat} {x y : Nat} (hx : x ∈ l1) (hy : y ∈ l2) : [x, y].Sublist (l1 ++ l2) := (List.singleton_sublist.mpr hx).append (List.singleton_sublist.mpr hy)
theorem plain_firm {f : Nat → Nat → Nat} (hf : ∀ x y, f x y ≤ 1) {r : Nat → Nat → Prop} {p q c d : Nat} : ∀ (k : Nat) (lot l : List Nat), l.Nodup → lot.Nodup → (∀ x, x ∈ l ↔ x ∈ lot) → lot ≠ [] → lot.length ≤ k + 1 → Tot r l → ¬ Tw r l → Vals2 f r l p q c d → ¬ firmK k (treeN k f lot)
  | 0, lot, l, nd, ndl, me, hne, hl, _, _, _ => by
    have := List.length_pos_iff.mpr hne
    exact firm_leaf (by omega)
  | k + 1, lot, l, nd, ndl, me, hne, hl, t, nt, V => by
    have hpos := List.length_pos_iff.mpr hne
    by_cases h1 : lot.length = 1
    · exact firm_leaf h1
    rw [firm_node h1]
    have ll : l.length = lot.length := ((List.perm_ext_iff_of_nodup nd ndl).mpr me).length_eq
    obtain ⟨l1, l2, rfl, n1, n2, hs⟩ := split_of l r t nd nt (by omega)
    have inj : ∀ i j, i < lot.length → j < lot.length → i ≠ j → lot.getD i 0 ≠ lot.getD j 0 := fun i j hi hj hne e => by
      have a1 := getD_at hi
      have a2 := getD_at hj
      rw [← e] at a2
      obtain ⟨b1, c1⟩ := List.getElem?_eq_some_iff.mp a1
      obtain ⟨b2, c2⟩ := List.getElem?_eq_some_iff.mp a2
      exact hne ((List.getElem_inj ndl).mp (c1.trans c2.symm))
    obtain ⟨x0, hx0⟩ := List.exists_mem_of_ne_nil l1 n1
    obtain ⟨y0, hy0⟩ := List.exists_mem_of_ne_nil l2 n2
    have disj : ∀ x, x ∈ l1 → x ∉ l2 := fun x a b => (List.nodup_append.mp nd).2.2 x a x b rfl
    obtain ⟨i0, hi0⟩ := List.mem_iff_getElem?.mp ((me x0).mp (List.mem_append_left _ hx0))
    obtain ⟨j0, hj0⟩ := List.mem_iff_getElem?.mp ((me y0).mp (List.mem_append_right _ hy0))
    have topne : topK lot.length (partM f lot) ≠ none := by
      have across : ∃ P Q, ∀ u v, u < lot.length → v < lot.length → lot.getD u 0 ∈ l1 → ¬ lot.getD v 0 ∈ l1 → partM f lot u v = P ∧ partM f lot v u = Q := by
        have in2 : ∀ v, v < lot.length → ¬ lot.getD v 0 ∈ l1 → lot.getD v 0 ∈ l2 := fun v hv hn => by
          have := (me _).mpr (List.mem_of_getElem? (getD_at hv))
          rcases List.mem_append.mp this with z | z
          · exact absurd z hn
          · exact z
        rcases hs with hs | hs
        · exact ⟨p, q, fun u v hu hv su sv => V.up _ _ (pair_across su (in2 v hv sv)) (hs _ su _ (in2 v hv sv))⟩
        · exact ⟨c, d, fun u v hu hv su sv => V.dn _ _ (pair_across su (in2 v hv sv)) (hs _ su _ (in2 v hv sv))⟩
      obtain ⟨P, Q, hPQ⟩ := across
      have hi := (List.getElem?_eq_some_iff.mp hi0).1
      have hj := (List.getElem?_eq_some_iff.mp hj0).1
      exact across_top (part_le hf lot) (fun i => lot.getD i 0 ∈ l1) (p := P) (q := Q) hi hj (by show lot.getD i0 0 ∈ l1; rw [getD_of hi0]; exact hx0) (by show ¬ lot.getD j0 0 ∈ l1; rw [getD_of hj0]; exact fun z => disj y0 z hy0) hPQ
    rintro (hw | ⟨son, hson, hfirm⟩)
    · exact topne (top_firm.mp hw)
    · obtain ⟨s1, s2⟩ := sons_ok (n := lot.length) (part_le hf lot) (by omega)
      obtain ⟨a1, a2, a3⟩ := s2 son hson
      have snd : son.Nodup := by
        cases ht : topK lot.length (partM f lot) with
        | none => exact absurd ht topne
        | some l =>
          obtain ⟨a, b, _, hab, e, h2⟩ := top_some ht
          rw [e] at hson
          obtain ⟨t', ht', es⟩ := rob_mem.mp hson
          rw [es]
          exact (block_lot (L := lateM lot.length (partM f lot) a b) ht').2.1
      have subn : (son.map fun p => lot.getD p 0).Nodup := by
        refine List.pairwise_map.mpr ?_
        refine (List.Pairwise.and_mem.mp snd).imp fun {x y} h => ?_
        exact inj x y (a1 x h.1) (a1 y h.2.1) h.2.2
      have subl : ∀ x, x ∈ son.map (fun p => lot.getD p 0) → x ∈ lot := fun x hx => by
        obtain ⟨p, hp, rfl⟩ := List.mem_map.mp hx
        exact List.mem_of_getElem? (getD_at (a1 p hp))
      have sl : ((l1 ++ l2).filter fun x => decide (x ∈ son.map fun p => lot.getD p 0)).Sublist (l1 ++ l2) := List.filter_sublist
      refine plain_firm hf k (son.map fun p => lot.getD p 0) ((l1 ++ l2).filter fun x => decide (x ∈ son.map fun p => lot.getD p 0)) (nd.sublist sl) subn (fun x => ?_) (by simpa using a2) (by rw [List.length_map]; omega) (t.sub fun x hx => sl.subset hx) (fun z => nt (z.sub sl)) (V.sub sl) hfirm
      rw [List.mem_filter]
      exact ⟨fun h => of_decide_eq_true h.2, fun h => ⟨(me x).mpr (subl x h), decide_eq_true h⟩⟩
end Pt
set_option maxHeartbeats 4000000
/-! Math E: the rows, their twists and tables. -/
namespace Pt
open PySem
abbrev rr (other : List Nat) : Nat → Nat → Prop := fun x y => placeM other x < placeM other y
theorem place_pairwise {l : List Nat} (h : l.Nodup) : l.Pairwise (fun x y => placeM l x < placeM l y) := by
  rw [List.pairwise_iff_getElem]
  intro i j hi hj hij
  have a : placeM l l[i] = i := h.idxOf_getElem i hi
  have b : placeM l l[j] = j := h.idxOf_getElem j hj
  rw [a, b]
  exact hij
theorem place_sub {l : List Nat} {x y : Nat} (h : l.Nodup) (s : [x, y].Sublist l) : placeM l x < placeM l y := by
  have := (place_pairwise h).sublist s
  simpa using this
theorem place_inj {l : List Nat} {x y : Nat} (hx : x ∈ l) (hy : y ∈ l) (e : placeM l x = placeM l y) : x = y := by
  have a := idx_get hx
  have b := idx_get hy
  rw [e, b] at a
  exact (Option.some.inj a).symm
theorem eq_by (pl : Nat → Nat) {l1 l2 : List Nat} (h1 : l1.Pairwise (fun x y => pl x < pl y)) (h2 : l2.Pairwise (fun x y => pl x < pl y)) (p : l1.Perm l2) : l1 = l2 :=
  List.Perm.eq_of_pairwise (le := fun x y => pl x < pl y) (fun a b _ _ u v => absurd (Nat.lt_trans u v) (Nat.lt_irrefl _)) h1 h2 p
/-! ### twisted -/
theorem isTw_iff {l m : List Nat} : isTw l m = true ↔ ∃ a b c d, l = [a, b, c, d] ∧ (m = [b, d, a, c] ∨ m = [c, a, d, b]) := by
  unfold isTw
  constructor
  · intro h
    split at h
    · rename_i a b c d
      exact ⟨a, b, c, d, rfl, of_decide_eq_true h⟩
    · cases h
  · rintro ⟨a, b, c, d, rfl, h⟩
    exact decide_eq_true h
theorem isTw_swap {l m : List Nat} (h : isTw l m = true) : isTw m l = true := by
  obtain ⟨a, b, c, d, rfl, rfl | rfl⟩ := isTw_iff.mp h
  · exact isTw_iff.mpr ⟨b, d, a, c, rfl, .inr rfl⟩
  · exact isTw_iff.mpr ⟨c, a, d, b, rfl, .inl rfl⟩
theorem isTw_revR {l m : List Nat} (h : isTw l m = true) : isTw l m.reverse = true := by
  obtain ⟨a, b, c, d, rfl, rfl | rfl⟩ := isTw_iff.mp h
  · exact isTw_iff.mpr ⟨a, b, c, d, rfl, .inr rfl⟩
  · exact isTw_iff.mpr ⟨a, b, c, d, rfl, .inl rfl⟩
theorem isTw_eqS (l m : List Nat) : isTw m l = isTw l m := Bool.eq_iff_iff.mpr ⟨isTw_swap, isTw_swap⟩
theorem isTw_eqR (l m : List Nat) : isTw l m.reverse = isTw l m := Bool.eq_iff_iff.mpr ⟨fun h => by have := isTw_revR h; rwa [List.reverse_reverse] at this, isTw_revR⟩
theorem within_rev (row lot : List Nat) : within row.reverse lot = (within row lot).reverse := by
  unfold within
  rw [List.filter_reverse]
theorem tw_congr {r1 o1 r2 o2 : List Nat} (hl : r1.length = r2.length) (h : ∀ lot, isTw (within r1 lot) (within o1 lot) = isTw (within r2 lot) (within o2 lot)) : twistedM r1 o1 = twistedM r2 o2 := by
  unfold twistedM
  rw [hl]
  congr 1
  funext lot
  unfold twG
  rw [h lot]
theorem tw_swap (row other : List Nat) (h : other.length = row.length) : twistedM other row = twistedM row other := tw_congr h fun lot => isTw_eqS _ _
theorem tw_rev2 (row other : List Nat) : twistedM row.reverse other = twistedM row other := tw_congr (List.length_reverse) fun lot => by
  rw [within_rev, isTw_eqS, isTw_eqR, isTw_eqS]
theorem tw_revO (row other : List Nat) : twistedM row other.reverse = twistedM row other := tw_congr rfl fun lot => by rw [within_rev, isTw_eqR]
section
variable {row other : List Nat}
theorem row_other (hR : Row row) (hO : Row other) (hl : other.length = row.length) {x : Nat} (h : x ∈ row) : x ∈ other := row_mem hO (by rw [hl]; exact hR.lt x h)
theorem rr_tot (hR : Row row) (hO : Row other) (hl : other.length = row.length) : Tot (rr other) row := by
  refine ⟨fun x hx y hy hne => ?_, fun x y z a b => Nat.lt_trans a b, fun x => Nat.lt_irrefl _⟩
  have : placeM other x ≠ placeM other y := fun e => hne (place_inj (row_other hR hO hl hx) (row_other hR hO hl hy) e)
  show placeM other x < placeM other y ∨ placeM other y < placeM other x
  omega
theorem tw_lot (hR : Row row) (hO : Row other) (hl : other.length = row.length) {a b c d : Nat} (s : [a, b, c, d].Sublist row) (h : (rr other b d ∧ rr other d a ∧ rr other a c) ∨ (rr other c a ∧ rr other a d ∧ rr other d b)) :
    Up row.length 4 (sortN [a, b, c, d]) ∧ isTw (within row (sortN [a, b, c, d])) (within other (sortN [a, b, c, d])) = true := by
  have nd : [a, b, c, d].Nodup := hR.nd.sublist s
  have pm := sortN_perm [a, b, c, d]
  have mem : ∀ x ∈ [a, b, c, d], x ∈ row := fun x hx => s.subset hx
  have L : Lot row.length (sortN [a, b, c, d]) := ⟨fun x hx => hR.lt x (mem x (pm.mem_iff.mp hx)), pm.nodup_iff.mpr nd⟩
  have up : (sortN [a, b, c, d]).Pairwise (· < ·) := by
    have h1 := sortN_sorted [a, b, c, d]
    have h2 : (sortN [a, b, c, d]).Pairwise (· ≠ ·) := L.nd
    exact (h1.and h2).imp fun h => Nat.lt_of_le_of_ne h.1 h.2
  refine ⟨⟨by rw [sortN_len]; rfl, up, L.lt⟩, ?_⟩
  have w1 : within row (sortN [a, b, c, d]) = [a, b, c, d] := by
    refine eq_by (placeM row) ((place_pairwise hR.nd).sublist List.filter_sublist) ((place_pairwise hR.nd).sublist s) ?_
    exact (filt_len hR rfl L).trans pm
  have p2 : (within other (sortN [a, b, c, d])).Perm [a, b, c, d] := (filt_len hO hl L).trans pm
  have s2 : (within other (sortN [a, b, c, d])).Pairwise (fun x y => placeM other x < placeM other y) := (place_pairwise hO.nd).sublist List.filter_sublist
  refine isTw_iff.mpr ⟨a, b, c, d, w1, ?_⟩
  rcases h with ⟨h1, h2, h3⟩ | ⟨h1, h2, h3⟩
  · left
    refine eq_by (placeM other) s2 ?_ (p2.trans ?_)
    · have h1 : placeM other b < placeM other d := h1
      have h2 : placeM other d < placeM other a := h2
      have h3 : placeM other a < placeM other c := h3
      simp
      omega
    · exact (List.perm_ext_iff_of_nodup nd (by simp at nd ⊢; omega)).mpr fun x => by simp; omega
  · right
    refine eq_by (placeM other) s2 ?_ (p2.trans ?_)
    · have h1 : placeM other c < placeM other a := h1
      have h2 : placeM other a < placeM other d := h2
      have h3 : placeM other d < placeM other b := h3
      simp
      omega
    · exact (List.perm_ext_iff_of_nodup nd (by simp at nd ⊢; omega)).mpr fun x => by simp; omega
theorem tw_iff (hR : Row row) (hO : Row other) (hl : other.length = row.length) : (twistedM row other).isSome = true ↔ Tw (rr other) row := by
  constructor
  · intro h
    obtain ⟨l, hs⟩ := Option.isSome_iff_exists.mp h
    unfold twistedM at hs
    obtain ⟨lot, _, hg⟩ := List.exists_of_findSome?_eq_some hs
    unfold twG at hg
    split at hg
    · rename_i ht
      obtain ⟨a, b, c, d, e1, e2⟩ := isTw_iff.mp ht
      have s1 : [a, b, c, d].Sublist row := by rw [← e1]; exact List.filter_sublist
      have s2 : (within other lot).Pairwise (fun x y => placeM other x < placeM other y) := (place_pairwise hO.nd).sublist List.filter_sublist
      refine ⟨a, b, c, d, s1, ?_⟩
      rcases e2 with e2 | e2
      · rw [e2] at s2
        simp at s2
        exact .inl ⟨s2.1.1, s2.2.1.1, s2.2.2⟩
      · rw [e2] at s2
        simp at s2
        exact .inr ⟨s2.1.1, s2.2.1.1, s2.2.2⟩
    · cases hg
  · rintro ⟨a, b, c, d, s, h⟩
    obtain ⟨u, ht⟩ := tw_lot hR hO hl s h
    cases he : twistedM row other with
    | some l => rfl
    | none =>
      unfold twistedM at he
      have := List.findSome?_eq_none_iff.mp he _ (mem_fours _ _ _ u)
      unfold twG at this
      rw [if_pos ht] at this
      cases this
/-! ### the tables -/
/-- the two things stand crossed -/
def Cr (row other : List Nat) (x y : Nat) : Prop := (placeM row x < placeM row y ∧ placeM other y < placeM other x) ∨ (placeM row y < placeM row x ∧ placeM other x < placeM other y)
theorem Cr.symm {x y : Nat} (h : Cr row other x y) : Cr row other y x := h.elim (fun z => .inr z) (fun z => .inl z)
theorem drawn_one {x y : Nat} (h : Cr row other x y) : drawnM row other x y = 1 := by
  unfold drawnM apartM
  rcases h with h | h
  · rw [if_pos h]
    split <;> rfl
  · rw [if_pos h]
    split <;> rfl
theorem drawn_zero {x y : Nat} (h : ¬ Cr row other x y) : drawnM row other x y = 0 := by
  unfold drawnM apartM
  rw [if_neg (fun z => h (.inl z)), if_neg (fun z => h (.inr z))]
  rfl
theorem drawn_le (x y : Nat) : drawnM row other x y ≤ 1 := by
  by_cases h : Cr row other x y
  · rw [drawn_one h]; exact Nat.le_refl _
  · rw [drawn_zero h]; exact Nat.zero_le _
theorem rest_le (x y : Nat) : restM (drawnM row other) x y ≤ 1 := by
  unfold restM
  split
  · exact Nat.zero_le _
  · exact Nat.sub_le _ _
theorem alike_le (x y : Nat) : alikeM row other x y ≤ 1 := by
  unfold alikeM
  split <;> omega
theorem rest_one {x y : Nat} (hne : x ≠ y) (h : ¬ Cr row other x y) : restM (drawnM row other) x y = 1 := by
  unfold restM
  rw [if_neg hne, drawn_zero h]
theorem rest_zero {x y : Nat} (h : Cr row other x y) : restM (drawnM row other) x y = 0 := by
  unfold restM
  split
  · rfl
  · rw [drawn_one h]
theorem vals_web (hR : Row row) : Vals2 (drawnM row other) (rr other) row 0 0 1 1 := by
  refine ⟨fun x y s h => ?_, fun x y s h => ?_⟩
  · have p := place_sub hR.nd s
    have h : placeM other x < placeM other y := h
    have n : ¬ Cr row other x y := fun z => by rcases z with ⟨z1, z2⟩ | ⟨z1, z2⟩ <;> omega
    exact ⟨drawn_zero n, drawn_zero fun z => n z.symm⟩
  · have p := place_sub hR.nd s
    have n : Cr row other x y := .inl ⟨p, h⟩
    exact ⟨drawn_one n, drawn_one n.symm⟩
theorem vals_rest (hR : Row row) : Vals2 (restM (drawnM row other)) (rr other) row 1 1 0 0 := by
  refine ⟨fun x y s h => ?_, fun x y s h => ?_⟩
  · have p := place_sub hR.nd s
    have h : placeM other x < placeM other y := h
    have hne : x ≠ y := fun e => by subst e; omega
    have n : ¬ Cr row other x y := fun z => by rcases z with ⟨z1, z2⟩ | ⟨z1, z2⟩ <;> omega
    exact ⟨rest_one hne n, rest_one hne.symm fun z => n z.symm⟩
  · have p := place_sub hR.nd s
    have n : Cr row other x y := .inl ⟨p, h⟩
    exact ⟨rest_zero n, rest_zero n.symm⟩
theorem vals_alike (hR : Row row) : Vals2 (alikeM row other) (rr other) row 1 0 0 0 := by
  refine ⟨fun x y s h => ?_, fun x y s h => ?_⟩
  · have p := place_sub hR.nd s
    have h : placeM other x < placeM other y := h
    unfold alikeM
    exact ⟨if_pos ⟨p, h⟩, if_neg fun z => by omega⟩
  · have p := place_sub hR.nd s
    have h : placeM other y < placeM other x := h
    unfold alikeM
    exact ⟨if_neg fun z => by omega, if_neg fun z => by omega⟩
/-- things that are not crossed stand the same way -/
theorem not_cr (hR : Row row) (hO : Row other) (hl : other.length = row.length) {x y : Nat} (hx : x < row.length) (hy : y < row.length) (hne : x ≠ y) (h : ¬ Cr row other x y) : (placeM row x < placeM row y ∧ placeM other x < placeM other y) ∨ (placeM row y < placeM row x ∧ placeM other y < placeM other x) := by
  have a : placeM row x ≠ placeM row y := fun e => hne (place_inj (row_mem hR hx) (row_mem hR hy) e)
  have b : placeM other x ≠ placeM other y := fun e => hne (place_inj (row_mem hO (by omega)) (row_mem hO (by omega)) e)
  unfold Cr at h
  omega
theorem dich_web : Dich (drawnM row other) (Cr row other) (· ∈ List.range row.length) := by
  intro a b _
  by_cases ha : a = 1
  · right
    intro x y _ _ _ h
    rw [drawn_zero h, drawn_zero fun z => h z.symm]
    exact ⟨.inl (by omega), .inl (by omega)⟩
  · left
    intro x y _ _ _ h
    rw [drawn_one h, drawn_one h.symm]
    exact ⟨.inl (by omega), .inl (by omega)⟩
theorem dich_rest : Dich (restM (drawnM row other)) (Cr row other) (· ∈ List.range row.length) := by
  intro a b _
  by_cases ha : a = 1
  · left
    intro x y _ _ _ h
    rw [rest_zero h, rest_zero h.symm]
    exact ⟨.inl (by omega), .inl (by omega)⟩
  · right
    intro x y _ _ hne h
    rw [rest_one hne h, rest_one hne.symm fun z => h z.symm]
    exact ⟨.inl (by omega), .inl (by omega)⟩
theorem alike_cr {x y : Nat} (h : Cr row other x y) : alikeM row other x y = 0 := by
  unfold alikeM
  exact if_neg fun z => by rcases h with h | h <;> omega
theorem dich_alike (hR : Row row) (hO : Row other) (hl : other.length = row.length) : Dich (alikeM row other) (Cr row other) (· ∈ List.range row.length) := by
  intro a b _
  by_cases ha : a = 0
  · by_cases hb : b = 0
    · right
      intro x y hx hy hne h
      have : (alikeM row other x y = 1 ∧ alikeM row other y x = 0) ∨ (alikeM row other x y = 0 ∧ alikeM row other y x = 1) := by
        unfold alikeM
        rcases not_cr hR hO hl (List.mem_range.mp hx) (List.mem_range.mp hy) hne h with z | z
        · exact .inl ⟨if_pos z, if_neg fun w => by omega⟩
        · exact .inr ⟨if_neg fun w => by omega, if_pos z⟩
      omega
    · left
      intro x y _ _ _ h
      rw [alike_cr h, alike_cr h.symm]
      exact ⟨.inr (by omega), .inr (by omega)⟩
  · left
    intro x y _ _ _ h
    rw [alike_cr h, alike_cr h.symm]
    exact ⟨.inl (by omega), .inl (by omega)⟩
theorem four_of (hR : Row row) {a b c d : Nat} (s : [a, b, c, d].Sublist row) (h : (rr other b d ∧ rr other d a ∧ rr other a c) ∨ (rr other c a ∧ rr other a d ∧ rr other d b)) :
    ∃ u1 u2 u3 u4, Four (Cr row other) u1 u2 u3 u4 ∧ u1 ∈ [a, b, c, d] ∧ u2 ∈ [a, b, c, d] ∧ u3 ∈ [a, b, c, d] ∧ u4 ∈ [a, b, c, d] := by
  have pr := (place_pairwise hR.nd).sublist s
  have nd : [a, b, c, d].Nodup := hR.nd.sublist s
  simp at pr nd
  obtain ⟨⟨p1, p2, p3⟩, ⟨p4, p5⟩, p6⟩ := pr
  obtain ⟨⟨n1, n2, n3⟩, ⟨n4, n5⟩, n6⟩ := nd
  rcases h with ⟨h1, h2, h3⟩ | ⟨h1, h2, h3⟩
  · have h1 : placeM other b < placeM other d := h1
    have h2 : placeM other d < placeM other a := h2
    have h3 : placeM other a < placeM other c := h3
    refine ⟨b, a, d, c, ⟨⟨by omega, by omega, by omega, by omega, by omega, by omega⟩, ⟨?_, ?_, ?_⟩, ?_, ?_, ?_⟩, by simp, by simp, by simp, by simp⟩ <;> unfold Cr <;> omega
  · have h1 : placeM other c < placeM other a := h1
    have h2 : placeM other a < placeM other d := h2
    have h3 : placeM other d < placeM other b := h3
    refine ⟨a, c, b, d, ⟨⟨by omega, by omega, by omega, by omega, by omega, by omega⟩, ⟨?_, ?_, ?_⟩, ?_, ?_, ?_⟩, by simp, by simp, by simp, by simp⟩ <;> unfold Cr <;> omega
/-- a firm knot exactly with a twist -/
theorem firm_iff (hR : Row row) (hO : Row other) (hl : other.length = row.length) (hn : row.length ≤ 6) {f : Nat → Nat → Nat} (hf : ∀ x y, f x y ≤ 1) {p q c d : Nat} (V : Vals2 f (rr other) row p q c d) (D : Dich f (Cr row other) (· ∈ List.range row.length)) :
    hasFirm row.length f = (twistedM row other).isSome := by
  have me : ∀ x, x ∈ row ↔ x ∈ List.range row.length := fun x => ⟨fun h => List.mem_range.mpr (hR.lt x h), fun h => row_mem hR (List.mem_range.mp h)⟩
  rw [Bool.eq_iff_iff, tw_iff hR hO hl]
  unfold hasFirm treeTop
  by_cases h0 : row.length = 0
  · rw [if_pos h0]
    have e : row = [] := List.eq_nil_of_length_eq_zero h0
    refine ⟨fun h => (by cases h), fun ⟨a, b, c, d, s, _⟩ => ?_⟩
    rw [e] at s
    exact absurd (s.subset (List.mem_cons_self)) (by simp)
  · rw [if_neg h0]
    have hne : List.range row.length ≠ [] := fun z => h0 (by rw [← List.length_range (n := row.length), z]; rfl)
    have key : firmK 5 (treeN 5 f (List.range row.length)) ↔ Tw (rr other) row := by
      constructor
      · intro h
        refine Classical.byContradiction fun nt => ?_
        exact plain_firm hf 5 (List.range row.length) row hR.nd List.nodup_range me hne (by rw [List.length_range]; omega) (rr_tot hR hO hl) nt V h
      · rintro ⟨a, b, c, d, s, h⟩
        obtain ⟨u1, u2, u3, u4, F, m1, m2, m3, m4⟩ := four_of (other := other) hR s h
        exact twist_firm hf 5 _ List.nodup_range (by rw [List.length_range]; omega) D ⟨u1, u2, u3, u4, F, (me _).mp (s.subset m1), (me _).mp (s.subset m2), (me _).mp (s.subset m3), (me _).mp (s.subset m4)⟩
    rw [← key, List.any_eq_true]
    exact ⟨fun ⟨x, h1, h2⟩ => ⟨x, h1, of_decide_eq_true h2⟩, fun ⟨x, h1, h2⟩ => ⟨x, h1, decide_eq_true h2⟩⟩
end
end Pt
set_option maxHeartbeats 8000000
/-! Defs J: _law_is_told. -/
namespace Pt
open PySem PySem.Spec PyProof.Rows L2
/-- what the law says of a pair of rows, of the mirrors alone -/
structure Told (row other : List Nat) : Prop where
  t1 : twistedM other row = twistedM row other
  t2 : twistedM row.reverse other.reverse = twistedM row other
  t3 : twistedM row.reverse other = twistedM row other
  t4 : twistedM other row.reverse = twistedM row other
  ok6 : row.length ≤ 6 → row.length ≠ 0 → TreeOk 5 row.length (drawnM row other) (List.range row.length) ∧ Tre 5 (treeTop row.length (drawnM row other))
  firm : row.length ≤ 6 → hasFirm row.length (drawnM row other) = (twistedM row other).isSome
  form : row.length ≤ 6 → (firstFirm row.length (drawnM row other)).isNone = (twistedM row other).isNone
  ok5 : row.length ≤ 5 → row.length ≠ 0 → (TreeOk 5 row.length (restM (drawnM row other)) (List.range row.length) ∧ Tre 5 (treeTop row.length (restM (drawnM row other)))) ∧ (TreeOk 5 row.length (alikeM row other) (List.range row.length) ∧ Tre 5 (treeTop row.length (alikeM row other)))
  rest : row.length ≤ 5 → hasFirm row.length (restM (drawnM row other)) = (twistedM row other).isSome
  alike : row.length ≤ 5 → hasFirm row.length (alikeM row other) = (twistedM row other).isSome
theorem Row.rev {row : List Nat} (h : Row row) : Row row.reverse := by
  refine ⟨fun x hx => ?_, (List.reverse_perm row).nodup_iff.mpr h.nd⟩
  rw [List.length_reverse]
  exact h.lt x (List.mem_reverse.mp hx)
theorem tw_up {row other l : List Nat} (h : twistedM row other = some l) : Up row.length 4 l := by
  unfold twistedM at h
  obtain ⟨l0, h0, h1⟩ := List.exists_of_findSome?_eq_some h
  unfold twG at h1
  split at h1
  · cases h1
    exact fours_mem _ _ _ h0
  · cases h1
theorem small_due {row other : List Nat} (hn : row.length ≤ 8) : Small (eOL (twistedM row other)) := by
  cases h : twistedM row other with
  | none => exact .non
  | some l =>
    have u := tw_up h
    exact .lot l (fun x hx => by have := u.lt x hx; omega) (by rw [u.len]; omega)
theorem small_row {row : List Nat} (h : Row row) (hn : row.length ≤ 8) : Small (eL row) := .lot row (fun x hx => by have := h.lt x hx; omega) (by omega)
section
variable {P : Program} {w : World} {K : PySem.W.Frag} {mg : Str → Option Value} {base : Heap} {T : List NTab}
theorem kw_twisted (D : Def K mg "twisted" 34 ["row", "other"]) : ∃ (f : Addr) (fd : FuncData) (oc : Value) (od : Option Addr) (osl : Array (Option Value)), mg "twisted" = some (.ref f) ∧ K.lookup f = some ⟨oc, od, .func fd, osl⟩ ∧ ∀ (u1 u2 : Value), bindArgs fd ⟨[], [("other", u1), ("row", u2)]⟩ = bindArgs fd ⟨[u2, u1], []⟩ := by
  obtain ⟨f, fd, F, hb, hm⟩ := D.ex
  obtain ⟨oc, od, kV, doc, pm, an, cdv, ct, osl, rfl, lk, _⟩ := F.ex
  exact ⟨f, _, oc, od, osl, hm, lk, fun u1 u2 => rfl⟩
theorem sc_told : FnScope ["_law_row", "_law_other", "_law_due", "_law_text", "_law_found", "_law_web", "_law_is_one"] ["_law_row", "_law_other"] (defScope (topS 52)) := ⟨rfl, rfl, rfl, by decide +kernel, rfl, by decide +kernel, by decide +kernel⟩
def A_told : List RS → RS → Prop := fun as r => ∃ row other, as = [.d (eL row), .d (eL other)] ∧ r = .d (.bool true) ∧ Row row ∧ Row other ∧ other.length = row.length ∧ row.length ≤ 7 ∧ Told row other
theorem ne_same {T : List NTab} {X : Cx} {Γ : List Sh} {a b : Expr} {x : Str} (ha : EE T X a Γ (.d (.str x))) (hb : EE T X b Γ (.d (.str x))) : CO T X .NotEq a b Γ false := co_cast (co_neS ha hb) (by simp)
theorem isSome_due (o : Option (List Nat)) : (!isNoneD (eOL o)) = o.isSome := by cases o <;> rfl
set_option maxHeartbeats 16000000 in
theorem ok_told (D : Def K mg "_law_is_told" 52 ["_law_row", "_law_other"]) (Dt : Def K mg "twisted" 34 ["row", "other"]) (G1 : FnG P w K mg base T 2 "_law_first" A_twisted) (G2 : FnG P w K mg base T 2 "twisted" A_twisted) (G3 : FnG P w K mg base T 3 "drawn" A_drawn) (G4 : FnG P w K mg base T 15 "_law_has_firm" A_has_firm)
    (G5 : FnG P w K mg base T 4 "has_formula" A_has_formula) (G6 : FnG P w K mg base T 1 "rest" A_rest) (G7 : FnG P w K mg base T 2 "orders_of" A_orders) (ml : mg "len" = none) (mr : mg "repr" = none) : FnGg P w K mg base T 16 "_law_is_told" A_told := by
  refine fnGg D sc_told (fun as r ⟨_, _, e, _⟩ => by rw [e]; rfl) (fun as r hA f0 cdv B outer s H hgd hr => ?_)
  obtain ⟨row, other, rfl, rfl, hR, hO, hlen, hn, M⟩ := hA
  have hg : (B.deeper (envOfC "_law_is_told" (defScope (topS 52)) s.heap.objs.size f0 cdv)).guards = some [] := hgd
  have sR := small_row hR (by omega : row.length ≤ 8)
  have sO := small_row hO (by omega : other.length ≤ 8)
  generalize hdue : twistedM row other = due at *
  have sD : Small (eOL due) := by rw [← hdue]; exact small_due (by omega)
  have sho : ∀ {ds : List PyData}, (∀ d ∈ ds, Small d) → ds.length ≤ 20 → Sho (.list ds) := fun h1 h2 => sho_small h1 h2
  have hRr := hR.rev
  have hOr := hO.rev
  have lr : row.reverse.length = row.length := List.length_reverse
  have lo : other.reverse.length = other.length := List.length_reverse
  -- due, text
  refine hs_cons (h1_par2 (i := 2) (j := 3) (r1 := .d (eOL due)) (r2 := .d (.str (PyData.shown (.list [eL row, eL other])))) (by decide) (ee_call G1 (hr.mono (by decide)) (ea_cons (ee_v (i := 0) rfl) (ea_cons (ee_v (i := 1) rfl) ea_nil)) (.cons rfl (.cons rfl .nil)) ⟨row, other, rfl, by rw [hdue], hR, hO, hlen, by omega⟩)
    (ee_repr hr hg (ea_cons (ee_q (ee_lst (ds := [eL row, eL other]) (ea_cons (ee_v (i := 0) rfl) (ea_cons (ee_v (i := 1) rfl) ea_nil)))) ea_nil) (sho (by intro d hd; simp at hd; rcases hd with rfl | rfl <;> assumption) (by simp)) mr) ?_ rfl rfl sc_told.nd)
  -- found
  refine hs_cons (h1_set (i := 4) (r := .n [eOL due, eOL due, eOL due, eOL due]) (ee_lst (ds := [eOL due, eOL due, eOL due, eOL due]) (ea_cons (ee_call G2 (hr.mono (by decide)) (ea_cons (ee_v (i := 0) rfl) (ea_cons (ee_v (i := 1) rfl) ea_nil)) (.cons rfl (.cons rfl .nil)) ⟨row, other, rfl, by rw [hdue], hR, hO, hlen, by omega⟩)
    (ea_cons (ee_callK2 (a1 := .d (eL other)) (a2 := .d (eL row)) G2 (hr.mono (by decide)) (ee_v (i := 1) rfl) (ee_v (i := 0) rfl) rfl rfl ⟨row, other, rfl, by rw [hdue], hR, hO, hlen, by omega⟩ (kw_twisted Dt))
    (ea_cons (ee_call G2 (hr.mono (by decide)) (ea_cons (ee_v (i := 1) rfl) (ea_cons (ee_v (i := 0) rfl) ea_nil)) (.cons rfl (.cons rfl .nil)) ⟨other, row, rfl, by rw [M.t1, hdue], hO, hR, hlen.symm, by omega⟩)
    (ea_cons (ee_call G2 (hr.mono (by decide)) (ea_cons (ee_revT (ee_v (i := 0) rfl)) (ea_cons (ee_revT (ee_v (i := 1) rfl)) ea_nil)) (.cons rfl (.cons rfl .nil)) ⟨row.reverse, other.reverse, rfl, by rw [M.t2, hdue], hRr, hOr, by omega, by omega⟩) ea_nil))))) ?_ rfl sc_told.nd)
  have many : ∀ (k : Nat), ∀ d ∈ List.replicate k (eOL due), Small d := fun k d hd => by rw [(List.mem_replicate.mp hd).2]; exact sD
  have d4 : ∀ d ∈ [eOL due, eOL due, eOL due, eOL due], Small d := many 4
  have d2 : ∀ d ∈ [eOL due, eOL due], Small d := many 2
  refine hs_cons (h1_if (x := false) (et_cast (et_or2 (et_co (ne_same (ee_repr hr hg (ea_cons (ee_vl (i := 4) rfl) ea_nil) (sho d4 (by simp)) mr) (ee_repr (xs := [eOL due, eOL due, eOL due, eOL due]) hr hg (ea_cons (ee_q (ee_cast (ee_rep (xs := [eOL due]) (n := 4) (ee_q (ee_lst (ds := [eOL due]) (ea_cons (ee_v (i := 2) rfl) ea_nil))) (ee_nat (i := 4)) (by simp) (by omega)) rfl)) ea_nil) (sho d4 (by simp)) mr)))
    (fun _ => et_co (ne_same (ee_repr (xs := [eOL due, eOL due]) hr hg (ea_cons (ee_q (ee_lst (ds := [eOL due, eOL due]) (ea_cons (ee_call G2 (hr.mono (by decide)) (ea_cons (ee_revT (ee_v (i := 0) rfl)) (ea_cons (ee_v (i := 1) rfl) ea_nil)) (.cons rfl (.cons rfl .nil)) ⟨row.reverse, other, rfl, by rw [M.t3, hdue], hRr, hO, by omega, by omega⟩) (ea_cons (ee_call G2 (hr.mono (by decide)) (ea_cons (ee_v (i := 1) rfl) (ea_cons (ee_revT (ee_v (i := 0) rfl)) ea_nil)) (.cons rfl (.cons rfl .nil)) ⟨other, row.reverse, rfl, by rw [M.t4, hdue], hO, hRr, by omega, by omega⟩) ea_nil)))) ea_nil) (sho d2 (by simp)) mr)
      (ee_repr (xs := [eOL due, eOL due]) hr hg (ea_cons (ee_q (ee_cast (ee_rep (xs := [eOL due]) (n := 2) (ee_q (ee_lst (ds := [eOL due]) (ea_cons (ee_v (i := 2) rfl) ea_nil))) (ee_nat (i := 2)) (by simp) (by omega)) rfl)) ea_nil) (sho d2 (by simp)) mr)))) rfl) (fun h => by cases h) (fun _ => hs_nil ?_))
  -- web
  refine hs_cons (h1_par2 (i := 5) (j := 6) (r1 := .d (eT row.length (drawnM row other))) (r2 := .d (.bool due.isSome)) (by decide) (ee_call G3 (hr.mono (by decide)) (ea_cons (ee_v (i := 0) rfl) (ea_cons (ee_v (i := 1) rfl) ea_nil)) (.cons rfl (.cons rfl .nil)) ⟨row, other, rfl, rfl, hR, hO, hlen, by omega⟩) (ee_cast (ee_co (co_notN (ee_v (i := 2) rfl))) (by rw [isSome_due])) ?_ rfl rfl sc_told.nd)
  have sB : ∀ (a b : Bool), ∀ d ∈ [PyData.bool a, PyData.bool b], Small d := fun a b d hd => by simp at hd; rcases hd with rfl | rfl <;> exact .bl _
  have eN : ∀ o : Option (List Nat), o.isNone = !o.isSome := fun o => by cases o <;> rfl
  refine hs_cons (h1_if (x := false) (et_cast (et_and2 (y := false) (et_co (co_ltN (ee_lenN (ea_cons (ee_v (i := 0) rfl) ea_nil) ml) (ee_nat (i := 7)))) (fun h => ?_)) (by rw [Bool.and_false])) (fun h => by cases h) (fun _ => hs_nil ?_))
  · have h6 : row.length ≤ 6 := by have := of_decide_eq_true h; omega
    refine et_co (ne_same (ee_repr (xs := [.bool due.isSome, .bool (!due.isSome)]) hr hg (ea_cons (ee_q (ee_lst (ds := [.bool due.isSome, .bool (!due.isSome)]) (ea_cons (ee_call G4 (hr.mono (by decide)) (ea_cons (ee_v (i := 5) rfl) ea_nil) (.cons rfl .nil) ⟨row.length, drawnM row other, rfl, by rw [M.firm h6, hdue], h6, fun h => M.ok6 h6 h⟩) (ea_cons (ee_call G5 (hr.mono (by decide)) (ea_cons (ee_v (i := 5) rfl) ea_nil) (.cons rfl .nil) ⟨row.length, drawnM row other, rfl, by rw [M.form h6, hdue, eN], h6⟩) ea_nil)))) ea_nil) (sho (sB _ _) (by simp)) mr)
      (ee_repr (xs := [.bool due.isSome, .bool (!due.isSome)]) hr hg (ea_cons (ee_q (ee_lst (ds := [.bool due.isSome, .bool (!due.isSome)]) (ea_cons (ee_v (i := 6) rfl) (ea_cons (ee_not (ee_v (i := 6) rfl)) ea_nil)))) ea_nil) (sho (sB _ _) (by simp)) mr))
  refine hs_cons (h1_if (x := false) (et_cast (et_and2 (y := false) (et_co (co_ltN (ee_lenN (ea_cons (ee_v (i := 0) rfl) ea_nil) ml) (ee_nat (i := 6)))) (fun h => ?_)) (by rw [Bool.and_false])) (fun h => by cases h) (fun _ => hs_nil ?_))
  · have h5 : row.length ≤ 5 := by have := of_decide_eq_true h; omega
    have hle : ∀ x y, drawnM row other x y ≤ 1 := fun x y => by
      unfold drawnM
      rcases apart_le row other x y with h | h <;> rcases apart_le row other y x with h' | h' <;> rw [h, h'] <;> decide
    refine et_co (ne_same (ee_repr (xs := [.bool due.isSome, .bool due.isSome]) hr hg (ea_cons (ee_q (ee_lst (ds := [.bool due.isSome, .bool due.isSome]) (ea_cons (ee_call G4 (hr.mono (by decide)) (ea_cons (ee_call G6 (hr.mono (by decide)) (ea_cons (ee_v (i := 5) rfl) ea_nil) (.cons rfl .nil) ⟨row.length, drawnM row other, rfl, rfl, hle, by omega⟩) ea_nil) (.cons rfl .nil) ⟨row.length, restM (drawnM row other), rfl, by rw [M.rest h5, hdue], by omega, fun h => (M.ok5 h5 h).1⟩)
        (ea_cons (ee_call G4 (hr.mono (by decide)) (ea_cons (ee_ixT (i := 1) (d := eT row.length (alikeM row other)) rfl (ee_call G7 (hr.mono (by decide)) (ea_cons (ee_v (i := 0) rfl) (ea_cons (ee_v (i := 1) rfl) ea_nil)) (.cons rfl (.cons rfl .nil)) ⟨row, other, rfl, rfl, hR, hO, hlen, by omega⟩) ee_int) ea_nil) (.cons rfl .nil) ⟨row.length, alikeM row other, rfl, by rw [M.alike h5, hdue], by omega, fun h => (M.ok5 h5 h).2⟩) ea_nil)))) ea_nil) (sho (sB _ _) (by simp)) mr)
      (ee_repr (xs := [.bool due.isSome, .bool due.isSome]) hr hg (ea_cons (ee_q (ee_lst (ds := [.bool due.isSome, .bool due.isSome]) (ea_cons (ee_v (i := 6) rfl) (ea_cons (ee_v (i := 6) rfl) ea_nil)))) ea_nil) (sho (sB _ _) (by simp)) mr))
  exact hs_one (h1_ret (r := .d (.bool true)) (ee_cast (ee_co (co_eqS (ee_repr hr hg (ea_cons (ee_q (ee_lst (ds := [eL row, eL other]) (ea_cons (ee_v (i := 0) rfl) (ea_cons (ee_v (i := 1) rfl) ea_nil)))) ea_nil) (sho (by intro d hd; simp at hd; rcases hd with rfl | rfl <;> assumption) (by simp)) mr) (ee_v (i := 3) rfl))) (by simp)) rfl)
end
end Pt
set_option maxHeartbeats 4000000
/-! Math F: firm lots; what the law says of each pair of rows. -/
namespace Pt
open PySem
/-! ### filling -/
theorem fills_spec (f : Nat → Nat → Nat) (one : Nat) : ∀ (k : Nat) (left waiting : List Nat) (dn : Nat → Prop), (∀ o, dn o → ∀ z ∈ left, f z o = f z one ∧ f o z = f one z) → left.length + waiting.length ≤ k → fillsN f one k left waiting ≠ [] →
    (∀ z ∈ fillsN f one k left waiting, z ∈ left) ∧ ∀ o, (dn o ∨ o ∈ waiting ∨ (o ∈ left ∧ o ∉ fillsN f one k left waiting)) → ∀ z ∈ fillsN f one k left waiting, f z o = f z one ∧ f o z = f one z
  | 0, left, waiting, dn, hd, hk, hR => by
    have : left = [] := List.eq_nil_of_length_eq_zero (by omega)
    exact absurd this hR
  | k + 1, left, waiting, dn, hd, hk, hR => by
    cases hw : waiting.getLast? with
    | none =>
      have ew : waiting = [] := List.getLast?_eq_none_iff.mp hw
      subst ew
      have e : fillsN f one (k + 1) left [] = left := rfl
      rw [e] at hR ⊢
      refine ⟨fun z h => h, fun o h z hz => ?_⟩
      rcases h with h | h | h
      · exact hd o h z hz
      · cases h
      · exact absurd h.1 h.2
    | some own =>
      by_cases hl : left = []
      · exfalso
        apply hR
        simp only [fillsN, hw, if_pos hl]
        exact hl
      · have e : fillsN f one (k + 1) left waiting = fillsN f one k (left.filter fun z => !decide (z ∈ left.filter (tellB f one own))) (waiting.dropLast ++ left.filter (tellB f one own)) := by
          simp only [fillsN, hw, if_neg hl]
        rw [e] at hR ⊢
        have hwne : waiting ≠ [] := fun z => by rw [z] at hw; cases hw
        have hwl := List.length_pos_iff.mpr hwne
        have pl := part_len left (tellB f one own)
        obtain ⟨a, b⟩ := fills_spec f one k _ _ (fun o => dn o ∨ o = own) (fun o ho z hz => by
          obtain ⟨z1, z2⟩ := List.mem_filter.mp hz
          rcases ho with ho | rfl
          · exact hd o ho z z1
          · have z2 : z ∉ left.filter (tellB f one o) := fun h => by rw [decide_eq_true h] at z2; cases z2
            have : tellB f one o z = false := by
              cases ht : tellB f one o z with
              | false => rfl
              | true => exact absurd (List.mem_filter.mpr ⟨z1, ht⟩) z2
            unfold tellB at this
            simpa using this) (by rw [List.length_append, List.length_dropLast]; omega) hR
        refine ⟨fun z hz => (List.mem_filter.mp (a z hz)).1, fun o ho z hz => b o ?_ z hz⟩
        rcases ho with ho | ho | ⟨h1, h2⟩
        · exact .inl (.inl ho)
        · by_cases eo : o = own
          · exact .inl (.inr eo)
          · right; left
            obtain ⟨ys, rfl⟩ := List.getLast?_eq_some_iff.mp hw
            rw [List.dropLast_concat]
            rcases List.mem_append.mp ho with z | z
            · exact List.mem_append_left _ z
            · exact absurd (List.mem_singleton.mp z) eo
        · by_cases ht : o ∈ left.filter (tellB f one own)
          · exact .inr (.inl (List.mem_append_right _ ht))
          · exact .inr (.inr ⟨List.mem_filter.mpr ⟨h1, by simp only [ht, decide_false, Bool.not_false]⟩, h2⟩)
/-- what is not filled stands apart -/
theorem fills_not {f : Nat → Nat → Nat} {lot : List Nat} {one other : Nat} (h : fillsM f lot one other = false) : ∃ R : List Nat, R ≠ [] ∧ (∀ z ∈ R, z ∈ lot ∧ z ≠ one ∧ z ≠ other) ∧ ∀ o ∈ lot, o ∉ R → ∀ z ∈ R, f z o = f z one ∧ f o z = f one z := by
  unfold fillsM at h
  have hR := of_decide_eq_false h
  obtain ⟨a, b⟩ := fills_spec f one _ (leftM lot one other) [other] (fun o => o = one) (fun o ho z _ => by subst ho; exact ⟨rfl, rfl⟩) (by simp) hR
  have ml : ∀ z, z ∈ leftM lot one other ↔ z ∈ lot ∧ z ≠ one ∧ z ≠ other := fun z => by
    unfold leftM
    rw [List.mem_filter]
    simp
  refine ⟨_, hR, fun z hz => (ml z).mp (a z hz), fun o ho hno z hz => b o ?_ z hz⟩
  by_cases e1 : o = one
  · exact .inl e1
  · by_cases e2 : o = other
    · exact .inr (.inl (by rw [e2]; exact List.mem_cons_self))
    · exact .inr (.inr ⟨(ml o).mpr ⟨ho, e1, e2⟩, hno⟩)
def edge4 : Fin 4 → Fin 4 → Bool
  | 0, 1 => true | 1, 0 => true | 1, 2 => true | 2, 1 => true | 2, 3 => true | 3, 2 => true | _, _ => false
theorem p4b : ∀ r0 r1 r2 r3 : Bool, ∀ i j : Fin 4, i ≠ j →
    (match i with | 0 => r0 | 1 => r1 | 2 => r2 | 3 => r3) = false → (match j with | 0 => r0 | 1 => r1 | 2 => r2 | 3 => r3) = false → (r0 || r1 || r2 || r3) = true →
    ∃ k i j : Fin 4, (match k with | 0 => r0 | 1 => r1 | 2 => r2 | 3 => r3) = true ∧ (match i with | 0 => r0 | 1 => r1 | 2 => r2 | 3 => r3) = false ∧ (match j with | 0 => r0 | 1 => r1 | 2 => r2 | 3 => r3) = false ∧ edge4 k i = true ∧ edge4 k j = false := by decide +kernel
section
variable {row other : List Nat}
/-- the lot of a twist is firm -/
theorem four_firm {u1 u2 u3 u4 : Nat} (F : Four (Cr row other) u1 u2 u3 u4) {lot : List Nat} (nd : lot.Nodup) (hl : lot.length = 4) (me : ∀ x, x ∈ lot ↔ x = u1 ∨ x = u2 ∨ x = u3 ∨ x = u4) : firmLot (drawnM row other) lot = true := by
  let u : Fin 4 → Nat := fun i => match i with | 0 => u1 | 1 => u2 | 2 => u3 | 3 => u4
  have uinj : ∀ i j : Fin 4, u i = u j → i = j := fun i j => by
    obtain ⟨n12, n13, n14, n23, n24, n34⟩ := F.ne
    match i, j with
    | 0, 0 => exact fun _ => rfl
    | 1, 1 => exact fun _ => rfl
    | 2, 2 => exact fun _ => rfl
    | 3, 3 => exact fun _ => rfl
    | 0, 1 => exact fun e => absurd e n12
    | 0, 2 => exact fun e => absurd e n13
    | 0, 3 => exact fun e => absurd e n14
    | 1, 0 => exact fun e => absurd e.symm n12
    | 1, 2 => exact fun e => absurd e n23
    | 1, 3 => exact fun e => absurd e n24
    | 2, 0 => exact fun e => absurd e.symm n13
    | 2, 1 => exact fun e => absurd e.symm n23
    | 2, 3 => exact fun e => absurd e n34
    | 3, 0 => exact fun e => absurd e.symm n14
    | 3, 1 => exact fun e => absurd e.symm n24
    | 3, 2 => exact fun e => absurd e.symm n34
  have uval : ∀ i j : Fin 4, i ≠ j → drawnM row other (u i) (u j) = if edge4 i j then 1 else 0 := fun i j => by
    obtain ⟨y1, y2, y3⟩ := F.yes
    obtain ⟨z1, z2, z3⟩ := F.no
    match i, j with
    | 0, 0 => exact fun h => absurd rfl h
    | 1, 1 => exact fun h => absurd rfl h
    | 2, 2 => exact fun h => absurd rfl h
    | 3, 3 => exact fun h => absurd rfl h
    | 0, 1 => exact fun _ => drawn_one y1
    | 0, 2 => exact fun _ => drawn_zero z1
    | 0, 3 => exact fun _ => drawn_zero z2
    | 1, 0 => exact fun _ => drawn_one y1.symm
    | 1, 2 => exact fun _ => drawn_one y2
    | 1, 3 => exact fun _ => drawn_zero z3
    | 2, 0 => exact fun _ => drawn_zero fun h => z1 h.symm
    | 2, 1 => exact fun _ => drawn_one y2.symm
    | 2, 3 => exact fun _ => drawn_one y3
    | 3, 0 => exact fun _ => drawn_zero fun h => z2 h.symm
    | 3, 1 => exact fun _ => drawn_zero fun h => z3 h.symm
    | 3, 2 => exact fun _ => drawn_one y3.symm
  have uof : ∀ x, x ∈ lot → ∃ i : Fin 4, x = u i := fun x hx => by
    rcases (me x).mp hx with h | h | h | h
    · exact ⟨0, h⟩
    · exact ⟨1, h⟩
    · exact ⟨2, h⟩
    · exact ⟨3, h⟩
  have umem : ∀ i : Fin 4, u i ∈ lot := fun i => by
    match i with
    | 0 => exact (me _).mpr (.inl rfl)
    | 1 => exact (me _).mpr (.inr (.inl rfl))
    | 2 => exact (me _).mpr (.inr (.inr (.inl rfl)))
    | 3 => exact (me _).mpr (.inr (.inr (.inr rfl)))
  have full : ∀ x y, x ∈ lot → y ∈ lot → x ≠ y → fillsM (drawnM row other) lot x y = true := fun x y hx hy hne => by
    cases hc : fillsM (drawnM row other) lot x y with
    | true => rfl
    | false =>
      exfalso
      obtain ⟨R, hR, h1, h2⟩ := fills_not hc
      obtain ⟨i0, rfl⟩ := uof x hx
      obtain ⟨j0, rfl⟩ := uof y hy
      have hij : i0 ≠ j0 := fun e => hne (by rw [e])
      let r : Fin 4 → Bool := fun i => decide (u i ∈ R)
      have rI : ∀ i : Fin 4, (match i with | 0 => r 0 | 1 => r 1 | 2 => r 2 | 3 => r 3) = r i := fun i => by match i with | 0 => rfl | 1 => rfl | 2 => rfl | 3 => rfl
      have hi0 : r i0 = false := decide_eq_false fun z => (h1 _ z).2.1 rfl
      have hj0 : r j0 = false := decide_eq_false fun z => (h1 _ z).2.2 rfl
      obtain ⟨z, hz⟩ := List.exists_mem_of_ne_nil R hR
      obtain ⟨kz, rfl⟩ := uof z (h1 z hz).1
      have hk : r kz = true := decide_eq_true hz
      have some4 : (r 0 || r 1 || r 2 || r 3) = true := by
        match kz, hk with
        | 0, hk => rw [hk]; rfl
        | 1, hk => rw [hk]; cases r 0 <;> rfl
        | 2, hk => rw [hk]; cases r 0 <;> cases r 1 <;> rfl
        | 3, hk => rw [hk]; cases r 0 <;> cases r 1 <;> cases r 2 <;> rfl
      obtain ⟨k, i, j, a1, a2, a3, a4, a5⟩ := p4b (r 0) (r 1) (r 2) (r 3) i0 j0 hij ((rI i0).trans hi0) ((rI j0).trans hj0) some4
      rw [rI] at a1 a2 a3
      have kR : u k ∈ R := of_decide_eq_true a1
      have iR : u i ∉ R := of_decide_eq_false a2
      have jR : u j ∉ R := of_decide_eq_false a3
      have e1 := (h2 _ (umem i) iR _ kR).1
      have e2 := (h2 _ (umem j) jR _ kR).1
      have hki : k ≠ i := fun e => by rw [e, a2] at a1; cases a1
      have hkj : k ≠ j := fun e => by rw [e, a3] at a1; cases a1
      rw [← e2, uval k i hki, uval k j hkj, a4, a5] at e1
      simp at e1
  unfold firmLot
  rw [decide_eq_true (by omega : 3 ≤ lot.length), Bool.true_and, Option.isNone_iff_eq_none, List.findSome?_eq_none_iff]
  intro p hp
  unfold firmP
  rw [List.findSome?_eq_none_iff]
  intro o ho
  unfold firmO
  have hpm := List.fst_mem_of_mem_zipIdx hp
  obtain ⟨i, hi⟩ := List.mem_iff_getElem?.mp hp
  obtain ⟨e1, e2⟩ := zip_at hi
  obtain ⟨j, hj⟩ := List.mem_iff_getElem?.mp ho
  rw [List.getElem?_drop] at hj
  refine if_pos (full _ _ hpm (List.mem_of_mem_drop ho) fun e => ?_)
  obtain ⟨b1, c1⟩ := List.getElem?_eq_some_iff.mp e2
  obtain ⟨b2, c2⟩ := List.getElem?_eq_some_iff.mp hj
  have := (List.getElem_inj nd).mp (c1.trans (e.trans c2.symm))
  omega
/-- twins -/
theorem twin_of {f : Nat → Nat → Nat} {r : Nat → Nat → Prop} {p q c d : Nat} : ∀ (m : Nat) (l : List Nat), l.length ≤ m → 2 ≤ l.length → l.Nodup → Tot r l → ¬ Tw r l → Vals2 f r l p q c d → ∃ x y, x ∈ l ∧ y ∈ l ∧ x ≠ y ∧ ∀ z ∈ l, z ≠ x → z ≠ y → f z x = f z y ∧ f x z = f y z
  | 0, l, h, h2, _, _, _, _ => by omega
  | m + 1, l, hm, h2, nd, t, nt, V => by
    obtain ⟨l1, l2, rfl, n1, n2, hs⟩ := split_of l r t nd nt h2
    have p1 := List.length_pos_iff.mpr n1
    have p2 := List.length_pos_iff.mpr n2
    rw [List.length_append] at hm h2
    have s1 : l1.Sublist (l1 ++ l2) := List.sublist_append_left _ _
    have s2 : l2.Sublist (l1 ++ l2) := List.sublist_append_right _ _
    have across : ∃ P Q, ∀ x y, x ∈ l1 → y ∈ l2 → f x y = P ∧ f y x = Q := by
      rcases hs with hs | hs
      · exact ⟨p, q, fun x y hx hy => V.up _ _ (pair_across hx hy) (hs _ hx _ hy)⟩
      · exact ⟨c, d, fun x y hx hy => V.dn _ _ (pair_across hx hy) (hs _ hx _ hy)⟩
    obtain ⟨P, Q, hPQ⟩ := across
    by_cases c1 : 2 ≤ l1.length
    · obtain ⟨x, y, hx, hy, hne, h⟩ := twin_of m l1 (by omega) c1 (nd.sublist s1) (t.sub fun x hx => s1.subset hx) (fun z => nt (z.sub s1)) (V.sub s1)
      refine ⟨x, y, s1.subset hx, s1.subset hy, hne, fun z hz zx zy => ?_⟩
      rcases List.mem_append.mp hz with k | k
      · exact h z k zx zy
      · have a := hPQ x z hx k
        have b := hPQ y z hy k
        exact ⟨a.2.trans b.2.symm, a.1.trans b.1.symm⟩
    · by_cases c2 : 2 ≤ l2.length
      · obtain ⟨x, y, hx, hy, hne, h⟩ := twin_of m l2 (by omega) c2 (nd.sublist s2) (t.sub fun x hx => s2.subset hx) (fun z => nt (z.sub s2)) (V.sub s2)
        refine ⟨x, y, s2.subset hx, s2.subset hy, hne, fun z hz zx zy => ?_⟩
        rcases List.mem_append.mp hz with k | k
        · have a := hPQ z x k hx
          have b := hPQ z y k hy
          exact ⟨a.1.trans b.1.symm, a.2.trans b.2.symm⟩
        · exact h z k zx zy
      · match l1, l2, c1, c2, p1, p2, nd with
        | [x], [y], _, _, _, _, nd =>
          refine ⟨x, y, by simp, by simp, by simpa using nd, fun z hz zx zy => ?_⟩
          simp at hz
          rcases hz with hz | hz
          · exact absurd hz zx
          · exact absurd hz zy
        | [], _, _, _, p1, _, _ => cases p1
        | _, [], _, _, _, p2, _ => cases p2
        | _ :: _ :: _, _, c1, _, _, _, _ => exact absurd (by simp) c1
        | _, _ :: _ :: _, _, c2, _, _, _ => exact absurd (by simp) c2
theorem twin_fills {f : Nat → Nat → Nat} {lot : List Nat} {x y : Nat} (h3 : ∃ z ∈ lot, z ≠ x ∧ z ≠ y) (h : ∀ z ∈ lot, z ≠ x → z ≠ y → f z x = f z y ∧ f x z = f y z) : fillsM f lot x y = false := by
  unfold fillsM
  refine decide_eq_false ?_
  have ml : ∀ z, z ∈ leftM lot x y ↔ z ∈ lot ∧ z ≠ x ∧ z ≠ y := fun z => by
    unfold leftM
    rw [List.mem_filter]
    simp
  obtain ⟨z0, hz0, n1, n2⟩ := h3
  have hne : leftM lot x y ≠ [] := fun e => by
    have := (ml z0).mpr ⟨hz0, n1, n2⟩
    rw [e] at this; cases this
  have told : (leftM lot x y).filter (tellB f x y) = [] := by
    rw [List.filter_eq_nil_iff]
    intro z hz
    obtain ⟨a, b, c⟩ := (ml z).mp hz
    obtain ⟨e1, e2⟩ := h z a b c
    unfold tellB
    simp [e1, e2]
  have e : fillsN f x ((leftM lot x y).length + 1) (leftM lot x y) [y] = fillsN f x (leftM lot x y).length (leftM lot x y) [] := by
    have eg : ([y] : List Nat).getLast? = some y := rfl
    simp only [fillsN, eg, if_neg hne, told]
    have : ((leftM lot x y).filter fun z => !decide (z ∈ ([] : List Nat))) = leftM lot x y := List.filter_eq_self.mpr fun z _ => by simp
    rw [this]
    rfl
  rw [e]
  have e2 : ∀ k, fillsN f x k (leftM lot x y) [] = leftM lot x y := fun k => by cases k <;> rfl
  rw [e2]
  exact hne
/-- without a twist no lot is firm -/
theorem plain_lot (hR : Row row) (hO : Row other) (hl : other.length = row.length) (nt : ¬ Tw (rr other) row) {many : Nat} {lot : List Nat} (u : Up row.length many lot) (h3 : 3 ≤ many) : firmLot (drawnM row other) lot = false := by
  have L : Lot row.length lot := ⟨u.lt, u.nd⟩
  have pm : (within row lot).Perm lot := filt_len hR rfl L
  have sl : (within row lot).Sublist row := List.filter_sublist
  obtain ⟨x, y, hx, hy, hne, h⟩ := twin_of (f := drawnM row other) (r := rr other) (p := 0) (q := 0) (c := 1) (d := 1) _ (within row lot) (Nat.le_refl _) (by rw [pm.length_eq, u.len]; omega) (hR.nd.sublist sl) ((rr_tot hR hO hl).sub fun x hx => sl.subset hx) (fun z => nt (z.sub sl)) ((vals_web hR).sub sl)
  have me : ∀ z, z ∈ within row lot ↔ z ∈ lot := fun z => pm.mem_iff
  have key : ∀ x y, x ∈ lot → y ∈ lot → x ≠ y → (∀ z ∈ lot, z ≠ x → z ≠ y → drawnM row other z x = drawnM row other z y ∧ drawnM row other x z = drawnM row other y z) → fillsM (drawnM row other) lot x y = false := fun x y hx hy hne h => by
    refine twin_fills ?_ h
    refine Classical.byContradiction fun hn => ?_
    have := sub_len lot [x, y] u.nd fun z hz => by
      refine Classical.byContradiction fun k => hn ⟨z, hz, fun e => k (by simp [e]), fun e => k (by simp [e])⟩
    rw [u.len] at this
    simp at this
    omega
  have bad : ∀ i j x y, i < j → lot[i]? = some x → lot[j]? = some y → fillsM (drawnM row other) lot x y = false → firmLot (drawnM row other) lot = false := fun i j x y hij hi hj hf => by
    unfold firmLot
    cases hc : (lot.zipIdx.findSome? (firmP (drawnM row other) lot)) with
    | some _ => rw [Option.isNone_some, Bool.and_false]
    | none =>
      exfalso
      have hm : (x, i) ∈ lot.zipIdx := by
        rw [List.mem_iff_getElem?]
        exact ⟨i, by rw [List.getElem?_zipIdx, hi]; simp⟩
      have h1 := List.findSome?_eq_none_iff.mp hc _ hm
      unfold firmP at h1
      have hv2 : y ∈ lot.drop (i + 1) := by
        rw [List.mem_iff_getElem?]
        exact ⟨j - (i + 1), by rw [List.getElem?_drop, Nat.add_sub_of_le hij]; exact hj⟩
      have h2 := List.findSome?_eq_none_iff.mp h1 y hv2
      unfold firmO at h2
      rw [if_neg (by rw [hf]; exact Bool.false_ne_true)] at h2
      cases h2
  have h' : ∀ z ∈ lot, z ≠ x → z ≠ y → drawnM row other z x = drawnM row other z y ∧ drawnM row other x z = drawnM row other y z := fun z hz => h z ((me z).mpr hz)
  obtain ⟨i, hi⟩ := List.mem_iff_getElem?.mp ((me x).mp hx)
  obtain ⟨j, hj⟩ := List.mem_iff_getElem?.mp ((me y).mp hy)
  rcases Nat.lt_trichotomy i j with k | k | k
  · exact bad i j x y k hi hj (key x y ((me x).mp hx) ((me y).mp hy) hne h')
  · subst k
    rw [hi] at hj
    exact absurd (Option.some.inj hj) hne
  · exact bad j i y x k hj hi (key y x ((me y).mp hy) ((me x).mp hx) hne.symm fun z hz a b => ⟨(h' z hz b a).1.symm, (h' z hz b a).2.symm⟩)
theorem form_iff (hR : Row row) (hO : Row other) (hl : other.length = row.length) : (firstFirm row.length (drawnM row other)).isNone = (twistedM row other).isNone := by
  have e1 : ∀ o : Option (List Nat), o.isNone = !o.isSome := fun o => by cases o <;> rfl
  rw [e1, e1]
  congr 1
  rw [Bool.eq_iff_iff, tw_iff hR hO hl]
  constructor
  · intro h
    refine Classical.byContradiction fun nt => ?_
    obtain ⟨l, hs⟩ := Option.isSome_iff_exists.mp h
    unfold firstFirm at hs
    obtain ⟨many, hm, hs⟩ := List.exists_of_findSome?_eq_some hs
    unfold firmMany at hs
    obtain ⟨lot, hlot, hs⟩ := List.exists_of_findSome?_eq_some hs
    unfold firmG at hs
    rw [plain_lot hR hO hl nt (fours_mem _ _ _ hlot) (List.mem_range'_1.mp hm).1] at hs
    cases hs
  · rintro ⟨a, b, c, d, s, h⟩
    obtain ⟨u, _⟩ := tw_lot hR hO hl s h
    obtain ⟨u1, u2, u3, u4, F, m1, m2, m3, m4⟩ := four_of (other := other) hR s h
    have pm := sortN_perm [a, b, c, d]
    have hfirm : firmLot (drawnM row other) (sortN [a, b, c, d]) = true := by
      refine four_firm F u.nd u.len fun x => ?_
      rw [pm.mem_iff]
      constructor
      · intro hx
        refine Classical.byContradiction fun hn => ?_
        obtain ⟨n12, n13, n14, n23, n24, n34⟩ := F.ne
        have := sub_len [x, u1, u2, u3, u4] [a, b, c, d] (by simp; simp at hn; omega) (fun y hy => by
          simp only [List.mem_cons, List.not_mem_nil, or_false] at hy
          rcases hy with rfl | rfl | rfl | rfl | rfl <;> assumption)
        simp at this
      · rintro (rfl | rfl | rfl | rfl) <;> assumption
    have h4 := up_sub u
    cases hc : firstFirm row.length (drawnM row other) with
    | some _ => rfl
    | none =>
      unfold firstFirm at hc
      have h1 := List.findSome?_eq_none_iff.mp hc 4 (List.mem_range'_1.mpr ⟨by omega, by omega⟩)
      unfold firmMany at h1
      have h2 := List.findSome?_eq_none_iff.mp h1 _ (mem_fours _ _ _ u)
      unfold firmG at h2
      rw [if_pos hfirm] at h2
      cases h2
/-- THE PLAIN LAW of a pair of rows -/
theorem told_all (hR : Row row) (hO : Row other) (hl : other.length = row.length) : Told row other := by
  have hne : row.length ≠ 0 → List.range row.length ≠ [] := fun h0 z => h0 (by rw [← List.length_range (n := row.length), z]; rfl)
  have tree : ∀ {f : Nat → Nat → Nat}, (∀ x y, f x y ≤ 1) → row.length ≤ 6 → row.length ≠ 0 → TreeOk 5 row.length f (List.range row.length) ∧ Tre 5 (treeTop row.length f) := fun {f} hf h6 h0 => by
    refine ⟨treeOk_of hf 5 _ (fun x hx => List.mem_range.mp hx) (hne h0) (by rw [List.length_range]; omega) (by rw [List.length_range]; omega), ?_⟩
    unfold treeTop
    rw [if_neg h0]
    exact tre_of hf 5 _ (hne h0) (by rw [List.length_range]; omega)
  refine ⟨tw_swap row other hl, by rw [tw_rev2, tw_revO], tw_rev2 row other, by rw [tw_revO, tw_swap row other hl], fun h6 h0 => tree drawn_le h6 h0, fun h6 => firm_iff hR hO hl h6 drawn_le (vals_web hR) dich_web, fun _ => form_iff hR hO hl, fun h5 h0 => ⟨tree rest_le (by omega) h0, tree alike_le (by omega) h0⟩,
    fun h5 => firm_iff hR hO hl (by omega) rest_le (vals_rest hR) dich_rest, fun h5 => firm_iff hR hO hl (by omega) alike_le (vals_alike hR) (dich_alike hR hO hl)⟩
end
end Pt
set_option maxHeartbeats 4000000
/-! Layer Q: results that are not told. -/
namespace Pt
open PySem PySem.Spec PyProof.Rows L2
/-- A as R: called with as it gives some r of R -/
def spN (T : List NTab) (A : List RS → (RS → Prop) → Prop) : Sp := fun vs H Q _ => ∃ as R, A as R ∧ TabsN T H ∧ RsAll [] H H as vs ∧ ∀ r v H', R r → Ext T H H' → RsOk [] H H' r v → Q v H'
structure FnN (P : Program) (w : World) (K : PySem.W.Frag) (mg : Str → Option Value) (base : Heap) (T : List NTab) (k : Nat) (x : Str) (A : List RS → (RS → Prop) → Prop) : Prop where
  ex : ∃ (f : Addr) (fd : FuncData) (ps : List Str), mg x = some (.ref f) ∧ PySem.W.keepIn K (.ref f) = true ∧ Binds K fd ps [] ∧ FnOk P w K mg base CX0 k f fd ps (spN T A)
def EN (T : List NTab) (X : Cx) (e : Expr) (Γ : List Sh) (R : RS → Prop) : Prop := ∀ (H0 : Hp) (Θ : Pins) (σ : L2.St) (H : Hp), Ok T H0 Θ Γ σ H → ∀ Q : VK, (∀ r v H2, R r → Ext T H H2 → RsOk Θ H H2 r v → Q v H2) → wE X e σ H Q
/-- a test that may fall either way -/
def TN (T : List NTab) (X : Cx) (e : Expr) (Γ : List Sh) : Prop := ∀ (H0 : Hp) (Θ : Pins) (σ : L2.St) (H : Hp), Ok T H0 Θ Γ σ H → ∀ Q : Bool → Hp → Prop, (∀ b H2, Ext T H H2 → Q b H2) → wT X e σ H Q
section
variable {T : List NTab} {X : Cx} {Γ : List Sh} {a b c e tg iter : Expr} {pos : Pos} {E : GE} {R : RS → Prop}
theorem en_ee {r : RS} (h : EE T X e Γ r) (hr : R r) : EN T X e Γ R := fun H0 Θ σ H k Q q => h H0 Θ σ H k Q fun v H2 a b => q r v H2 hr a b
theorem EN.imp {R' : RS → Prop} (h : EN T X e Γ R) (f : ∀ r, R r → R' r) : EN T X e Γ R' := fun H0 Θ σ H k Q q => h H0 Θ σ H k Q fun r v H2 a b c => q r v H2 (f r a) b c
theorem en_call {x : Str} {p : Pos} {es : List Expr} {rs as : List RS} {k : Nat} {A : List RS → (RS → Prop) → Prop} (F : FnN X.prog X.w X.K X.mg X.base T k x A) (hr : Room k X.A) (ha : EA T X (a :: es) Γ rs) (hp : Paired Arg rs as) (hA : A as R)
    (hg : Gl X x := by rfl) (hd : (x == ("__debug__" : Str)) = false := by decide) (he : starEach (a :: es) X.env = (false, eval a X.env) :: starEach es X.env := by rfl) (hpl : (backTo pos (starEach es X.env)).any (·.1) = false := by rfl) :
    EN T X (.Call (.Name x p) (a :: es) [] pos) Γ R := fun H0 Θ σ H kk Q q => by
  obtain ⟨f, fd, ps, hm, hk, hb, G⟩ := F.ex
  refine leE (pe_call G hr hg hm hk hb .nil pass0 pa_w hd he hpl) (ha H0 Θ σ H kk _ fun vs H2 e2 hv => ?_)
  rw [List.append_nil]
  exact ⟨as, R, hA, e2.tabs kk.tabs, args_q hv hp e2 kk.pins, fun r v H' hR e3 hv' => q r v H' hR (e2.trans e3) (rs_nil (hv'.back e2))⟩
theorem h1_setN {i : Nat} {x : Str} {px : Pos} (he : EN T X e Γ R) (hn : ∀ r, R r → ∃ s, shOf r = some s ∧ E.nx (Γ.set i s)) (hN : X.N.Nodup) (hi : X.N[i]? = some x := by rfl)
    (hx : L2.Loc X.env.scope x := by first | exact Or.inl rfl | exact Or.inr rfl) (hs : swapsWith e (some (.Name x px)) pos.line X.env = pure false := by rfl) (hf : X.fn x = true ∨ X.env.scope.names.lookup x = some .local := by first | exact .inl rfl | exact .inr rfl) :
    H1 T X (.Assign [.Name x px] e pos) E Γ := fun H0 Θ σ H k =>
  leS (ps_set hN hi hx pe_w hs hf) (he H0 Θ σ H k _ fun r v H2 hr e2 hv => by
    obtain ⟨s, h1, h2⟩ := hn r hr
    exact okE (k.setR e2 h1 hv) h2)
theorem h1_retN (he : EN T X e Γ R) (hn : ∀ r, R r → E.rt r ∧ ((∃ d, r = .d d) ∨ ∃ xs, r = .n xs)) : H1 T X (.Return (some e) pos) E Γ := fun H0 Θ σ H k =>
  leS (ps_ret pe_w) (he H0 Θ σ H k _ fun r v H2 hr e2 hv => by
    obtain ⟨h1, h2⟩ := hn r hr
    refine ⟨r, h1, k.ext.trans e2, ?_⟩
    rcases h2 with ⟨d, rfl⟩ | ⟨xs, rfl⟩
    · exact hv
    · obtain ⟨p, a, b, c⟩ := hv
      exact ⟨p, a, k.ext.free _ b, c⟩)
theorem h1_ifN {s1 s2 : List Stmt} (hc : TN T X c Γ) (h1 : HS T X s1 E Γ) (h2 : HS T X s2 E Γ) : H1 T X (.If c s1 s2 pos) E Γ := fun H0 Θ σ H k =>
  leS (ps_if pt_w pss_w pss_w) (hc H0 Θ σ H k _ fun x H2 e2 => by
    cases x with
    | true =>
      rw [if_pos rfl]
      exact h1 H0 Θ σ H2 (k.mono e2)
    | false =>
      rw [if_neg Bool.false_ne_true]
      exact h2 H0 Θ σ H2 (k.mono e2))
/-- (an untold number) == a number -/
theorem tn_eq {j : Int} (ha : EN T X a Γ (fun r => ∃ i : Int, r = .d (.int i))) (hb : EE T X b Γ (.d (.int j))) (hm : behindInMarks .Eq b = false := by first | exact nomark _ | rfl) : TN T X (.Compare a [.Eq] [b] pos) Γ := fun H0 Θ σ H k Q q =>
  leT (pt_cmpR op_eq pe_w pe_w hm) (ha H0 Θ σ H k _ fun r v H2 ⟨i, e⟩ e2 hv => by
    subst e
    refine hb H0 Θ σ H2 (k.mono e2) _ fun w H3 e3 hw => ?_
    rw [Tp.inv_int hv, Tp.inv_int hw]
    exact ⟨rfl, by rw [dec_int]; exact ⟨_, rfl, q _ H3 (e2.trans e3)⟩⟩)
theorem ee_vw {i : Nat} {x : Str} (h : Γ[i]? = some .wl) (hN : X.N[i]? = some x := by rfl) (hv : Vis X.env.scope x := by first | exact Or.inl rfl | exact Or.inr (Or.inl rfl) | exact Or.inr (Or.inr rfl)) (hd : (x == ("__debug__" : Str)) = false := by decide)
    (hcd : (x == ("__classdict__" : Str)) = false := by decide) : EE T X (.Name x pos) Γ .wl := fun H0 Θ σ H k Q q => by
  obtain ⟨o, hs, p, rfl, hw⟩ := k.slot h
  exact leE (pe_var hN hv hd hcd) ⟨_, hs, q _ H (Ext.refl H) ⟨p, rfl, hw⟩⟩
end
end Pt
set_option maxHeartbeats 4000000
/-! Layer R: the well is opened and closed. -/
namespace Pt
open PySem PySem.Spec PyProof.Rows L2
abbrev nV (l : List Nat) : List V := l.map fun (k : Nat) => V.int (k : Int)
abbrev wellV (a0 a1 : Addr) (c s : Nat) : List V := [V.ref a0, V.ref a1, V.int (c : Int), V.int (s : Int)]
/-- the well's three lists as they stand -/
structure WellIs (H : Hp) (p a0 a1 : Addr) (c s : Nat) (l0 l1 : List Nat) : Prop where
  p : H p = some (.lst (wellV a0 a1 c s))
  l0 : H a0 = some (.lst (nV l0))
  l1 : H a1 = some (.lst (nV l1))
def opn (H : Hp) (p a0 a1 : Addr) (c s : Nat) (l0 l1 : List Nat) : Hp := upd (upd (upd H p (.lst (wellV a0 a1 c s))) a0 (.lst (nV l0))) a1 (.lst (nV l1))
def cls (H : Hp) (p a0 a1 : Addr) : Hp := upd (upd (upd H p (WellO p a0 a1)) a0 (NumsO a0 false)) a1 (NumsO a1 true)
section
variable {X : Cx} {pins : List (Addr × Obj)} {σ : L2.St} {H : Hp} {s : Shared} {p a0 a1 : Addr}
theorem opn_is (h1 : p ≠ a0) (h2 : p ≠ a1) (h3 : a0 ≠ a1) (c s : Nat) (l0 l1 : List Nat) : WellIs (opn H p a0 a1 c s l0 l1) p a0 a1 c s l0 l1 :=
  ⟨by unfold opn; rw [upd_ne h2, upd_ne h1, upd_same], by unfold opn; rw [upd_ne h3, upd_same], by unfold opn; rw [upd_same]⟩
theorem inv_open (I : Inv X pins σ H s) (w1 : H p = some (WellO p a0 a1)) (w2 : H a0 = some (NumsO a0 false)) (w3 : H a1 = some (NumsO a1 true)) (h1 : p ≠ a0) (h2 : p ≠ a1) (h3 : a0 ≠ a1) :
    ∃ (c t : Nat) (l0 l1 : List Nat), l0.length ≤ 200 ∧ l1.length ≤ 200 ∧ l1 ≠ [] ∧ Inv X pins σ (opn H p a0 a1 c t l0 l1) s := by
  obtain ⟨⟨c, t, u, v, n, e1⟩, _, _⟩ := I.hok p _ w1
  obtain ⟨⟨l0, i0, m0, r0, z0, _, e2⟩, _, _⟩ := I.hok a0 _ w2
  obtain ⟨⟨l1, i1, m1, r1, z1, ne, e3⟩, _, _⟩ := I.hok a1 _ w3
  have J1 : Inv X pins σ (upd H p (.lst (wellV a0 a1 c t))) s := I.write (h' := s.heap) (t' := s.toks) (by rw [w1]; trivial) (.inl rfl) (fun _ _ _ q => q) ⟨_, e1⟩
    ⟨show 4 ≤ sizeLine by decide, [.ref a0, .ref a1, .int (c : Int) u, .int (t : Int) v], n, .cons rfl (.cons rfl (.cons ⟨u, rfl⟩ (.cons ⟨v, rfl⟩ .nil))), e1⟩
  have J2 : Inv X pins σ (upd (upd H p (.lst (wellV a0 a1 c t))) a0 (.lst (nV l0))) s := J1.write (h' := s.heap) (t' := s.toks) (by rw [upd_ne h1.symm, w2]; trivial) (.inl rfl) (fun _ _ _ q => q) ⟨_, e2⟩
    ⟨by rw [List.length_map]; exact Nat.le_trans z0 (by decide), i0, m0, r0, e2⟩
  have J3 : Inv X pins σ (opn H p a0 a1 c t l0 l1) s := J2.write (h' := s.heap) (t' := s.toks) (by rw [upd_ne h3.symm, upd_ne h2.symm, w3]; trivial) (.inl rfl) (fun _ _ _ q => q) ⟨_, e3⟩
    ⟨by rw [List.length_map]; exact Nat.le_trans z1 (by decide), i1, m1, r1, e3⟩
  exact ⟨c, t, l0, l1, z0, z1, ne rfl, J3⟩
theorem vals_well {a0 a1 : Addr} {c t : Nat} {its : List Value} (r : Vals (wellV a0 a1 c t) its) : ∃ u v : Tok, its = [.ref a0, .ref a1, .int (c : Int) u, .int (t : Int) v] := by
  match its, r with
  | [x0, x1, x2, x3], .cons r0 (.cons r1 (.cons r2 (.cons r3 .nil))) =>
    cases r0; cases r1
    obtain ⟨u, rfl⟩ := r2
    obtain ⟨v, rfl⟩ := r3
    exact ⟨u, v, rfl⟩
theorem inv_close {c t : Nat} {l0 l1 : List Nat} (I : Inv X pins σ H s) (W : WellIs H p a0 a1 c t l0 l1) (z0 : l0.length ≤ 200) (z1 : l1.length ≤ 200) (ne : l1 ≠ []) (h1 : p ≠ a0) (h2 : p ≠ a1) (h3 : a0 ≠ a1) : Inv X pins σ (cls H p a0 a1) s := by
  obtain ⟨_, ip, np, rp, e1⟩ := I.hok p _ W.p
  obtain ⟨_, i0, n0, r0, e2⟩ := I.hok a0 _ W.l0
  obtain ⟨_, i1, n1, r1, e3⟩ := I.hok a1 _ W.l1
  obtain ⟨u, v, rfl⟩ := vals_well rp
  have J1 : Inv X pins σ (upd H p (WellO p a0 a1)) s := I.write (h' := s.heap) (t' := s.toks) (by rw [W.p]; trivial) (.inl rfl) (fun _ _ _ q => q) ⟨_, e1⟩
    ⟨⟨c, t, u, v, np, e1⟩, ⟨_, e1⟩, fun g1 g2 ⟨c, t, u, v, n, e⟩ k => ⟨c, t, u, v, n, k _ e⟩⟩
  have J2 : Inv X pins σ (upd (upd H p (WellO p a0 a1)) a0 (NumsO a0 false)) s := J1.write (h' := s.heap) (t' := s.toks) (by rw [upd_ne h1.symm, W.l0]; trivial) (.inl rfl) (fun _ _ _ q => q) ⟨_, e2⟩
    ⟨⟨l0, i0, n0, r0, z0, (fun z => by cases z), e2⟩, ⟨_, e2⟩, fun g1 g2 ⟨l, i, n, r, z, q, e⟩ k => ⟨l, i, n, r, z, q, k _ e⟩⟩
  exact J2.write (h' := s.heap) (t' := s.toks) (by rw [upd_ne h3.symm, upd_ne h2.symm, W.l1]; trivial) (.inl rfl) (fun _ _ _ q => q) ⟨_, e3⟩
    ⟨⟨l1, i1, n1, r1, z1, (fun _ => ne), e3⟩, ⟨_, e3⟩, fun g1 g2 ⟨l, i, n, r, z, q, e⟩ k => ⟨l, i, n, r, z, q, k _ e⟩⟩
/-- a body that works on the open well -/
theorem wSs_open {sts : List Stmt} {D : Ends} (w1 : H p = some (WellO p a0 a1)) (w2 : H a0 = some (NumsO a0 false)) (w3 : H a1 = some (NumsO a1 true)) (h1 : p ≠ a0) (h2 : p ≠ a1) (h3 : a0 ≠ a1)
    (h : ∀ (c t : Nat) (l0 l1 : List Nat), l0.length ≤ 200 → l1.length ≤ 200 → l1 ≠ [] → wSs X sts { nx := fun _ _ => False, rt := fun v H' => ∃ (c t : Nat) (l0 l1 : List Nat), WellIs H' p a0 a1 c t l0 l1 ∧ l0.length ≤ 200 ∧ l1.length ≤ 200 ∧ l1 ≠ [] ∧ D.rt v (cls H' p a0 a1) } σ (opn H p a0 a1 c t l0 l1)) : wSs X sts D σ H := by
  intro pins s I
  obtain ⟨c, t, l0, l1, z0, z1, ne, J⟩ := inv_open I w1 w2 w3 h1 h2 h3
  refine thn (h c t l0 l1 z0 z1 ne pins s J) fun f s' q => ?_
  cases f with
  | next => obtain ⟨_, _, _, z⟩ := q; exact z.elim
  | brk => obtain ⟨_, _, _, z⟩ := q; exact z.elim
  | cont => obtain ⟨_, _, _, z⟩ := q; exact z.elim
  | ret u =>
    obtain ⟨v, σ', H', K', r, c', t', l0', l1', W, y0, y1, yn, d⟩ := q
    exact ⟨v, σ', _, inv_close K' W y0 y1 yn h1 h2 h3, r, d⟩
end
end Pt
set_option maxHeartbeats 4000000
/-! Layer S: expressions that leave the heap as it is. -/
namespace Pt
open PySem PySem.Spec PyProof.Rows L2
/-- e comes out as v, nothing is made -/
def EV (X : Cx) (e : Expr) (σ : L2.St) (H : Hp) (v : V) : Prop := ∀ Q : VK, Q v H → wE X e σ H Q
theorem evq {X : Cx} {e : Expr} {σ : L2.St} {H : Hp} {v : V} {Q : VK} (h : EV X e σ H v) (q : Q v H) : wE X e σ H Q := h Q q
abbrev EVN (X : Cx) (e : Expr) (σ : L2.St) (H : Hp) (n : Nat) : Prop := EV X e σ H (.int (n : Int))
section
variable {X : Cx} {σ : L2.St} {H : Hp} {a b e : Expr} {pos : Pos} {n m : Nat}
theorem ev_v {i : Nat} {x : Str} {v : V} (h : σ[i]? = some (some v)) (hN : X.N[i]? = some x := by rfl) (hv : Vis X.env.scope x := by first | exact Or.inl rfl | exact Or.inr (Or.inl rfl) | exact Or.inr (Or.inr rfl)) (hd : (x == ("__debug__" : Str)) = false := by decide)
    (hcd : (x == ("__classdict__" : Str)) = false := by decide) : EV X (.Name x pos) σ H v := fun Q q => leE (pe_var hN hv hd hcd) ⟨v, h, q⟩
theorem ev_int {i : Int} {j : Nat} : EV X (.Constant (.int i) j pos) σ H (.int i) := fun Q q => leE pe_int q
theorem ev_nat {i : Nat} {j : Nat} : EVN X (.Constant (.int (i : Int)) j pos) σ H i := ev_int
theorem ev_ix {p : Addr} {xs : List V} {i : Nat} {v : V} (ha : EV X a σ H (.ref p)) (hb : EVN X b σ H i) (hp : H p = some (.lst xs)) (hv : xs[i]? = some v) (hs : PlainIx b := by exact fun _ _ => rfl) : EV X (.Subscript a b pos) σ H v := fun Q q =>
  leE (pe_ix ix_list pe_w pe_w hs) (ha _ (hb _ ⟨p, xs, (i : Int), v, rfl, rfl, .inl (.inl hp), atI_nat hv, q⟩))
theorem ev_add (ha : EVN X a σ H n) (hb : EVN X b σ H m) : EVN X (.BinOp a .Add b pos) σ H (n + m) := fun Q q =>
  leE (pe_op op_add pe_w pe_w) (ha _ (hb _ ⟨n, m, rfl, rfl, by rw [Int.natCast_add] at q; exact q⟩))
theorem ev_mul (ha : EVN X a σ H n) (hb : EVN X b σ H m) (h : n < 2 ^ 64 ∨ m < 2 ^ 64) : EVN X (.BinOp a .Mult b pos) σ H (n * m) := fun Q q =>
  leE (pe_op op_mul pe_w pe_w) (ha _ (hb _ ⟨n, m, rfl, rfl, h.imp (fun z => ⟨by omega, by omega⟩) (fun z => ⟨by omega, by omega⟩), by rw [Int.natCast_mul] at q; exact q⟩))
theorem ev_mod (ha : EVN X a σ H n) (hb : EVN X b σ H m) (h : 0 < m) : EVN X (.BinOp a .Mod b pos) σ H (n % m) := fun Q q =>
  leE (pe_op op_mod pe_w pe_w) (ha _ (hb _ ⟨n, m, rfl, rfl, (by omega : (0 : Int) < (m : Int)), by rw [Int.natCast_emod] at q; exact q⟩))
theorem ev_div (ha : EVN X a σ H n) (hb : EVN X b σ H m) (h : 0 < m) (h2 : m < 1073741824) : EVN X (.BinOp a .FloorDiv b pos) σ H (n / m) := fun Q q =>
  leE (pe_op op_fdiv pe_w pe_w) (ha _ (hb _ ⟨n, m, rfl, rfl, ⟨(by omega : (0 : Int) < (m : Int)), (by omega : (m : Int) < 1073741824)⟩, by rw [Int.natCast_ediv] at q; exact q⟩))
theorem ev_intOf {p : Pos} (ha : EVN X a σ H n) (hm : X.mg "int" = none) (hg : Gl X "int" := by rfl) (he : starEach [a] X.env = (false, eval a X.env) :: starEach [] X.env := by rfl) (hpl : (backTo pos (starEach [] X.env)).any (·.1) = false := by rfl) : EVN X (.Call (.Name "int" p) [a] [] pos) σ H n := fun Q q =>
  leE (pe_callTy call_int1 hg hm (by decide +kernel) (pa_cons pe_w pa_nil he) (by decide) (by decide) he hpl) (ha _ (.inl ⟨n, rfl, q⟩))
theorem ev_len {p : Pos} {q0 : Addr} {xs : List V} (ha : EV X a σ H (.ref q0)) (hp : H q0 = some (.lst xs)) (hm : X.mg "len" = none) (hg : Gl X "len" := by rfl) (he : starEach [a] X.env = (false, eval a X.env) :: starEach [] X.env := by rfl) (hpl : (backTo pos (starEach [] X.env)).any (·.1) = false := by rfl) : EVN X (.Call (.Name "len" p) [a] [] pos) σ H xs.length := fun Q q =>
  leE (pe_callB call_len_seq hg hm PySem.boot_len (pa_cons pe_w pa_nil he) (by decide) (by decide) he hpl) (ha _ ⟨q0, xs, rfl, .inl (.inl (.inl hp)), q⟩)
theorem ev_len' {p : Pos} {q0 : Addr} {xs : List V} (ha : EV X a σ H (.ref q0)) (hp : H q0 = some (.lst xs)) (hl : xs.length = n) (hm : X.mg "len" = none) (hg : Gl X "len" := by rfl) (he : starEach [a] X.env = (false, eval a X.env) :: starEach [] X.env := by rfl) (hpl : (backTo pos (starEach [] X.env)).any (·.1) = false := by rfl) : EVN X (.Call (.Name "len" p) [a] [] pos) σ H n := by
  subst hl
  exact ev_len ha hp hm hg he hpl
theorem ev_lt {Q : Bool → Hp → Prop} (ha : EVN X a σ H n) (hb : EVN X b σ H m) (q : Q (decide (n < m)) H) (hm : behindInMarks .Lt b = false := by first | exact nomark _ | rfl) : wT X (.Compare a [.Lt] [b] pos) σ H Q :=
  leT (pt_cmpR op_lt pe_w pe_w hm) (ha _ (hb _ ⟨n, m, rfl, rfl, _, rfl, by
    have : decide ((n : Int) < (m : Int)) = decide (n < m) := decide_eq_decide.mpr Int.ofNat_lt
    rw [this]; exact q⟩))
theorem ev_ge {Q : Bool → Hp → Prop} (ha : EVN X a σ H n) (hb : EVN X b σ H m) (q : Q (decide (m ≤ n)) H) (hm : behindInMarks .GtE b = false := by first | exact nomark _ | rfl) : wT X (.Compare a [.GtE] [b] pos) σ H Q :=
  leT (pt_cmpR op_ge pe_w pe_w hm) (ha _ (hb _ ⟨n, m, rfl, rfl, _, rfl, by
    have : decide ((m : Int) ≤ (n : Int)) = decide (m ≤ n) := decide_eq_decide.mpr Int.ofNat_le
    rw [this]; exact q⟩))
end
end Pt
set_option maxHeartbeats 8000000
/-! Defs K: _law_draw. -/
namespace Pt
open PySem PySem.Spec PyProof.Rows L2
theorem cls_opn {H : Hp} {p a0 a1 : Addr} {c t : Nat} {l0 l1 : List Nat} (w1 : H p = some (WellO p a0 a1)) (w2 : H a0 = some (NumsO a0 false)) (w3 : H a1 = some (NumsO a1 true)) (h1 : p ≠ a0) (h2 : p ≠ a1) (h3 : a0 ≠ a1) : cls (opn H p a0 a1 c t l0 l1) p a0 a1 = H := by
  funext b
  unfold cls opn upd
  by_cases e1 : b = a1
  · rw [if_pos e1, e1]; exact w3.symm
  · rw [if_neg e1]
    by_cases e2 : b = a0
    · rw [if_pos e2, e2]; exact w2.symm
    · rw [if_neg e2]
      by_cases e3 : b = p
      · rw [if_pos e3, e3]; exact w1.symm
      · rw [if_neg e3, if_neg e1, if_neg e2, if_neg e3]
/-- the open well, seen from the heap Hb at the entry -/
structure Wl (T : List NTab) (Hb H : Hp) (p a0 a1 : Addr) (c t : Nat) (l0 l1 : List Nat) : Prop where
  is : WellIs H p a0 a1 c t l0 l1
  ext : Ext T Hb (cls H p a0 a1)
section
variable {T : List NTab} {Hb H : Hp} {p a0 a1 : Addr} {c t : Nat} {l0 l1 : List Nat}
theorem Wl.new (h : Wl T Hb H p a0 a1 c t l0 l1) {q : Addr} {o : HO} (hq : H q = none) : Wl T Hb (upd H q o) p a0 a1 c t l0 l1 := by
  have n1 : q ≠ p := fun e => by rw [e, h.is.p] at hq; cases hq
  have n2 : q ≠ a0 := fun e => by rw [e, h.is.l0] at hq; cases hq
  have n3 : q ≠ a1 := fun e => by rw [e, h.is.l1] at hq; cases hq
  refine ⟨⟨by rw [upd_ne n1.symm]; exact h.is.p, by rw [upd_ne n2.symm]; exact h.is.l0, by rw [upd_ne n3.symm]; exact h.is.l1⟩, ?_⟩
  have e : cls (upd H q o) p a0 a1 = upd (cls H p a0 a1) q o := by
    funext b
    unfold cls upd
    by_cases e1 : b = q
    · subst e1
      rw [if_neg n3, if_neg n2, if_neg n1, if_pos rfl, if_pos rfl]
    · rw [if_neg e1, if_neg e1]
  rw [e]
  refine h.ext.trans (Ext.new ?_)
  unfold cls
  rw [upd_ne n3, upd_ne n2, upd_ne n1]
  exact hq
theorem Wl.setP (h : Wl T Hb H p a0 a1 c t l0 l1) (h1 : p ≠ a0) (h2 : p ≠ a1) (c' t' : Nat) : Wl T Hb (upd H p (.lst (wellV a0 a1 c' t'))) p a0 a1 c' t' l0 l1 := by
  refine ⟨⟨upd_same, by rw [upd_ne h1.symm]; exact h.is.l0, by rw [upd_ne h2.symm]; exact h.is.l1⟩, ?_⟩
  have e : cls (upd H p (.lst (wellV a0 a1 c' t'))) p a0 a1 = cls H p a0 a1 := by
    unfold cls
    rw [upd_upd]
  rw [e]
  exact h.ext
theorem Wl.set0 (h : Wl T Hb H p a0 a1 c t l0 l1) (h1 : p ≠ a0) (h3 : a0 ≠ a1) (l : List Nat) : Wl T Hb (upd H a0 (.lst (nV l))) p a0 a1 c t l l1 := by
  refine ⟨⟨by rw [upd_ne h1]; exact h.is.p, upd_same, by rw [upd_ne h3.symm]; exact h.is.l1⟩, ?_⟩
  have e : cls (upd H a0 (.lst (nV l))) p a0 a1 = cls H p a0 a1 := by
    funext b
    unfold cls upd
    by_cases e1 : b = a0
    · subst e1
      rw [if_neg h3, if_pos rfl, if_neg h3, if_pos rfl]
    · by_cases e2 : b = a1
      · rw [if_pos e2, if_pos e2]
      · simp only [e1, e2, if_false]
  rw [e]
  exact h.ext
end
section
variable {P : Program} {w : World} {K : PySem.W.Frag} {mg : Str → Option Value} {base : Heap} {T : List NTab}
theorem sc_draw : FnScope ["_law_well_here", "_law_many", "_law_left", "_law_own", "_law_stirred"] ["_law_well_here", "_law_many"] (defScope (topS 44)) := ⟨rfl, rfl, rfl, by decide +kernel, rfl, by decide +kernel, by decide +kernel⟩
def A_draw : List RS → (RS → Prop) → Prop := fun as R => ∃ many, as = [.wl, .d (eI many)] ∧ many < 1000000 ∧ R = fun r => ∃ j, r = .d (eI j) ∧ j < max many 1
theorem ok_draw (D : Def K mg "_law_draw" 44 ["_law_well_here", "_law_many"]) (mi : mg "int" = none) (ml : mg "len" = none) : FnN P w K mg base T 1 "_law_draw" A_draw := by
  obtain ⟨f, fd, F, hb, hm⟩ := D.ex
  refine ⟨f, fd, _, hm, F.kp, hb, F.ok sc_draw (fun vs H Q E h => ?_) (fun cdv A outer s H vs Q E hr h => ?_)⟩
  · obtain ⟨as, R, ⟨many, rfl, _, _⟩, _, hv, _⟩ := h
    exact hv.len
  obtain ⟨as, R, ⟨many, rfl, hmany, rfl⟩, ht, hv, q⟩ := h
  obtain ⟨v0, v1, rfl⟩ : ∃ v0 v1, vs = [v0, v1] := by
    have := hv.len
    match vs, this with
    | [v0, v1], _ => exact ⟨v0, v1, rfl⟩
  obtain ⟨⟨p, rfl, a0, a1, w1, w2, w3, h1, h2, h3⟩, hv1, _⟩ := hv
  have e1 : v1 = .int (many : Int) := Tp.inv_int hv1
  subst e1
  refine ⟨_, pss_w, ?_⟩
  refine wSs_open w1 w2 w3 h1 h2 h3 fun c t l0 l1 z0 z1 ne => ?_
  have fin : ∀ {H' : Hp} {c t : Nat} {l0 : List Nat} {j : Nat}, Wl T H H' p a0 a1 c t l0 l1 → l0.length ≤ 200 → j < max many 1 → ∃ (c t : Nat) (m0 m1 : List Nat), WellIs H' p a0 a1 c t m0 m1 ∧ m0.length ≤ 200 ∧ m1.length ≤ 200 ∧ m1 ≠ [] ∧ Q (.int (j : Int)) (cls H' p a0 a1) := fun {H' c t l0 j} W y0 hj =>
    ⟨c, t, l0, l1, W.is, y0, z1, ne, q _ _ _ ⟨j, rfl, hj⟩ W.ext (.int _)⟩
  have W0 : Wl T H (opn H p a0 a1 c t l0 l1) p a0 a1 c t l0 l1 := ⟨opn_is h1 h2 h3 c t l0 l1, by rw [cls_opn w1 w2 w3 h1 h2 h3]; exact Ext.refl H⟩
  generalize opn H p a0 a1 c t l0 l1 = H0 at *
  have l1p : 0 < l1.length := List.length_pos_iff.mpr ne
  -- many < 2
  refine leSs (pss_cons (ps_if pt_w pss_w pss_w) pss_w) (ev_lt (n := many) (m := 2) (ev_v (i := 1) rfl) ev_nat ?_)
  by_cases hm2 : many < 2
  · rw [decide_eq_true hm2, if_pos rfl]
    exact leSs (pss_one (ps_ret pe_w)) (ev_nat (i := 0) _ (fin W0 z0 (by omega)))
  rw [decide_eq_false hm2, if_neg Bool.false_ne_true]
  refine leSs pss_nil ?_
  -- the numbers in hand
  have sub : ∀ {σ : L2.St} {H' : Hp} {c t : Nat} {l0 : List Nat} {i : Nat} {v : V} {pw pc ps : Pos} {jj : Nat}, σ[0]? = some (some (V.ref p)) → Wl T H H' p a0 a1 c t l0 l1 → (wellV a0 a1 c t)[i]? = some v →
      EV (cxOf CX0 P w K mg base ["_law_well_here", "_law_many", "_law_left", "_law_own", "_law_stirred"] "_law_draw" (defScope (topS 44)) f cdv A outer s H E).nox (.Subscript (.Name "_law_well_here" pw) (.Constant (.int (i : Int)) jj pc) ps) σ H' v :=
    fun hs W hv => ev_ix (ev_v (i := 0) hs) ev_nat W.is.p hv
  refine leSs (pss_cons (ps_if (pt_cmpR (op_neD hr.units) pe_w pe_w (nomark _)) pss_w pss_w) pss_w) (sub (i := 0) rfl W0 rfl _ (leE (pe_lst pa_nil) ⟨Nat.zero_le _, fun q1 hq1 => ?_⟩))
  have W1 := W0.new (o := .lst []) hq1
  have tins : TpAll (upd H0 q1 (.lst [])) (nV l0) (l0.map eI) := by
    have e : l0.map eI = (l0.map fun (n : Nat) => (n : Int)).map .int := by rw [List.map_map]; rfl
    have e2 : nV l0 = (l0.map fun (n : Nat) => (n : Int)).map V.int := by rw [List.map_map]; rfl
    rw [e, e2]
    exact tpAll_ints _
  refine ⟨.list (l0.map eI), .list (([] : List Nat).map eI), ls_dp ⟨_, W1.is.l0, tins⟩, ls_dp ⟨[], upd_same, .nil⟩, shaped_L l0, shaped_L [], _, rfl, ?_⟩
  rw [PyData.eqv, eqvAll_nats]
  dsimp only
  by_cases hl0 : l0 = []
  · rw [decide_eq_true hl0, Bool.not_true, if_neg Bool.false_ne_true]
    refine leSs pss_nil ?_
    -- the count
    have hl1 : (nV l1).length = l1.length := List.length_map _
    refine leSs (pss_cons (ps_asg pe_w (pg_sub pe_w pe_w set_list (by intro _; rfl)) rfl rfl rfl) pss_w) ?_
    refine evq (ev_add (n := c) (m := 1) (sub (i := 2) rfl W1 rfl) ev_nat) ?_
    refine evq (ev_v (i := 0) rfl) (evq (ev_nat (i := 2)) ⟨p, _, 2, 2, rfl, rfl, W1.is.p, rfl, ?_⟩)
    have W2 : Wl T H (upd (upd H0 q1 (.lst [])) p (.lst (wellV a0 a1 (c + 1) t))) p a0 a1 (c + 1) t l0 l1 := W1.setP h1 h2 (c + 1) t
    show wSs _ _ _ _ (upd (upd H0 q1 (.lst [])) p (.lst (wellV a0 a1 (c + 1) t)))
    generalize upd (upd H0 q1 (.lst [])) p (.lst (wellV a0 a1 (c + 1) t)) = H2 at *
    have hk : (c + 1) % l1.length < l1.length := Nat.mod_lt _ l1p
    obtain ⟨o, ho⟩ : ∃ o, l1[(c + 1) % l1.length]? = some o := ⟨_, List.getElem?_eq_getElem hk⟩
    have ho2 : (nV l1)[(c + 1) % l1.length]? = some (V.int (o : Int)) := by rw [List.getElem?_map, ho]; rfl
    refine leSs (pss_cons (ps_set sc_draw.nd (i := 3) rfl (Or.inl rfl) pe_w rfl (.inr rfl)) pss_w) ?_
    refine evq (ev_ix (sub (i := 1) rfl W2 rfl) (ev_mod (ev_intOf (sub (i := 2) rfl W2 rfl) mi) (ev_len' (sub (i := 1) rfl W2 rfl) W2.is.l1 hl1 ml) l1p) W2.is.l1 ho2) ?_
    -- the state
    refine leSs (pss_cons (ps_asg pe_w (pg_sub pe_w pe_w set_list (by intro _; rfl)) rfl rfl rfl) pss_w) ?_
    refine evq (ev_mod (m := 2147483629) (ev_intOf (ev_add (ev_add (ev_mul (m := 48271) (sub (i := 3) rfl W2 rfl) ev_nat (.inr (by decide))) (ev_mul (m := 69621) (ev_v (i := 3) rfl) ev_nat (.inr (by decide)))) (ev_mul (m := 40692) (sub (i := 2) rfl W2 rfl) ev_nat (.inr (by decide)))) mi) ev_nat (by decide)) ?_
    generalize ht2 : (t * 48271 + o * 69621 + (c + 1) * 40692) % 2147483629 = t2
    have ht2l : t2 < 2147483629 := by rw [← ht2]; exact Nat.mod_lt _ (by decide)
    refine evq (ev_v (i := 0) rfl) (evq (ev_nat (i := 3)) ⟨p, _, 3, 3, rfl, rfl, W2.is.p, rfl, ?_⟩)
    have W3 : Wl T H (upd H2 p (.lst (wellV a0 a1 (c + 1) t2))) p a0 a1 (c + 1) t2 l0 l1 := W2.setP h1 h2 (c + 1) t2
    show wSs _ _ _ _ (upd H2 p (.lst (wellV a0 a1 (c + 1) t2)))
    generalize upd H2 p (.lst (wellV a0 a1 (c + 1) t2)) = H3 at *
    refine leSs (pss_cons (ps_set sc_draw.nd (i := 4) rfl (Or.inl rfl) pe_w rfl (.inr rfl)) pss_w) ?_
    refine evq (ev_mod (m := 2147483587) (ev_intOf (ev_add (ev_add (ev_mul (sub (i := 3) rfl W3 rfl) (sub (i := 3) rfl W3 rfl) (.inl (by omega))) (ev_mul (n := 7) ev_nat (sub (i := 3) rfl W3 rfl) (.inl (by decide)))) (sub (i := 2) rfl W3 rfl)) mi) ev_nat (by decide)) ?_
    refine leSs (pss_one (ps_ret pe_w)) ?_
    refine evq (ev_mod (ev_intOf (ev_div (m := 1024) (ev_v (i := 4) rfl) ev_nat (by decide) (by decide)) mi) (ev_v (i := 1) rfl) (by omega)) ?_
    exact fin W3 z0 (Nat.lt_of_lt_of_le (Nat.mod_lt _ (by omega)) (Nat.le_max_left _ _))
  · rw [decide_eq_false hl0, Bool.not_false, if_pos rfl]
    obtain ⟨l', x, rfl⟩ : ∃ l' x, l0 = l' ++ [x] := ⟨l0.dropLast, l0.getLast hl0, (List.dropLast_concat_getLast hl0).symm⟩
    rw [List.length_append, List.length_singleton] at z0
    have hlast : (nV (l' ++ [x]))[(nV (l' ++ [x])).length - 1]? = some (V.int (x : Int)) := by
      rw [List.length_map, List.length_append, List.length_singleton, Nat.add_sub_cancel, List.getElem?_map, List.getElem?_append_right (Nat.le_refl _), Nat.sub_self]
      rfl
    have hdrop : (nV (l' ++ [x])).dropLast = nV l' := by
      rw [← List.map_dropLast, List.dropLast_concat]
    refine leSs (pss_cons (ps_set sc_draw.nd (i := 2) rfl (Or.inl rfl) (pe_bm0 PySem.F.plainAttrs_list PySem.F.slot_list_pop PySem.F.type_list_pop mt_pop pe_w rfl rfl) rfl (.inr rfl)) pss_w) ?_
    refine evq (sub (i := 0) rfl W1 rfl) ⟨.inl ⟨rfl, _, .inl (.inl W1.is.l0)⟩, a0, _, _, rfl, rfl, W1.is.l0, hlast, ?_⟩
    rw [hdrop]
    have W2 : Wl T H (upd (upd H0 q1 (.lst [])) a0 (.lst (nV l'))) p a0 a1 c t l' l1 := W1.set0 h1 h3 l'
    show wSs _ _ _ _ (upd (upd H0 q1 (.lst [])) a0 (.lst (nV l')))
    generalize upd (upd H0 q1 (.lst [])) a0 (.lst (nV l')) = H2 at *
    have last : ∀ {H' : Hp} {l : List Nat}, Wl T H H' p a0 a1 c t l l1 → l.length ≤ 200 → x % many < max many 1 := fun _ _ => Nat.lt_of_lt_of_le (Nat.mod_lt _ (by omega)) (Nat.le_max_left _ _)
    refine leSs (pss_cons (ps_if pt_w pss_w pss_w) pss_w) (ev_ge (n := x) (m := many) (ev_v (i := 2) rfl) (ev_v (i := 1) rfl) ?_)
    by_cases hge : many ≤ x
    · rw [decide_eq_true hge, if_pos rfl]
      refine leSs (pss_one (ps_expr (pe_bm PySem.F.plainAttrs_list PySem.F.slot_list_append PySem.F.type_list_append mt_append pe_w (pa_cons pe_w pa_nil rfl) rfl rfl rfl rfl rfl) rfl)) ?_
      refine evq (sub (i := 0) rfl W2 rfl) ⟨.inl ⟨rfl, _, .inl (.inl W2.is.l0)⟩, evq (ev_div (m := many) (ev_v (i := 2) rfl) (ev_v (i := 1) rfl) (by omega) (by omega)) ⟨a0, _, _, rfl, rfl, W2.is.l0, Nat.lt_of_le_of_lt (by rw [List.length_map]; omega : (nV l').length ≤ 200) (by decide), ?_⟩⟩
      have W3 : Wl T H (upd H2 a0 (.lst (nV (l' ++ [x / many])))) p a0 a1 c t (l' ++ [x / many]) l1 := W2.set0 h1 h3 _
      have e3 : nV l' ++ [V.int ((x / many : Nat) : Int)] = nV (l' ++ [x / many]) := by unfold nV; rw [List.map_append]; rfl
      show wSs _ _ _ _ (upd H2 a0 (.lst (nV l' ++ [V.int ((x / many : Nat) : Int)])))
      rw [e3]
      refine leSs (pss_one (ps_ret pe_w)) ?_
      exact evq (ev_mod (ev_intOf (ev_v (i := 2) rfl) mi) (ev_v (i := 1) rfl) (by omega)) (fin W3 (by rw [List.length_append, List.length_singleton]; omega) (last W3 (by rw [List.length_append, List.length_singleton]; omega)))
    · rw [decide_eq_false hge, if_neg Bool.false_ne_true]
      refine leSs pss_nil ?_
      refine leSs (pss_one (ps_ret pe_w)) ?_
      exact evq (ev_mod (ev_intOf (ev_v (i := 2) rfl) mi) (ev_v (i := 1) rfl) (by omega)) (fin W2 (by omega) (last W2 (by omega)))
end
end Pt
set_option maxHeartbeats 8000000
/-! Defs L: _law_pick. -/
namespace Pt
open PySem PySem.Spec PyProof.Rows L2
section
variable {P : Program} {w : World} {K : PySem.W.Frag} {mg : Str → Option Value} {base : Heap} {T : List NTab}
theorem fnN {x : Str} {i : Nat} {N ps : List Str} {k : Nat} {A : List RS → (RS → Prop) → Prop} (D : Def K mg x i ps) (S : FnScope N ps (defScope (topS i))) (hl : ∀ as R, A as R → as.length = ps.length)
    (hbody : ∀ (as : List RS) (R : RS → Prop), A as R → ∀ (f : Addr) (cdv : Value) (A : Around) (outer : List Env) (s : Shared) (H : Hp) (E : XK), Room k (A.deeper (envOfC x (defScope (topS i)) s.heap.objs.size f cdv)) →
      HS T (cxOf CX0 P w K mg base N x (defScope (topS i)) f cdv A outer s H E).nox (defBody (topS i)) { nx := fun _ => R (.d .none), rt := R } (Args0 as N.length)) : FnN P w K mg base T (k + 1) x A := by
  obtain ⟨f, fd, F, hb, hm⟩ := D.ex
  have hpl : ps.length ≤ N.length := by have h0 := congrArg List.length S.pre; rw [List.length_take] at h0; omega
  refine ⟨f, fd, ps, hm, F.kp, hb, F.ok S (fun vs H Q E h => ?_) (fun cdv A' outer s H vs Q E hr h => ?_)⟩
  · obtain ⟨as, R, hA, _, hv, _⟩ := h
    rw [hv.len, hl as R hA]
  · obtain ⟨as, R, hA, ht, hv, q⟩ := h
    refine ⟨_, pss_w, ?_⟩
    obtain ⟨Θ, k0⟩ := ok_start (N := N) ht hv (by rw [hl as R hA]; exact hpl)
    refine (hbody as R hA f cdv A' outer s H E hr H Θ _ H k0).mono (fun σ' H' ⟨Γ', Θ', a, b, c⟩ => ?_) (fun v H' ⟨r', a, b, c⟩ => ?_) (fun _ _ ⟨_, _, z, _⟩ => z.elim) (fun _ _ ⟨_, _, z, _⟩ => z.elim)
    · exact q (.d .none) _ H' a c.ext .non
    · exact q r' v H' a b c
theorem en_ixL {X : Cx} {Γ : List Sh} {a b : Expr} {pos : Pos} {l : List Nat} (ha : EE T X a Γ (.q (l.map eI))) (hb : EN T X b Γ (fun r => ∃ j, r = .d (eI j) ∧ j < l.length)) (hs : PlainIx b := by exact fun _ _ => rfl) : EN T X (.Subscript a b pos) Γ (fun r => ∃ x ∈ l, r = .d (eI x)) := fun H0 Θ σ H k Q q =>
  leE (pe_ix ix_list pe_w pe_w hs) (ha H0 Θ σ H k _ fun v H2 e2 hv => hb H0 Θ σ H2 (k.mono e2) _ fun r w H3 ⟨j, e, hj⟩ e3 hw => by
    subst e
    obtain ⟨p, rfl, xs, hp, hx⟩ := RsOk.ext hv e3
    have hat : l[j]? = some l[j] := List.getElem?_eq_getElem hj
    obtain ⟨u, g, hu⟩ := hx.get (i := j) (d := eI l[j]) (by rw [List.getElem?_map, hat]; rfl)
    exact ⟨p, xs, (j : Int), u, rfl, Tp.inv_int hw, .inl (.inl hp), atI_nat g, q _ u H3 ⟨_, List.getElem_mem hj, rfl⟩ (e2.trans e3) hu⟩)
theorem sc_pick : FnScope ["_law_well_here", "_law_items"] ["_law_well_here", "_law_items"] (defScope (topS 45)) := ⟨rfl, rfl, rfl, by decide +kernel, rfl, by decide +kernel, by decide +kernel⟩
def A_pick : List RS → (RS → Prop) → Prop := fun as R => ∃ l : List Nat, as = [.wl, .q (l.map eI)] ∧ l ≠ [] ∧ l.length ≤ 1000 ∧ R = fun r => ∃ x ∈ l, r = .d (eI x)
theorem ok_pick (D : Def K mg "_law_pick" 45 ["_law_well_here", "_law_items"]) (G : FnN P w K mg base T 1 "_law_draw" A_draw) (ml : mg "len" = none) : FnN P w K mg base T 2 "_law_pick" A_pick := by
  refine fnN D sc_pick (fun as R ⟨_, e, _⟩ => by rw [e]; rfl) (fun as R hA f0 cdv A outer s H E hr => ?_)
  obtain ⟨l, rfl, hne, hl, rfl⟩ := hA
  have hp := List.length_pos_iff.mpr hne
  refine hs_one (h1_retN (en_ixL (l := l) (ee_pq (ee_vr (i := 1) rfl)) (EN.imp (en_call (rs := [.wl, .d (eI l.length)]) (as := [.wl, .d (eI l.length)]) G (hr.mono (by decide)) (ea_cons (ee_vw (i := 0) rfl) (ea_cons (ee_cast (ee_lenL (ea_cons (ee_pq (ee_vr (i := 1) rfl)) ea_nil) ml) (by rw [List.length_map])) ea_nil)) (.cons rfl (.cons rfl .nil)) ⟨l.length, rfl, by omega, rfl⟩) (fun r ⟨j, e, hj⟩ => ⟨j, e, by omega⟩))) (fun r hr' => ⟨hr', ?_⟩))
  obtain ⟨x, _, rfl⟩ := hr'
  exact .inl ⟨_, rfl⟩
end
end Pt
set_option maxHeartbeats 8000000
/-! Layer T: expressions over plain values; what they make is new. -/
namespace Pt
open PySem PySem.Spec PyProof.Rows L2
/-- e comes out as some v of R, over a heap that grew -/
def EX (T : List NTab) (X : Cx) (e : Expr) (σ : L2.St) (H : Hp) (R : V → Hp → Prop) : Prop := ∀ Q : VK, (∀ v H', Ext T H H' → R v H' → Q v H') → wE X e σ H Q
section
variable {T : List NTab} {X : Cx} {σ : L2.St} {H : Hp} {a b e : Expr} {pos : Pos} {n m : Nat} {R R' : V → Hp → Prop}
theorem exq {Q : VK} (h : EX T X e σ H R) (q : ∀ v H', Ext T H H' → R v H' → Q v H') : wE X e σ H Q := h Q q
theorem ex_ev {v : V} (h : EV X e σ H v) (r : R v H) : EX T X e σ H R := fun Q q => h Q (q v H (Ext.refl H) r)
theorem EX.imp (h : EX T X e σ H R) (f : ∀ v H', Ext T H H' → R v H' → R' v H') : EX T X e σ H R' := fun Q q => h Q fun v H' a b => q v H' a (f v H' a b)
/-- what is drawn -/
abbrev IsLt (n : Nat) : V → Hp → Prop := fun v _ => ∃ j : Nat, v = .int (j : Int) ∧ j < max n 1
theorem ex_draw {p : Addr} {k : Nat} {p2 : Pos} (G : FnN X.prog X.w X.K X.mg X.base T 1 "_law_draw" A_draw) (hr : Room k X.A) (hk : 1 ≤ k) (tb : TabsN T H) (hw : WellAt H p) (h0 : EV X a σ H (.ref p)) (h1 : EVN X b σ H n) (hn : n < 1000000)
    (hg : Gl X "_law_draw" := by rfl) (e1 : starEach [a, b] X.env = (false, eval a X.env) :: starEach [b] X.env := by rfl) (e2 : starEach [b] X.env = (false, eval b X.env) :: starEach [] X.env := by rfl) (hpl : (backTo pos (starEach [b] X.env)).any (·.1) = false := by rfl) :
    EX T X (.Call (.Name "_law_draw" p2) [a, b] [] pos) σ H (IsLt n) := fun Q q => by
  obtain ⟨f, fd, ps, hm, hkk, hb, F⟩ := G.ex
  refine leE (pe_call F (hr.mono hk) hg hm hkk hb .nil pass0 (pa_cons pe_w (pa_cons pe_w pa_nil e2) e1) (by decide) e1 hpl) (evq h0 (evq h1 ?_))
  refine ⟨[.wl, .d (eI n)], _, ⟨n, rfl, hn, rfl⟩, tb, ⟨⟨p, rfl, hw⟩, .int _, trivial⟩, fun r v H' hR e hv => ?_⟩
  obtain ⟨j, rfl, hj⟩ := hR
  exact q v H' e ⟨j, Tp.inv_int hv, hj⟩
end
/-- the promise of _law_shuffled: any things -/
def spSh (T : List NTab) : Sp := fun vs H Q _ => ∃ p l xs, vs = [.ref p, .ref l] ∧ TabsN T H ∧ WellAt H p ∧ H l = some (.lst xs) ∧ xs.length ≤ 100 ∧ ∀ q ys H', ys.Perm xs → Ext T H H' → H q = none → H' q = some (.lst ys) → Q (.ref q) H'
structure FnSh (P : Program) (w : World) (K : PySem.W.Frag) (mg : Str → Option Value) (base : Heap) (T : List NTab) (k : Nat) : Prop where
  ex : ∃ (f : Addr) (fd : FuncData) (ps : List Str), mg "_law_shuffled" = some (.ref f) ∧ PySem.W.keepIn K (.ref f) = true ∧ Binds K fd ps [] ∧ FnOk P w K mg base CX0 k f fd ps (spSh T)
section
variable {P : Program} {w : World} {K : PySem.W.Frag} {mg : Str → Option Value} {base : Heap} {T : List NTab}
theorem perm_erase {α : Type} : ∀ (l : List α) (i : Nat) (y : α), l[i]? = some y → (y :: l.eraseIdx i).Perm l
  | [], _, _, h => by simp at h
  | x :: l, 0, y, h => by simp at h; subst h; exact List.Perm.refl _
  | x :: l, i + 1, y, h => (List.Perm.swap x y _).trans (List.Perm.cons x (perm_erase l i y (by simpa using h)))
theorem sc_shuffled : FnScope ["_law_well_here", "_law_items", "_law_left", "_law_found", "_law_turn"] ["_law_well_here", "_law_items"] (defScope (topS 46)) := ⟨rfl, rfl, rfl, by decide +kernel, rfl, by decide +kernel, by decide +kernel⟩
theorem ok_shuffled (D : Def K mg "_law_shuffled" 46 ["_law_well_here", "_law_items"]) (G : FnN P w K mg base T 1 "_law_draw" A_draw) (ml : mg "len" = none) (mli : mg "list" = none) (mr : mg "range" = none) : FnSh P w K mg base T 2 := by
  obtain ⟨f, fd, F, hb, hm⟩ := D.ex
  refine ⟨f, fd, _, hm, F.kp, hb, F.ok sc_shuffled (fun vs H Q E h => ?_) (fun cdv A outer s H vs Q E hr h => ?_)⟩
  · obtain ⟨p, l, xs, rfl, _⟩ := h
    rfl
  obtain ⟨p, l, xs, rfl, tb, hw, hl, hlen, q⟩ := h
  refine ⟨_, pss_w, ?_⟩
  have big : xs.length < 100000 := by omega
  -- left, found
  refine leSs (pss_cons (ps_par rfl sc_shuffled.nd (i := 2) (j := 3) rfl rfl (by decide) rfl rfl (pa_cons pe_w (pa_cons (pe_lst pa_nil) pa_nil rfl) rfl) rfl rfl) pss_w) ?_
  refine leE (pe_callTy call_list_of rfl mli (by decide +kernel) (pa_cons pe_w pa_nil rfl) (by decide) (by decide) rfl rfl) (evq (ev_v (i := 1) (v := .ref l) rfl) ⟨l, xs, rfl, .inl (.inl (.inl hl)), fun a ha => ?_⟩)
  refine ⟨Nat.zero_le _, fun b hbn => ⟨_, _, rfl, ?_⟩⟩
  have hab : a ≠ b := fun e => by rw [← e, upd_same] at hbn; cases hbn
  have hb0 : H b = none := (upd_some hbn).1
  have e0 : Ext T H (upd (upd H a (.lst xs)) b (.lst [])) := (Ext.new ha).trans (Ext.new hbn)
  -- the loop
  refine leSs (pss_cons (ps_for PassesOwn.never rfl (pi_range1 rfl mr pa_w rfl) (pg_name sc_shuffled.nd (i := 4) rfl (Or.inl rfl) (.inr rfl)) pss_w) pss_w) ?_
  refine leA (pa_cons pe_w pa_nil rfl) (evq (ev_len (ev_v (i := 1) (v := .ref l) rfl) (e0.lst hl) ml) ⟨(xs.length : Int), rfl, by omega, by omega, ?_⟩)
  rw [Int.toNat_natCast]
  refine for_range (fun i σ' H' => ∃ v4 lefts founds, σ' = [some (.ref p), some (.ref l), some (.ref a), some (.ref b), v4] ∧ Ext T H H' ∧ H' a = some (.lst lefts) ∧ H' b = some (.lst founds) ∧ (founds ++ lefts).Perm xs ∧ lefts.length + i = xs.length) ?_ ?_ ?_
  · exact ⟨none, xs, [], rfl, e0, by rw [upd_ne hab]; exact upd_same, upd_same, by rw [List.nil_append], rfl⟩
  · rintro i σ' H' hi ⟨v4, lefts, founds, rfl, e, h1, h2, hp, hc⟩
    have hlp : 0 < lefts.length := by omega
    show wSs _ _ _ [some (.ref p), some (.ref l), some (.ref a), some (.ref b), some (.int (0 + (i : Int)))] H'
    refine leSs (pss_one (ps_expr (pe_bm PySem.F.plainAttrs_list PySem.F.slot_list_append PySem.F.type_list_append mt_append pe_w (pa_cons (pe_bm PySem.F.plainAttrs_list PySem.F.slot_list_pop PySem.F.type_list_pop mt_popAt pe_w (pa_cons pe_w pa_nil rfl) rfl rfl rfl rfl rfl) pa_nil rfl) rfl rfl rfl rfl rfl) rfl)) ?_
    refine evq (ev_v (i := 3) (v := .ref b) rfl) ⟨.inl ⟨rfl, _, .inl (.inl h2)⟩, evq (ev_v (i := 2) (v := .ref a) rfl) ⟨.inl ⟨rfl, _, .inl (.inl h1)⟩, ?_⟩⟩
    refine exq (ex_draw (n := lefts.length) G hr (by decide) (e.tabs tb) (hw.ext e) (ev_v (i := 0) (v := .ref p) rfl) (ev_len (ev_v (i := 2) (v := .ref a) rfl) h1 ml) (by omega)) fun v H2 e2 ⟨j, ej, hj⟩ => ?_
    subst ej
    have hj : j < lefts.length := by omega
    have g1 := e2.lst h1
    have g2 := e2.lst h2
    refine ⟨a, lefts, (j : Int), j, lefts[j], rfl, rfl, g1, by omega, by omega, by rw [PyProof.Rows.seqIndex_at (by omega) (by omega)]; rfl, List.getElem?_eq_getElem hj, ?_⟩
    have g3 : upd H2 a (.lst (lefts.eraseIdx j)) b = some (.lst founds) := by rw [upd_ne (Ne.symm hab)]; exact g2
    have len2 := hp.length_eq
    rw [List.length_append] at len2
    refine ⟨b, founds, lefts[j], rfl, rfl, g3, Nat.lt_of_lt_of_le (show founds.length < 100000 by omega) (by decide), ?_⟩
    refine ⟨_, lefts.eraseIdx j, founds ++ [lefts[j]], rfl, ((e.trans e2).mut ha g1).mut hb0 g3, ?_, upd_same, ?_, ?_⟩
    · rw [upd_ne hab]; exact upd_same
    · rw [List.append_assoc]
      refine List.Perm.trans (List.Perm.append_left _ ?_) hp
      exact perm_erase lefts j _ (List.getElem?_eq_getElem hj)
    · rw [List.length_eraseIdx_of_lt hj]; omega
  · rintro σ' H' ⟨v4, lefts, founds, rfl, e, h1, h2, hp, hc⟩
    have : lefts = [] := List.eq_nil_of_length_eq_zero (by omega)
    subst this
    rw [List.append_nil] at hp
    refine leSs (pss_one (ps_ret pe_w)) (evq (ev_v (i := 3) (v := .ref b) rfl) ?_)
    exact q b founds H' hp e hb0 h2
end
end Pt
set_option maxHeartbeats 8000000
/-! Layer U: lists over plain values. -/
namespace Pt
open PySem PySem.Spec PyProof.Rows L2
/-- v is a list of numbers -/
def IsNs (H : Hp) (v : V) (l : List Nat) : Prop := ∃ q, v = .ref q ∧ H q = some (.lst (nV l))
/-- v is a list of two lists of numbers -/
def LumpAt (H : Hp) (v : V) (l : List Nat × List Nat) : Prop := ∃ p pa pb, v = .ref p ∧ H p = some (.lst [.ref pa, .ref pb]) ∧ H pa = some (.lst (nV l.1)) ∧ H pb = some (.lst (nV l.2))
/-- the lists stay -/
def Lx (H H' : Hp) : Prop := ∀ a vs, H a = some (.lst vs) → H' a = some (.lst vs)
theorem Ext.lx {T : List NTab} {H H' : Hp} (e : Ext T H H') : Lx H H' := fun _ _ h => e.lst h
theorem Lx.trans {H H1 H2 : Hp} (a : Lx H H1) (b : Lx H1 H2) : Lx H H2 := fun c vs h => b c vs (a c vs h)
theorem IsNs.lx {H H' : Hp} {v : V} {l : List Nat} (h : IsNs H v l) (e : Lx H H') : IsNs H' v l := by
  obtain ⟨q, a, b⟩ := h
  exact ⟨q, a, e _ _ b⟩
theorem LumpAt.lx {H H' : Hp} {v : V} {l : List Nat × List Nat} (h : LumpAt H v l) (e : Lx H H') : LumpAt H' v l := by
  obtain ⟨p, pa, pb, a, b, c, d⟩ := h
  exact ⟨p, pa, pb, a, e _ _ b, e _ _ c, e _ _ d⟩
/-- the heap without the object at D -/
def hide (H : Hp) (D : Addr) : Hp := fun a => if a = D then none else H a
theorem hide_lx (H : Hp) (D : Addr) : Lx (hide H D) H := fun a vs h => by
  unfold hide at h
  by_cases e : a = D
  · rw [if_pos e] at h; cases h
  · rw [if_neg e] at h; exact h
theorem hide_mono {H H' : Hp} {D : Addr} (e : Lx H H') : Lx (hide H D) (hide H' D) := fun a vs h => by
  unfold hide at h ⊢
  by_cases z : a = D
  · rw [if_pos z] at h; cases h
  · rw [if_neg z] at h ⊢; exact e a vs h
theorem hide_upd (H : Hp) (D : Addr) (o : HO) : hide (upd H D o) D = hide H D := by
  funext a
  unfold hide upd
  by_cases z : a = D
  · rw [if_pos z, if_pos z]
  · rw [if_neg z, if_neg z, if_neg z]
theorem hide_at {H : Hp} {D a : Addr} {o : HO} (h : H a = some o) (n : a ≠ D) : hide H D a = some o := by
  unfold hide
  rw [if_neg n]; exact h
section
variable {T : List NTab} {X : Cx} {σ : L2.St} {H : Hp} {a b c d e : Expr} {pos : Pos} {n m : Nat} {R R' : V → Hp → Prop}
/-- a call of _law_shuffled -/
theorem ex_sh {p : Addr} {k : Nat} {p2 : Pos} {C : List V → Hp → Prop} (G : FnSh X.prog X.w X.K X.mg X.base T 2) (hr : Room k X.A) (hk : 2 ≤ k) (tb : TabsN T H) (hw : WellAt H p) (h0 : EV X a σ H (.ref p))
    (hb : EX T X b σ H (fun v H' => ∃ l xs, v = .ref l ∧ H' l = some (.lst xs) ∧ xs.length ≤ 100 ∧ C xs H')) (hC : ∀ xs H1 H2, Ext T H1 H2 → C xs H1 → C xs H2)
    (hg : Gl X "_law_shuffled" := by rfl) (e1 : starEach [a, b] X.env = (false, eval a X.env) :: starEach [b] X.env := by rfl) (e2 : starEach [b] X.env = (false, eval b X.env) :: starEach [] X.env := by rfl) (hpl : (backTo pos (starEach [b] X.env)).any (·.1) = false := by rfl) :
    EX T X (.Call (.Name "_law_shuffled" p2) [a, b] [] pos) σ H (fun v H' => ∃ q ys xs, v = .ref q ∧ H' q = some (.lst ys) ∧ ys.Perm xs ∧ C xs H') := fun Q q => by
  obtain ⟨f, fd, ps, hm, hkk, hbi, F⟩ := G.ex
  refine leE (pe_call F (hr.mono hk) hg hm hkk hbi .nil pass0 (pa_cons pe_w (pa_cons pe_w pa_nil e2) e1) (by decide) e1 hpl) (evq h0 (exq hb fun v H1 f1 ⟨l, xs, ev, hl, hn, hc⟩ => ?_))
  subst ev
  exact ⟨p, l, xs, rfl, f1.tabs tb, hw.ext f1, hl, hn, fun q' ys H' hp f2 _ hq => q _ H' (f1.trans f2) ⟨q', ys, xs, rfl, hq, hp, hC _ _ _ f2 hc⟩⟩
/-- list(range(n)) -/
theorem ex_listRg {p p2 pos2 : Pos} (h : EVN X a σ H n) (hn : n ≤ 100000) (hc : X.calm = true) (hm : X.mg "list" = none) (hm2 : X.mg "range" = none) (hg : Gl X "list" := by rfl) (hg2 : Gl X "range" := by rfl)
    (na : starEach [a] X.env = (false, eval a X.env) :: starEach [] X.env := by rfl) (na2 : starEach [.Call (.Name "range" p2) [a] [] pos2] X.env = (false, eval (.Call (.Name "range" p2) [a] [] pos2) X.env) :: starEach [] X.env := by rfl) :
    EX T X (.Call (.Name "list" p) [.Call (.Name "range" p2) [a] [] pos2] [] pos) σ H (fun v H' => IsNs H' v (List.range n)) := fun Q q =>
  leE (pe_listRg hc hg hm (prg_1 hg2 hm2 pe_w na) na2) (evq h ⟨(n : Int), rfl, RgOk.of_le (by omega) (by omega) (by omega) (by omega), fun p hp => q _ _ (Ext.new hp) ⟨p, rfl, by
    have : rgV 0 (n : Int) = nV (List.range n) := by
      unfold rgV
      simp only [Int.zero_add, Int.sub_zero, Int.toNat_natCast]
    rw [this]
    exact upd_same⟩⟩)
theorem ev_sub (ha : EVN X a σ H n) (hb : EVN X b σ H m) (h : m ≤ n) : EVN X (.BinOp a .Sub b pos) σ H (n - m) := fun Q q =>
  leE (pe_op op_sub pe_w pe_w) (ha _ (hb _ ⟨n, m, rfl, rfl, by rw [Int.natCast_sub h] at q; exact q⟩))
theorem ev_gt {Q : Bool → Hp → Prop} (ha : EVN X a σ H n) (hb : EVN X b σ H m) (q : Q (decide (m < n)) H) (hm : behindInMarks .Gt b = false := by first | exact nomark _ | rfl) : wT X (.Compare a [.Gt] [b] pos) σ H Q :=
  leT (pt_cmpR op_gt pe_w pe_w hm) (ha _ (hb _ ⟨n, m, rfl, rfl, _, rfl, by
    have : decide ((m : Int) < (n : Int)) = decide (m < n) := decide_eq_decide.mpr Int.ofNat_lt
    rw [this]; exact q⟩))
/-- xs[:m] -/
theorem ex_upto {l : Addr} {xs : List V} {p2 : Pos} (ha : EV X a σ H (.ref l)) (hl : H l = some (.lst xs)) (hb : EVN X b σ H m) : EX T X (.Subscript a (.Slice none (some b) none p2) pos) σ H (fun v H' => ∃ q, v = .ref q ∧ H' q = some (.lst (xs.take m))) := fun Q q =>
  leE (pe_slice sl_list pe_w po_none (po_some pe_w)) (evq ha (evq hb ⟨m, rfl, l, xs, rfl, .inl (.inl hl), fun p hp => q _ _ (Ext.new hp) ⟨p, rfl, by
    rw [upd_same]
    unfold cutV
    rw [HT.sIx_nat, HT.sIx_none, List.drop_zero, Nat.sub_zero]
    by_cases hn : m ≤ xs.length
    · rw [Nat.min_eq_left hn]
    · rw [Nat.min_eq_right (by omega), List.take_of_length_le (Nat.le_refl _), List.take_of_length_le (by omega)]⟩⟩))
/-- xs[m:] -/
theorem ex_from {l : Addr} {xs : List V} {p2 : Pos} (ha : EV X a σ H (.ref l)) (hl : H l = some (.lst xs)) (hb : EVN X b σ H m) : EX T X (.Subscript a (.Slice (some b) none none p2) pos) σ H (fun v H' => ∃ q, v = .ref q ∧ H' q = some (.lst (xs.drop m))) := fun Q q =>
  leE (pe_slice sl_list pe_w (po_some pe_w) po_none) (evq ha (evq hb ⟨m, rfl, l, xs, rfl, .inl (.inl hl), fun p hp => q _ _ (Ext.new hp) ⟨p, rfl, by
    rw [upd_same]
    unfold cutV
    rw [HT.sIx_nat, HT.sIx_none]
    by_cases hn : m ≤ xs.length
    · rw [Nat.min_eq_left hn, List.take_of_length_le (by rw [List.length_drop]; omega)]
    · rw [Nat.min_eq_right (by omega), List.drop_length, List.take_nil, List.drop_eq_nil_of_le (by omega)]⟩⟩))
/-- xs + ys -/
theorem ex_cat {l : Addr} {xs : List V} {C : List V → Hp → Prop} (ha : EV X a σ H (.ref l)) (hl : H l = some (.lst xs)) (hb : EX T X b σ H (fun v H' => ∃ l2 zs, v = .ref l2 ∧ H' l2 = some (.lst zs) ∧ C zs H')) (hn : ∀ zs H', C zs H' → xs.length + zs.length ≤ 1000) (hC : ∀ zs H1 H2, Ext T H1 H2 → C zs H1 → C zs H2) :
    EX T X (.BinOp a .Add b pos) σ H (fun v H' => ∃ q zs, v = .ref q ∧ H' q = some (.lst (xs ++ zs)) ∧ C zs H') := fun Q q =>
  leE (pe_op op_cat pe_w pe_w) (evq ha (exq hb fun v H1 f1 ⟨l2, zs, ev, hz, hc⟩ => by
    subst ev
    exact ⟨l, l2, xs, zs, rfl, rfl, f1.lst hl, hz, Nat.le_trans (hn zs H1 hc) (by decide), fun p hp => q _ _ (f1.trans (Ext.new hp)) ⟨p, zs, rfl, upd_same, hC _ _ _ (Ext.new hp) hc⟩⟩))
/-- xs + ys, numbers -/
theorem ex_catN {l1 l2 : List Nat} {q1 q2 : Addr} (ha : EV X a σ H (.ref q1)) (h1 : H q1 = some (.lst (nV l1))) (hb : EV X b σ H (.ref q2)) (h2 : H q2 = some (.lst (nV l2))) (hn : l1.length + l2.length ≤ 1000) : EX T X (.BinOp a .Add b pos) σ H (fun v H' => IsNs H' v (l1 ++ l2)) := fun Q q =>
  leE (pe_op op_cat pe_w pe_w) (evq ha (evq hb ⟨q1, q2, _, _, rfl, rfl, h1, h2, by rw [List.length_map, List.length_map]; exact Nat.le_trans hn (by decide), fun p hp => q _ _ (Ext.new hp) ⟨p, rfl, by rw [upd_same]; unfold nV; rw [List.map_append]⟩⟩))
/-- [i, j], [i, j, k, l], [i] -/
theorem ex_l0 : EX T X (.List [] pos) σ H (fun v H' => IsNs H' v []) := fun Q q => leE (pe_lst pa_nil) ⟨Nat.zero_le _, fun p hp => q _ _ (Ext.new hp) ⟨p, rfl, upd_same⟩⟩
theorem ex_l1 (ha : EVN X a σ H n) (e1 : starEach [a] X.env = (false, eval a X.env) :: starEach [] X.env := by rfl) : EX T X (.List [a] pos) σ H (fun v H' => IsNs H' v [n]) := fun Q q =>
  leE (pe_lst (pa_cons pe_w pa_nil e1)) (evq ha ⟨show 1 ≤ sizeLine by decide, fun p hp => q _ _ (Ext.new hp) ⟨p, rfl, upd_same⟩⟩)
theorem ex_l2 {i j : Nat} {p1 p2 : Pos} {j1 j2 : Nat} : EX T X (.List [.Constant (.int (i : Int)) j1 p1, .Constant (.int (j : Int)) j2 p2] pos) σ H (fun v H' => IsNs H' v [i, j]) := fun Q q =>
  leE (pe_lst (pa_cons pe_int (pa_cons pe_int pa_nil rfl) rfl)) ⟨show 2 ≤ sizeLine by decide, fun p hp => q _ _ (Ext.new hp) ⟨p, rfl, upd_same⟩⟩
theorem ex_l4 {i j k l : Nat} {p1 p2 p3 p4 : Pos} {j1 j2 j3 j4 : Nat} : EX T X (.List [.Constant (.int (i : Int)) j1 p1, .Constant (.int (j : Int)) j2 p2, .Constant (.int (k : Int)) j3 p3, .Constant (.int (l : Int)) j4 p4] pos) σ H (fun v H' => IsNs H' v [i, j, k, l]) := fun Q q =>
  leE (pe_lst (pa_cons pe_int (pa_cons pe_int (pa_cons pe_int (pa_cons pe_int pa_nil rfl) rfl) rfl) rfl)) ⟨show 4 ≤ sizeLine by decide, fun p hp => q _ _ (Ext.new hp) ⟨p, rfl, upd_same⟩⟩
/-- tuple(a list of numbers) -/
theorem ex_tuple {p : Pos} {l : List Nat} (ha : EX T X a σ H (fun v H' => IsNs H' v l)) (hm : X.mg "tuple" = none) (hg : Gl X "tuple" := by rfl) (he : starEach [a] X.env = (false, eval a X.env) :: starEach [] X.env := by rfl) (hpl : (backTo pos (starEach [] X.env)).any (·.1) = false := by rfl) :
    EX T X (.Call (.Name "tuple" p) [a] [] pos) σ H (fun v H' => Tp H' v (eL l)) := fun Q q =>
  leE (pe_callTy call_tuple_of hg hm (by decide +kernel) (pa_cons pe_w pa_nil he) (by decide) (by decide) he hpl) (exq ha fun v H1 f1 ⟨l1, ev, hl⟩ => by
    subst ev
    refine ⟨l1, _, rfl, .inl ⟨.inl (.inl hl), fun t ht => q _ _ (f1.trans (Ext.new ht)) (.tup upd_same ?_)⟩⟩
    have e : l.map eI = (l.map fun (n : Nat) => (n : Int)).map .int := by rw [List.map_map]; rfl
    have e2 : nV l = (l.map fun (n : Nat) => (n : Int)).map V.int := by rw [List.map_map]; rfl
    rw [e, e2]
    exact tpAll_ints _)
end
end Pt
set_option maxHeartbeats 8000000
/-! Layer V: an own exception without arguments, a clause with a name ahead of further ones. -/
namespace Pt
open PySem PySem.Spec PyProof.Rows L2
section
variable {X : Cx}
/-- C(), C an own exception class without own __init__ -/
theorem pmk_bare {C : Addr} {bmB : List Value} {B newId initId : String} {x : Str} {p pos : Pos} (F : ExcBaseFacts B newId initId bmB) (q : PySem.W.excIn X.K C bmB newId = true) (gC : X.mg x = some (.ref C)) (kC : PySem.W.keepIn X.K (.ref C) = true) (r : Raises X (.ref C)) (hg : Gl X x)
    (hdb : (x == ("__debug__" : Str)) = false := by decide) : PMk X (.Call (.Name x p) [] [] pos) (fun _ H Q => Q (.ref C) none H) := by
  intro pins s σ H Q I h
  refine wpAny_Call_Name_kw (ld_glob I hg gC (PySem.W.callWith_K0 I.kIn kC ?_) hdb)
  have ex := exc_obj I.kIn q
  obtain ⟨bm, N, nm, qn, bs, hdct, sn, sub, ab, col, dd, k0, k1, k2, k3, k5, mN, hC, hN, hni, tl⟩ := ex
  exact wpAny_call_exc_subT F tl hC hN hni (fun h' e hm => mk_of I hm r h (I.hok.gone hm.new)) (Nat.zero_le _)
/-- a clause with a name that the exception of the body is certain to meet -/
def wHit (K : PySem.W.Frag) (c : Value) (i : Nat) (ts : Addr → Value → Option Addr → TS) (D : Ends) : WX := fun cls d σ H => PySem.W.exmOne K cls c = some true ∧
  ∀ a, H a = none → ts a cls d { nx := fun σ' H' => D.nx (σ'.set i none) H', rt := D.rt, bk := fun σ' H' => D.bk (σ'.set i none) H', ct := fun σ' H' => D.ct (σ'.set i none) H' } (σ.set i (some (.ref a))) H
theorem ps_tryHit {x n : Str} {c : Value} {i : Nat} {body suite : List Stmt} {st0 : Stmt} {np pos p' : Pos} {more : List ExceptHandler} {tb : WX → TS} {ts : Addr → Value → Option Addr → TS} (stk : X.stack = X.env :: X.outer) (frm : X.env.frame = some X.env.locals) (nd : X.N.Nodup)
    (at_ : X.N[i]? = some n) (lcl : X.env.kindOf n = some .local) (nmd : Names X x c) (walkB : ∀ (W : WX) (pn : List (Addr × Obj)) (xe : Value → Shared → Prop), Takes (X.tr pn xe) W → PassesOwn (model X.prog X.w) X.A X.env xe → PSs (X.tr pn xe) body (tb W))
    (walkS : ∀ (a : Addr) (oe : Obj) (cls : Value) (d : Option Addr) (pn : List (Addr × Obj)), Zc cls d oe → (∃ vs, oe.data = .fields vs) → PSs (X.suite a ((a, oe) :: pn)) (st0 :: suite) (ts a cls d)) :
    PS X (.Try body (.ExceptHandler (some (.Name x np)) (some n) (st0 :: suite) p' :: more) [] [] pos) (fun D σ H => tb (wHit X.K c i ts D) D σ H) := ⟨fun pins s σ H D I h => by
  have iok := I.ok
  have frs_ : X.A.frames = some (X.env :: X.outer) := iok.frames.trans (congrArg some stk)
  have tkB : Takes (X.tr (X.pn ++ pins) fun e s₁ => wpAny (model X.prog X.w) X.A (noteFrame e X.env) (fun _ s₂ => wpAny (model X.prog X.w) X.A (setFlight e none) (fun _ s₃ =>
      wpAny (model X.prog X.w) X.A (handleBy e X.env (.ExceptHandler (some (.Name x np)) (some n) (st0 :: suite) p' :: more)) (SP X pins D) X.xe s₃) X.xe s₂) X.xe s₁) (wHit X.K c i ts D) := by
    rintro u s' ⟨a, B, sI, pins', σ', H', cls, d, rfl, J0, nb, up, sky, na, os, ag, hit, go⟩
    have J : Inv X pins σ' H' sI := J0.ofTry iok
    rw [stk] at sky
    refine (?_ : wpAny (model X.prog X.w) X.A (noteFrame (.ref a) X.env) _ _ _)
    refine Sky.land Zc.steady frs_ frm sky fun h3 land3 up3 => ?_
    have J3 : Inv X pins σ' H' { s' with heap := h3 } := J.landed nb land3.1 (up.trans up3) os ag
    obtain ⟨oe3, vs3, get3, z3, d3⟩ := land3.there
    have off : a ∉ frs (X.env :: X.outer) := fun hm => by
      obtain ⟨_, o', e', hnf⟩ := land3.2.2.1.mem hm
      exact hnf _ ((congrArg Obj.data (Option.some.inj (e'.symm.trans get3))).trans d3)
    have ne1 : a ≠ X.env.locals := fun z => off (List.mem_filterMap.mpr ⟨X.env, List.mem_cons_self, frm.trans (congrArg some z.symm)⟩)
    have ne2 : a ∉ X.fs := fun hm => by
      obtain ⟨en, inn, fe⟩ := List.mem_filterMap.mp hm
      exact off (List.mem_filterMap.mpr ⟨en, List.mem_cons_of_mem _ inn, fe⟩)
    have S3 := J3.suite get3 d3 na ne1 ne2
    have meets := PySem.W.exm_one (M := model X.prog X.w) J3.kIn (fun A Q E s k q => wpAny_typeOf_ref (k _ _ get3) (by rw [z3.1]; exact q)) hit
    refine wpAny_handleBy_cons ?_ (fun z => nomatch z)
    refine codeAny_handlers_test ?_
    have named : ∀ {Q : Value → Shared → Prop} {E : Value → Shared → Prop}, Q c { s' with heap := h3 } → wpAny (model X.prog X.w) (X.A.mark (some (.ref a))) (eval (.Name x np) X.env) Q E { s' with heap := h3 } := fun q => by
      rcases nmd with ⟨g1, g2, g3 | ⟨g3, g4, g5⟩⟩
      · exact ld_glob (X := X.suite a ((a, oe3) :: (X.pn ++ pins))) S3 g1 g3 q g2
      · exact ld_blt (X := X.suite a ((a, oe3) :: (X.pn ++ pins))) S3 g1 g3 g4 q g5 g2
    refine named (meets.here (codeAny_handlers_suite_as (HandSPX.lands_againZ land3 fun h4 land4 up4 => ?_)))
    have J4 : Inv X pins σ' H' { s' with heap := h4 } := J.landed nb land4.1 ((up.trans up3).trans up4) os ag
    obtain ⟨oe4, vs4, get4, z4, d4⟩ := land4.there
    refine store_ok (X := X.suite a ((a, oe4) :: (X.pn ++ pins))) (v := .ref a) (J4.suite get4 d4 na ne1 ne2) nd at_ (.inl lcl) rfl (fun s5 S5 => ?_) (.inr lcl)
    refine wpAny_mono ((walkS a oe4 cls d (X.pn ++ pins) z4 ⟨_, d4⟩).run [] s5 _ H' _ S5 (go a na)) (fun f s6 hsp => ?_) (fun _ _ z => z.elim)
    have shut : ∀ {τ : L2.St} {G : Hp} {R : Shared → Prop}, Inv (X.suite a ((a, oe4) :: (X.pn ++ pins))) [] τ G s6 → (∀ s7, Inv X pins (τ.set i none) G s7 → R s7) →
        wpAny (model X.prog X.w) X.A (do bindName X.env n .none; unbindBehindTheSuite X.env n p') (fun _ s7 => R s7) X.xe s6 := fun S6 hq => gone_ok (S6.unsuite iok) nd at_ lcl hq
    cases f with
    | ret u => obtain ⟨v6, τ, G, S6, r6, q6⟩ := hsp; exact shut S6 fun s7 J7 => ⟨_, _, _, J7, r6, q6⟩
    | next => obtain ⟨τ, G, S6, q6⟩ := hsp; exact shut S6 fun s7 J7 => ⟨_, _, J7, q6⟩
    | brk => obtain ⟨τ, G, S6, q6⟩ := hsp; exact shut S6 fun s7 J7 => ⟨_, _, J7, q6⟩
    | cont => obtain ⟨τ, G, S6, q6⟩ := hsp; exact shut S6 fun s7 J7 => ⟨_, _, J7, q6⟩
  refine wpAny_Try_except (wpAny_mono ((walkB _ (X.pn ++ pins) _ tkB PassesOwn.looking).run [] s σ H D (I.toTry _) h) (fun f s1 hsp => ?_) (fun e s1 he => he))
  cases f with
  | ret u => obtain ⟨v, τ, G, J', r, q⟩ := hsp; exact ⟨v, τ, G, J'.ofTry iok, r, q⟩
  | next => obtain ⟨τ, G, J', q⟩ := hsp; exact wpAny_execs_nil ⟨τ, G, J'.ofTry iok, q⟩
  | brk => obtain ⟨τ, G, J', q⟩ := hsp; exact ⟨τ, G, J'.ofTry iok, q⟩
  | cont => obtain ⟨τ, G, J', q⟩ := hsp; exact ⟨τ, G, J'.ofTry iok, q⟩⟩
theorem et_use {T : List NTab} {H0 H : Hp} {Θ : Pins} {Γ : List Sh} {σ : L2.St} {e : Expr} {b : Bool} {Q : Bool → Hp → Prop} (k : Ok T H0 Θ Γ σ H) (h : ET T X e Γ b) (q : ∀ H2, Ext T H H2 → Q b H2) : wT X e σ H Q := h H0 Θ σ H k Q q
theorem ee_use {T : List NTab} {H0 H : Hp} {Θ : Pins} {Γ : List Sh} {σ : L2.St} {e : Expr} {r : RS} {Q : VK} (k : Ok T H0 Θ Γ σ H) (h : EE T X e Γ r) (q : ∀ v H2, Ext T H H2 → RsOk Θ H H2 r v → Q v H2) : wE X e σ H Q := h H0 Θ σ H k Q q
/-- the suite as it is read, whatever the exception's object is -/
def suiteW (X : Cx) (st : List Stmt) (a : Addr) (cls : Value) (d : Option Addr) : TS := fun D σ H => ∀ (oe : Obj) (pn : List (Addr × Obj)), Zc cls d oe → (∃ vs, oe.data = .fields vs) → wSs (X.suite a ((a, oe) :: pn)) st D σ H
theorem wS_try {x n : Str} {c : Value} {i : Nat} {body suite : List Stmt} {st0 : Stmt} {np pos p' : Pos} {more : List ExceptHandler} {D : Ends} {σ : L2.St} {H : Hp} (stk : X.stack = X.env :: X.outer) (frm : X.env.frame = some X.env.locals) (nd : X.N.Nodup)
    (at_ : X.N[i]? = some n) (lcl : X.env.kindOf n = some .local) (nmd : Names X x c)
    (h : ∀ (pn : List (Addr × Obj)) (xe : Value → Shared → Prop), Takes (X.tr pn xe) (wHit X.K c i (suiteW X (st0 :: suite)) D) → wSs (X.tr pn xe) body D σ H) : wS X (.Try body (.ExceptHandler (some (.Name x np)) (some n) (st0 :: suite) p' :: more) [] [] pos) D σ H :=
  leS (ps_tryHit (tb := fun W D σ H => ∀ (pn : List (Addr × Obj)) (xe : Value → Shared → Prop), Takes (X.tr pn xe) W → wSs (X.tr pn xe) body D σ H) stk frm nd at_ lcl nmd (fun W pn xe tk _ => ⟨fun pins s σ H D I q => q pn xe tk pins s I⟩)
    (fun a oe cls d pn hz hf => ⟨fun pins s σ H D I q => q oe pn hz hf pins s I⟩)) h
end
end Pt
set_option maxHeartbeats 8000000
/-! Defs N: twisted of rows of unlike sizes, _law_is_refused. -/
namespace Pt
open PySem PySem.Spec PyProof.Rows L2
/-- what the top tells of the exception classes: Unfit at U, PieceError at C, TooMany at M -/
structure ExcT (K : PySem.W.Frag) (mg : Str → Option Value) (U C M : Addr) : Prop where
  gU : mg "Unfit" = some (.ref U)
  gC : mg "PieceError" = some (.ref C)
  gM : mg "TooMany" = some (.ref M)
  xU : PySem.W.excIn K U [.type "ValueError", .type "Exception", .type "BaseException", .type "object"] "ValueError.__new__" = true
  kU : PySem.W.keepIn K (.ref U) = true
  sU : PySem.W.subIn K (.ref U) (.type "BaseException") = some true
  tU : PySem.W.typeIn K (.ref U) = some (.type "type")
  eU : PySem.W.exmOne K (.ref U) (.ref U) = some true
  cU : ExcC K U
  i1 : PySem.W.kitOne K (.ref U) (.ref C) = some true
  i2 : PySem.W.kitOne K (.ref U) (.type "ValueError") = some true
  i3 : PySem.W.kitOne K (.ref U) (.ref M) = some false
section
variable {P : Program} {w : World} {K : PySem.W.Frag} {mg : Str → Option Value} {base : Heap} {T : List NTab} {U C M : Addr}
/-- rows of unlike sizes: it raises -/
def spTwX (T : List NTab) (U : Addr) : Sp := fun vs H Q E => ∃ row other : List Nat, RsAll [] H H [.d (eL row), .d (eL other)] vs ∧ TabsN T H ∧ row.length ≠ other.length ∧ ∀ H', Ext T H H' → E (.ref U) none H'
structure FnTwX (P : Program) (w : World) (K : PySem.W.Frag) (mg : Str → Option Value) (base : Heap) (T : List NTab) (k : Nat) (U : Addr) : Prop where
  ex : ∃ (f : Addr) (fd : FuncData) (ps : List Str), mg "twisted" = some (.ref f) ∧ PySem.W.keepIn K (.ref f) = true ∧ Binds K fd ps [] ∧ FnOk P w K mg base (L2.CX P w) k f fd ps (spTwX T U)
theorem ok_twX (D : Def K mg "twisted" 34 ["row", "other"]) (X : ExcT K mg U C M) (ml : mg "len" = none) : FnTwX P w K mg base T 1 U := by
  obtain ⟨f, fd, F, hb, hm⟩ := D.ex
  refine ⟨f, fd, _, hm, F.kp, hb, F.okX sc_twisted (fun vs H Q E h => ?_) (fun cdv A outer s H vs Q E hr h => ?_)⟩
  · obtain ⟨row, other, hv, _⟩ := h
    exact hv.len
  obtain ⟨row, other, hv, tb, hne, q⟩ := h
  refine ⟨_, pss_w, ?_⟩
  obtain ⟨Θ, k0⟩ := ok_start (N := ["row", "other", "lot", "thing", "a", "b", "c", "d"]) tb hv (show 2 ≤ 8 by decide)
  refine leSs (pss_cons (ps_if pt_w (pss_one (ps_raise rfl (takes_of rfl rfl rfl rfl) (pmk_bare PySem.F.excBase_ValueError X.xU X.gU X.kU (raises_own X.sU X.tU) rfl))) pss_w) pss_w) ?_
  refine et_use k0 (et_co (co_neN (ee_lenN (ea_cons (ee_v (i := 0) rfl) ea_nil) ml) (ee_lenN (ea_cons (ee_v (i := 1) rfl) ea_nil) ml))) fun H2 e2 => ?_
  rw [decide_eq_false hne, Bool.not_false, if_pos rfl]
  exact q H2 e2
theorem sc_refused : FnScope ["_law_one", "_law_other", "error"] ["_law_one", "_law_other"] (defScope (topS 53)) := ⟨rfl, rfl, rfl, by decide +kernel, rfl, by decide +kernel, by decide +kernel⟩
def A_refused : List RS → RS → Prop := fun as r => ∃ row other : List Nat, as = [.d (eL row), .d (eL other)] ∧ r = .d (.bool true) ∧ row.length ≠ other.length
theorem ok_refused (D : Def K mg "_law_is_refused" 53 ["_law_one", "_law_other"]) (G : FnTwX P w K mg base T 1 U) (X : ExcT K mg U C M) (mi : mg "isinstance" = none) (mv : mg "ValueError" = none) : FnG P w K mg base T 2 "_law_is_refused" A_refused := by
  refine fnG D sc_refused (fun as r ⟨_, _, e, _⟩ => by rw [e]; rfl) (fun as r hA f0 cdv B outer s H E hr => ?_)
  obtain ⟨row, other, rfl, rfl, hne⟩ := hA
  intro H0 Θ σ H1 k
  obtain ⟨f, fd, ps, hm, hk, hb, F⟩ := G.ex
  obtain ⟨v0, s0, t0⟩ := k.dat (i := 0) rfl
  obtain ⟨v1, s1, t1⟩ := k.dat (i := 1) rfl
  refine leSs (pss_one ps_w) (wS_try (i := 2) rfl rfl sc_refused.nd rfl rfl ⟨rfl, by decide, .inl X.gU⟩ fun pn xe tk => ?_)
  refine leSs (pss_one (ps_ret (pe_cmpR op_eq pe_w pe_str (nomark _)))) ?_
  refine leE (pe_callS F hr rfl hm hk hb (fun σ => passAt tk σ) (pa_cons (pv 0) (pa_cons (pv 1) pa_nil rfl) rfl)) ?_
  refine ⟨v0, s0, v1, s1, row, other, ⟨t0, t1, trivial⟩, k.tabs, hne, fun H2 e2 => ⟨X.eU, fun a ha => ?_⟩⟩
  intro oe pn2 hz hf
  have ne2 : σ.length = 3 := k.len
  have sa : (σ.set 2 (some (V.ref a)))[2]? = some (some (.ref a)) := List.getElem?_set_self (by omega)
  refine leSs (pss_one (ps_ret (pe_and (pe_callB (call_isE X.cU hz hf) (by rfl) mi (by decide +kernel) (pa_cons (pv 2) (pa_cons (pe_glob (v := .ref C) rfl X.gC rfl) pa_nil rfl) rfl))
    (pe_and (pe_callB (call_isE X.cU hz hf) (by rfl) mi (by decide +kernel) (pa_cons (pv 2) (pa_cons (pe_bltn (v := .ty "ValueError") rfl mv (by decide +kernel) rfl) pa_nil rfl) rfl))
      (pe_one (pe_not (pe_callB (call_isE X.cU hz hf) (by rfl) mi (by decide +kernel) (pa_cons (pv 2) (pa_cons (pe_glob (v := .ref M) rfl X.gM rfl) pa_nil rfl) rfl)))))))) ?_
  refine ⟨_, sa, _, _, true, rfl, (fun u hu => hu), X.i1, true, rfl, ?_⟩
  refine ⟨_, sa, _, _, true, rfl, (fun u hu => hu), X.i2, true, rfl, ?_⟩
  refine ⟨_, sa, _, _, false, rfl, (fun u hu => hu), X.i3, false, rfl, ?_⟩
  exact ⟨_, rfl, k.ext.trans e2, .bl true⟩
end
end Pt
set_option maxHeartbeats 8000000
/-! Defs M: the mathematics of lumps. -/
namespace Pt
open PySem PySem.Spec PyProof.Rows L2
abbrev Lump := List Nat × List Nat
structure LumpsOk (n : Nat) (ls : List Lump) : Prop where
  each : ∀ l ∈ ls, l.1.Perm l.2
  all : (ls.flatMap (·.1)).Perm (List.range n)
theorem len_flat {α β : Type} (f : α → List β) (n : Nat) : ∀ l : List α, (∀ a ∈ l, (f a).length ≤ n) → (l.flatMap f).length ≤ l.length * n
  | [], _ => by simp
  | a :: l, h => by
    have h1 := h a List.mem_cons_self
    have h2 := len_flat f n l fun b hb => h b (List.mem_cons_of_mem _ hb)
    rw [List.flatMap_cons, List.length_append, List.length_cons, Nat.succ_mul]
    omega
theorem LumpsOk.len {n : Nat} {ls : List Lump} (h : LumpsOk n ls) {l : Lump} (hl : l ∈ ls) : l.1.length ≤ n ∧ l.2.length ≤ n := by
  have e := h.all.length_eq
  rw [List.length_range] at e
  have : l.1.length ≤ (ls.flatMap (·.1)).length := by
    have hs : l.1.Sublist (ls.flatMap (·.1)) := by
      obtain ⟨a, b, rfl⟩ := List.append_of_mem hl
      rw [List.flatMap_append, List.flatMap_cons]
      exact (List.sublist_append_left _ _).trans (List.sublist_append_right _ _)
    exact hs.length_le
  have e2 := (h.each l hl).length_eq
  omega
/-- the lot at a place -/
def lumpAt (sl : List Lump) (j : Nat) : List Nat := (sl[j]?.getD ([], [])).2
theorem flat_range {β : Type} : ∀ (sl : List Lump) (k : Nat) (pre : List Lump), pre.length = k → ((List.range' k sl.length).flatMap fun j => lumpAt (pre ++ sl) j) = sl.flatMap (·.2)
  | [], _, _, _ => rfl
  | s :: sl, k, pre, h => by
    rw [List.length_cons, List.range'_succ, List.flatMap_cons, List.flatMap_cons]
    have ih := flat_range (β := β) sl (k + 1) (pre ++ [s]) (by rw [List.length_append, h]; rfl)
    rw [List.append_assoc, List.singleton_append] at ih
    rw [ih]
    congr 1
    unfold lumpAt
    rw [List.getElem?_append_right (by omega), h, Nat.sub_self]
    rfl
theorem perm_fst_snd : ∀ sl : List Lump, (∀ l ∈ sl, l.1.Perm l.2) → (sl.flatMap (·.1)).Perm (sl.flatMap (·.2))
  | [], _ => .refl _
  | s :: sl, h => by
    rw [List.flatMap_cons, List.flatMap_cons]
    exact (h s List.mem_cons_self).append (perm_fst_snd sl fun l hl => h l (List.mem_cons_of_mem _ hl))
theorem LumpsOk.merge {n m : Nat} {ls : List Lump} (h : LumpsOk n ls) {pl : List Nat} (hm : m ≤ ls.length) (hp : pl.Perm (List.range m)) :
    LumpsOk n (ls.drop m ++ [((ls.take m).flatMap (·.1), pl.flatMap (lumpAt (ls.take m)))]) where
  each := fun l hl => by
    rcases List.mem_append.mp hl with z | z
    · exact h.each l (List.drop_subset _ _ z)
    · rw [List.mem_singleton] at z
      subst z
      refine (perm_fst_snd _ fun l hl => h.each l (List.take_subset _ _ hl)).trans ?_
      refine List.Perm.symm ((List.Perm.flatMap_right _ hp).trans ?_)
      have e := flat_range (β := Nat) (ls.take m) 0 [] rfl
      rw [List.length_take, Nat.min_eq_left hm, ← List.range_eq_range', List.nil_append] at e
      rw [← e]
  all := by
    rw [List.flatMap_append, List.flatMap_cons, List.flatMap_nil, List.append_nil]
    refine List.perm_append_comm.trans ?_
    rw [← List.flatMap_append, List.take_append_drop]
    exact h.all
theorem LumpsOk.perm {n : Nat} {ls ls' : List Lump} (h : LumpsOk n ls) (p : ls'.Perm ls) : LumpsOk n ls' where
  each := fun l hl => h.each l (p.mem_iff.mp hl)
  all := (List.Perm.flatMap_right _ p).trans h.all
theorem LumpsOk.start {n : Nat} {l : List Nat} (h : l.Perm (List.range n)) : LumpsOk n (l.map fun x => ([x], [x])) where
  each := fun a ha => by
    obtain ⟨x, _, rfl⟩ := List.mem_map.mp ha
    exact .refl _
  all := by
    have : (l.map fun x => (([x], [x]) : Lump)).flatMap (·.1) = l := by
      rw [List.flatMap_map]
      exact List.flatMap_singleton' l
    rw [this]; exact h
theorem LumpsOk.one {n : Nat} {ls : List Lump} (h : LumpsOk n ls) (hn : 0 < n) (hl : ls.length ≤ 1) : ∃ a b, ls = [(a, b)] ∧ a.Perm (List.range n) ∧ b.Perm (List.range n) := by
  match ls, hl, h with
  | [], _, h =>
    have := h.all.length_eq
    rw [List.length_range] at this
    simp at this
    omega
  | [(a, b)], _, h =>
    have h1 := h.all
    rw [List.flatMap_cons, List.flatMap_nil, List.append_nil] at h1
    exact ⟨a, b, rfl, h1, (h.each (a, b) List.mem_cons_self).symm.trans h1⟩
theorem perm_of_map {α β : Type} {f : α → β} : ∀ {ys zs : List β}, ys.Perm zs → ∀ l : List α, zs = l.map f → ∃ m : List α, m.Perm l ∧ ys = m.map f := by
  intro ys zs p
  induction p with
  | nil => intro l e; exact ⟨l, .refl _, e⟩
  | cons x _ ih =>
    intro l e
    match l, e with
    | a :: l, e =>
      rw [List.map_cons] at e
      cases e
      obtain ⟨m, h1, rfl⟩ := ih l rfl
      exact ⟨a :: m, h1.cons a, rfl⟩
  | swap x y l0 =>
    intro l e
    match l, e with
    | a :: b :: l, e =>
      rw [List.map_cons, List.map_cons] at e
      cases e
      exact ⟨b :: a :: l, .swap _ _ _, rfl⟩
  | trans _ _ ih1 ih2 =>
    intro l e
    obtain ⟨m, h1, e2⟩ := ih2 l e
    obtain ⟨m2, h2, e3⟩ := ih1 m e2
    exact ⟨m2, h2.trans h1, e3⟩
theorem paired_perm {α β : Type} {F : α → β → Prop} : ∀ {ys xs : List α}, ys.Perm xs → ∀ ls : List β, Paired F xs ls → ∃ ls' : List β, ls'.Perm ls ∧ Paired F ys ls' := by
  intro ys xs p
  induction p with
  | nil => intro l h; exact ⟨l, .refl _, h⟩
  | cons x _ ih =>
    intro l h
    cases h with
    | cons a t =>
      obtain ⟨m, h1, h2⟩ := ih _ t
      exact ⟨_ :: m, h1.cons _, .cons a h2⟩
  | swap x y l0 =>
    intro l h
    cases h with
    | cons a t =>
      cases t with
      | cons b t => exact ⟨_ :: _ :: _, .swap _ _ _, .cons b (.cons a t)⟩
  | trans _ _ ih1 ih2 =>
    intro l h
    obtain ⟨m, h1, h2⟩ := ih2 l h
    obtain ⟨m2, h3, h4⟩ := ih1 m h2
    exact ⟨m2, h3.trans h1, h4⟩
theorem paired_len {α β : Type} {F : α → β → Prop} : ∀ {xs : List α} {ls : List β}, Paired F xs ls → xs.length = ls.length
  | _, _, .nil => rfl
  | _, _, .cons _ t => congrArg (· + 1) (paired_len t)
theorem paired_get {α β : Type} {F : α → β → Prop} : ∀ {xs : List α} {ls : List β} {i : Nat} {x : α}, Paired F xs ls → xs[i]? = some x → ∃ l, ls[i]? = some l ∧ F x l
  | _, _, _, _, .nil, e => by simp at e
  | _, _, 0, _, .cons a0 _, at0 => by simp at at0; subst at0; exact ⟨_, rfl, a0⟩
  | _, _, i + 1, _, .cons _ t, e => by
    obtain ⟨u, h1, h2⟩ := paired_get (i := i) t (by simpa using e)
    exact ⟨u, by simpa using h1, h2⟩
theorem paired_get' {α β : Type} {F : α → β → Prop} : ∀ {xs : List α} {ls : List β} {i : Nat} {l : β}, Paired F xs ls → ls[i]? = some l → ∃ x, xs[i]? = some x ∧ F x l
  | _, _, _, _, .nil, e => by simp at e
  | _, _, 0, _, .cons a0 _, at0 => by simp at at0; subst at0; exact ⟨_, rfl, a0⟩
  | _, _, i + 1, _, .cons _ t, e => by
    obtain ⟨u, h1, h2⟩ := paired_get' (i := i) t (by simpa using e)
    exact ⟨u, by simpa using h1, h2⟩
theorem paired_take {α β : Type} {F : α → β → Prop} : ∀ {xs : List α} {ls : List β} (n : Nat), Paired F xs ls → Paired F (xs.take n) (ls.take n)
  | _, _, 0, _ => .nil
  | _, _, _ + 1, .nil => .nil
  | _, _, n + 1, .cons r t => .cons r (paired_take n t)
theorem paired_drop {α β : Type} {F : α → β → Prop} : ∀ {xs : List α} {ls : List β} (n : Nat), Paired F xs ls → Paired F (xs.drop n) (ls.drop n)
  | _, _, 0, r => r
  | _, _, _ + 1, .nil => .nil
  | _, _, n + 1, .cons _ t => paired_drop n t
theorem paired_app {α β : Type} {F : α → β → Prop} : ∀ {xs ys : List α} {ls ms : List β}, Paired F xs ls → Paired F ys ms → Paired F (xs ++ ys) (ls ++ ms)
  | _, _, _, _, .nil, s => s
  | _, _, _, _, .cons r t, s => .cons r (paired_app t s)
theorem yes_if {σ : L2.St} {H : Hp} {a b : Hp → Prop} (h : a H) : tYes σ H (fun c H3 => if c = true then a H3 else b H3) := by
  show if true = true then a H else b H
  rw [if_pos rfl]
  exact h
theorem if_t {a b : Prop} (h : a) : if true = true then a else b := by rw [if_pos rfl]; exact h
theorem if_f {a b : Prop} (h : b) : if false = true then a else b := by rw [if_neg Bool.false_ne_true]; exact h
/-- [e1, e2, e3, e4][j], lists of numbers -/
theorem ex_pick4 {T : List NTab} {X : Cx} {σ : L2.St} {H : Hp} {e1 e2 e3 e4 ix : Expr} {p1 p2 : Pos} (l1 l2 l3 l4 : List Nat) (j : Nat) {u : List Nat} (hu : [l1, l2, l3, l4][j]? = some u) (h1 : ∀ H, EX T X e1 σ H (fun v H' => IsNs H' v l1)) (h2 : ∀ H, EX T X e2 σ H (fun v H' => IsNs H' v l2)) (h3 : ∀ H, EX T X e3 σ H (fun v H' => IsNs H' v l3)) (h4 : ∀ H, EX T X e4 σ H (fun v H' => IsNs H' v l4)) (hj : ∀ H, EVN X ix σ H j)
    (s1 : starEach [e1, e2, e3, e4] X.env = (false, eval e1 X.env) :: starEach [e2, e3, e4] X.env) (s2 : starEach [e2, e3, e4] X.env = (false, eval e2 X.env) :: starEach [e3, e4] X.env) (s3 : starEach [e3, e4] X.env = (false, eval e3 X.env) :: starEach [e4] X.env) (s4 : starEach [e4] X.env = (false, eval e4 X.env) :: starEach [] X.env) (hp : PlainIx ix) :
    EX T X (.Subscript (.List [e1, e2, e3, e4] p1) ix p2) σ H (fun v H' => IsNs H' v u) := fun Q q => by
  refine leE (pe_ix ix_list (pe_lst (pa_cons pe_w (pa_cons pe_w (pa_cons pe_w (pa_cons pe_w pa_nil s4) s3) s2) s1)) pe_w hp) ?_
  refine exq (h1 H) fun v1 H5 g5 n1 => exq (h2 H5) fun v2 H6 g6 n2 => exq (h3 H6) fun v3 H7 g7 n3 => exq (h4 H7) fun v4 H8 g8 n4 => ?_
  refine ⟨show 4 ≤ sizeLine by decide, fun pp hpp => ?_⟩
  have g9 := Ext.new (T := T) (o := .lst [v1, v2, v3, v4]) hpp
  have n1 := n1.lx (((g6.trans g7).trans g8).trans g9).lx
  have n2 := n2.lx ((g7.trans g8).trans g9).lx
  have n3 := n3.lx (g8.trans g9).lx
  have n4 := n4.lx g9.lx
  have all : Paired (IsNs (upd H8 pp (.lst [v1, v2, v3, v4]))) [v1, v2, v3, v4] [l1, l2, l3, l4] := .cons n1 (.cons n2 (.cons n3 (.cons n4 .nil)))
  obtain ⟨w, hw, nw⟩ := paired_get' all hu
  exact evq (hj _) ⟨pp, _, _, w, rfl, rfl, .inl (.inl upd_same), atI_nat hw, q _ _ ((((g5.trans g6).trans g7).trans g8).trans g9) nw⟩
theorem lumps_lx {H H' : Hp} {vs : List V} {ls : List Lump} (h : Paired (LumpAt H) vs ls) (e : Lx H H') : Paired (LumpAt H') vs ls := Paired.mapQ h fun _ _ z => z.lx e
end Pt
set_option maxHeartbeats 4000000
/-! Defs M: a turn of _law_put. -/
namespace Pt
open PySem PySem.Spec PyProof.Rows L2
abbrev putNs : List Str := ["_law_well_here", "_law_size", "_law_x", "_law_lumps", "_law_turn", "_law_many", "_law_some", "_law_way", "_law_places", "_law_one", "_law_other", "_law_own", "_law_at"]
theorem sc_put : FnScope ["_law_well_here", "_law_size", "_law_x", "_law_lumps", "_law_turn", "_law_many", "_law_some", "_law_way", "_law_places", "_law_one", "_law_other", "_law_own", "_law_at"] ["_law_well_here", "_law_size"] (defScope (topS 47)) := ⟨rfl, rfl, rfl, by decide +kernel, rfl, by decide +kernel, by decide +kernel⟩
def forBody : Stmt → List Stmt
  | .For _ _ b _ _ => b
  | _ => []
def putLoop : List Stmt := forBody ((defBody (topS 47)).getD 1 (.Pass ⟨0, 0, 0, 0⟩))
def putS (i : Nat) : Stmt := putLoop.getD i (.Pass ⟨0, 0, 0, 0⟩)
theorem putLoop_eq : putLoop = [putS 0, putS 1, putS 2, putS 3, putS 4, putS 5, putS 6, putS 7] := by kernel_rfl
/-- between the turns -/
def PutP (T : List NTab) (H : Hp) (p : Addr) (n i : Nat) : L2.St → Hp → Prop := fun σ' H' => ∃ (v2 v4 v5 v6 v7 v8 v9 v10 v11 v12 : Option V) (L : Addr) (vs : List V) (ls : List Lump), σ' = [some (.ref p), some (.int (n : Int)), v2, some (.ref L), v4, v5, v6, v7, v8, v9, v10, v11, v12] ∧ Ext T H H' ∧ H' L = some (.lst vs) ∧ Paired (LumpAt H') vs ls ∧ LumpsOk n ls ∧ ls.length ≤ max 1 (n - i)
section
variable {P : Program} {w : World} {K : PySem.W.Frag} {mg : Str → Option Value} {base : Heap} {T : List NTab}
theorem put_turn (G : FnN P w K mg base T 1 "_law_draw" A_draw) (S : FnSh P w K mg base T 2) {f : Addr} {cdv : Value} {A : Around} {outer : List Env} {s : Shared} {H : Hp} {E : XK} (hr : Room 2 (A.deeper (envOfC "_law_put" (defScope (topS 47)) s.heap.objs.size f cdv)))
    {p : Addr} {n i m : Nat} (hn : n ≤ 7) (tb : TabsN T H) (hw : WellAt H p) {D : Ends} (hD : D.nx = PutP T H p n (i + 1)) {L : Addr} {vs : List V} {ls : List Lump} {H1 : Hp} {v2 v6 v7 v8 v9 v10 v11 v12 : Option V} (e1 : Ext T H H1) (hL1 : H1 L = some (.lst vs)) (hP1 : Paired (LumpAt H1) vs ls) (hk : LumpsOk n ls)
    (hi : i < n) (h2 : ¬ ls.length < 2) (hc : ls.length ≤ max 1 (n - i)) (hm : m = 2 ∨ m = 4) (hml : m ≤ ls.length) :
    wSs (cxOf CX0 P w K mg base putNs "_law_put" (defScope (topS 47)) f cdv A outer s H E).nox (putLoop.drop 2) D [some (.ref p), some (.int (n : Int)), v2, some (.ref L), some (.int (0 + (i : Int))), some (.int (m : Int)), v6, v7, v8, v9, v10, v11, v12] H1 := by
  rw [putLoop_eq]
  show wSs _ [putS 2, putS 3, putS 4, putS 5, putS 6, putS 7] _ _ _
  have elen : vs.length = ls.length := paired_len hP1
  -- some, lumps, way
  refine leSs (pss_cons (ps_par3 rfl sc_put.nd (i := 6) (j := 3) (l := 7) rfl rfl rfl (by decide) (by decide) (by decide) rfl rfl rfl (pa_cons pe_w (pa_cons pe_w (pa_cons pe_w pa_nil rfl) rfl) rfl) rfl) pss_w) ?_
  refine exq (ex_upto (T := T) (ev_v (i := 3) (v := .ref L) rfl) hL1 (ev_v (i := 5) rfl)) fun v H2 g2 ⟨q6, ev, h6⟩ => ?_
  subst ev
  refine exq (ex_from (T := T) (ev_v (i := 3) (v := .ref L) rfl) (g2.lst hL1) (ev_v (i := 5) rfl)) fun v H3 g3 ⟨q3, ev, h3⟩ => ?_
  subst ev
  refine exq (ex_draw (n := 2) G hr (by decide) (((e1.trans g2).trans g3).tabs tb) (hw.ext ((e1.trans g2).trans g3)) (ev_v (i := 0) (v := .ref p) rfl) ev_nat (by decide)) fun v H4 g4 ⟨way, ev, hway⟩ => ?_
  subst ev
  refine ⟨_, _, _, rfl, ?_⟩
  have e4 := ((e1.trans g2).trans g3).trans g4
  have h6 := (g3.trans g4).lst h6
  have h3 := g4.lst h3
  have hP4 := lumps_lx hP1 ((g2.trans g3).trans g4).lx
  clear hL1 hP1
  have p6 := paired_take m hP4
  have p3 := paired_drop m hP4
  -- places
  obtain ⟨pl, hpl0, hpl⟩ : ∃ pl : List Nat, [[0, 1], [1, 0], [1, 3, 0, 2], [2, 0, 3, 1]][way + m - 2]? = some pl ∧ pl.Perm (List.range m) := by
    have hw2 : way = 0 ∨ way = 1 := by omega
    rcases hm with rfl | rfl
    · rcases hw2 with rfl | rfl
      · exact ⟨[0, 1], rfl, by decide⟩
      · exact ⟨[1, 0], rfl, by decide⟩
    · rcases hw2 with rfl | rfl
      · exact ⟨[1, 3, 0, 2], rfl, by decide⟩
      · exact ⟨[2, 0, 3, 1], rfl, by decide⟩
  refine @leSs _ _ _ _ _ _ (pss_cons (ps_set sc_put.nd (i := 8) rfl (Or.inl rfl) pe_w (by kernel_rfl) (.inr rfl)) pss_w) ?_
  refine @exq T _ _ _ _ _ _ (@ex_pick4 T _ _ _ _ _ _ _ _ _ _ [0, 1] [1, 0] [1, 3, 0, 2] [2, 0, 3, 1] (way + m - 2) pl hpl0 (fun H => ex_l2 (i := 0) (j := 1)) (fun H => ex_l2 (i := 1) (j := 0)) (fun H => ex_l4 (i := 1) (j := 3) (k := 0) (l := 2)) (fun H => ex_l4 (i := 2) (j := 0) (k := 3) (l := 1))
    (fun H => ev_sub (n := way + m) (m := 2) (ev_add (n := way) (m := m) (ev_v (i := 7) rfl) (ev_v (i := 5) rfl)) ev_nat (by omega)) rfl rfl rfl rfl (fun _ _ => rfl)) ?_
  rintro v H9 g49 ⟨q8, ev, h8⟩
  subst ev
  have e9 := e4.trans g49
  have h6 := g49.lst h6
  have h3 := g49.lst h3
  have p6 := lumps_lx p6 g49.lx
  have p3 := lumps_lx p3 g49.lx
  -- one, other
  refine leSs (pss_cons (ps_par rfl sc_put.nd (i := 9) (j := 10) rfl rfl (by decide) rfl rfl (pa_cons (pe_lst pa_nil) (pa_cons (pe_lst pa_nil) pa_nil rfl) rfl) rfl rfl) pss_w) ?_
  refine ⟨Nat.zero_le _, fun qa hqa => ⟨Nat.zero_le _, fun qb hqb => ⟨_, _, rfl, ?_⟩⟩⟩
  have ga := Ext.new (T := T) (o := .lst []) hqa
  have gb := Ext.new (T := T) (o := .lst []) hqb
  have gab := ga.trans gb
  have h9 : upd (upd H9 qa (.lst [])) qb (.lst []) qa = some (.lst (nV [])) := gb.lst upd_same
  have h10 : upd (upd H9 qa (.lst [])) qb (.lst []) qb = some (.lst (nV [])) := upd_same
  have e10 := e9.trans gab
  have h6 := gab.lst h6
  have h3 := gab.lst h3
  have h8 := gab.lst h8
  have p6 := lumps_lx p6 gab.lx
  have p3 := lumps_lx p3 gab.lx
  show wSs _ _ _ [some (.ref p), some (.int (n : Int)), v2, some (.ref q3), some (.int (0 + (i : Int))), some (.int (m : Int)), some (.ref q6), some (.int (way : Int)), some (.ref q8), some (.ref qa), some (.ref qb), v11, v12] _
  generalize upd (upd H9 qa (.lst [])) qb (.lst []) = Hb at *
  have lsm : (ls.take m).length = m := by rw [List.length_take]; omega
  have m4 : m ≤ 4 := by omega
  have small1 : ∀ l ∈ ls.take m, l.1.length ≤ n := fun l hl => (hk.len (List.take_subset _ _ hl)).1
  have small2 : ∀ j, (lumpAt (ls.take m) j).length ≤ n := fun j => by
    unfold lumpAt
    cases hj : (ls.take m)[j]? with
    | none => exact Nat.zero_le _
    | some l => exact (hk.len (List.take_subset _ _ (List.mem_of_getElem? hj))).2
  -- for own in some
  refine leSs (pss_cons (ps_for PassesOwn.never rfl (pi_list pe_w) (pg_name sc_put.nd (i := 11) rfl (Or.inl rfl) (.inr rfl)) pss_w) pss_w) ?_
  refine evq (ev_v (i := 6) (v := .ref q6) rfl) ⟨q6, rfl, ⟨_, SqL.of h6⟩, for_list (K := K) (a := q6) (xs := vs.take m) (fun j σ' H' => ∃ (qo : Addr) (w11 : Option V), σ' = [some (.ref p), some (.int (n : Int)), v2, some (.ref q3), some (.int (0 + (i : Int))), some (.int (m : Int)), some (.ref q6), some (.int (way : Int)), some (.ref q8), some (.ref qo), some (.ref qb), w11, v12] ∧ Ext T Hb H' ∧ H' qo = some (.lst (nV (((ls.take m).take j).flatMap (·.1))))) ?_ ?_ ?_ ?_⟩
  · exact ⟨qa, v11, rfl, Ext.refl _, h9⟩
  · rintro j σ' H' _ ⟨qo, w11, rfl, f1, h⟩
    exact SqL.of (f1.lst h6)
  · rintro j x σ' H' hx ⟨qo, w11, rfl, f1, h⟩
    obtain ⟨l, hl, pc, pa, pb, rfl, hc', hpa, hpb⟩ := paired_get p6 hx
    have hjm : j < m := by
      have := (List.getElem?_eq_some_iff.mp hl).1
      rwa [lsm] at this
    show wSs _ _ _ [some (.ref p), some (.int (n : Int)), v2, some (.ref q3), some (.int (0 + (i : Int))), some (.int (m : Int)), some (.ref q6), some (.int (way : Int)), some (.ref q8), some (.ref qo), some (.ref qb), some (.ref pc), v12] H'
    refine leSs (pss_one (ps_set sc_put.nd (i := 9) rfl (Or.inl rfl) pe_w rfl (.inr rfl))) ?_
    refine exq (ex_catN (T := T) (l1 := ((ls.take m).take j).flatMap (·.1)) (l2 := l.1) (ev_v (i := 9) (v := .ref qo) rfl) h (ev_ix (ev_v (i := 11) (v := .ref pc) rfl) (ev_nat (i := 0)) (f1.lst hc') rfl) (f1.lst hpa) ?_) fun v H2 f2 ⟨q2, ev, h2'⟩ => ?_
    · have b1 := len_flat (fun l : Lump => l.1) n ((ls.take m).take j) fun a ha => small1 a (List.take_subset _ _ ha)
      have b2 := small1 l (List.mem_of_getElem? hl)
      have b3 : ((ls.take m).take j).length ≤ 4 := by rw [List.length_take]; omega
      have b4 := Nat.mul_le_mul b3 hn
      have b5 := Nat.mul_le_mul_left ((ls.take m).take j).length hn
      omega
    · subst ev
      refine ⟨q2, some (.ref pc), rfl, f1.trans f2, ?_⟩
      rw [List.take_add_one, hl, Option.toList_some, List.flatMap_append, List.flatMap_cons, List.flatMap_nil, List.append_nil]
      exact h2'
  rintro σ' Hc ⟨qo, w11, rfl, f1, h9⟩
  rw [show (vs.take m).length = m from (paired_len p6).trans lsm, List.take_of_length_le (Nat.le_of_eq lsm)] at h9
  have e11 := e10.trans f1
  have h6 := f1.lst h6
  have h3 := f1.lst h3
  have h8 := f1.lst h8
  have h10 := f1.lst h10
  have p6 := lumps_lx p6 f1.lx
  have p3 := lumps_lx p3 f1.lx
  have plen : pl.length = m := by rw [hpl.length_eq, List.length_range]
  -- for at in places
  refine leSs (pss_cons (ps_for PassesOwn.never rfl (pi_list pe_w) (pg_name sc_put.nd (i := 12) rfl (Or.inl rfl) (.inr rfl)) pss_w) pss_w) ?_
  refine evq (ev_v (i := 8) (v := .ref q8) rfl) ⟨q8, rfl, ⟨_, SqL.of h8⟩, for_list (K := K) (a := q8) (xs := nV pl) (fun j σ' H' => ∃ (qt : Addr) (w12 : Option V), σ' = [some (.ref p), some (.int (n : Int)), v2, some (.ref q3), some (.int (0 + (i : Int))), some (.int (m : Int)), some (.ref q6), some (.int (way : Int)), some (.ref q8), some (.ref qo), some (.ref qt), w11, w12] ∧ Ext T Hc H' ∧ H' qt = some (.lst (nV ((pl.take j).flatMap (lumpAt (ls.take m)))))) ?_ ?_ ?_ ?_⟩
  · exact ⟨qb, v12, rfl, Ext.refl _, h10⟩
  · rintro j σ' H' _ ⟨qt, w12, rfl, f2, h⟩
    exact SqL.of (f2.lst h8)
  · rintro j x σ' H' hx ⟨qt, w12, rfl, f2, h⟩
    obtain ⟨y, hy, rfl⟩ : ∃ y, pl[j]? = some y ∧ x = .int (y : Int) := by
      rw [List.getElem?_map] at hx
      cases hy : pl[j]? with
      | none => rw [hy] at hx; cases hx
      | some y => rw [hy] at hx; cases hx; exact ⟨y, rfl, rfl⟩
    have hym : y < m := List.mem_range.mp (hpl.mem_iff.mp (List.mem_of_getElem? hy))
    have hjm : j < m := by
      have := (List.getElem?_eq_some_iff.mp hy).1
      rwa [plen] at this
    obtain ⟨l, hl⟩ : ∃ l, (ls.take m)[y]? = some l := ⟨_, List.getElem?_eq_getElem (by rw [lsm]; exact hym)⟩
    obtain ⟨z, hz, pc, pa, pb, rfl, hc', hpa, hpb⟩ := paired_get' p6 hl
    show wSs _ _ _ [some (.ref p), some (.int (n : Int)), v2, some (.ref q3), some (.int (0 + (i : Int))), some (.int (m : Int)), some (.ref q6), some (.int (way : Int)), some (.ref q8), some (.ref qo), some (.ref qt), w11, some (.int (y : Int))] H'
    refine leSs (pss_one (ps_set sc_put.nd (i := 10) rfl (Or.inl rfl) pe_w rfl (.inr rfl))) ?_
    have el : lumpAt (ls.take m) y = l.2 := by unfold lumpAt; rw [hl]; rfl
    refine exq (ex_catN (T := T) (l1 := (pl.take j).flatMap (lumpAt (ls.take m))) (l2 := l.2) (ev_v (i := 10) (v := .ref qt) rfl) h (ev_ix (ev_ix (ev_v (i := 6) (v := .ref q6) rfl) (ev_v (i := 12) rfl) (f2.lst h6) hz) (ev_nat (i := 1)) (f2.lst hc') rfl) (f2.lst hpb) ?_) fun v H2 f3 ⟨q2, ev, h2'⟩ => ?_
    · have b1 := len_flat (lumpAt (ls.take m)) n (pl.take j) fun a _ => small2 a
      have b2 := small2 y
      rw [el] at b2
      have b3 : (pl.take j).length ≤ 4 := by rw [List.length_take]; omega
      have b4 := Nat.mul_le_mul b3 hn
      have b5 := Nat.mul_le_mul_left (pl.take j).length hn
      omega
    · subst ev
      refine ⟨q2, some (.int (y : Int)), rfl, f2.trans f3, ?_⟩
      rw [List.take_add_one, hy, Option.toList_some, List.flatMap_append, List.flatMap_cons, List.flatMap_nil, List.append_nil, el]
      exact h2'
  rintro σ' Hd ⟨qt, w12, rfl, f2, h10⟩
  rw [show (nV pl).length = pl.length from List.length_map _, List.take_of_length_le (Nat.le_refl _)] at h10
  have h9 := f2.lst h9
  have h3 := f2.lst h3
  have p3 := lumps_lx p3 f2.lx
  have e12 := e11.trans f2
  have hnew := hk.merge hml hpl
  -- lumps
  refine leSs (pss_one (ps_set sc_put.nd (i := 3) rfl (Or.inl rfl) pe_w rfl (.inr rfl))) ?_
  have nl : ls.length ≤ 7 := by omega
  have dl : (vs.drop m).length ≤ 7 := by rw [List.length_drop, elen]; omega
  refine exq (ex_sh (C := fun xs H' => Paired (LumpAt H') xs (ls.drop m ++ [((ls.take m).flatMap (·.1), pl.flatMap (lumpAt (ls.take m)))])) S hr (by decide) (e12.tabs tb) (hw.ext e12) (ev_v (i := 0) (v := .ref p) rfl)
    (EX.imp (ex_cat (C := fun zs H' => Paired (LumpAt H') zs [((ls.take m).flatMap (·.1), pl.flatMap (lumpAt (ls.take m)))] ) (ev_v (i := 3) (v := .ref q3) rfl) h3 (fun Q q => leE (pe_lst (pa_cons (pe_lst (pa_cons pe_w (pa_cons pe_w pa_nil rfl) rfl)) pa_nil rfl)) (evq (ev_v (i := 9) (v := .ref qo) rfl) (evq (ev_v (i := 10) (v := .ref qt) rfl) ⟨show 2 ≤ sizeLine by decide, fun px hpx => ⟨show 1 ≤ sizeLine by decide, fun py hpy => ?_⟩⟩))) ?_ ?_) ?_) ?_) fun v He g12 hh => ?_
  · have gx := Ext.new (T := T) (o := .lst [V.ref qo, V.ref qt]) hpx
    have gy := Ext.new (T := T) (o := .lst [V.ref px]) hpy
    exact q _ _ (gx.trans gy) ⟨py, _, rfl, upd_same, .cons ⟨px, qo, qt, rfl, gy.lst upd_same, (gx.trans gy).lst h9, (gx.trans gy).lst h10⟩ .nil⟩
  · intro zs H' hz
    have := paired_len hz
    rw [List.length_singleton] at this
    omega
  · exact fun zs H1 H2 f h => lumps_lx h f.lx
  · rintro v H1 f ⟨q1, zs, ev, hz, hc'⟩
    refine ⟨q1, _, ev, hz, ?_, paired_app (lumps_lx p3 f.lx) hc'⟩
    have := paired_len hc'
    rw [List.length_singleton] at this
    rw [List.length_append]
    omega
  · exact fun xs H1 H2 f h => lumps_lx h f.lx
  obtain ⟨q1, ys, xs, rfl, hq, hperm, hC⟩ := hh
  obtain ⟨ls2, hp2, hC2⟩ := paired_perm hperm _ hC
  show D.nx _ _
  rw [hD]
  refine ⟨v2, some (.int (0 + (i : Int))), some (.int (m : Int)), some (.ref q6), some (.int (way : Int)), some (.ref q8), some (.ref qo), some (.ref qt), w11, w12, q1, ys, ls2, rfl, e12.trans g12, hq, hC2, hnew.perm hp2, ?_⟩
  have := hp2.length_eq
  rw [List.length_append, List.length_drop, List.length_singleton] at this
  omega
end
end Pt
set_option maxHeartbeats 8000000
/-! Defs M: _law_put. -/
namespace Pt
open PySem PySem.Spec PyProof.Rows L2
section
variable {P : Program} {w : World} {K : PySem.W.Frag} {mg : Str → Option Value} {base : Heap} {T : List NTab}
def A_world : List RS → (RS → Prop) → Prop := fun as R => ∃ n, as = [.wl, .d (eI n)] ∧ n ≤ 7 ∧ R = fun r => ∃ row other, r = .d (.tuple [eL row, eL other]) ∧ row.Perm (List.range n) ∧ other.Perm (List.range n)
theorem ok_put (D : Def K mg "_law_put" 47 ["_law_well_here", "_law_size"]) (G : FnN P w K mg base T 1 "_law_draw" A_draw) (S : FnSh P w K mg base T 2) (ml : mg "len" = none) (mli : mg "list" = none) (mr : mg "range" = none) (mt : mg "tuple" = none) : FnN P w K mg base T 3 "_law_put" A_world := by
  obtain ⟨f, fd, F, hb, hm⟩ := D.ex
  refine ⟨f, fd, _, hm, F.kp, hb, F.ok sc_put (fun vs H Q E h => ?_) (fun cdv A outer s H vs Q E hr h => ?_)⟩
  · obtain ⟨as, R, ⟨n, rfl, _, _⟩, _, hv, _⟩ := h
    exact hv.len
  obtain ⟨as, R, ⟨n, rfl, hn, rfl⟩, tb, hv, q⟩ := h
  obtain ⟨v0, v1, rfl⟩ : ∃ v0 v1, vs = [v0, v1] := by
    have := hv.len
    match vs, this with
    | [v0, v1], _ => exact ⟨v0, v1, rfl⟩
  obtain ⟨⟨p, rfl, hw⟩, hv1, _⟩ := hv
  have e1 : v1 = .int (n : Int) := Tp.inv_int hv1
  subst e1
  refine ⟨_, pss_w, ?_⟩
  -- lumps
  refine leSs (pss_cons (ps_setLc (i := 3) (own := [("_law_x", 2)]) (g := gName 2) (tt := tYes) rfl sc_put.nd rfl rfl (sw_true rfl rfl rfl (by decide +kernel)) (pi_list pe_w) (blkOk_by (by kernel_rfl)) (fun _ _ _ _ _ => pg_name (i := 2) sc_put.nd rfl (Or.inl rfl)) (fun _ _ _ _ _ => pts_nil)
    (fun _ _ _ _ _ => pe_lst (pa_cons (pe_lst (pa_cons (pv 2) pa_nil rfl)) (pa_cons (pe_lst (pa_cons (pv 2) pa_nil rfl)) pa_nil rfl) rfl))) pss_w) ?_
  refine exq (ex_sh (C := fun xs _ => xs = nV (List.range n)) S hr (by decide) tb hw (ev_v (i := 0) (v := .ref p) rfl) (EX.imp (ex_listRg (ev_v (i := 1) rfl) (by omega) rfl mli mr) (fun v H1 _ ⟨q1, a, b⟩ => ⟨q1, _, a, b, by rw [List.length_map, List.length_range]; omega, rfl⟩)) (fun _ _ _ _ h => h)) fun v H1 e1 h => ?_
  obtain ⟨q1, ys, _, rfl, hq1, hys, rfl⟩ := h
  obtain ⟨l, hl, rfl⟩ := perm_of_map hys _ rfl
  have hll : l.length = n := by rw [hl.length_eq, List.length_range]
  refine ⟨q1, rfl, ⟨_, SqL.of hq1⟩, fun D hD => ?_⟩
  refine lc_list (K := K) (a := q1) (xs := nV l) (fun i H' => Ext T H1 H' ∧ ∃ acc, H' D = some (.lst acc) ∧ Paired (LumpAt (hide H' D)) acc ((l.take i).map fun x => (([x], [x]) : Lump))) ?_ ?_ ?_ ?_
  · exact ⟨Ext.new hD, [], upd_same, .nil⟩
  · exact fun i H' _ ⟨e, _⟩ => SqL.of (e.lst hq1)
  · rintro i x H' hx ⟨e, acc, hacc, hP⟩
    obtain ⟨y, hy, rfl⟩ : ∃ y, l[i]? = some y ∧ x = .int (y : Int) := by
      rw [List.getElem?_map] at hx
      cases hy : l[i]? with
      | none => rw [hy] at hx; cases hx
      | some y => rw [hy] at hx; cases hx; exact ⟨y, rfl, rfl⟩
    have hil : i < l.length := (List.getElem?_eq_some_iff.mp hy).1
    refine ⟨rfl, ?_⟩
    refine yes_if ?_
    refine ⟨_, rfl, show 1 ≤ sizeLine by decide, fun pa hpa => ⟨_, rfl, show 1 ≤ sizeLine by decide, fun pb hpb => ⟨show 2 ≤ sizeLine by decide, fun pc hpc => ?_⟩⟩⟩
    have ea := Ext.new (T := T) (o := .lst [V.int (y : Int)]) hpa
    have eb := Ext.new (T := T) (o := .lst [V.int (y : Int)]) hpb
    have ec := Ext.new (T := T) (o := .lst [V.ref pa, V.ref pb]) hpc
    have eall := (ea.trans eb).trans ec
    have hacc2 := eall.lst hacc
    have nD : ∀ {a : Addr} {H : Hp}, H D = some (.lst acc) → H a = none → a ≠ D := fun h1 h2 z => by rw [z, h1] at h2; cases h2
    refine ⟨acc, hacc2, ?_, (e.trans eall).mut hD hacc2, acc ++ [V.ref pc], upd_same, ?_⟩
    · have := paired_len hP
      rw [List.length_map, List.length_take] at this
      exact Nat.lt_of_lt_of_le (show acc.length < 1000 by omega) (by decide)
    · rw [hide_upd, List.take_add_one, hy, Option.toList_some, List.map_append]
      refine paired_app (lumps_lx hP (hide_mono eall.lx)) (.cons ⟨pc, pa, pb, rfl, ?_, ?_, ?_⟩ .nil)
      · exact hide_at upd_same (nD ((ea.trans eb).lst hacc) hpc)
      · exact hide_at (ec.lst (eb.lst upd_same)) (nD hacc hpa)
      · exact hide_at (ec.lst upd_same) (nD (ea.lst hacc) hpb)
  rintro H2 ⟨e2, acc, hacc, hP⟩
  have hP := lumps_lx hP (hide_lx H2 D)
  rw [show (nV l).length = l.length from List.length_map _, List.take_length] at hP
  have L0 := LumpsOk.start hl
  have en2 : Ext T H H2 := e1.trans e2
  generalize hls : (l.map fun x => (([x], [x]) : Lump)) = ls at *
  have hlen : ls.length = n := by rw [← hls, List.length_map]; exact hll
  clear hls hq1 hys hl hll
  show wSs _ _ _ [some (.ref p), some (.int (n : Int)), none, some (.ref D), none, none, none, none, none, none, none, none, none] H2
  -- the end
  have fin : ∀ (H' : Hp) (L : Addr) (vs : List V) (ls : List Lump) (v2 v4 v5 v6 v7 v8 v9 v10 v11 v12 : Option V), Ext T H H' → H' L = some (.lst vs) → Paired (LumpAt H') vs ls → LumpsOk n ls → ls.length ≤ 1 →
      wSs (cxOf CX0 P w K mg base ["_law_well_here", "_law_size", "_law_x", "_law_lumps", "_law_turn", "_law_many", "_law_some", "_law_way", "_law_places", "_law_one", "_law_other", "_law_own", "_law_at"] "_law_put" (defScope (topS 47)) f cdv A outer s H E).nox ((defBody (topS 47)).drop 2) { nx := fun _ => Q .non, rt := Q } [some (.ref p), some (.int (n : Int)), v2, some (.ref L), v4, v5, v6, v7, v8, v9, v10, v11, v12] H' := by
    intro H' L vs ls v2 v4 v5 v6 v7 v8 v9 v10 v11 v12 e hL hP hk hl1
    refine leSs (pss_one (ps_ret (pe_ifExp pt_w pe_w pe_w))) ?_
    refine ev_gt (n := n) (m := 0) (ev_v (i := 1) rfl) ev_nat ?_
    by_cases h0 : 0 < n
    · rw [decide_eq_true h0, if_pos rfl]
      obtain ⟨a, b, rfl, ha, hb⟩ := hk.one h0 hl1
      cases hP with
      | cons hx ht =>
        cases ht
        obtain ⟨pc, pa, pb, rfl, hc, hpa, hpb⟩ := hx
        refine leE (pe_tup (pa_cons pe_w (pa_cons pe_w pa_nil rfl) rfl)) ?_
        refine exq (ex_tuple (T := T) (l := a) (ex_ev (ev_ix (ev_ix (ev_v (i := 3) (v := .ref L) rfl) (ev_nat (i := 0)) hL rfl) (ev_nat (i := 0)) hc rfl) ⟨pa, rfl, hpa⟩) mt) fun v1 H3 e3 t1 => ?_
        refine exq (ex_tuple (T := T) (l := b) (ex_ev (ev_ix (ev_ix (ev_v (i := 3) (v := .ref L) rfl) (ev_nat (i := 0)) (e3.lst hL) rfl) (ev_nat (i := 1)) (e3.lst hc) rfl) ⟨pb, rfl, e3.lst hpb⟩) mt) fun v2 H4 e4 t2 => ?_
        refine ⟨show 2 ≤ sizeLine by decide, fun t ht => ?_⟩
        have en := Ext.new (T := T) (o := .tup [v1, v2]) ht
        exact q _ _ _ ⟨a, b, rfl, ha, hb⟩ (((e.trans e3).trans e4).trans en) (.tup upd_same (.cons ((t1.mono e4.tx).mono en.tx) (.cons (t2.mono en.tx) .nil)))
    · rw [decide_eq_false h0, if_neg Bool.false_ne_true]
      have : n = 0 := by omega
      refine leE (pe_tup (pa_cons (pe_tup pa_nil) (pa_cons (pe_tup pa_nil) pa_nil rfl) rfl)) ?_
      refine ⟨Nat.zero_le _, fun t1 h1 => ⟨Nat.zero_le _, fun t2 h2 => ⟨show 2 ≤ sizeLine by decide, fun t ht => ?_⟩⟩⟩
      have g1 := Ext.new (T := T) (o := .tup []) h1
      have g2 := Ext.new (T := T) (o := .tup []) h2
      have g3 := Ext.new (T := T) (o := .tup [V.ref t1, V.ref t2]) ht
      refine q _ _ _ ⟨[], [], rfl, ?_, ?_⟩ (((e.trans g1).trans g2).trans g3) (.tup upd_same (.cons (.tup (g3.tx _ _ (g2.tx _ _ upd_same)) .nil) (.cons (.tup (g3.tx _ _ upd_same) .nil) .nil)))
      · rw [this]; exact .refl _
      · rw [this]; exact .refl _
  -- the loop
  refine leSs (pss_cons (ps_for PassesOwn.never rfl (pi_range1 rfl mr pa_w rfl) (pg_name sc_put.nd (i := 4) rfl (Or.inl rfl) (.inr rfl)) pss_w) pss_w) ?_
  refine leA (pa_cons pe_w pa_nil rfl) (evq (ev_v (i := 1) rfl) ⟨(n : Int), rfl, by omega, by omega, ?_⟩)
  rw [Int.toNat_natCast]
  refine for_range (fun i σ' H' => PutP T H p n i σ' H') ?_ ?_ ?_
  · exact ⟨none, none, none, none, none, none, none, none, none, none, D, acc, ls, rfl, en2, hacc, hP, L0, by omega⟩
  · rintro i σ' H' hi ⟨v2, v4, v5, v6, v7, v8, v9, v10, v11, v12, L, vs, ls, rfl, e, hL, hP, hk, hc⟩
    have elen := paired_len hP
    show wSs _ _ _ [some (.ref p), some (.int (n : Int)), v2, some (.ref L), some (.int (0 + (i : Int))), v5, v6, v7, v8, v9, v10, v11, v12] H'
    refine leSs (pss_cons (ps_if pt_w pss_w pss_w) pss_w) (ev_lt (n := ls.length) (m := 2) (ev_len' (ev_v (i := 3) (v := .ref L) rfl) hL elen ml) ev_nat ?_)
    by_cases h2 : ls.length < 2
    · rw [decide_eq_true h2, if_pos rfl]
      exact leSs (pss_one ps_break) (fin H' L vs ls _ _ _ _ _ _ _ _ _ _ e hL hP hk (by omega))
    rw [decide_eq_false h2, if_neg Bool.false_ne_true]
    refine leSs pss_nil ?_
    -- how many
    refine leSs (pss_cons (ps_set sc_put.nd (i := 5) rfl (Or.inl rfl) (pe_ifExp pt_w pe_int pe_int) rfl (.inr rfl)) pss_w) ?_
    refine leT (PW.pt (pw_and pt_w (pw_and1 pt_w))) (ev_gt (n := ls.length) (m := 3) (ev_len' (ev_v (i := 3) (v := .ref L) rfl) hL elen ml) ev_nat ?_)
    by_cases h3 : 3 < ls.length
    · rw [decide_eq_true h3, if_pos rfl]
      refine leT (pt_cmpR op_eq pe_w pe_w (nomark _)) (exq (ex_draw (n := 4) G hr (by decide) (e.tabs tb) (hw.ext e) (ev_v (i := 0) (v := .ref p) rfl) ev_nat (by decide)) fun v H1 e1 ⟨j, ej, hj⟩ => evq ev_int ?_)
      subst ej
      refine ⟨rfl, _, rfl, ?_⟩
      by_cases hj0 : j = 0
      · rw [decide_eq_true (by rw [hj0]; rfl)]
        refine if_t ?_
        refine @put_turn P w K mg base T G S f cdv A outer s H E hr p n i 4 hn tb hw _ ?_ L vs ls H1 v2 v6 v7 v8 v9 v10 v11 v12 (e.trans e1) (e1.lst hL) (lumps_lx hP e1.lx) hk hi h2 hc (.inr rfl) (by omega)
        rfl
      · rw [decide_eq_false (fun z => hj0 (by have := V.int.inj z; omega))]
        refine if_f ?_
        refine @put_turn P w K mg base T G S f cdv A outer s H E hr p n i 2 hn tb hw _ ?_ L vs ls H1 v2 v6 v7 v8 v9 v10 v11 v12 (e.trans e1) (e1.lst hL) (lumps_lx hP e1.lx) hk hi h2 hc (.inl rfl) (by omega)
        rfl
    · rw [decide_eq_false h3, if_neg Bool.false_ne_true]
      refine if_f ?_
      refine @put_turn P w K mg base T G S f cdv A outer s H E hr p n i 2 hn tb hw _ ?_ L vs ls H' v2 v6 v7 v8 v9 v10 v11 v12 e hL hP hk hi h2 hc (.inl rfl) (by omega)
      rfl
  · rintro σ' H' ⟨v2, v4, v5, v6, v7, v8, v9, v10, v11, v12, L, vs, ls, rfl, e, hL, hP, hk, hc⟩
    exact fin H' L vs ls v2 v4 v5 v6 v7 v8 v9 v10 v11 v12 e hL hP hk (by omega)
end
end Pt
set_option maxHeartbeats 8000000
/-! Defs O: _law_well, _law_world. -/
namespace Pt
open PySem PySem.Spec PyProof.Rows L2
/-- a body that leaves a new well, its contents told; then they are untold -/
theorem wSs_close {X : Cx} {sts : List Stmt} {D : Ends} {σ : L2.St} {H : Hp} (h : wSs X sts { nx := fun _ _ => False, rt := fun v H' => ∃ (p a0 a1 : Addr) (c t : Nat) (l0 l1 : List Nat), WellIs H' p a0 a1 c t l0 l1 ∧ l0.length ≤ 200 ∧ l1.length ≤ 200 ∧ l1 ≠ [] ∧ p ≠ a0 ∧ p ≠ a1 ∧ a0 ≠ a1 ∧ D.rt v (cls H' p a0 a1) } σ H) : wSs X sts D σ H := by
  intro pins s I
  refine thn (h pins s I) fun f s' q => ?_
  cases f with
  | next => obtain ⟨_, _, _, z⟩ := q; exact z.elim
  | brk => obtain ⟨_, _, _, z⟩ := q; exact z.elim
  | cont => obtain ⟨_, _, _, z⟩ := q; exact z.elim
  | ret u =>
    obtain ⟨v, σ', H', J, r, p, a0, a1, c, t, l0, l1, W, z0, z1, ne, h1, h2, h3, d⟩ := q
    exact ⟨v, σ', _, inv_close J W z0 z1 ne h1 h2 h3, r, d⟩
theorem cls_at {H : Hp} {p a0 a1 : Addr} (h1 : p ≠ a0) (h2 : p ≠ a1) (h3 : a0 ≠ a1) : WellAt (cls H p a0 a1) p :=
  ⟨a0, a1, by unfold cls; rw [upd_ne h2, upd_ne h1, upd_same], by unfold cls; rw [upd_ne h3, upd_same], by unfold cls; rw [upd_same], h1, h2, h3⟩
/-- tuple(a list of numbers that is not told) -/
theorem ex_tupleE {T : List NTab} {X : Cx} {σ : L2.St} {H : Hp} {a : Expr} {pos p : Pos} {C : List Nat → Prop} (ha : EX T X a σ H (fun v H' => ∃ l, C l ∧ IsNs H' v l)) (hm : X.mg "tuple" = none) (hg : Gl X "tuple" := by rfl) (he : starEach [a] X.env = (false, eval a X.env) :: starEach [] X.env := by rfl) (hpl : (backTo pos (starEach [] X.env)).any (·.1) = false := by rfl) :
    EX T X (.Call (.Name "tuple" p) [a] [] pos) σ H (fun v H' => ∃ l, C l ∧ Tp H' v (eL l)) := fun Q q =>
  leE (pe_callTy call_tuple_of hg hm (by decide +kernel) (pa_cons pe_w pa_nil he) (by decide) (by decide) he hpl) (exq ha fun v H1 f1 ⟨l, hC, l1, ev, hl⟩ => by
    subst ev
    refine ⟨l1, _, rfl, .inl ⟨.inl (.inl hl), fun t ht => q _ _ (f1.trans (Ext.new ht)) ⟨l, hC, .tup upd_same ?_⟩⟩⟩
    have e : l.map eI = (l.map fun (n : Nat) => (n : Int)).map .int := by rw [List.map_map]; rfl
    have e2 : nV l = (l.map fun (n : Nat) => (n : Int)).map V.int := by rw [List.map_map]; rfl
    rw [e, e2]
    exact tpAll_ints _)
/-- a cell as a number from 0 on -/
def cellI (z : Int) : Int := if 0 ≤ z then 2 * z else -1 - 2 * z
theorem cellI_pos (z : Int) : 0 ≤ cellI z := by unfold cellI; split <;> omega
def cellN (z : Int) : Nat := (cellI z).toNat
theorem cellN_eq (z : Int) : ((cellN z : Nat) : Int) = cellI z := Int.toNat_of_nonneg (cellI_pos z)
theorem cells_nV (l : List Int) : (l.map fun z => V.int (cellI z)) = nV (l.map cellN) := by
  unfold nV
  rw [List.map_map]
  exact List.map_congr_left fun z _ => congrArg V.int (cellN_eq z).symm
theorem nV_ints (l : List Nat) : nV l = (l.map fun (n : Nat) => (n : Int)).map V.int := by rw [List.map_map]; rfl
theorem sum_nat : ∀ l : List Nat, (l.map fun (n : Nat) => (n : Int)).sum = ((l.sum : Nat) : Int)
  | [] => rfl
  | n :: l => by rw [List.map_cons, List.sum_cons, List.sum_cons, sum_nat l, Int.natCast_add]
section
variable {P : Program} {w : World} {K : PySem.W.Frag} {mg : Str → Option Value} {base : Heap} {T : List NTab}
theorem sc_well : FnScope ["_law_script", "_law_cell", "_law_known"] ["_law_script"] (defScope (topS 43)) := ⟨rfl, rfl, rfl, by decide +kernel, rfl, by decide +kernel, by decide +kernel⟩
def spWell (T : List NTab) (K : PySem.W.Frag) : Sp := fun vs H Q _ => ∃ (a : Addr) (ns : List Int), vs = [.ref a] ∧ TabsN T H ∧ SqL K H a (ns.map V.int) ∧ ∀ p H', Ext T H H' → WellAt H' p → Q (.ref p) H'
structure FnWell (P : Program) (w : World) (K : PySem.W.Frag) (mg : Str → Option Value) (base : Heap) (T : List NTab) (k : Nat) : Prop where
  ex : ∃ (f : Addr) (fd : FuncData) (ps : List Str), mg "_law_well" = some (.ref f) ∧ PySem.W.keepIn K (.ref f) = true ∧ Binds K fd ps [] ∧ FnOk P w K mg base CX0 k f fd ps (spWell T K)
theorem ok_well (D : Def K mg "_law_well" 43 ["_law_script"]) (ml : mg "len" = none) (ms : mg "sum" = none) : FnWell P w K mg base T 1 := by
  obtain ⟨f, fd, F, hb, hm⟩ := D.ex
  refine ⟨f, fd, _, hm, F.kp, hb, F.ok sc_well (fun vs H Q E h => ?_) (fun cdv A outer s H vs Q E hr h => ?_)⟩
  · obtain ⟨a, ns, rfl, _⟩ := h
    rfl
  obtain ⟨a, ns, rfl, tb, hS, q⟩ := h
  refine ⟨_, pss_w, wSs_close ?_⟩
  -- known
  refine leSs (pss_cons (ps_setLc (i := 2) (own := [("_law_cell", 1)]) (g := gName 1) (tt := tYes) rfl sc_well.nd rfl rfl (sw_true rfl rfl rfl (by decide +kernel)) (pi_list (pe_slice sl_list (pv 0) po_none (po_some pe_int))) (blkOk_by (by kernel_rfl)) (fun _ _ _ _ _ => pg_name (i := 1) sc_well.nd rfl (Or.inl rfl)) (fun _ _ _ _ _ => pts_nil)
    (fun _ _ _ _ _ => pe_ifExp (pt_cmpR op_ge (pv 1) pe_int (nomark _)) (pe_op op_mul pe_int (pv 1)) (pe_op op_sub (pe_un un_neg pe_int) (pe_op op_mul pe_int (pv 1))))) pss_w) ?_
  refine ⟨_, rfl, _, rfl, a, _, rfl, hS, fun q1 hq1 => ?_⟩
  have g1 := Ext.new (T := T) (o := .lst (cutV (ns.map V.int) none (some 63))) hq1
  have ecut : cutV (ns.map V.int) none (some 63) = (ns.take 63).map V.int := by
    unfold cutV
    rw [HT.sIx_none, show ((63 : Int)) = ((63 : Nat) : Int) from rfl, HT.sIx_nat, List.drop_zero, Nat.sub_zero, List.length_map]
    by_cases hn : 63 ≤ ns.length
    · rw [Nat.min_eq_left hn, List.map_take]
    · rw [Nat.min_eq_right (by omega), List.take_of_length_le (by rw [List.length_map]; exact Nat.le_refl _), List.take_of_length_le (by omega)]
  rw [ecut] at g1 ⊢
  have l63 : (ns.take 63).length ≤ 63 := by rw [List.length_take]; omega
  generalize ns.take 63 = l at *
  clear ecut hS
  refine ⟨q1, rfl, ⟨_, SqL.of upd_same⟩, fun D hD => ?_⟩
  have hq1' : upd H q1 (.lst (l.map V.int)) q1 = some (.lst (l.map V.int)) := upd_same
  generalize upd H q1 (.lst (l.map V.int)) = H1 at *
  refine lc_list (K := K) (a := q1) (xs := l.map V.int) (fun i H' => Ext T H1 H' ∧ H' D = some (.lst ((l.take i).map fun z => V.int (cellI z)))) ?_ ?_ ?_ ?_
  · exact ⟨Ext.new hD, upd_same⟩
  · exact fun i H' _ ⟨e, _⟩ => SqL.of (e.lst hq1')
  · rintro i x H' hx ⟨e, hacc⟩
    obtain ⟨z, hz, rfl⟩ : ∃ z, l[i]? = some z ∧ x = .int z := by
      rw [List.getElem?_map] at hx
      cases hy : l[i]? with
      | none => rw [hy] at hx; cases hx
      | some y => rw [hy] at hx; cases hx; exact ⟨y, rfl, rfl⟩
    have hil : i < l.length := (List.getElem?_eq_some_iff.mp hz).1
    refine ⟨rfl, ?_⟩
    refine yes_if ?_
    have last : ∀ u : V, u = .int (cellI z) → (∃ acc, H' D = some (.lst acc) ∧ acc.length < sizeLine ∧ Ext T H1 (upd H' D (.lst (acc ++ [u]))) ∧ upd H' D (.lst (acc ++ [u])) D = some (.lst ((l.take (i + 1)).map fun z => V.int (cellI z)))) := fun u hu => by
      subst hu
      refine ⟨_, hacc, ?_, e.mut hD hacc, ?_⟩
      · rw [List.length_map, List.length_take]
        exact Nat.lt_of_lt_of_le (show min i l.length < 1000 by omega) (by decide)
      · rw [upd_same, List.take_add_one, hz, Option.toList_some, List.map_append]
        rfl
    refine ⟨_, rfl, _, _, rfl, rfl, _, rfl, ?_⟩
    by_cases h0 : (0 : Int) ≤ z
    · rw [decide_eq_true h0]
      refine if_t ?_
      refine ⟨_, rfl, _, _, rfl, rfl, .inl ⟨by decide, by decide⟩, last _ ?_⟩
      unfold cellI
      rw [if_pos h0]
    · rw [decide_eq_false h0]
      refine if_f ?_
      refine ⟨_, rfl, _, rfl, _, _, rfl, rfl, .inl ⟨by decide, by decide⟩, _, _, rfl, rfl, last _ ?_⟩
      unfold cellI
      rw [if_neg h0]
  rintro H2 ⟨e2, hacc⟩
  rw [show (l.map V.int).length = l.length from List.length_map _, List.take_length, cells_nV] at hacc
  have llen : (l.map cellN).length ≤ 63 := by rw [List.length_map]; exact l63
  generalize l.map cellN = kn at *
  have e2 := g1.trans e2
  show wSs _ _ _ [some (.ref a), none, some (.ref D)] H2
  -- the well
  refine leSs (pss_one (ps_ret (pe_lst (pa_cons pe_w (pa_cons pe_w (pa_cons pe_w (pa_cons pe_w pa_nil rfl) rfl) rfl) rfl)))) ?_
  -- the great cells
  refine leE (pe_lc (own := [("_law_cell", 1)]) (g := gName 1) rfl sc_well.nd (pi_list (pv 2)) (blkOk_by (by kernel_rfl)) (fun _ _ _ _ _ => pg_name (i := 1) sc_well.nd rfl (Or.inl rfl)) (fun _ _ _ _ _ => pts_one (pt_cmpR op_ge (pv 1) (pe_op op_pow pe_int pe_int) (nomark _))) (fun _ _ _ _ _ => pv 1)) ?_
  refine ⟨_, rfl, D, rfl, ⟨_, SqL.of hacc⟩, fun D2 hD2 => ?_⟩
  refine lc_list (K := K) (a := D) (xs := nV kn) (fun i H' => Ext T H2 H' ∧ ∃ gr : List Nat, H' D2 = some (.lst (nV gr)) ∧ gr.length ≤ i) ?_ ?_ ?_ ?_
  · exact ⟨Ext.new hD2, [], upd_same, Nat.le_refl _⟩
  · exact fun i H' _ ⟨e, _⟩ => SqL.of (e.lst hacc)
  · rintro i x H' hx ⟨e, gr, hgr, hl⟩
    obtain ⟨z, hz, rfl⟩ : ∃ z, kn[i]? = some z ∧ x = .int (z : Int) := by
      rw [List.getElem?_map] at hx
      cases hy : kn[i]? with
      | none => rw [hy] at hx; cases hx
      | some y => rw [hy] at hx; cases hx; exact ⟨y, rfl, rfl⟩
    have hil : i < kn.length := (List.getElem?_eq_some_iff.mp hz).1
    refine ⟨rfl, ?_⟩
    refine ⟨_, rfl, _, _, rfl, rfl, ⟨by decide, by decide, by decide⟩, _, _, rfl, rfl, _, rfl, ?_⟩
    generalize decide ((10 : Int) ^ (15 : Int).toNat ≤ (z : Int)) = b
    cases b with
    | true =>
      refine if_t ?_
      refine ⟨_, rfl, _, hgr, ?_, e.mut hD2 hgr, gr ++ [z], ?_, ?_⟩
      · rw [List.length_map]
        exact Nat.lt_of_lt_of_le (show gr.length < 1000 by omega) (by decide)
      · rw [upd_same]; unfold nV; rw [List.map_append]; rfl
      · rw [List.length_append, List.length_singleton]; omega
    | false =>
      refine if_f ?_
      exact ⟨e, gr, hgr, Nat.le_succ_of_le hl⟩
  rintro H3 ⟨e3, gr, hgr, hgl⟩
  have hgk : gr.length ≤ kn.length := Nat.le_trans hgl (Nat.le_of_eq (List.length_map _))
  have hgl : gr.length ≤ 63 := Nat.le_trans hgl (by rw [List.length_map]; exact llen)
  have hk3 := e3.lst hacc
  -- known + [..]
  refine leE (pe_op op_cat pe_w pe_w) (evq (ev_v (i := 2) (v := .ref D) rfl) (exq (ex_l1 (T := T) (n := kn.length + 29) (ev_add (n := kn.length) (m := 29) (ev_len' (ev_v (i := 2) (v := .ref D) rfl) hk3 (List.length_map _) ml) ev_nat)) fun v Hy ey ⟨qy, ev, hy⟩ => ?_))
  subst ev
  refine ⟨D, qy, _, _, rfl, rfl, ey.lst hk3, hy, ?_, fun q4 hq4 => ?_⟩
  · rw [List.length_map, List.length_map, List.length_singleton]
    exact Nat.le_trans (show kn.length + 1 ≤ 1000 by omega) (by decide)
  have ey4 := Ext.new (T := T) (o := .lst (nV kn ++ nV [kn.length + 29])) hq4
  have h4 : upd Hy q4 (.lst (nV kn ++ nV [kn.length + 29])) q4 = some (.lst (nV (kn ++ [kn.length + 29]))) := by rw [upd_same]; unfold nV; rw [List.map_append]
  generalize upd Hy q4 (.lst (nV kn ++ nV [kn.length + 29])) = H4 at *
  have e4 := ey.trans ey4
  have q4H : H q4 = none := e2.free _ (e3.free _ (ey.free _ hq4))
  refine evq (ev_nat (i := 0)) ?_
  -- 1 + sum(known)
  refine leE (pe_op op_add pe_int (pe_callB (cr_sum rfl) rfl ms (by decide +kernel) (pa_cons (pv 2) pa_nil rfl))) ?_
  refine ⟨_, rfl, D, kn.map fun (n : Nat) => (n : Int), rfl, by rw [← nV_ints]; exact SqL.of (e4.lst hk3), _, _, rfl, rfl, ?_⟩
  refine ⟨show 4 ≤ sizeLine by decide, fun p hp => ?_⟩
  have esum : ((1 : Int) + (kn.map fun (n : Nat) => (n : Int)).sum) = ((1 + kn.sum : Nat) : Int) := by rw [sum_nat, Int.natCast_add]; rfl
  refine (?_ : ∀ u : V, u = V.int ((1 + kn.sum : Nat) : Int) → ∃ (p' a0 a1 : Addr) (c t : Nat) (l0 l1 : List Nat), WellIs (upd H4 p (.lst [V.ref D2, V.ref q4, V.int ((0 : Nat) : Int), u])) p' a0 a1 c t l0 l1 ∧ l0.length ≤ 200 ∧ l1.length ≤ 200 ∧ l1 ≠ [] ∧ p' ≠ a0 ∧ p' ≠ a1 ∧ a0 ≠ a1 ∧ Q (.ref p) (cls (upd H4 p (.lst [V.ref D2, V.ref q4, V.int ((0 : Nat) : Int), u])) p' a0 a1)) _ (congrArg V.int esum)
  rintro u rfl
  have g5 := Ext.new (T := T) (o := .lst [V.ref D2, V.ref q4, V.int ((0 : Nat) : Int), V.int ((1 + kn.sum : Nat) : Int)]) hp
  have hgr4 := e4.lst hgr
  have n1 : p ≠ D2 := fun z => by rw [z, hgr4] at hp; cases hp
  have n2 : p ≠ q4 := fun z => by rw [z, h4] at hp; cases hp
  have n3 : D2 ≠ q4 := fun z => by
    rw [z, h4] at hgr4
    have e := congrArg List.length (HO.lst.inj (Option.some.inj hgr4))
    rw [List.length_map, List.length_map, List.length_append, List.length_singleton] at e
    omega
  have pH : H p = none := e2.free _ (e3.free _ (e4.free _ hp))
  have D2H : H D2 = none := e2.free _ hD2
  have eall := ((e2.trans e3).trans e4).trans g5
  refine ⟨p, D2, q4, 0, 1 + kn.sum, gr, kn ++ [kn.length + 29], ⟨upd_same, g5.lst hgr4, g5.lst h4⟩, by omega, by rw [List.length_append, List.length_singleton]; omega, by simp, n1, n2, n3, ?_⟩
  refine q p _ ?_ (cls_at n1 n2 n3)
  unfold cls
  refine Ext.mut (vs := nV (kn ++ [kn.length + 29])) (Ext.mut (vs := nV gr) (eall.mut pH upd_same) D2H ?_) q4H ?_
  · rw [upd_ne n1.symm]
    exact g5.lst hgr4
  · rw [upd_ne n3.symm, upd_ne n2.symm]
    exact g5.lst h4
theorem sc_world : FnScope ["_law_well_here", "_law_size"] ["_law_well_here", "_law_size"] (defScope (topS 48)) := ⟨rfl, rfl, rfl, by decide +kernel, rfl, by decide +kernel, by decide +kernel⟩
theorem ok_world (D : Def K mg "_law_world" 48 ["_law_well_here", "_law_size"]) (G : FnN P w K mg base T 1 "_law_draw" A_draw) (S : FnSh P w K mg base T 2) (U : FnN P w K mg base T 3 "_law_put" A_world) (mli : mg "list" = none) (mr : mg "range" = none) (mt : mg "tuple" = none) : FnN P w K mg base T 4 "_law_world" A_world := by
  refine fnN D sc_world (fun as R ⟨_, e, _⟩ => by rw [e]; rfl) (fun as R hA f0 cdv A outer s H E hr => ?_)
  obtain ⟨n, rfl, hn, rfl⟩ := hA
  refine hs_cons (h1_ifN (tn_eq (EN.imp (en_call (rs := [.wl, .d (eI 3)]) (as := [.wl, .d (eI 3)]) G (hr.mono (by decide)) (ea_cons (ee_vw (i := 0) rfl) (ea_cons ee_nat ea_nil)) (.cons rfl (.cons rfl .nil)) ⟨3, rfl, by decide, rfl⟩) (fun r ⟨j, e, _⟩ => ⟨_, e⟩)) ee_int) (hs_one ?_) (hs_nil (hs_one (h1_retN (en_call (rs := [.wl, .d (eI n)]) (as := [.wl, .d (eI n)]) U (hr.mono (by decide)) (ea_cons (ee_vw (i := 0) rfl) (ea_cons (ee_v (i := 1) rfl) ea_nil)) (.cons rfl (.cons rfl .nil)) ⟨n, rfl, hn, rfl⟩) (fun r hr' => ⟨hr', ?_⟩)))))
  · intro H0 Θ σ H1 k
    obtain ⟨o, s0, p, ep, hw⟩ := k.slot (i := 0) rfl
    subst ep
    obtain ⟨v1, s1, t1⟩ := k.dat (i := 1) rfl
    have ev1 : v1 = .int (n : Int) := Tp.inv_int t1
    subst ev1
    refine leS (ps_ret (pe_tup (pa_cons pe_w (pa_cons pe_w pa_nil rfl) rfl))) ?_
    have back : ∀ {v : V} {H' : Hp}, (∃ q ys xs, v = .ref q ∧ H' q = some (.lst ys) ∧ ys.Perm xs ∧ xs = nV (List.range n)) → ∃ l : List Nat, l.Perm (List.range n) ∧ IsNs H' v l := by
      rintro v H' ⟨q, ys, _, ev, hq, hp, rfl⟩
      obtain ⟨l, hl, rfl⟩ := perm_of_map hp _ rfl
      exact ⟨l, hl, q, ev, hq⟩
    have len : (nV (List.range n)).length ≤ 100 := by rw [List.length_map, List.length_range]; omega
    refine exq (ex_tupleE (C := fun l => l.Perm (List.range n)) (EX.imp (ex_sh (C := fun xs _ => xs = nV (List.range n)) S (hr.mono (by decide)) (Nat.le_refl _) k.tabs hw (ev_v (i := 0) (v := .ref p) s0) (EX.imp (ex_listRg (ev_v (i := 1) s1) (by omega) rfl mli mr) (fun v H1 _ ⟨q1, a, b⟩ => ⟨q1, _, a, b, len, rfl⟩)) (fun _ _ _ _ h => h)) (fun v H' _ h => back h)) mt) fun w1 H2 e2 ⟨l1, p1, u1⟩ => ?_
    refine exq (ex_tupleE (C := fun l => l.Perm (List.range n)) (EX.imp (ex_sh (C := fun xs _ => xs = nV (List.range n)) S (hr.mono (by decide)) (Nat.le_refl _) (e2.tabs k.tabs) (hw.ext e2) (ev_v (i := 0) (v := .ref p) s0) (EX.imp (ex_listRg (ev_v (i := 1) s1) (by omega) rfl mli mr) (fun v H1 _ ⟨q1, a, b⟩ => ⟨q1, _, a, b, len, rfl⟩)) (fun _ _ _ _ h => h)) (fun v H' _ h => back h)) mt) fun w2 H3 e3 ⟨l2, p2, u2⟩ => ?_
    refine ⟨show 2 ≤ sizeLine by decide, fun t ht => ?_⟩
    have g := Ext.new (T := T) (o := .tup [w1, w2]) ht
    exact ⟨_, ⟨l1, l2, rfl, p1, p2⟩, k.ext.trans ((e2.trans e3).trans g), .tup upd_same (.cons ((u1.mono e3.tx).mono g.tx) (.cons (u2.mono g.tx) .nil))⟩
  · obtain ⟨row, other, rfl, _⟩ := hr'
    exact .inl ⟨_, rfl⟩
end
end Pt
set_option maxHeartbeats 4000000
/-! Layer W: raw promises under no repr; unpacking of what is not told. -/
namespace Pt
open PySem PySem.Spec PyProof.Rows L2
structure FnRawG (P : Program) (w : World) (K : PySem.W.Frag) (mg : Str → Option Value) (base : Heap) (k : Nat) (x : Str) (ps : List Str) (sp : List V → Hp → VK → Prop) : Prop where
  ex : ∃ (f : Addr) (fd : FuncData), mg x = some (.ref f) ∧ Binds K fd ps [] ∧
    ∀ (B : Around) (outer : List Env) (s : Shared) (H : Hp) (args : Args) (us : List Value) (vs : List V) (Q : VK), B.guards = some [] → Room k B → Env0 P w K mg base B outer s H → BindsTo s fd args (ps.zip us) → Vals vs us → sp vs H Q →
      codeAny (model P w) B (.call (.ref f) args) (CR CX0 outer P w H s Q E0) s
section
variable {P : Program} {w : World} {K : PySem.W.Frag} {mg : Str → Option Value} {base : Heap} {T : List NTab}
theorem fnRawG {x : Str} {i : Nat} {N ps : List Str} {k : Nat} {sp : List V → Hp → VK → Prop} (D : Def K mg x i ps) (S : FnScope N ps (defScope (topS i))) (hl : ∀ vs H Q, sp vs H Q → vs.length = ps.length)
    (hbody : ∀ (f : Addr) (cdv : Value) (B : Around) (outer : List Env) (s : Shared) (H : Hp) (vs : List V) (Q : VK), B.guards = some [] → Room k (B.deeper (envOfC x (defScope (topS i)) s.heap.objs.size f cdv)) → sp vs H Q →
      wSs (cxOf CX0 P w K mg base N x (defScope (topS i)) f cdv B outer s H E0).nox (defBody (topS i)) { nx := fun _ H' => Q .non H', rt := Q } (L2.start N vs) H) : FnRawG P w K mg base (k + 1) x ps sp := by
  obtain ⟨f, fd, F, hb, hm⟩ := D.ex
  obtain ⟨o1, o2, kV, o3, o4, o5, cdv, o6, o7, rfl, look, isCode⟩ := F.ex
  refine ⟨f, _, hm, hb, fun B outer s H args us vs Q hgd hr e0 hbt vals hsp => ?_⟩
  have kin : K.In s.heap := e0.mod.kin.keeps fun b o e => (e0.bs b o e).1
  have noLim : s.heap.NoLimit := e0.mod.nolimit.keeps fun b o e => (e0.bs b o e).1
  have hkind : ∀ y ∈ ps.zip us, (defScope (topS i)).names.lookup y.1 = some .local ∨ ((defScope (topS i)).names.lookup y.1 = some .cell ∧ ((cellsFrom (s.heap.objs.size + 1) (defScope (topS i)).names []).lookup y.1).isSome = true) := fun ⟨n, v⟩ inZ => by
    rcases S.par n (List.of_mem_zip inZ).1 with z0 | z0
    · exact .inl z0
    · exact .inr ⟨z0, PySem.W.cellsFrom_some _ _ _ (.inl z0)⟩
  refine codeAny_call_function hr.depth (kin _ _ look) rfl S.co S.gen rfl (PySem.W.codeRec_of kin isCode) (hbt _ _ _ _ ?_)
  refine wpAny_newFunctionEnv_cells S.kind hkind fun env he s1 x1 => ?_
  subst he
  refine ⟨noLim.keeps x1.toInCall.keep, codeAny_func ?_⟩
  have hq := hbody f cdv B outer s H vs Q hgd (hr.deeper _) hsp
  have I : Inv (cxOf CX0 P w K mg base N x (defScope (topS i)) f cdv B outer s H E0) [] (start N vs) H s1 := inv_start S hr.hd e0 (hl vs H Q hsp) vals x1
  refine wpAny_mono ((pss_w.nox : PSs (cxOf CX0 P w K mg base N x (defScope (topS i)) f cdv B outer s H E0) (defBody (topS i)) _).run [] s1 (start N vs) H _ I hq) (fun fl s' hs => ?_) fun e s' hs => hs
  have done : ∀ {σ' : L2.St} {H' : Hp} {v : V} {u : Value}, Inv (cxOf CX0 P w K mg base N x (defScope (topS i)) f cdv B outer s H E0) [] σ' H' s' → L2.RelV v u → Q v H' → CE outer P w H s Q u s' :=
    fun {σ' H' v u} Jv vals z0 => ⟨v, H', Jv.os, Jv.bare, Jv.base, Jv.hok, vals, z0⟩
  cases fl with
  | ret u =>
    obtain ⟨v, σ', H', Jv, rv', z0⟩ := hs
    exact done Jv rv' z0
  | next =>
    obtain ⟨σ', H', Jv, z0⟩ := hs
    exact done (v := V.non) (u := Value.none) Jv rfl z0
  | brk =>
    obtain ⟨_, _, _, z⟩ := hs
    exact False.elim z
  | cont =>
    obtain ⟨_, _, _, z⟩ := hs
    exact False.elim z
end
section
variable {T : List NTab} {X : Cx} {Γ : List Sh} {a b c e tg : Expr} {pos : Pos} {E : GE} {R : RS → Prop} {σ : L2.St} {H : Hp} {H0 : Hp} {Θ : Pins}
/-- target = e, what is unpacked not told -/
theorem h1_asgN (he : EN T X e Γ R) (hg : ∀ r, R r → ∃ d f, r = .d d ∧ EG T X tg d f ∧ E.nx (f Γ)) (hs : swapsWithSole [tg] e pos.line X.env = pure false := by rfl) (hw : swappedStores [tg] e X.env = pure none := by rfl)
    (h1 : (assignEach [tg] X.env).map (·.2) = [assign tg X.env] := by rfl) : H1 T X (.Assign [tg] e pos) E Γ := fun H0 Θ σ H k =>
  leS (ps_asg pe_w pg_w hs hw h1) (he H0 Θ σ H k _ fun r v H2 hr e2 hv => by
    obtain ⟨d, f, rfl, g1, g2⟩ := hg r hr
    exact g1 Γ H0 Θ σ H2 v (k.mono e2) hv _ fun σ2 H3 e3 k3 => okE k3 g2)
theorem en_use (k : Ok T H0 Θ Γ σ H) (h : EN T X e Γ R) {Q : VK} (q : ∀ r v H2, R r → Ext T H H2 → RsOk Θ H H2 r v → Q v H2) : wE X e σ H Q := h H0 Θ σ H k Q q
theorem hs_use {st : List Stmt} {D : Ends} (k : Ok T H [] Γ σ H) (h : HS T X st E Γ) (h1 : ∀ σ' H' Γ' Θ', E.nx Γ' → Ok T H Θ' Γ' σ' H' → D.nx σ' H') (h2 : ∀ v H' r, E.rt r → Ext T H H' → RsOk [] H H' r v → D.rt v H') (h3 : ∀ Γ, ¬ E.bk Γ) (h4 : ∀ Γ, ¬ E.ct Γ) : wSs X st D σ H :=
  (h H [] σ H k).mono (fun σ' H' ⟨Γ', Θ', a, _, b⟩ => h1 σ' H' Γ' Θ' a b) (fun v H' ⟨r, a, b, c⟩ => h2 v H' r a b c) (fun _ _ ⟨Γ', _, a, _⟩ => absurd a (h3 Γ')) (fun _ _ ⟨Γ', _, a, _⟩ => absurd a (h4 Γ'))
/-- a state of which nothing but the well is told -/
theorem ok_law7 {σ : L2.St} {p : Addr} (tb : TabsN T H) (hw : WellAt H p) (hl : σ.length = 7) (h1 : σ[1]? = some (some (.ref p))) : Ok T H [] [.any, .wl, .any, .any, .any, .any, .any] σ H := by
  have none_ : ∀ i, ¬ IsL [.any, .wl, .any, .any, .any, .any, .any] i := fun i ⟨s, h, w⟩ => by
    match i, h with
    | 0, h => cases h; cases w
    | 1, h => cases h; cases w
    | 2, h => cases h; cases w
    | 3, h => cases h; cases w
    | 4, h => cases h; cases w
    | 5, h => cases h; cases w
    | 6, h => cases h; cases w
  refine ⟨Ext.refl H, tb, hl, (fun _ z => by cases z), fun i o s ho hs => ?_, fun i _ _ h => absurd h (none_ i), fun i _ _ h => absurd h (none_ i)⟩
  match i, hs with
  | 0, hs => cases hs; trivial
  | 1, hs => cases hs; rw [h1] at ho; cases ho; exact ⟨p, rfl, hw⟩
  | 2, hs => cases hs; trivial
  | 3, hs => cases hs; trivial
  | 4, hs => cases hs; trivial
  | 5, hs => cases hs; trivial
  | 6, hs => cases hs; trivial
end
theorem row_of_perm {n : Nat} {row : List Nat} (h : row.Perm (List.range n)) : Row row ∧ row.length = n := by
  have e : row.length = n := h.length_eq.trans List.length_range
  refine ⟨⟨fun x hx => ?_, h.nodup_iff.mpr List.nodup_range⟩, e⟩
  rw [e]
  exact List.mem_range.mp (h.mem_iff.mp hx)
end Pt
set_option maxHeartbeats 4000000
/-! Defs P: law. -/
namespace Pt
open PySem PySem.Spec PyProof.Rows L2
section
variable {P : Program} {w : World} {K : PySem.W.Frag} {mg : Str → Option Value} {base : Heap} {T : List NTab}
theorem sc_law : FnScope ["_law_script", "_law_well_here", "_law_size", "_law_row", "_law_other", "_law_more", "_law_found"] ["_law_script"] (defScope (topS 54)) := ⟨rfl, rfl, rfl, by decide +kernel, rfl, by decide +kernel, by decide +kernel⟩
def spLaw (T : List NTab) (K : PySem.W.Frag) : List V → Hp → VK → Prop := fun vs H Q => ∃ (a : Addr) (ns : List Int), vs = [.ref a] ∧ TabsN T H ∧ SqL K H a (ns.map V.int) ∧ ∀ H', Q (.bl true) H'
abbrev lawX (P : Program) (w : World) (K : PySem.W.Frag) (mg : Str → Option Value) (base : Heap) (f0 : Addr) (cdv : Value) (B : Around) (outer : List Env) (s : Shared) (H : Hp) : Cx := (cxOf CX0 P w K mg base ["_law_script", "_law_well_here", "_law_size", "_law_row", "_law_other", "_law_more", "_law_found"] "law" (defScope (topS 54)) f0 cdv B outer s H E0).nox
def lawS (i : Nat) : Stmt := (defBody (topS 54)).getD i (.Pass ⟨0, 0, 0, 0⟩)
theorem lawB_eq : defBody (topS 54) = [lawS 0, lawS 1, lawS 2, lawS 3] := by kernel_rfl
def lawTurn : List Stmt := forBody (lawS 1)
/-- a turn -/
theorem law_turn (Gwd : FnN P w K mg base T 4 "_law_world" A_world) (Gt : FnGg P w K mg base T 16 "_law_is_told" A_told) (Gr : FnG P w K mg base T 2 "_law_is_refused" A_refused) (mt : mg "tuple" = none) (mr : mg "range" = none)
    {f0 : Addr} {cdv : Value} {B : Around} {outer : List Env} {s : Shared} {H : Hp} (hgd : B.guards = some []) (hr : Room 16 (B.deeper (envOfC "law" (defScope (topS 54)) s.heap.objs.size f0 cdv))) {n : Nat} (hn : n ≤ 7) :
    HS T (lawX P w K mg base f0 cdv B outer s H) lawTurn { nx := fun Γ => ∃ x y z, Γ = [.any, .wl, .d (eI n), .d x, .d y, .d z, .any], rt := fun _ => False } [.any, .wl, .d (eI n), .any, .any, .any, .any] := by
  have hg : (B.deeper (envOfC "law" (defScope (topS 54)) s.heap.objs.size f0 cdv)).guards = some [] := hgd
  refine hs_cons (h1_asgN (en_call (rs := [.wl, .d (eI n)]) (as := [.wl, .d (eI n)]) Gwd (hr.mono (by decide)) (ea_cons (ee_vw (i := 1) rfl) (ea_cons (ee_v (i := 2) rfl) ea_nil)) (.cons rfl (.cons rfl .nil)) ⟨n, rfl, hn, rfl⟩) (fun r hr' => ?_))
  obtain ⟨row, other, rfl, pr, po⟩ := hr'
  obtain ⟨hR, lR⟩ := row_of_perm pr
  obtain ⟨hO, lO⟩ := row_of_perm po
  have hlen : other.length = row.length := by omega
  refine ⟨_, _, rfl, eg_pair (i := 3) (j := 4) rfl sc_law.nd, ?_⟩
  refine hs_cons (h1_if (x := false) (et_cast (et_not (et_val (ee_callg (r := .d (.bool true)) Gt hr hg (ea_cons (ee_v (i := 3) rfl) (ea_cons (ee_v (i := 4) rfl) ea_nil)) (.cons rfl (.cons rfl .nil)) ⟨row, other, rfl, rfl, hR, hO, hlen, by omega, told_all hR hO hlen⟩))) rfl) (fun h => by cases h) (fun _ => hs_nil ?_))
  refine hs_cons (h1_set (i := 5) (r := .d (eL (List.range (n + 1)))) (ee_tupRg (ee_addN (ee_v (i := 2) rfl) (ee_nat (i := 1))) (by omega) rfl mt mr) ?_ rfl sc_law.nd)
  refine hs_one (h1_if (x := false) (et_cast (et_or2 (et_not (et_val (ee_call (r := .d (.bool true)) Gr (hr.mono (by decide)) (ea_cons (ee_v (i := 3) rfl) (ea_cons (ee_v (i := 5) rfl) ea_nil)) (.cons rfl (.cons rfl .nil)) ⟨row, List.range (n + 1), rfl, rfl, by rw [List.length_range]; omega⟩)))
    (fun _ => et_not (et_val (ee_call (r := .d (.bool true)) Gr (hr.mono (by decide)) (ea_cons (ee_v (i := 5) rfl) (ea_cons (ee_v (i := 4) rfl) ea_nil)) (.cons rfl (.cons rfl .nil)) ⟨List.range (n + 1), other, rfl, rfl, by rw [List.length_range]; omega⟩)))) rfl) (fun h => by cases h) (fun _ => hs_nil ?_))
  exact ⟨_, _, _, rfl⟩
/-- behind the loop -/
theorem law_last (G2 : FnG P w K mg base T 2 "twisted" A_twisted) (mrp : mg "repr" = none)
    {f0 : Addr} {cdv : Value} {B : Around} {outer : List Env} {s : Shared} {H : Hp} (hgd : B.guards = some []) (hr : Room 16 (B.deeper (envOfC "law" (defScope (topS 54)) s.heap.objs.size f0 cdv))) :
    HS T (lawX P w K mg base f0 cdv B outer s H) [lawS 2, lawS 3] { nx := fun _ => False, rt := fun r => r = .d (.bool true) } [.any, .wl, .any, .any, .any, .any, .any] := by
  have hg : (B.deeper (envOfC "law" (defScope (topS 54)) s.heap.objs.size f0 cdv)).guards = some [] := hgd
  have four : ∀ {a b c d : Nat} {Γ : List Sh} {p1 p2 p3 p4 p5 : Pos} {x1 j1 j2 j3 j4 : Nat}, EE T (lawX P w K mg base f0 cdv B outer s H) (.Tuple [.Constant (.int (a : Int)) j1 p1, .Constant (.int (b : Int)) j2 p2, .Constant (.int (c : Int)) j3 p3, .Constant (.int (d : Int)) j4 p4] x1 p5) Γ (.d (eL [a, b, c, d])) :=
    fun {a b c d Γ p1 p2 p3 p4 p5 x1 j1 j2 j3 j4} => ee_tup (ds := [eI a, eI b, eI c, eI d]) (ea_cons ee_nat (ea_cons ee_nat (ea_cons ee_nat (ea_cons ee_nat ea_nil))))
  have R1 : Row [0, 1, 2, 3] := ⟨by decide, by decide⟩
  have R2 : Row [1, 3, 0, 2] := ⟨by decide, by decide⟩
  have R3 : Row [3, 1, 0, 2] := ⟨by decide, by decide⟩
  have sm : ∀ d ∈ [eL [0, 1, 2, 3], PyData.none, PyData.none], Small d := fun d hd => by
    simp at hd
    rcases hd with rfl | rfl
    · exact .lot [0, 1, 2, 3] (by decide) (by decide)
    · exact .non
  have so : Sho (.list [eL [0, 1, 2, 3], PyData.none, PyData.none]) := sho_small sm (by decide)
  refine hs_cons (h1_set (i := 6) (r := .n [eL [0, 1, 2, 3], .none, .none]) (ee_lst (ds := [eL [0, 1, 2, 3], .none, .none]) (ea_cons (ee_call G2 (hr.mono (by decide)) (ea_cons (four (a := 0) (b := 1) (c := 2) (d := 3)) (ea_cons (four (a := 1) (b := 3) (c := 0) (d := 2)) ea_nil)) (.cons rfl (.cons rfl .nil)) ⟨[0, 1, 2, 3], [1, 3, 0, 2], rfl, by rw [show twistedM [0, 1, 2, 3] [1, 3, 0, 2] = some [0, 1, 2, 3] by decide +kernel]; rfl, R1, R2, rfl, by decide⟩)
    (ea_cons (ee_call G2 (hr.mono (by decide)) (ea_cons (four (a := 0) (b := 1) (c := 2) (d := 3)) (ea_cons (four (a := 3) (b := 1) (c := 0) (d := 2)) ea_nil)) (.cons rfl (.cons rfl .nil)) ⟨[0, 1, 2, 3], [3, 1, 0, 2], rfl, by rw [show twistedM [0, 1, 2, 3] [3, 1, 0, 2] = none by decide +kernel]; rfl, R1, R3, rfl, by decide⟩)
    (ea_cons (ee_call G2 (hr.mono (by decide)) (ea_cons (four (a := 3) (b := 1) (c := 0) (d := 2)) (ea_cons (four (a := 0) (b := 1) (c := 2) (d := 3)) ea_nil)) (.cons rfl (.cons rfl .nil)) ⟨[3, 1, 0, 2], [0, 1, 2, 3], rfl, by rw [show twistedM [3, 1, 0, 2] [0, 1, 2, 3] = none by decide +kernel]; rfl, R3, R1, rfl, by decide⟩) ea_nil)))) ?_ rfl sc_law.nd)
  exact hs_one (h1_ret (r := .d (.bool true)) (ee_cast (ee_co (co_eqS (ee_repr hr hg (ea_cons (ee_vl (i := 6) rfl) ea_nil) so mrp) (ee_repr (xs := [eL [0, 1, 2, 3], .none, .none]) hr hg (ea_cons (ee_q (ee_lst (ds := [eL [0, 1, 2, 3], .none, .none]) (ea_cons (four (a := 0) (b := 1) (c := 2) (d := 3)) (ea_cons ee_non (ea_cons ee_non ea_nil))))) ea_nil) so mrp))) (by simp)) rfl)
end
end Pt
set_option maxHeartbeats 4000000
/-! Defs Q: law, the whole. -/
namespace Pt
open PySem PySem.Spec PyProof.Rows L2
section
variable {P : Program} {w : World} {K : PySem.W.Frag} {mg : Str → Option Value} {base : Heap} {T : List NTab}
theorem tup_seq {H : Hp} {t : Addr} {xs : List V} (h : H t = some (.tup xs)) : SqT K H t xs := .inl (.inl h)
theorem ok_law (D : Def K mg "law" 54 ["_law_script"]) (Gw : FnWell P w K mg base T 1) (Gp : FnN P w K mg base T 2 "_law_pick" A_pick) (Gwd : FnN P w K mg base T 4 "_law_world" A_world) (Gt : FnGg P w K mg base T 16 "_law_is_told" A_told) (Gr : FnG P w K mg base T 2 "_law_is_refused" A_refused) (G2 : FnG P w K mg base T 2 "twisted" A_twisted)
    (mt : mg "tuple" = none) (mr : mg "range" = none) (mrp : mg "repr" = none) : FnRawG P w K mg base 17 "law" ["_law_script"] (spLaw T K) := by
  refine fnRawG D sc_law (fun vs H Q ⟨a, ns, e, _⟩ => by rw [e]; rfl) (fun f0 cdv B outer s H vs Q hgd hr h => ?_)
  obtain ⟨a, ns, rfl, tb, hS, q⟩ := h
  show wSs (lawX P w K mg base f0 cdv B outer s H) _ _ _ _
  rw [lawB_eq]
  -- the well
  obtain ⟨fw, fdw, psw, hmw, hkw, hbw, Fw⟩ := Gw.ex
  refine leSs (pss_cons (ps_set sc_law.nd (i := 1) rfl (Or.inl rfl) pe_w rfl (.inr rfl)) pss_w) ?_
  refine leE (pe_call Fw (hr.mono (by decide)) rfl hmw hkw hbw .nil pass0 (pa_cons pe_w pa_nil rfl)) (evq (ev_v (i := 0) (v := .ref a) rfl) ⟨a, ns, rfl, tb, hS, fun p H1 e1 hw => ?_⟩)
  show wSs (lawX P w K mg base f0 cdv B outer s H) [lawS 1, lawS 2, lawS 3] _ [some (.ref a), some (.ref p), none, none, none, none, none] H1
  have pick : ∀ {H' : Hp} {l : List Nat} {e : Expr} {p1 p2 p3 : Pos}, Ext T H1 H' → l ≠ [] → l.length ≤ 1000 → EE T (lawX P w K mg base f0 cdv B outer s H) e [.any, .wl, .any, .any, .any, .any, .any] (.n (l.map eI)) →
      (starEach [.Name "_law_well_here" p2, e] (lawX P w K mg base f0 cdv B outer s H).env = (false, eval (.Name "_law_well_here" p2) (lawX P w K mg base f0 cdv B outer s H).env) :: starEach [e] (lawX P w K mg base f0 cdv B outer s H).env) → (starEach [e] (lawX P w K mg base f0 cdv B outer s H).env = (false, eval e (lawX P w K mg base f0 cdv B outer s H).env) :: starEach [] (lawX P w K mg base f0 cdv B outer s H).env) → ((backTo p3 (starEach [e] (lawX P w K mg base f0 cdv B outer s H).env)).any (·.1) = false) →
      EX T (lawX P w K mg base f0 cdv B outer s H) (.Call (.Name "_law_pick" p1) [.Name "_law_well_here" p2, e] [] p3) [some (.ref a), some (.ref p), none, none, none, none, none] H' (fun v _ => ∃ x ∈ l, v = .int ((x : Nat) : Int)) := fun {H' l e p1 p2 p3} f hne hl he z1 z2 z3 Q q => by
    have k := ok_law7 (σ := [some (.ref a), some (.ref p), none, none, none, none, none]) (f.tabs (e1.tabs tb)) (hw.ext f) rfl rfl
    refine en_use k (en_call (rs := [.wl, .n (l.map eI)]) (as := [.wl, .q (l.map eI)]) Gp (hr.mono (by decide)) (ea_cons (ee_vw (i := 1) rfl) (ea_cons he ea_nil z2) z1) (.cons rfl (.cons rfl .nil)) ⟨l, rfl, hne, hl, rfl⟩ (he := z1) (hpl := z3)) fun r v H2 hr' e2 hv => ?_
    obtain ⟨x, hx, rfl⟩ := hr'
    exact q v H2 e2 ⟨x, hx, Tp.inv_int hv⟩
  -- the sizes
  refine leSs (pss_cons (ps_for PassesOwn.never rfl (pi_tup (pe_tup (pa_cons pe_w (pa_cons pe_w (pa_cons pe_w (pa_cons pe_int pa_nil rfl) rfl) rfl) rfl))) (pg_name sc_law.nd (i := 2) rfl (Or.inl rfl) (.inr rfl)) pss_w) pss_w) ?_
  refine exq (pick (l := [0, 1, 2, 3, 4]) (Ext.refl _) (by decide) (by decide) (ee_lst (ds := [eI 0, eI 1, eI 2, eI 3, eI 4]) (ea_cons ee_nat (ea_cons ee_nat (ea_cons ee_nat (ea_cons ee_nat (ea_cons ee_nat ea_nil)))))) rfl rfl rfl) fun v1 H2 f1 ⟨n1, m1, x1⟩ => ?_
  refine exq (pick (l := [4, 5]) f1 (by decide) (by decide) (ee_lst (ds := [eI 4, eI 5]) (ea_cons ee_nat (ea_cons ee_nat ea_nil))) rfl rfl rfl) fun v2 H3 f2 ⟨n2, m2, x2⟩ => ?_
  refine exq (pick (l := [5, 6]) (f1.trans f2) (by decide) (by decide) (ee_lst (ds := [eI 5, eI 6]) (ea_cons ee_nat (ea_cons ee_nat ea_nil))) rfl rfl rfl) fun v3 H4 f3 ⟨n3, m3, x3⟩ => ?_
  subst x1 x2 x3
  have b1 : n1 ≤ 7 := by simp at m1; omega
  have b2 : n2 ≤ 7 := by simp at m2; omega
  have b3 : n3 ≤ 7 := by simp at m3; omega
  refine ⟨show 4 ≤ sizeLine by decide, fun t ht => ?_⟩
  have f4 := Ext.new (T := T) (o := .tup [V.int (n1 : Int), V.int (n2 : Int), V.int (n3 : Int), V.int 7]) ht
  have e5 := ((f1.trans f2).trans f3).trans f4
  have hw5 := hw.ext e5
  have tb5 := e5.tabs (e1.tabs tb)
  refine ⟨t, rfl, ⟨_, tup_seq upd_same⟩, ?_⟩
  have ht5 : upd H4 t (.tup [V.int (n1 : Int), V.int (n2 : Int), V.int (n3 : Int), V.int 7]) t = some (.tup [V.int (n1 : Int), V.int (n2 : Int), V.int (n3 : Int), V.int 7]) := upd_same
  have all : ∀ x ∈ [V.int (n1 : Int), V.int (n2 : Int), V.int (n3 : Int), V.int 7], ∃ n : Nat, n ≤ 7 ∧ x = .int (n : Int) := fun x hx => by
    simp at hx
    rcases hx with rfl | rfl | rfl | rfl
    · exact ⟨n1, b1, rfl⟩
    · exact ⟨n2, b2, rfl⟩
    · exact ⟨n3, b3, rfl⟩
    · exact ⟨7, by decide, rfl⟩
  generalize upd H4 t (.tup [V.int (n1 : Int), V.int (n2 : Int), V.int (n3 : Int), V.int 7]) = H5 at *
  generalize [V.int (n1 : Int), V.int (n2 : Int), V.int (n3 : Int), V.int 7] = xs at *
  refine for_tup (K := K) (a := t) (xs := xs) (fun _ σ' H' => σ'.length = 7 ∧ (∃ p, σ'[1]? = some (some (.ref p)) ∧ WellAt H' p) ∧ Ext T H5 H') ?_ ?_ ?_ ?_
  · exact ⟨rfl, ⟨p, rfl, hw5⟩, Ext.refl _⟩
  · exact fun i σ' H' _ ⟨_, _, e⟩ => tup_seq (e.tx _ _ ht5)
  · rintro i x σ' H' hx ⟨hl, ⟨p', hp, hw'⟩, e⟩
    obtain ⟨n, hn, rfl⟩ := all x (List.mem_of_getElem? hx)
    have k := (ok_law7 (e.tabs tb5) hw' hl hp).setD (i := 2) (v := .int (n : Int)) (x := eI n) (.int _)
    refine @hs_use T _ _ _ _ _ lawTurn _ k (law_turn Gwd Gt Gr mt mr hgd hr hn) (fun σ2 H2 Γ' Θ' ⟨x, y, z, e'⟩ k2 => ?_) (fun _ _ _ z => z.elim) (fun _ z => z) (fun _ z => z)
    subst e'
    obtain ⟨o, ho, p2, ep, hw2⟩ := k2.slot (i := 1) rfl
    subst ep
    exact ⟨k2.len, ⟨p2, ho, hw2⟩, e.trans k2.ext⟩
  · rintro σ' H' ⟨hl, ⟨p', hp, hw'⟩, e⟩
    exact @hs_use T _ _ _ _ _ [lawS 2, lawS 3] _ (ok_law7 (e.tabs tb5) hw' hl hp) (law_last G2 mrp hgd hr) (fun _ _ _ _ z => z.elim) (fun v H2 r er _ hv => by
      subst er
      have := Tp.inv_bl hv
      subst this
      exact q H2) (fun _ z => z) (fun _ z => z)
end
end Pt
set_option maxHeartbeats 0
/-! End A: what the top leaves (printed by gen_end.py). -/
namespace Pt
open PySem PySem.Spec PyProof.Rows L2
/-- the def at the i-th place of the top -/
def dD (x : Str) (i : Nat) : He.DefD := ⟨(x, none), x, x, defArgs (topS i), defBody (topS i), defScope (topS i), [], []⟩
def fnL : List He.DefD := ([dD "part" 6, dD "parts_two" 8, dD "telling" 9, dD "is_piece" 10, dD "growing" 11, dD "least_piece" 12, dD "quotient" 13, dD "row_of_blocks" 18, dD "greatest_lots" 19, dD "top_knot" 20] : List He.DefD) ++ ([dD "tree_at" 21, dD "tree_of" 22, dD "lot_key" 24, dD "knots_below" 25, dD "things_of" 26, dD "knots" 27, dD "rest" 29, dD "_places" 30, dD "orders_of" 31, dD "drawn" 32] : List He.DefD) ++ ([dD "_fours" 33, dD "twisted" 34, dD "_fills" 36, dD "_is_firm_lot" 37, dD "_lots_of" 38, dD "first_firm" 39, dD "has_formula" 41, dD "_law_well" 43, dD "_law_draw" 44, dD "_law_pick" 45] : List He.DefD) ++ ([dD "_law_shuffled" 46, dD "_law_put" 47, dD "_law_world" 48, dD "_law_fours" 49, dD "_law_first" 50, dD "_law_has_firm" 51, dD "_law_is_told" 52, dD "_law_is_refused" 53, dD "law" 54] : List He.DefD)
def faL : List He.Fa := ([.glo "part", .glo "parts_two", .glo "telling", .glo "is_piece", .glo "growing", .glo "least_piece", .glo "quotient", .glo "row_of_blocks", .glo "greatest_lots", .glo "top_knot"] : List He.Fa) ++ ([.glo "tree_at", .glo "tree_of", .glo "lot_key", .glo "knots_below", .glo "things_of", .glo "knots", .glo "rest", .glo "_places", .glo "orders_of", .glo "drawn"] : List He.Fa) ++ ([.glo "_fours", .glo "twisted", .glo "_fills", .glo "_is_firm_lot", .glo "_lots_of", .glo "first_firm", .glo "has_formula", .glo "_law_well", .glo "_law_draw", .glo "_law_pick"] : List He.Fa) ++ ([.glo "_law_shuffled", .glo "_law_put", .glo "_law_world", .glo "_law_fours", .glo "_law_first", .glo "_law_has_firm", .glo "_law_is_told", .glo "_law_is_refused", .glo "law", .glo "Unfit"] : List He.Fa) ++ ([.glo "PieceError", .glo "TooMany", .free "tuple", .free "len", .free "range", .free "enumerate", .free "any", .free "sorted", .free "list", .free "isinstance"] : List He.Fa) ++ ([.free "set", .free "sum", .free "int", .free "repr", .free "ValueError", .str "ALL" "all", .str "LINE" "line", .str "FIRM" "firm", .exc "Unfit", .exm "Unfit" "Unfit" true] : List He.Fa)
def tfL : List He.Defn := [("row_of_blocks", none), ("knots", none)]
/-- what isinstance asks of Unfit -/
def exL (K : PySem.W.Frag) : Bool := decide (PySem.W.findIn K (.ref (He.ga K "Unfit")) "__getattribute__" = some (some (.builtin "BaseException.__getattribute__"))) && (decide (PySem.W.findIn K (.ref (He.ga K "Unfit")) "__getattr__" = some none) &&
  (PySem.W.hasDictIn K (He.ga K "Unfit") && (decide (PySem.W.findIn K (.ref (He.ga K "Unfit")) "__class__" = some (some (.builtin "object.__class__"))) && (decide (PySem.W.specialIn K (.builtin "object.__class__") "__get__" = some (some (.builtin "getset_descriptor.__get__"))) &&
  (decide (PySem.W.takesIn K (.builtin "object.__class__") = some true) && (decide (PySem.W.mroIn K (He.ga K "Unfit") (.type "object") = some true) && (decide (PySem.W.kitOne K (.ref (He.ga K "Unfit")) (.ref (He.ga K "PieceError")) = some true) &&
  (decide (PySem.W.kitOne K (.ref (He.ga K "Unfit")) (.type "ValueError") = some true) && (decide (PySem.W.kitOne K (.ref (He.ga K "Unfit")) (.ref (He.ga K "TooMany")) = some false) && (decide (PySem.W.kitOne K (.type "int") (.type "tuple") = some false) && !decide ((He.cT K ("row_of_blocks", none)).2 = (He.cT K ("knots", none)).2)))))))))))
abbrev lawR : PySem.W.OpenRow := PySem.W.OpenLaw.row PySem.Challenge.rw_piecetrees_k48_whole_twisted_fours_and_f
abbrev hkL : PySem.W.Hook := He.hookX 4 faL fnL [] tfL exL
def obL (s : PySem.W.SharedT) : He.AlX := He.obsX 4 faL fnL [] tfL exL (HandSHeadRun.getT s)
theorem obL_eq (s : PySem.W.SharedT) : obL s = hkL.obs s.abs := He.obsX_eq (HandSHeadRun.getT_eq s)
def namesL : List PySem.Str := (["PieceError", "Unfit", "TooMany", "NotPiece", "ALL", "LINE", "FIRM", "part", "parts_two", "telling"] : List PySem.Str) ++ (["is_piece", "growing", "least_piece", "quotient", "row_of_blocks", "greatest_lots", "top_knot", "tree_at", "tree_of", "lot_key"] : List PySem.Str) ++ (["knots_below", "things_of", "knots", "rest", "_places", "orders_of", "drawn", "_fours", "twisted", "_fills"] : List PySem.Str) ++ (["_is_firm_lot", "_lots_of", "first_firm", "has_formula", "_law_well", "_law_draw", "_law_pick", "_law_shuffled", "_law_put", "_law_world"] : List PySem.Str) ++ (["_law_fours", "_law_first", "_law_has_firm", "_law_is_told", "_law_is_refused"] : List PySem.Str)
theorem runL (w : World) : HandSHeadRun.RunEq lawR (PySem.W.view lawR.prog [54]) hkL obL 3000 namesL w := by
  intro os
  kernel_rfl
end Pt
set_option maxHeartbeats 4000000
/-! End B: the call of law where no repr is under way. -/
namespace Pt
open PySem PySem.Spec PyProof.Rows L2
abbrev noThing : Obj := { cls := .none, data := .fields #[] }
abbrev scrObj (us : List Value) : Obj := { cls := .type "list", data := .seq us.toArray }
/-- the heap behind the top -/
structure TopIs (K : PySem.W.Frag) (mg : Str → Option Value) (cs : List (Addr × Addr)) (h : Heap) : Prop where
  kin : K.In h
  glob : h.Ns mainGlobals mg
  blt : ∃ mb, h.Ns builtinsNs mb ∧ ∀ x : Str, x ≠ "__name__" → mb x = bootBuiltins x
  lim : h.NoLimit
  tab : ∀ q ∈ cs, h.get? q.2 = some noThing
  out : ∀ q ∈ cs, K.lookup q.2 = none
  cod : ∀ q ∈ cs, PySem.W.CodeHd h q.1 q.2
  bmo : ∃ (bm : Addr) (ob : Obj), mg "__builtins__" = some (.ref bm) ∧ bm ≠ builtinsNs ∧ h.get? bm = some ob ∧ ob.cls = .type "module" ∧ ob.dict = some builtinsNs ∧ ob.data = .plain
/-- what is tracked at the call: the tables, and the script if the top knows nothing of it -/
def trkd (cs : List (Addr × Addr)) (a : Addr) (scr : Option HO) : Hp := fun b => if b ∈ cs.map Prod.snd then some (.tbl #[]) else if b = a then scr else none
/-- the script as it is tracked -/
def ScrIs (P : Program) (w : World) (K : PySem.W.Frag) (h : Heap) (a : Addr) (scr : Option HO) : Prop := scr = none ∨ (K.lookup a = none ∧ ∃ o vs, scr = some (.frz o (.lst vs)) ∧ h.get? a = some o ∧ ∀ H : Hp, ObjOk P w H h a (.lst vs))
section
variable {P : Program} {w : World} {K : PySem.W.Frag} {mg : Str → Option Value} {cs : List (Addr × Addr)} {h : Heap} {a : Addr} {us : List Value} {scr : Option HO}
theorem TopIs.tabs (t : TopIs K mg cs h) {b : Addr} (hb : b ∈ cs.map Prod.snd) : h.get? b = some noThing := by
  obtain ⟨q, hq, rfl⟩ := List.mem_map.mp hb
  exact t.tab q hq
theorem trkd_tab {b : Addr} (hb : b ∈ cs.map Prod.snd) : trkd cs a scr b = some (.tbl #[]) := if_pos hb
theorem trkd_scr (na : a ∉ cs.map Prod.snd) : trkd cs a scr a = scr := (if_neg na).trans (if_pos rfl)
theorem trkd_no {b : Addr} (hb : b ∉ cs.map Prod.snd) (hba : b ≠ a) : trkd cs a scr b = none := (if_neg hb).trans (if_neg hba)
theorem TopIs.apart (t : TopIs K mg cs h) (ha : h.get? a = some (scrObj us)) : a ∉ cs.map Prod.snd := fun z => by
  have e := (t.tabs z).symm.trans ha
  cases e
/-- what is neither a table nor the script is not tracked -/
theorem TopIs.free (t : TopIs K mg cs h) (ha : h.get? a = some (scrObj us)) {b : Addr} {o : Obj} (e : h.get? b = some o) (n1 : ∀ us n, o.data ≠ .seq us n) (n2 : o.data ≠ .fields #[]) : trkd cs a scr b = none := by
  refine trkd_no (fun z => n2 ?_) (fun z => ?_)
  · rw [Option.some.inj (e.symm.trans (t.tabs z))]
  · rw [z] at e
    exact n1 us.toArray _ (by rw [Option.some.inj (e.symm.trans ha)])
theorem TopIs.nsB (t : TopIs K mg cs h) (ha : h.get? a = some (scrObj us)) {b : Addr} {m : Str → Option Value} (n : h.Ns b m) : (hidT h (trkd cs a scr)).Ns b m := by
  obtain ⟨o, es, ep, e, d, r⟩ := n
  exact ⟨o, es, ep, hidT_get e (t.free ha e (fun _ _ z => by cases d.symm.trans z) (fun z => by cases d.symm.trans z)), d, r⟩
theorem TopIs.kB (t : TopIs K mg cs h) (ha : h.get? a = some (scrObj us)) (hs : ScrIs P w K h a scr) : K.In (hidT h (trkd cs a scr)) := fun b o e => by
  refine hidT_get (t.kin b o e) ?_
  by_cases z : b ∈ cs.map Prod.snd
  · obtain ⟨q, hq, rfl⟩ := List.mem_map.mp z
    cases (t.out q hq).symm.trans e
  by_cases z2 : b = a
  · subst z2
    rw [trkd_scr z]
    rcases hs with hs | ⟨hs, _⟩
    · exact hs
    · cases hs.symm.trans e
  exact trkd_no z z2
theorem TopIs.modB (t : TopIs K mg cs h) (ha : h.get? a = some (scrObj us)) (hs : ScrIs P w K h a scr) : L2.Mod K mg (hidT h (trkd cs a scr)) := by
  obtain ⟨mb, b1, b2⟩ := t.blt
  obtain ⟨mc, c1, c2⟩ := t.lim
  exact ⟨t.kB ha hs, t.nsB ha t.glob, ⟨mb, t.nsB ha b1, b2⟩, mc, t.nsB ha c1, c2⟩
theorem TopIs.tabB (t : TopIs K mg cs h) (ha : h.get? a = some (scrObj us)) : ∀ q ∈ cs, LamX.TabB (hidT h (trkd cs a scr)) mg q.1 q.2 := fun q hq => by
  have hP := t.tab q hq
  refine ⟨?_, ?_, fun z => ?_⟩
  · obtain ⟨o, vs, file, x1, x2, x3, x4, x5, x6, e, y1, y2, y3, y⟩ := t.cod q hq
    exact ⟨o, vs, file, x1, x2, x3, x4, x5, x6, hidT_get e (t.free ha e (fun _ _ z => by cases y2.symm.trans z) (fun z => by
      have ev := Data.fields.inj (y2.symm.trans z)
      rw [ev] at y3
      simp at y3)), y1, y2, y3, y⟩
  · obtain ⟨bm, ob, b1, b2, b3, b4, b5, b6⟩ := t.bmo
    refine ⟨bm, ob, b1, b2, fun z => ?_, fun z => ?_, hidT_get b3 (t.free ha b3 (fun _ _ z => by cases b6.symm.trans z) (fun z => by cases b6.symm.trans z)), b4, b5, b6⟩
    · obtain ⟨o, es, ep, e, d, _⟩ := t.glob
      rw [← z, b3] at e
      cases e
      cases b6.symm.trans d
    · rw [z, hP] at b3
      cases b3
      cases b6
  · obtain ⟨o, es, ep, e, d, _⟩ := t.glob
    rw [z, hP] at e
    cases e
    cases d
theorem TopIs.hok (t : TopIs K mg cs h) (ha : h.get? a = some (scrObj us)) (hs : ScrIs P w K h a scr) : HOk P w (trkd cs a scr) h := fun b u hb => by
  by_cases z : b ∈ cs.map Prod.snd
  · cases (trkd_tab z).symm.trans hb
    exact t.tabs z
  by_cases z2 : b = a
  · subst z2
    rw [trkd_scr z] at hb
    rcases hs with hs | ⟨_, o, vs, rfl, e, g⟩
    · cases hs.symm.trans hb
    · cases hb
      exact ⟨e, g _⟩
  cases (trkd_no z z2).symm.trans hb
end
/-- law, called by the claim's caller -/
theorem law_callG {P : Program} {w : World} {K : PySem.W.Frag} {mg : Str → Option Value} {cs : List (Addr × Addr)} {k : Nat} {fa a : Addr} {x y : Str} {T : List NTab} {s : Shared} {us : List Value} {ns : List Int}
    (t : TopIs K mg cs s.heap) (hg : s.gens = #[]) (ha : s.heap.get? a = some (scrObj us)) (hi : IntsAre us ns) (hl : ns.length ≤ sizeLine) (hr : Room k callerA) (hx : mg x = some (.ref fa))
    (F : ∀ base : Heap, K.In base → base.Ns mainGlobals mg → (∀ q ∈ cs, LamX.TabB base mg q.1 q.2) → FnRawG P w K mg base k x [y] (spLaw T K))
    (hT : ∀ H : Hp, (∀ q ∈ cs, H q.2 = some (.tbl #[])) → TabsN T H) :
    codeAny (model P w) callerA (.call (.ref fa) ⟨[.ref a], []⟩) (fun r s' => r = .ok (.ret (.bool true)) ∧ OldK s.heap s'.heap ∧ s'.os = s.os ∧ AllBare s'.gens) s := by
  have rv : Vals (ns.map V.int) us := vals_ints hi
  have na := t.apart ha
  have go : ∀ scr : Option HO, ScrIs P w K s.heap a scr → SqL K (trkd cs a scr) a (ns.map V.int) →
      codeAny (model P w) callerA (.call (.ref fa) ⟨[.ref a], []⟩) (fun r s' => r = .ok (.ret (.bool true)) ∧ OldK s.heap s'.heap ∧ s'.os = s.os ∧ AllBare s'.gens) s := by
    intro scr hs hS
    obtain ⟨f, fd, hm, hb, run⟩ := (F _ (t.kB ha hs) (t.nsB ha t.glob) (t.tabB ha)).ex
    cases hm.symm.trans hx
    have e0 : Env0 P w K mg (hidT s.heap (trkd cs a scr)) callerA [] s (trkd cs a scr) :=
      ⟨rfl, t.modB ha hs, fun b o e => of_hidT e, Nat.le_of_eq (hidT_size _ _), trivial, fun b z => (nomatch (show b ∈ ([] : List Addr) from z)), t.hok ha hs, .of_eq hg⟩
    have bnd : BindsTo s fd ⟨[.ref a], []⟩ ([y].zip [Value.ref a]) := hb s [.ref a] t.kin rfl
    refine codeAny_mono (run callerA [] s (trkd cs a scr) ⟨[.ref a], []⟩ [.ref a] [.ref a] (fun v _ => v = .bl true) rfl hr e0 bnd (.cons rfl .nil) ⟨a, ns, rfl, hT _ fun q hq => trkd_tab (List.mem_map.mpr ⟨q, hq, rfl⟩), hS, fun _ => rfl⟩) fun r s' q => ?_
    cases r with
    | error e => exact q.elim
    | ok fl =>
      cases fl with
      | next => exact q.elim
      | brk => exact q.elim
      | cont => exact q.elim
      | ret u =>
        obtain ⟨v, H', os, bare, un, hok2, rvu, ev⟩ := q
        have ev : v = .bl true := ev
        subst ev
        obtain rfl : u = Value.bool true := rvu
        have same : ∀ b o, b ∉ cs.map Prod.snd → s.heap.get? b = some o → s'.heap.get? b = some o := fun b o nb e => by
          have plain : trkd cs a scr b = none → s'.heap.get? b = some o := fun z => un.keep b o e z (fun y => (nomatch (show b ∈ ([] : List Addr) from y))) (fun y => nomatch y)
          by_cases hba : b = a
          · subst hba
            rcases hs with hs | ⟨_, o2, vs, hs, e2, _⟩
            · exact plain ((trkd_scr nb).trans hs)
            · cases e.symm.trans e2
              exact (hok2 b _ (un.frzs b o _ ((trkd_scr nb).trans hs))).1
          · exact plain (trkd_no nb hba)
        have more : ∀ q ∈ cs, ∃ vs : Array Value, s'.heap.get? q.2 = some { cls := .none, data := .fields vs } := fun q hq => by
          obtain ⟨vs, z⟩ := un.tbls q.2 #[] (trkd_tab (List.mem_map.mpr ⟨q, hq, rfl⟩))
          exact ⟨_, hok2 q.2 _ z⟩
        refine ⟨rfl, ⟨fun b ob0 get0 => ?_, fun b ob0 get0 => ?_⟩, os, bare⟩
        · by_cases z : b ∈ cs.map Prod.snd
          · obtain ⟨q, hq, rfl⟩ := List.mem_map.mp z
            obtain ⟨vs, hv⟩ := more q hq
            cases (t.tab q hq).symm.trans get0
            exact .inr (.inl ⟨((t.cod q hq).tab (t.tab q hq)).isCodeTable, rfl, #[], vs, rfl, by rw [Array.empty_append]; exact hv⟩)
          · exact .inl (same b ob0 z get0)
        · by_cases z : b ∈ cs.map Prod.snd
          · obtain ⟨q, hq, rfl⟩ := List.mem_map.mp z
            obtain ⟨vs, hv⟩ := more q hq
            exact ⟨_, hv⟩
          · exact ⟨ob0, same b ob0 z get0⟩
  cases hk : K.lookup a with
  | some ob0 =>
    cases (t.kin a ob0 hk).symm.trans ha
    exact go none (.inl rfl) (.inr ⟨_, us.toArray, _, hk, rfl, rfl, rfl, by rw [List.size_toArray, hi.length]; exact hl, by simpa using rv⟩)
  | none => exact go (some (.frz (scrObj us) (.lst (ns.map V.int)))) (.inr ⟨hk, _, _, rfl, ha, fun H => ⟨by rw [List.length_map]; exact hl, us, _, rv, ha⟩⟩) (.inl (.inr ⟨scrObj us, trkd_scr na⟩))
end Pt
set_option maxHeartbeats 8000000
/-! End C: the whole (printed by gen_endc.py). -/
namespace Pt
open PySem PySem.Spec PyProof.Rows L2
section
variable {K : PySem.W.Frag} {mg : Str → Option Value} {h : Heap} {x : Str} {i : Nat} {ps : List Str}
theorem fun_of {F : He.DefD} (e : F = dD x i) {fd : FuncData} (c : FunD K F.name F.qual F.params F.body F.scope (F.dvs K) (F.kws K) (He.fAd K F.at_) fd) : Fun K x x (topS i) (He.ga K x) fd := by
  subst e
  obtain ⟨oc, od, dV, kV, doc, pm, an, cdv, ct, osl, e, lk, hcd, hd, _⟩ := c.ex
  have hdv : dV = .none := by
    rcases hd with ⟨_, z⟩ | ⟨z, _⟩
    · exact z
    · exact absurd rfl z
  subst hdv
  exact ⟨⟨oc, od, kV, doc, pm, an, cdv, ct, osl, e, lk, hcd⟩, c.kp⟩
theorem def_of (X : K.In h) (G : h.Ns mainGlobals mg) (c : He.SaysD faL fnL K) (k1 k2 : Nat) (m1 : fnL[k1]? = some (dD x i)) (m2 : faL[k2]? = some (.glo x))
    (hb : ∀ (kV doc pm : Value) (an : Option Addr) (cdv ct : Value) (us : List Value), us.length = ps.length → bindArgs (PySem.W.fnOf x x (defArgs (topS i)) (defBody (topS i)) (defScope (topS i)) .none kV doc pm an cdv ct) ⟨us, []⟩ = pure (ps.zip us)) : Def K mg x i ps := by
  obtain ⟨fd, F⟩ := c.def_ k1 m1
  have F2 := fun_of rfl F
  exact ⟨_, fd, F2, F2.binds hb, He.glo_ok X G (c.fact k2 m2)⟩
theorem defT_of (X : K.In h) (G : h.Ns mainGlobals mg) (c : He.SaysD faL fnL K) (k1 k2 : Nat) (m1 : fnL[k1]? = some (dD x i)) (m2 : faL[k2]? = some (.glo x))
    (hb : ∀ (kV doc pm : Value) (an : Option Addr) (cdv ct : Value) (us : List Value), us.length = ps.length → bindArgs (PySem.W.fnOf x x (defArgs (topS i)) (defBody (topS i)) (defScope (topS i)) .none kV doc pm an cdv ct) ⟨us, []⟩ = pure (ps.zip us)) : DefT K mg x i ps (He.cT K (x, none)).1 := by
  obtain ⟨fd, F⟩ := c.def_ k1 m1
  have F2 := fun_of rfl F
  obtain ⟨oc, od, kV, doc, pm, an, cdv, ct, osl, e, lk, hcd⟩ := F2.ex
  obtain ⟨cc, ec⟩ := He.codeIn_ref hcd
  have h1 : fd.code = .ref cc := by rw [e]; exact ec
  have h2 : He.codeOf K (x, none) = cc := He.codeOf_eq (p := (x, none)) lk h1
  exact ⟨_, fd, F2, F2.binds hb, He.glo_ok X G (c.fact k2 m2), by rw [h1]; exact congrArg Value.ref h2.symm⟩
end
abbrev csL (K : PySem.W.Frag) : List (Addr × Addr) := [He.cT K ("row_of_blocks", none), He.cT K ("knots", none)]
abbrev tabL (K : PySem.W.Frag) : List NTab := [((He.cT K ("row_of_blocks", none)).2, fun _ _ => qRob), ((He.cT K ("knots", none)).2, fun _ _ => qKnots)]
theorem tabs_start {K : PySem.W.Frag} (H : Hp) (t : ∀ q ∈ csL K, H q.2 = some (.tbl #[])) : TabsN (tabL K) H := fun q hq => by
  rcases List.mem_cons.mp hq with e | hq
  · subst e
    exact ⟨#[], t _ List.mem_cons_self, trivial, fun pos cv z => by cases z⟩
  · rcases List.mem_cons.mp hq with e | hq
    · subst e
      exact ⟨#[], t _ (List.mem_cons_of_mem _ List.mem_cons_self), trivial, fun pos cv z => by cases z⟩
    · cases hq
theorem law_made {P : Program} {w : World} {K : PySem.W.Frag} {mg : Str → Option Value} {h : Heap} (X : K.In h) (G : h.Ns mainGlobals mg) (c : He.SaysD faL fnL K) (ex : exL K = true) (base : Heap) (tb : ∀ q ∈ csL K, LamX.TabB base mg q.1 q.2) :
    FnRawG P w K mg base 17 "law" ["_law_script"] (spLaw (tabL K) K) := by
  have D6 : Def K mg "part" 6 ["table", "lot"] := def_of X G c 0 0 rfl rfl (fun _ _ _ _ _ _ us hl => match us, hl with | [_, _], _ => rfl)
  have D8 : Def K mg "parts_two" 8 ["rows", "outer", "thing", "other"] := def_of X G c 1 1 rfl rfl (fun _ _ _ _ _ _ us hl => match us, hl with | [_, _, _, _], _ => rfl)
  have D9 : Def K mg "telling" 9 ["table", "lot"] := def_of X G c 2 2 rfl rfl (fun _ _ _ _ _ _ us hl => match us, hl with | [_, _], _ => rfl)
  have D10 : Def K mg "is_piece" 10 ["table", "lot"] := def_of X G c 3 3 rfl rfl (fun _ _ _ _ _ _ us hl => match us, hl with | [_, _], _ => rfl)
  have D11 : Def K mg "growing" 11 ["table", "lot"] := def_of X G c 4 4 rfl rfl (fun _ _ _ _ _ _ us hl => match us, hl with | [_, _], _ => rfl)
  have D12 : Def K mg "least_piece" 12 ["table", "lot"] := def_of X G c 5 5 rfl rfl (fun _ _ _ _ _ _ us hl => match us, hl with | [_, _], _ => rfl)
  have D13 : Def K mg "quotient" 13 ["table", "lots"] := def_of X G c 6 6 rfl rfl (fun _ _ _ _ _ _ us hl => match us, hl with | [_, _], _ => rfl)
  have D18 : DefT K mg "row_of_blocks" 18 ["table", "first", "second"] (He.cT K ("row_of_blocks", none)).1 := defT_of X G c 7 7 rfl rfl (fun _ _ _ _ _ _ us hl => match us, hl with | [_, _, _], _ => rfl)
  have D19 : Def K mg "greatest_lots" 19 ["table"] := def_of X G c 8 8 rfl rfl (fun _ _ _ _ _ _ us hl => match us, hl with | [_], _ => rfl)
  have D20 : Def K mg "top_knot" 20 ["table"] := def_of X G c 9 9 rfl rfl (fun _ _ _ _ _ _ us hl => match us, hl with | [_], _ => rfl)
  have D21 : Def K mg "tree_at" 21 ["table", "lot"] := def_of X G c 10 10 rfl rfl (fun _ _ _ _ _ _ us hl => match us, hl with | [_, _], _ => rfl)
  have D22 : Def K mg "tree_of" 22 ["table"] := def_of X G c 11 11 rfl rfl (fun _ _ _ _ _ _ us hl => match us, hl with | [_], _ => rfl)
  have D24 : Def K mg "lot_key" 24 ["lot"] := def_of X G c 12 12 rfl rfl (fun _ _ _ _ _ _ us hl => match us, hl with | [_], _ => rfl)
  have D25 : Def K mg "knots_below" 25 ["tree"] := def_of X G c 13 13 rfl rfl (fun _ _ _ _ _ _ us hl => match us, hl with | [_], _ => rfl)
  have D26 : Def K mg "things_of" 26 ["tree"] := def_of X G c 14 14 rfl rfl (fun _ _ _ _ _ _ us hl => match us, hl with | [_], _ => rfl)
  have D27 : DefT K mg "knots" 27 ["table"] (He.cT K ("knots", none)).1 := defT_of X G c 15 15 rfl rfl (fun _ _ _ _ _ _ us hl => match us, hl with | [_], _ => rfl)
  have D29 : Def K mg "rest" 29 ["web"] := def_of X G c 16 16 rfl rfl (fun _ _ _ _ _ _ us hl => match us, hl with | [_], _ => rfl)
  have D30 : Def K mg "_places" 30 ["row"] := def_of X G c 17 17 rfl rfl (fun _ _ _ _ _ _ us hl => match us, hl with | [_], _ => rfl)
  have D31 : Def K mg "orders_of" 31 ["row", "other"] := def_of X G c 18 18 rfl rfl (fun _ _ _ _ _ _ us hl => match us, hl with | [_, _], _ => rfl)
  have D32 : Def K mg "drawn" 32 ["row", "other"] := def_of X G c 19 19 rfl rfl (fun _ _ _ _ _ _ us hl => match us, hl with | [_, _], _ => rfl)
  have D33 : Def K mg "_fours" 33 ["size"] := def_of X G c 20 20 rfl rfl (fun _ _ _ _ _ _ us hl => match us, hl with | [_], _ => rfl)
  have D34 : Def K mg "twisted" 34 ["row", "other"] := def_of X G c 21 21 rfl rfl (fun _ _ _ _ _ _ us hl => match us, hl with | [_, _], _ => rfl)
  have D36 : Def K mg "_fills" 36 ["rows", "lot", "one", "other"] := def_of X G c 22 22 rfl rfl (fun _ _ _ _ _ _ us hl => match us, hl with | [_, _, _, _], _ => rfl)
  have D37 : Def K mg "_is_firm_lot" 37 ["rows", "lot"] := def_of X G c 23 23 rfl rfl (fun _ _ _ _ _ _ us hl => match us, hl with | [_, _], _ => rfl)
  have D38 : Def K mg "_lots_of" 38 ["size", "many"] := def_of X G c 24 24 rfl rfl (fun _ _ _ _ _ _ us hl => match us, hl with | [_, _], _ => rfl)
  have D39 : Def K mg "first_firm" 39 ["table"] := def_of X G c 25 25 rfl rfl (fun _ _ _ _ _ _ us hl => match us, hl with | [_], _ => rfl)
  have D41 : Def K mg "has_formula" 41 ["table"] := def_of X G c 26 26 rfl rfl (fun _ _ _ _ _ _ us hl => match us, hl with | [_], _ => rfl)
  have D43 : Def K mg "_law_well" 43 ["_law_script"] := def_of X G c 27 27 rfl rfl (fun _ _ _ _ _ _ us hl => match us, hl with | [_], _ => rfl)
  have D44 : Def K mg "_law_draw" 44 ["_law_well_here", "_law_many"] := def_of X G c 28 28 rfl rfl (fun _ _ _ _ _ _ us hl => match us, hl with | [_, _], _ => rfl)
  have D45 : Def K mg "_law_pick" 45 ["_law_well_here", "_law_items"] := def_of X G c 29 29 rfl rfl (fun _ _ _ _ _ _ us hl => match us, hl with | [_, _], _ => rfl)
  have D46 : Def K mg "_law_shuffled" 46 ["_law_well_here", "_law_items"] := def_of X G c 30 30 rfl rfl (fun _ _ _ _ _ _ us hl => match us, hl with | [_, _], _ => rfl)
  have D47 : Def K mg "_law_put" 47 ["_law_well_here", "_law_size"] := def_of X G c 31 31 rfl rfl (fun _ _ _ _ _ _ us hl => match us, hl with | [_, _], _ => rfl)
  have D48 : Def K mg "_law_world" 48 ["_law_well_here", "_law_size"] := def_of X G c 32 32 rfl rfl (fun _ _ _ _ _ _ us hl => match us, hl with | [_, _], _ => rfl)
  have D49 : Def K mg "_law_fours" 49 ["_law_size"] := def_of X G c 33 33 rfl rfl (fun _ _ _ _ _ _ us hl => match us, hl with | [_], _ => rfl)
  have D50 : Def K mg "_law_first" 50 ["_law_row", "_law_other"] := def_of X G c 34 34 rfl rfl (fun _ _ _ _ _ _ us hl => match us, hl with | [_, _], _ => rfl)
  have D51 : Def K mg "_law_has_firm" 51 ["_law_table"] := def_of X G c 35 35 rfl rfl (fun _ _ _ _ _ _ us hl => match us, hl with | [_], _ => rfl)
  have D52 : Def K mg "_law_is_told" 52 ["_law_row", "_law_other"] := def_of X G c 36 36 rfl rfl (fun _ _ _ _ _ _ us hl => match us, hl with | [_, _], _ => rfl)
  have D53 : Def K mg "_law_is_refused" 53 ["_law_one", "_law_other"] := def_of X G c 37 37 rfl rfl (fun _ _ _ _ _ _ us hl => match us, hl with | [_, _], _ => rfl)
  have D54 : Def K mg "law" 54 ["_law_script"] := def_of X G c 38 38 rfl rfl (fun _ _ _ _ _ _ us hl => match us, hl with | [_], _ => rfl)
  have f_tuple : mg "tuple" = none := He.free_ok X G (c.fact 42 (f := .free "tuple") rfl)
  have f_len : mg "len" = none := He.free_ok X G (c.fact 43 (f := .free "len") rfl)
  have f_range : mg "range" = none := He.free_ok X G (c.fact 44 (f := .free "range") rfl)
  have f_enumerate : mg "enumerate" = none := He.free_ok X G (c.fact 45 (f := .free "enumerate") rfl)
  have f_any : mg "any" = none := He.free_ok X G (c.fact 46 (f := .free "any") rfl)
  have f_sorted : mg "sorted" = none := He.free_ok X G (c.fact 47 (f := .free "sorted") rfl)
  have f_list : mg "list" = none := He.free_ok X G (c.fact 48 (f := .free "list") rfl)
  have f_isinstance : mg "isinstance" = none := He.free_ok X G (c.fact 49 (f := .free "isinstance") rfl)
  have f_set : mg "set" = none := He.free_ok X G (c.fact 50 (f := .free "set") rfl)
  have f_sum : mg "sum" = none := He.free_ok X G (c.fact 51 (f := .free "sum") rfl)
  have f_int : mg "int" = none := He.free_ok X G (c.fact 52 (f := .free "int") rfl)
  have f_repr : mg "repr" = none := He.free_ok X G (c.fact 53 (f := .free "repr") rfl)
  have f_ValueError : mg "ValueError" = none := He.free_ok X G (c.fact 54 (f := .free "ValueError") rfl)
  obtain ⟨t1, s1⟩ := He.str_ok X G (c.fact 55 (f := .str "ALL" "all") rfl)
  obtain ⟨t2, s2⟩ := He.str_ok X G (c.fact 56 (f := .str "LINE" "line") rfl)
  obtain ⟨t3, s3⟩ := He.str_ok X G (c.fact 57 (f := .str "FIRM" "firm") rfl)
  obtain ⟨u1, u2, u3, u4⟩ := He.exc_ok (c.fact 58 (f := .exc "Unfit") rfl)
  have u5 := He.exm_ok (c.fact 59 (f := .exm "Unfit" "Unfit" true) rfl)
  have g1 := He.glo_ok X G (c.fact 39 (f := .glo "Unfit") rfl)
  have g2 := He.glo_ok X G (c.fact 40 (f := .glo "PieceError") rfl)
  have g3 := He.glo_ok X G (c.fact 41 (f := .glo "TooMany") rfl)
  obtain ⟨x1, ex⟩ := He.ba ex
  obtain ⟨x2, ex⟩ := He.ba ex
  obtain ⟨x3, ex⟩ := He.ba ex
  obtain ⟨x4, ex⟩ := He.ba ex
  obtain ⟨x5, ex⟩ := He.ba ex
  obtain ⟨x6, ex⟩ := He.ba ex
  obtain ⟨x7, ex⟩ := He.ba ex
  obtain ⟨x8, ex⟩ := He.ba ex
  obtain ⟨x9, ex⟩ := He.ba ex
  obtain ⟨x10, ex⟩ := He.ba ex
  obtain ⟨x11, x12⟩ := He.ba ex
  have ne : (He.cT K ("row_of_blocks", none)).2 ≠ (He.cT K ("knots", none)).2 := fun z => by rw [decide_eq_true z] at x12; cases x12
  have EX : ExcT K mg (He.ga K "Unfit") (He.ga K "PieceError") (He.ga K "TooMany") := ⟨g1, g2, g3, u1, u2, u3, u4, u5, ⟨of_decide_eq_true x1, of_decide_eq_true x2, u3, x3, of_decide_eq_true x4, of_decide_eq_true x5, of_decide_eq_true x6, of_decide_eq_true x7⟩, of_decide_eq_true x8, of_decide_eq_true x9, of_decide_eq_true x10⟩
  have ik : PySem.W.kitOne K (.type "int") (.type "tuple") = some false := of_decide_eq_true x11
  have TB1 := tb _ List.mem_cons_self
  have TB2 := tb _ (List.mem_cons_of_mem _ List.mem_cons_self)
  have h1 : ∀ p ∈ tabL K, p.1 = (He.cT K ("row_of_blocks", none)).2 → p.2 = fun _ _ => qRob := fun p hp e => by
    rcases List.mem_cons.mp hp with z | hp
    · rw [z]
    · rcases List.mem_cons.mp hp with z | hp
      · rw [z] at e
        exact absurd e.symm ne
      · cases hp
  have h2 : ∀ p ∈ tabL K, p.1 = (He.cT K ("knots", none)).2 → p.2 = fun _ _ => qKnots := fun p hp e => by
    rcases List.mem_cons.mp hp with z | hp
    · rw [z] at e
      exact absurd e ne
    · rcases List.mem_cons.mp hp with z | hp
      · rw [z]
      · cases hp
  have k_part := ok_part (P := P) (w := w) (base := base) (T := tabL K) D6 f_tuple f_len
  have k_two := ok_parts_two (P := P) (w := w) (base := base) (T := tabL K) D8
  have k_tell := ok_telling D9 k_two f_range f_enumerate
  have k_piece := ok_is_piece D10 k_two f_range f_any
  have k_grow := ok_growing D11 k_tell f_sorted f_tuple
  have k_least := ok_least_piece D12 k_grow f_sorted f_tuple
  have k_quot := ok_quotient D13 k_piece f_enumerate f_tuple f_len
  have k_rob := ok_rob (P := P) (w := w) (base := base) (T := tabL K) D18 TB1 List.mem_cons_self h1 f_range f_enumerate f_tuple f_len f_sorted f_list
  have k_great := ok_greatest D19 k_least f_range f_any f_sorted f_tuple f_len
  have k_top := ok_top D20 k_rob k_great k_quot f_range f_tuple f_len f_sorted f_set s1 s2 s3
  have k_tree := ok_tree D21 k_top k_part f_tuple f_len
  have k_treeof := ok_tree_of D22 (k_tree 5) f_tuple f_range
  have k_lot := ok_lot_key (P := P) (w := w) (base := base) (T := tabL K) D24 f_len
  have k_kb := ok_kb (P := P) (w := w) (base := base) (T := tabL K) D25 ik f_isinstance f_tuple
  have k_th := ok_th (P := P) (w := w) (base := base) (T := tabL K) D26 ik f_isinstance f_tuple f_sorted
  have k_knots := ok_knots (P := P) (w := w) (base := base) (T := tabL K) D27 TB2 (List.mem_cons_of_mem _ List.mem_cons_self) h2 k_treeof (k_kb 5) (k_th 5) k_lot f_tuple f_sorted
  have k_rest := ok_rest (P := P) (w := w) (base := base) (T := tabL K) D29 f_tuple f_range
  have k_places := ok_places (P := P) (w := w) (base := base) (T := tabL K) D30 f_enumerate f_len
  have k_ord := ok_orders D31 k_places f_tuple f_range f_len f_list
  have k_drawn := ok_drawn D32 k_ord f_tuple f_range
  have k_fours := ok_fours (P := P) (w := w) (base := base) (T := tabL K) D33 f_range
  have k_tw := ok_twisted D34 k_fours f_len f_tuple
  have k_fills := ok_fills (P := P) (w := w) (base := base) (T := tabL K) D36
  have k_firm := ok_is_firm D37 k_fills f_len f_enumerate
  have k_lots := ok_lots_of (P := P) (w := w) (base := base) (T := tabL K) D38 f_range
  have k_ff := ok_first_firm D39 k_lots k_firm f_range
  have k_form := ok_has_formula D41 k_ff
  have k_lf := ok_lfours (P := P) (w := w) (base := base) (T := tabL K) D49 f_range
  have k_lfirst := ok_lfirst D50 k_lf f_len f_tuple
  have k_hf := ok_has_firm D51 k_knots
  have k_told := ok_told D52 D34 k_lfirst k_tw k_drawn k_hf k_form k_rest k_ord f_len f_repr
  have k_draw := ok_draw (P := P) (w := w) (base := base) (T := tabL K) D44 f_int f_len
  have k_pick := ok_pick D45 k_draw f_len
  have k_sh := ok_shuffled D46 k_draw f_len f_list f_range
  have k_put := ok_put D47 k_draw k_sh f_len f_list f_range f_tuple
  have k_world := ok_world D48 k_draw k_sh k_put f_list f_range f_tuple
  have k_twx := ok_twX (P := P) (w := w) (base := base) (T := tabL K) D34 EX f_len
  have k_ref := ok_refused D53 k_twx EX f_isinstance f_ValueError
  have k_well := ok_well (P := P) (w := w) (base := base) (T := tabL K) D43 f_len f_sum
  exact ok_law D54 k_well k_pick k_world k_told k_ref k_tw f_tuple f_range f_repr
end Pt
open PySem PySem.W PySem.Calls PyProof.Rows
theorem PySem.Challenge.cw_piecetrees_k48_whole_twisted_fours_and_f_holds : PySem.Challenge.rw_piecetrees_k48_whole_twisted_fours_and_f.Holds := by
  w_on; o_law
  refine HandSHeadRun.head_any (r := Pt.lawR) (q := view Pt.lawR.prog [54]) (H := Pt.hkL) (ob := Pt.obL) (M := 3000) (loose := Pt.namesL) (d := HandSHeadRun.topDef Pt.lawR.prog 54) (kwd := []) Pt.obL_eq
    (by kernel_rfl) (fun s => by kernel_rfl) Pt.runL (by kernel_rfl) (by kernel_rfl) (by kernel_rfl) (by rfl) (by first | assumption | decide +kernel) (by decide +kernel) ⟨rfl, rfl, rfl, rfl, rfl, by decide +kernel⟩ ?hw ?hc
  case hw => w_witness2
  case hc =>
    refine Att.attach_callB (n := 63) rfl (by kernel_rfl) fun w s₀ s₁ mg mb fa o pm cd doc a us ns Gr Y ho hd hcd hmg hobj hints hlen hbits hg => ?_
    obtain ⟨K, KX, c⟩ := Y
    have hmg2 : mg ("law" : PySem.Str) = some (.ref fa) := by
      have e : (HandSHeadRun.topDef Pt.lawR.prog 54).name = ("law" : PySem.Str) := by kernel_rfl
      rw [← e]
      exact hmg
    have sd : He.SaysD Pt.faL Pt.fnL K := congrArg Prod.fst c.t
    have m1 : ∀ q ∈ Pt.csL K, ∃ p ∈ Pt.tfL, q = He.cT K p := fun q hq => by
      rcases List.mem_cons.mp hq with z | hq
      · exact ⟨_, List.mem_cons_self, z⟩
      · rcases List.mem_cons.mp hq with z | hq
        · exact ⟨_, List.mem_cons_of_mem _ List.mem_cons_self, z⟩
        · cases hq
    have t : Pt.TopIs K mg (Pt.csL K) s₁.heap := ⟨KX, Gr.T.g, ⟨mb, Gr.T.b, Gr.T.builtins⟩, Gr.T.nolimit, fun q hq => by
      obtain ⟨p, hp, rfl⟩ := m1 q hq
      exact c.empty p hp, fun q hq => by
      obtain ⟨p, hp, rfl⟩ := m1 q hq
      exact c.out p hp, fun q hq => by
      obtain ⟨p, hp, rfl⟩ := m1 q hq
      exact codeHd_of_K KX (c.hd p hp), Gr.T.bmain⟩
    exact Pt.law_callG (k := 17) t hg hobj hints (Nat.le_trans hlen (by decide)) ⟨rfl, by decide, by decide⟩ hmg2 (fun base _ _ tb => Pt.law_made KX Gr.T.g sd c.more base tb) Pt.tabs_start
