import PyProof.Rows.All
import Wide.All
import OpenK.AllK
import Wide.FinOn
import HandS.ForMost
import HandS.Exc
import HandS.ExcOwn
import HandS.ExcInit
import HandS.ExcValue
import HandS.ExcIs
import HandS.WordsExc
import HandS.Defaults
import HandS.IsInst
import HandS.TryOnly
import HandS.TryMany
import HandS.Lambda
import HandS.EndBits
import HandS.EndTab
import HandS.Head0
import HandS.Head1
import HandS.Head2
import HandS.HeadEnd
import HandS.HeadHook1
import HandS.HeadHook2
import HandS.HeadHook3
import HandS.HeadHook4
import HandS.HeadWalk
import HandS.Zip
import HandS.Rev
import HandS.More
import HandS.Codes
import HandS.Flow
import HandS.Conv
import HandS.Finally
import HandS.DictComp
import HandS.DictEq
import HandS.DeepEq
import HandS.TupAny
import HandS.Small
import KE.SortKeyHeap
import KE.KDictPairs
import KE.KDictLaw
import PySem.Challenge.RW_halfmoved_k09_whole_forms_by_deeds
import HandS.ExcField
import KE.KExcIs
set_option Elab.async false
set_option linter.all false
set_option maxRecDepth 100000
set_option maxHeartbeats 4000000
namespace HM
open PySem PySem.Spec PyProof.Rows L2
/-! ### the text -/
def top (i : Nat) : Stmt := PySem.Challenge.pw_halfmoved_k09_whole_forms_by_deeds.main.body.getD i (.Pass ⟨0, 0, 0, 0⟩)
abbrev sIsWhole : Stmt := top 20
abbrev sIsName : Stmt := top 21
abbrev sIsPlain : Stmt := top 22
abbrev sIsKind : Stmt := top 23
abbrev sNeed : Stmt := top 26
abbrev sFormOf : Stmt := top 27
abbrev sTableAt : Stmt := top 28
abbrev sTablesOf : Stmt := top 29
abbrev sSortOf : Stmt := top 30
abbrev sColumnsOf : Stmt := top 31
abbrev sPartsOf : Stmt := top 32
abbrev sWithCols : Stmt := top 33
abbrev sWithTab : Stmt := top 34
abbrev sWithout : Stmt := top 35
abbrev sCell : Stmt := top 37
abbrev sStream : Stmt := top 38
abbrev sLetter : Stmt := top 39
abbrev sNames : Stmt := top 40
abbrev sPlain : Stmt := top 41
abbrev sKind : Stmt := top 42
abbrev sColumns : Stmt := top 43
abbrev sSame : Stmt := top 44
abbrev sForm : Stmt := top 45
abbrev sWords : Stmt := top 46
abbrev sAt : Stmt := top 47
abbrev sDone : Stmt := top 48
abbrev sRefused : Stmt := top 49
abbrev sParts : Stmt := top 50
abbrev sDue : Stmt := top 51
abbrev sNoTable : Stmt := top 52
abbrev sNoForm : Stmt := top 53
abbrev sOther : Stmt := top 54
abbrev sAtOnce : Stmt := top 55
abbrev sLaw : Stmt := top 56
end HM
set_option Elab.async false
set_option linter.all false
set_option maxRecDepth 100000
set_option maxHeartbeats 4000000
namespace HM
open PySem PySem.Spec PyProof.Rows L2
/-! ### what is left of the heap -/
abbrev Tb : Type := List (Addr × Str)
/-- all that was tracked stays but the tables of code objects, which stay tables -/
structure Lv (T : Tb) (H H' : Hp) : Prop where
  ext : LamX.ExtN H H'
  tab : LamX.Tabs T H → LamX.Tabs T H'
theorem Lv.refl {T : Tb} {H : Hp} : Lv T H H := ⟨LamX.ExtN.refl H, fun h => h⟩
theorem Lv.trans {T : Tb} {H H1 H2 : Hp} (a : Lv T H H1) (b : Lv T H1 H2) : Lv T H H2 := ⟨a.ext.trans b.ext, fun h => b.tab (a.tab h)⟩
theorem Lv.of {T : Tb} {H H' : Hp} (e : ∀ b o, H b = some o → H' b = some o) : Lv T H H' := ⟨LamX.ExtN.of e, fun h => h.ext e⟩
theorem Lv.new {T : Tb} {H : Hp} {p : Addr} {o : HO} (n : H p = none) : Lv T H (upd H p o) := Lv.of fun b u e => by
  rw [upd_ne (ne_of_none e n)]
  exact e
theorem Lv.add {T : Tb} {H H1 : Hp} {p : Addr} {o : HO} (a : Lv T H H1) (n : H1 p = none) : Lv T H (upd H1 p o) := a.trans (Lv.new n)
/-- a list, a dict that was made behind H is written -/
def Wr : HO → Prop
  | .lst _ => True
  | .dK _ => True
  | _ => False
theorem Lv.put {T : Tb} {H H1 : Hp} {p : Addr} {u o : HO} (a : Lv T H H1) (n : H p = none) (e : H1 p = some u) (w : Wr u) : Lv T H (upd H1 p o) := by
  refine ⟨fun b x hb nx => ?_, fun h q hq => ?_⟩
  · rw [upd_ne (ne_of_none hb n)]
    exact a.ext b x hb nx
  · obtain ⟨ps, h1, h2, h3⟩ := a.tab h q hq
    have n1 : q.1 ≠ p := fun z => by
      rw [z, e] at h1
      cases h1
      exact w
    refine ⟨ps, by rw [upd_ne n1]; exact h1, h2, fun pos cv hc => ?_⟩
    obtain ⟨c, e1, e2⟩ := h3 pos cv hc
    have n2 : c ≠ p := fun z => by
      rw [z, e] at e2
      have e3 := Option.some.inj e2
      rw [e3] at w
      exact w
    exact ⟨c, e1, by rw [upd_ne n2]; exact e2⟩
/-- what is read there stays -/
def NoTb (o : HO) : Prop := ∀ ps, o ≠ .tbl ps
theorem Lv.at {T : Tb} {H H' : Hp} (a : Lv T H H') {b : Addr} {o : HO} (h : H b = some o) (n : NoTb o := by intro ps z; cases z) : H' b = some o := a.ext b o h n
theorem Lv.rd {T : Tb} {H H' : Hp} (a : Lv T H H') {b : Addr} {o : HO} (h : Rd H b o) (n : NoTb o := by intro ps z; cases z) : Rd H' b o := by
  rcases h with h | ⟨u, h⟩
  · exact .inl (a.at h n)
  · exact .inr ⟨u, a.at h⟩
theorem Lv.seq {T : Tb} {H H' : Hp} (a : Lv T H H') {K : PySem.W.Frag} {b : Addr} {xs : List V} (h : SqL K H b xs) : SqL K H' b xs := by
  rcases h with h | h
  · exact .inl (a.rd h)
  · exact .inr h
theorem Lv.tup {T : Tb} {H H' : Hp} (a : Lv T H H') {K : PySem.W.Frag} {b : Addr} {xs : List V} (h : SqT K H b xs) : SqT K H' b xs := by
  rcases h with h | h
  · exact .inl (a.rd h)
  · exact .inr h
theorem Lv.free {T : Tb} {H H' : Hp} (a : Lv T H H') {b : Addr} (h : H' b = none) : H b = none ∨ ∃ ps, H b = some (.tbl ps) := by
  cases q : H b with
  | none => exact .inl rfl
  | some o =>
    by_cases z : ∃ ps, o = .tbl ps
    · obtain ⟨ps, e⟩ := z
      exact .inr ⟨ps, by rw [e]⟩
    · rw [a.ext b o q (fun ps e => z ⟨ps, e⟩)] at h
      cases h
mutual
theorem dp_lv {K : PySem.W.Frag} {T : Tb} {H H' : Hp} (a : Lv T H H') : ∀ (d : PyData) (v : V), Dp K H v d → Dp K H' v d
  | .none, _, h => by cases h; exact .non
  | .bool b, _, h => by cases h; exact .bl b
  | .int i, _, h => by cases h; exact .int i
  | .str x, _, h => by cases h; exact .str x
  | .list ds, _, h => by
    cases h with
    | lst hs ha => exact .lst (a.seq hs) (dps_lv a ds _ ha)
  | .tuple ds, _, h => by
    cases h with
    | tup hs ha => exact .tup (a.tup hs) (dps_lv a ds _ ha)
  | .dict _, _, h => by cases h
theorem dps_lv {K : PySem.W.Frag} {T : Tb} {H H' : Hp} (a : Lv T H H') : ∀ (ds : List PyData) (vs : List V), DpAll K H vs ds → DpAll K H' vs ds
  | [], _, h => by cases h; exact .nil
  | d :: ds, _, h => by
    cases h with
    | cons h1 h2 => exact .cons (dp_lv a d _ h1) (dps_lv a ds _ h2)
end
theorem Lv.dp {K : PySem.W.Frag} {T : Tb} {H H' : Hp} (a : Lv T H H') {v : V} {d : PyData} (h : Dp K H v d) : Dp K H' v d := dp_lv a d v h
theorem Lv.dps {K : PySem.W.Frag} {T : Tb} {H H' : Hp} (a : Lv T H H') {vs : List V} {ds : List PyData} (h : DpAll K H vs ds) : DpAll K H' vs ds := dps_lv a ds vs h
/-! ### data -/
section
variable {K : PySem.W.Frag} {H : Hp}
theorem DpAll.snoc : ∀ {vs : List V} {ds : List PyData} {v : V} {d : PyData}, DpAll K H vs ds → Dp K H v d → DpAll K H (vs ++ [v]) (ds ++ [d])
  | _, _, _, _, .nil, h => .cons h .nil
  | _, _, _, _, .cons h1 h2, h => .cons h1 (DpAll.snoc h2 h)
theorem DpAll.append : ∀ {vs ws : List V} {ds es : List PyData}, DpAll K H vs ds → DpAll K H ws es → DpAll K H (vs ++ ws) (ds ++ es)
  | _, _, _, _, .nil, h => h
  | _, _, _, _, .cons h1 h2, h => .cons h1 (DpAll.append h2 h)
theorem DpAll.length : ∀ {vs : List V} {ds : List PyData}, DpAll K H vs ds → vs.length = ds.length
  | _, _, .nil => rfl
  | _, _, .cons _ h => congrArg (· + 1) (DpAll.length h)
theorem DpAll.get : ∀ {vs : List V} {ds : List PyData} {i : Nat} {d : PyData}, DpAll K H vs ds → ds[i]? = some d → ∃ v, vs[i]? = some v ∧ Dp K H v d
  | _, _, _, _, .nil, e => by simp at e
  | _, _, 0, _, .cons h _, e => by
    have e' := Option.some.inj e
    subst e'
    exact ⟨_, rfl, h⟩
  | _, _, i + 1, _, .cons _ h, e => DpAll.get (i := i) h e
theorem DpAll.getV : ∀ {vs : List V} {ds : List PyData} {i : Nat} {v : V}, DpAll K H vs ds → vs[i]? = some v → ∃ d, ds[i]? = some d ∧ Dp K H v d
  | _, _, _, _, .nil, e => by simp at e
  | _, _, 0, _, .cons h _, e => by
    have e' := Option.some.inj e
    subst e'
    exact ⟨_, rfl, h⟩
  | _, _, i + 1, _, .cons _ h, e => DpAll.getV (i := i) h e
theorem DpAll.take : ∀ {vs : List V} {ds : List PyData} (n : Nat), DpAll K H vs ds → DpAll K H (vs.take n) (ds.take n)
  | _, _, 0, _ => .nil
  | _, _, _ + 1, .nil => .nil
  | _, _, n + 1, .cons h1 h2 => .cons h1 (DpAll.take n h2)
theorem DpAll.drop : ∀ {vs : List V} {ds : List PyData} (n : Nat), DpAll K H vs ds → DpAll K H (vs.drop n) (ds.drop n)
  | _, _, 0, h => h
  | _, _, _ + 1, .nil => .nil
  | _, _, n + 1, .cons _ h2 => DpAll.drop n h2
theorem DpAll.of_all {α : Type} {f : α → V} {g : α → PyData} (h : ∀ x, Dp K H (f x) (g x)) : ∀ xs : List α, DpAll K H (xs.map f) (xs.map g)
  | [] => .nil
  | x :: r => .cons (h x) (DpAll.of_all h r)
theorem DpAll.strs (xs : List Str) : DpAll K H (xs.map V.str) (xs.map PyData.str) := DpAll.of_all Dp.str xs
end
section
variable {α β : Type} {F : α → β → Prop}
theorem Paired.len : ∀ {xs : List α} {ys : List β}, Paired F xs ys → xs.length = ys.length
  | _, _, .nil => rfl
  | _, _, .cons _ h => congrArg (· + 1) (Paired.len h)
theorem Paired.getR : ∀ {xs : List α} {ys : List β} {i : Nat} {y : β}, Paired F xs ys → ys[i]? = some y → ∃ x, xs[i]? = some x ∧ F x y
  | _, _, _, _, .nil, e => by simp at e
  | _, _, 0, _, .cons h _, e => by
    have e' := Option.some.inj e
    subst e'
    exact ⟨_, rfl, h⟩
  | _, _, i + 1, _, .cons _ h, e => Paired.getR (i := i) h e
theorem Paired.getL : ∀ {xs : List α} {ys : List β} {i : Nat} {x : α}, Paired F xs ys → xs[i]? = some x → ∃ y, ys[i]? = some y ∧ F x y
  | _, _, _, _, .nil, e => by simp at e
  | _, _, 0, _, .cons h _, e => by
    have e' := Option.some.inj e
    subst e'
    exact ⟨_, rfl, h⟩
  | _, _, i + 1, _, .cons _ h, e => Paired.getL (i := i) h e
theorem Paired.take' : ∀ {xs : List α} {ys : List β} (n : Nat), Paired F xs ys → Paired F (xs.take n) (ys.take n)
  | _, _, 0, _ => .nil
  | _, _, _ + 1, .nil => .nil
  | _, _, n + 1, .cons h1 h2 => .cons h1 (Paired.take' n h2)
theorem Paired.drop' : ∀ {xs : List α} {ys : List β} (n : Nat), Paired F xs ys → Paired F (xs.drop n) (ys.drop n)
  | _, _, 0, h => h
  | _, _, _ + 1, .nil => .nil
  | _, _, n + 1, .cons _ h2 => Paired.drop' n h2
theorem Paired.append' : ∀ {xs xs' : List α} {ys ys' : List β}, Paired F xs ys → Paired F xs' ys' → Paired F (xs ++ xs') (ys ++ ys')
  | _, _, _, _, .nil, h => h
  | _, _, _, _, .cons h1 h2, h => .cons h1 (Paired.append' h2 h)
theorem Paired.imp {G : α → β → Prop} (k : ∀ a b, F a b → G a b) : ∀ {xs : List α} {ys : List β}, Paired F xs ys → Paired G xs ys
  | _, _, .nil => .nil
  | _, _, .cons h t => .cons (k _ _ h) (Paired.imp k t)
theorem Paired.rev : ∀ {xs : List α} {ys : List β}, Paired F xs ys → Paired F xs.reverse ys.reverse
  | _, _, .nil => .nil
  | _, _, .cons h t => by
    rw [List.reverse_cons, List.reverse_cons]
    exact Paired.append' (Paired.rev t) (.cons h .nil)
end
/-! ### kinds, columns, tables -/
inductive Pl where
  | one (w : Str) | int (w : Str) (i : Int) | str (w s : Str)
inductive Kd where
  | pl (p : Pl) | nest (w : Str) (p : Pl)
def Pl.d : Pl → PyData
  | .one w => .tuple [.str w]
  | .int w i => .tuple [.str w, .int i]
  | .str w s => .tuple [.str w, .str s]
def Kd.d : Kd → PyData
  | .pl p => p.d
  | .nest w p => .tuple [.str w, p.d]
abbrev Cols : Type := List (Str × Kd)
abbrev Part : Type := Str × Str × Cols
/-- a dict of columns -/
def ColsAt (K : PySem.W.Frag) (H : Hp) (d : Addr) (cs : Cols) : Prop := ∃ kvs : List (Key × V), H d = some (.dK kvs) ∧ Paired (fun kv c => kv.1 = Sum.inr c.1 ∧ Dp K H kv.2 c.2.d) kvs cs
section
variable {K : PySem.W.Frag} {T : Tb} {H H' : Hp}
theorem Lv.cols (a : Lv T H H') {d : Addr} {cs : Cols} (h : ColsAt K H d cs) : ColsAt K H' d cs := by
  obtain ⟨kvs, h1, h2⟩ := h
  exact ⟨kvs, a.at h1, Paired.imp (fun kv c z => ⟨z.1, a.dp z.2⟩) h2⟩
end
/-! ### what is left where dicts of bad columns may stay locked -/
structure LvX (T : Tb) (D : Addr → Prop) (H H' : Hp) : Prop where
  ext : ∀ b o, H b = some o → NoTb o → ¬ D b → H' b = some o
  tab : LamX.Tabs T H → LamX.Tabs T H'
section
variable {T : Tb} {D : Addr → Prop} {H H1 H' : Hp}
theorem Lv.x (a : Lv T H H') : LvX T D H H' := ⟨fun b o h n _ => a.ext b o h n, a.tab⟩
theorem Lv.thenX (a : Lv T H H1) (b : LvX T D H1 H') : LvX T D H H' := ⟨fun c o h n d => b.ext c o (a.ext c o h n) n d, fun h => b.tab (a.tab h)⟩
theorem Lv.new_of (a : Lv T H H1) (b : LvX T D H1 H') (n : ∀ d, D d → H d = none) : Lv T H H' := by
  refine ⟨fun c o h nt => b.ext c o (a.ext c o h nt) nt fun d => ?_, fun h => b.tab (a.tab h)⟩
  rw [n c d] at h
  cases h
end
/-! ### defs by names -/
abbrev FnP (K : PySem.W.Frag) (x : Str) (st : Stmt) (f : Addr) (fd : FuncData) : Prop := FunD K x x (defArgs st) (defBody st) (defScope st) [] [] f fd
/-- the def of the name x, as the top has left it -/
def DefAt (K : PySem.W.Frag) (mg : Str → Option Value) (x : Str) (st : Stmt) : Prop := ∃ f fd, FnP K x st f fd ∧ mg x = some (.ref f)
/-- the promise of the def of the name x -/
def Cl (P : Program) (w : World) (K : PySem.W.Frag) (mg : Str → Option Value) (base : Heap) (CX : CXT) (k : Nat) (x : Str) (sp : Sp) : Prop :=
  ∃ (f : Addr) (fd : FuncData) (ps : List Str), FnOk P w K mg base CX k f fd ps sp ∧ mg x = some (.ref f) ∧ PySem.W.keepIn K (.ref f) = true ∧ Binds K fd ps []
section
variable {P : Program} {w : World} {K : PySem.W.Frag} {mg : Str → Option Value} {base : Heap}
/-- a def that lets nothing out -/
theorem cl0 {x : Str} {st : Stmt} {N ps : List Str} {k : Nat} {sp : Sp} (D : DefAt K mg x st) (S : FnScope N ps (defScope st))
    (hb : ∀ (kV doc pm : Value) (an : Option Addr) (cdv ct : Value) (us : List Value), us.length = ps.length → bindArgs (PySem.W.fnOf x x (defArgs st) (defBody st) (defScope st) .none kV doc pm an cdv ct) ⟨us, []⟩ = pure (ps.zip us))
    (len : ∀ vs H Q E, sp vs H Q E → vs.length = ps.length)
    (hbody : ∀ (f : Addr) (cdv : Value) (A : Around) (outer : List Env) (s : Shared) (H : Hp) (vs : List V) (Q : VK) (E : XK), Room k (A.deeper (envOfC x (defScope st) s.heap.objs.size f cdv)) → sp vs H Q E →
      ∃ t, PSs (cxOf CX0 P w K mg base N x (defScope st) f cdv A outer s H E).nox (defBody st) t ∧ t { nx := fun _ H' => Q .non H', rt := Q } (start N vs) H) : Cl P w K mg base CX0 (k + 1) x sp := by
  obtain ⟨f, fd, F, hm⟩ := D
  refine ⟨f, fd, ps, F.ok S len fun cdv A outer s H vs Q E hr h => ?_, hm, F.kp, F.bindsN hb⟩
  obtain ⟨t, h1, h2⟩ := hbody f cdv A outer s H vs Q E hr h
  exact ⟨t, h1.nox, h2⟩
/-- a def that may raise -/
theorem clX {x : Str} {st : Stmt} {N ps : List Str} {k : Nat} {sp : Sp} (D : DefAt K mg x st) (S : FnScope N ps (defScope st))
    (hb : ∀ (kV doc pm : Value) (an : Option Addr) (cdv ct : Value) (us : List Value), us.length = ps.length → bindArgs (PySem.W.fnOf x x (defArgs st) (defBody st) (defScope st) .none kV doc pm an cdv ct) ⟨us, []⟩ = pure (ps.zip us))
    (len : ∀ vs H Q E, sp vs H Q E → vs.length = ps.length)
    (hbody : ∀ (f : Addr) (cdv : Value) (A : Around) (outer : List Env) (s : Shared) (H : Hp) (vs : List V) (Q : VK) (E : XK), Room k (A.deeper (envOfC x (defScope st) s.heap.objs.size f cdv)) → sp vs H Q E →
      ∃ t, PSs (cxOf (L2.CX P w) P w K mg base N x (defScope st) f cdv A outer s H E) (defBody st) t ∧ t { nx := fun _ H' => Q .non H', rt := Q } (start N vs) H) : Cl P w K mg base (L2.CX P w) (k + 1) x sp := by
  obtain ⟨f, fd, F, hm⟩ := D
  exact ⟨f, fd, ps, F.ok S len fun cdv A outer s H vs Q E hr h => hbody f cdv A outer s H vs Q E hr h, hm, F.kp, F.bindsN hb⟩
theorem Cl.imp {CX : CXT} {k : Nat} {x : Str} {sp sp' : Sp} (c : Cl P w K mg base CX k x sp) (h : ∀ vs H Q E, sp' vs H Q E → sp vs H Q E) : Cl P w K mg base CX k x sp' := by
  obtain ⟨f, fd, ps, F, r⟩ := c
  exact ⟨f, fd, ps, F.imp h, r⟩
end
section
variable {X : Cx} {k j : Nat} {x : Str} {sp : Sp} {E : XK} {e : Expr} {es : List Expr} {t : TA} {p pos : Pos}
theorem pe_cl (c : Cl X.prog X.w X.K X.mg X.base CX0 k x sp) (hr : Room j X.A) (ha : PA X (e :: es) t) (hk : k ≤ j := by decide) (hg : Gl X x := by rfl)
    (hdb : (x == ("__debug__" : Str)) = false := by decide) (he : starEach (e :: es) X.env = (false, eval e X.env) :: starEach es X.env := by rfl) (hpl : (backTo pos (starEach es X.env)).any (·.1) = false := by rfl) :
    PE X (.Call (.Name x p) (e :: es) [] pos) (tCall sp [] E0 t) := by
  obtain ⟨f, fd, ps, F, hm, kp, b⟩ := c
  exact pe_call F (hr.mono hk) hg hm kp b .nil L2.pass0 ha hdb he hpl
theorem pe_clX (c : Cl X.prog X.w X.K X.mg X.base (L2.CX X.prog X.w) k x sp) (hr : Room j X.A) (hx : Passes (L2.CX X.prog X.w) X E) (ha : PA X (e :: es) t) (hk : k ≤ j := by decide) (hg : Gl X x := by rfl)
    (hdb : (x == ("__debug__" : Str)) = false := by decide) (he : starEach (e :: es) X.env = (false, eval e X.env) :: starEach es X.env := by rfl) (hpl : (backTo pos (starEach es X.env)).any (·.1) = false := by rfl) :
    PE X (.Call (.Name x p) (e :: es) [] pos) (tCall sp [] E t) := by
  obtain ⟨f, fd, ps, F, hm, kp, b⟩ := c
  exact pe_call F (hr.mono hk) hg hm kp b .nil hx ha hdb he hpl
/-- within a try's body -/
theorem pe_clS {W : WX} (c : Cl X.prog X.w X.K X.mg X.base (L2.CX X.prog X.w) k x sp) (hr : Room j X.A) (tk : Takes X W) (ha : PA X (e :: es) t) (hk : k ≤ j := by decide) (hg : Gl X x := by rfl)
    (hdb : (x == ("__debug__" : Str)) = false := by decide) (he : starEach (e :: es) X.env = (false, eval e X.env) :: starEach es X.env := by rfl) (hpl : (backTo pos (starEach es X.env)).any (·.1) = false := by rfl) :
    PE X (.Call (.Name x p) (e :: es) [] pos) (tCallS sp (WE W) t) := by
  obtain ⟨f, fd, ps, F, hm, kp, b⟩ := c
  exact pe_callS F (hr.mono hk) hg hm kp b (fun σ => passAt tk σ) ha hdb he hpl
end
end HM
set_option Elab.async false
set_option linter.all false
set_option maxRecDepth 100000
set_option maxHeartbeats 4000000
namespace HM
open PySem PySem.Spec PyProof.Rows L2
/-! ### walks of any iterator, by its turns -/
theorem for_by {J : It} {g : TG} {tb : TS} {D : Ends} {σ : L2.St} {H : Hp} (n : Nat) (Pv : Nat → L2.St → Hp → Prop) (h0 : Pv 0 σ H) (hgo : ∀ i σ H, i < n → Pv i σ H → J.go i H) (hst : ∀ σ H, Pv n σ H → J.stop n H)
    (hs : ∀ i x σ H H', i < n → Pv i σ H → J.yld i H x H' → g x σ H' fun σ2 H2 => tb { D with nx := Pv (i + 1), ct := Pv (i + 1), bk := D.nx } σ2 H2) (hd : ∀ σ H, Pv n σ H → D.nx σ H) :
    ∃ W : Nat → Nat → L2.St → Hp → Prop, (∃ m, W 0 m σ H) ∧ ∀ i m σ H, W i m σ H →
      (J.stop i H ∧ D.nx σ H) ∨ (J.go i H ∧ ∃ N : L2.St → Hp → Prop, (∀ σ' H', N σ' H' → ∃ m', m' < m ∧ W (i + 1) m' σ' H') ∧ ∀ x H', J.yld i H x H' → g x σ H' fun σ2 H2 => tb { D with nx := N, ct := N, bk := D.nx } σ2 H2) := by
  refine ⟨fun i m σ H => m = n - i ∧ i ≤ n ∧ Pv i σ H, ⟨n, by simp, Nat.zero_le _, h0⟩, ?_⟩
  rintro i m σ H ⟨rfl, hi, p⟩
  by_cases hlt : i < n
  · exact .inr ⟨hgo i σ H hlt p, Pv (i + 1), fun σ' H' p' => ⟨n - (i + 1), by omega, rfl, hlt, p'⟩, fun x H' y => hs i x σ H H' hlt p y⟩
  · have e : i = n := by omega
    subst e
    exact .inl ⟨hst σ H p, hd σ H p⟩
theorem lc_by {J : It} {g : TG} {tt : TT} {te : TE} {vs : List Nat} {σ : L2.St} {H1 : Hp} {D : Addr} {Qd : Hp → Prop} (n : Nat) (Pv : Nat → Hp → Prop) (h0 : Pv 0 (upd H1 D (.lst []))) (hgo : ∀ i H, i < n → Pv i H → J.go i H) (hst : ∀ H, Pv n H → J.stop n H)
    (hs : ∀ i x H H', i < n → Pv i H → J.yld i H x H' → g x (wipe σ vs) H' fun σ2 H2 => wipe σ2 vs = wipe σ vs ∧ tt σ2 H2 fun b H3 =>
      if b = true then te σ2 H3 fun y H4 => ∃ acc, H4 D = some (.lst acc) ∧ acc.length < sizeLine ∧ Pv (i + 1) (upd H4 D (.lst (acc ++ [y]))) else Pv (i + 1) H3) (hd : ∀ H, Pv n H → Qd H) :
    ∃ W : Nat → Nat → Hp → Prop, (∃ m, W 0 m (upd H1 D (.lst []))) ∧ ∀ i m H, W i m H →
      (J.stop i H ∧ Qd H) ∨ (J.go i H ∧ ∃ Nx : Hp → Prop, (∀ H', Nx H' → ∃ m', m' < m ∧ W (i + 1) m' H') ∧ ∀ x H', J.yld i H x H' → g x (wipe σ vs) H' fun σ2 H2 => wipe σ2 vs = wipe σ vs ∧ tt σ2 H2 fun b H3 =>
        if b = true then te σ2 H3 fun y H4 => ∃ acc, H4 D = some (.lst acc) ∧ acc.length < sizeLine ∧ Nx (upd H4 D (.lst (acc ++ [y]))) else Nx H3) := by
  refine ⟨fun i m H => m = n - i ∧ i ≤ n ∧ Pv i H, ⟨n, by simp, Nat.zero_le _, h0⟩, ?_⟩
  rintro i m H ⟨rfl, hi, p⟩
  by_cases hlt : i < n
  · exact .inr ⟨hgo i H hlt p, Pv (i + 1), fun H' p' => ⟨n - (i + 1), by omega, rfl, hlt, p'⟩, fun x H' y => hs i x H H' hlt p y⟩
  · have e : i = n := by omega
    subst e
    exact .inl ⟨hst H p, hd H p⟩
/-! ### isinstance(e, T), T a built-in type -/
def rIsiB (K : PySem.W.Frag) : List V → Hp → VK → Prop := fun xs H Q => ∃ (x : V) (T t : String) (b : Bool), xs = [x, .ty T] ∧ TyX K H x (.type t) ∧ kitB t T = some b ∧ Q (.bl b) H
section
variable {X : Cx}
theorem call_isB : CallR X (.builtin "isinstance") (rIsiB X.K) := by
  intro pins s σ H xs us Q I r ⟨x, T, t, b, e, ty, k, q⟩
  exact call_isi pins s σ H xs us Q I r ⟨x, .ty T, .type t, .type T, b, e, .ty T, ty, kit_ty k, q⟩
theorem pe_isi {a : Expr} {ta : TE} {n : Str} {T : String} {p p2 pos : Pos} (mi : X.mg "isinstance" = none) (mn : X.mg n = none) (ha : PE X a ta) (hv : bootBuiltins n = some (.type T) := by decide +kernel) (gi : Gl X "isinstance" := by rfl) (gn : Gl X n := by rfl)
    (hn : n ≠ "__name__" := by decide) (hd : (n == ("__debug__" : Str)) = false := by decide)
    (he : starEach [a, .Name n p2] X.env = (false, eval a X.env) :: starEach [.Name n p2] X.env := by rfl) (he2 : starEach [.Name n p2] X.env = (false, eval (.Name n p2) X.env) :: starEach [] X.env := by rfl)
    (hpl : (backTo pos (starEach [.Name n p2] X.env)).any (·.1) = false := by rfl) :
    PE X (.Call (.Name "isinstance" p) [a, .Name n p2] [] pos) (tCB (rIsiB X.K) (tCons ta (tCons (tC (.ty T)) tNil))) :=
  pe_callB (id := "isinstance") call_isB gi mi (by decide +kernel) (pa_cons ha (pa_cons (pe_bltn (v := .ty T) gn mn hv rfl hn hd) pa_nil he2) he) (by decide) (by decide) he hpl
end
/-! ### tests whose answer is known -/
theorem ifF {c : Bool} {A B : Prop} (h : c = false) (b : B) : if c = true then A else B := by
  rw [h]
  exact iteF b
theorem ifT {c : Bool} {A B : Prop} (h : c = true) (a : A) : if c = true then A else B := by
  rw [h]
  exact iteT a
theorem dS (a b : Str) : decide (V.str a = V.str b) = decide (a = b) := by
  by_cases h : a = b
  · rw [decide_eq_true h, decide_eq_true (congrArg V.str h)]
  · rw [decide_eq_false h, decide_eq_false fun e => h (V.str.inj e)]
theorem dI (a b : Int) : decide (V.int a = V.int b) = decide (a = b) := by
  by_cases h : a = b
  · rw [decide_eq_true h, decide_eq_true (congrArg V.int h)]
  · rw [decide_eq_false h, decide_eq_false fun e => h (V.int.inj e)]
theorem dB (a b : Bool) : decide (V.bl a = V.bl b) = (a == b) := by
  cases a <;> cases b <;> rfl
/-! ### a tuple's type, its items -/
theorem tyx_tup {K : PySem.W.Frag} {H : Hp} {a : Addr} {xs : List V} (h : SqT K H a xs) : TyX K H (.ref a) (.type "tuple") := by
  rcases h with (h | ⟨o, h⟩) | ⟨o, its, n, h1, h2, _⟩
  · exact .base (.tup h)
  · exact .fTuple h
  · exact .kTuple h1 h2
theorem dp_tup {K : PySem.W.Frag} {H : Hp} {x : V} {ds : List PyData} (h : Dp K H x (.tuple ds)) : ∃ a xs, x = .ref a ∧ SqT K H a xs ∧ DpAll K H xs ds := by
  cases h with
  | tup hs ha => exact ⟨_, _, rfl, hs, ha⟩
theorem dp_str {K : PySem.W.Frag} {H : Hp} {x : V} {z : Str} (h : Dp K H x (.str z)) : x = .str z := by
  cases h
  rfl
theorem dp_int {K : PySem.W.Frag} {H : Hp} {x : V} {i : Int} (h : Dp K H x (.int i)) : x = .int i := by
  cases h
  rfl
theorem dps1 {K : PySem.W.Frag} {H : Hp} {xs : List V} {d : PyData} (h : DpAll K H xs [d]) : ∃ x, xs = [x] ∧ Dp K H x d := by
  cases h with
  | cons h1 h2 =>
    cases h2
    exact ⟨_, rfl, h1⟩
theorem dps2 {K : PySem.W.Frag} {H : Hp} {xs : List V} {d e : PyData} (h : DpAll K H xs [d, e]) : ∃ x y, xs = [x, y] ∧ Dp K H x d ∧ Dp K H y e := by
  cases h with
  | cons h1 h2 =>
    obtain ⟨y, rfl, h3⟩ := dps1 h2
    exact ⟨_, y, rfl, h1, h3⟩
theorem dps3 {K : PySem.W.Frag} {H : Hp} {xs : List V} {d e f : PyData} (h : DpAll K H xs [d, e, f]) : ∃ x y z, xs = [x, y, z] ∧ Dp K H x d ∧ Dp K H y e ∧ Dp K H z f := by
  cases h with
  | cons h1 h2 =>
    obtain ⟨y, z, rfl, h3, h4⟩ := dps2 h2
    exact ⟨_, y, z, rfl, h1, h3, h4⟩
end HM
set_option Elab.async false
set_option linter.all false
set_option maxRecDepth 100000
set_option maxHeartbeats 4000000
namespace HM
open PySem PySem.Spec PyProof.Rows L2
/-! ### what the names of the top stand for: built-ins, constants -/
abbrev LET : Str := "abcdefghijklmnopqrstuvwxyz"
structure Bt (mg : Str → Option Value) : Prop where
  isi : mg "isinstance" = none
  len : mg "len" = none
  int : mg "int" = none
  bool : mg "bool" = none
  str : mg "str" = none
  tuple : mg "tuple" = none
  enum : mg "enumerate" = none
  sorted : mg "sorted" = none
  dict : mg "dict" = none
  range : mg "range" = none
  zip : mg "zip" = none
  rev : mg "reversed" = none
  ve : mg "ValueError" = none
  longest : ∃ t, mg "LONGEST" = some (.int 8 t)
  letters : ∃ t, mg "LETTERS" = some (.str LET t)
/-! ### kinds, names, in plain words -/
def isNameB (z : Str) : Bool := decide (1 ≤ z.cps.size ∧ z.cps.size ≤ 8) && z.cps.toList.all fun c => decide (c ∈ LET.cps.toList)
def Pl.ok : Pl → Bool
  | .one w => decide (w = "whole") || decide (w = "word")
  | .int w i => (decide (w = "below") && decide (1 ≤ i)) || decide (w = "upto")
  | .str w s => decide (w = "without") && decide (s.cps.size = 1)
def Kd.plain : Kd → Bool
  | .pl p => p.ok
  | .nest _ _ => false
def Kd.ok : Kd → Bool
  | .pl (.one w) => (Pl.one w).ok || decide (w = "key")
  | .pl p => p.ok
  | .nest w p => (decide (w = "list") || decide (w = "some") || decide (w = "once")) && p.ok
/-- the length of its text -/
def Kd.len : Kd → Nat
  | .pl (.str _ s) => s.length
  | .nest _ (.str _ s) => s.length
  | _ => 0
/-- where is_kind is asked -/
structure Kd.Dom (k : Kd) : Prop where
  sh : SeqAt.shaped k.d = true
  ln : k.len ≤ sizeLine
  ok : (∃ w, k = .pl (.one w)) ∨ (∃ p, k = .pl p ∧ p.ok = true) ∨ ∃ w p, k = .nest w p
section
variable {P : Program} {w : World} {K : PySem.W.Frag} {mg : Str → Option Value} {base : Heap}
/-! ### is_whole -/
def spIsWhole (K : PySem.W.Frag) : Sp := fun vs H Q _ => ∃ (x : V) (t : String), vs = [x] ∧ TyX K H x (.type t) ∧ (t = "int" ∨ t = "str" ∨ t = "tuple") ∧ Q (.bl (decide (t = "int"))) H
theorem scIsWhole : FnScope ["thing"] ["thing"] (defScope sIsWhole) := ⟨rfl, rfl, rfl, by decide +kernel, rfl, by decide +kernel, by decide +kernel⟩
theorem ok_is_whole (D : DefAt K mg "is_whole" sIsWhole) (B : Bt mg) : Cl P w K mg base CX0 1 "is_whole" (spIsWhole K) := by
  refine cl0 D scIsWhole (fun _ _ _ _ _ _ us hl => match us, hl with | [_], _ => rfl) (fun vs H Q E h => ?_) fun f cdv A outer s H vs Q E hr h => ?_
  · obtain ⟨x, t, rfl, _⟩ := h
    rfl
  obtain ⟨x, t, rfl, ty, ht, q⟩ := h
  refine ⟨_, pss_one (ps_ret (pe_and (pe_isi (T := "int") B.isi B.int (pv 0)) (pe_one (pe_not (pe_isi (T := "bool") B.isi B.bool (pv 0)))))), ?_⟩
  rcases ht with rfl | rfl | rfl
  · exact ⟨x, rfl, x, "int", "int", true, rfl, ty, by decide +kernel, true, rfl, iteT ⟨x, rfl, x, "bool", "int", false, rfl, ty, by decide +kernel, false, rfl, q⟩⟩
  · exact ⟨x, rfl, x, "int", "str", false, rfl, ty, by decide +kernel, false, rfl, iteF q⟩
  · exact ⟨x, rfl, x, "int", "tuple", false, rfl, ty, by decide +kernel, false, rfl, iteF q⟩
/-! ### is_name -/
def spIsName : Sp := fun vs H Q _ => ∃ z : Str, vs = [.str z] ∧ z.length ≤ sizeLine ∧ Q (.bl (isNameB z)) H
theorem scIsName : FnScope ["thing", "sign"] ["thing"] (defScope sIsName) := ⟨rfl, rfl, rfl, by decide +kernel, rfl, by decide +kernel, by decide +kernel⟩
theorem ok_is_name (D : DefAt K mg "is_name" sIsName) (B : Bt mg) : Cl P w K mg base CX0 1 "is_name" spIsName := by
  obtain ⟨tl, hL⟩ := B.longest
  obtain ⟨tt, hT⟩ := B.letters
  refine cl0 D scIsName (fun _ _ _ _ _ _ us hl => match us, hl with | [_], _ => rfl) (fun vs H Q E h => ?_) fun f cdv A outer s H vs Q E hr h => ?_
  · obtain ⟨z, rfl, _⟩ := h
    rfl
  obtain ⟨z, rfl, hz, q⟩ := h
  refine ⟨_, pss_cons (ps_if (PW.pt (pw_or (pt_not (pt_val (pe_isi (T := "str") B.isi B.str (pv 0)))) (pw_or1 (pt_not (pt_chain op_le op_le pe_int (pe_callB call_len_str (by rfl) B.len PySem.boot_len (pa_cons (pv 0) pa_nil)) (pe_glob (v := .int 8) rfl hL ⟨_, rfl⟩))))))
      (pss_one (ps_ret pe_bl)) pss_nil)
    (pss_cons (ps_for PassesOwn.never rfl (pi_str (pv 0)) (pg_name (i := 1) scIsName.nd rfl (.inl rfl))
      (pss_one (ps_if (pt_cmpR op_notIn_sign (pv 1) (pe_glob (v := .str LET) rfl hT ⟨_, rfl⟩) rfl) (pss_one (ps_ret pe_bl)) pss_nil)))
    (pss_one (ps_ret pe_bl))), ?_⟩
  refine ⟨.str z, rfl, .str z, "str", "str", true, rfl, .base (.str z), by decide +kernel, true, rfl, iteF ?_⟩
  refine ⟨.str z, rfl, z, rfl, hz, 1, (z.length : Int), rfl, rfl, _, rfl, ?_⟩
  have hl : (z.length : Int) = (z.cps.size : Int) := rfl
  by_cases h1 : (1 : Int) ≤ (z.length : Int)
  · rw [decide_eq_true h1]
    refine iteT ⟨_, _, rfl, rfl, _, rfl, ?_⟩
    by_cases h8 : (z.length : Int) ≤ 8
    · rw [decide_eq_true h8]
      refine iteF ⟨.str z, rfl, z, rfl, ?_⟩
      refine for_by z.cps.size (fun i σ H' => ∃ y, σ = [some (.str z), y] ∧ H' = H ∧ ((z.cps.toList.take i).all fun c => decide (c ∈ LET.cps.toList)) = true) ⟨none, rfl, rfl, rfl⟩ (fun i σ H' hi _ => hi) (fun σ H' _ => Nat.le_refl _) (fun i x σ H' H2 hi hp hy => ?_) fun σ H' hp => ?_
      · obtain ⟨y, rfl, rfl, ha⟩ := hp
        obtain ⟨rfl, c, hc, rfl⟩ := hy
        refine ⟨_, rfl, c, LET, rfl, rfl, _, rfl, ?_⟩
        have hc' : z.cps.toList[i]? = some c := by rw [Array.getElem?_toList]; exact hc
        by_cases hm : c ∈ LET.cps.toList
        · rw [decide_eq_true hm]
          refine iteF ⟨_, rfl, rfl, ?_⟩
          rw [List.take_add_one, hc', List.all_append, ha, Option.toList_some, List.all_cons, decide_eq_true hm]
          rfl
        · rw [decide_eq_false hm]
          refine iteT ?_
          have e : isNameB z = false := by
            unfold isNameB
            rw [Bool.and_eq_false_iff]
            refine .inr (List.all_eq_false.mpr ⟨c, List.mem_of_getElem? hc', by simp [hm]⟩)
          rw [e] at q
          exact q
      · obtain ⟨y, rfl, rfl, ha⟩ := hp
        have e : isNameB z = true := by
          unfold isNameB
          rw [Bool.and_eq_true]
          refine ⟨decide_eq_true ⟨by omega, by omega⟩, ?_⟩
          rw [List.take_of_length_le (by simp)] at ha
          exact ha
        rw [e] at q
        exact q
    · rw [decide_eq_false h8]
      have e : isNameB z = false := by
        unfold isNameB
        rw [decide_eq_false (fun k => h8 (by omega))]
        rfl
      rw [e] at q
      exact iteT q
  · rw [decide_eq_false h1]
    have e : isNameB z = false := by
      unfold isNameB
      rw [decide_eq_false (fun k => h1 (by omega))]
      rfl
    rw [e] at q
    exact iteF ⟨_, rfl, iteT q⟩
/-! ### is_plain -/
def spIsPlain (K : PySem.W.Frag) : Sp := fun vs H Q _ => ∃ (x : V) (k : Kd), vs = [x] ∧ Dp K H x k.d ∧ (∀ w s, k = .pl (.str w s) → s.length ≤ sizeLine) ∧ Q (.bl k.plain) H
theorem scIsPlain : FnScope ["thing", "word"] ["thing"] (defScope sIsPlain) := ⟨rfl, rfl, rfl, by decide +kernel, rfl, by decide +kernel, by decide +kernel⟩
theorem kd_tup (k : Kd) : ∃ w r, k.d = .tuple (.str w :: r) := by
  rcases k with (w | ⟨w, i⟩ | ⟨w, s⟩) | ⟨w, p⟩ <;> exact ⟨w, _, rfl⟩
theorem pl_tup (p : Pl) : ∃ w r, p.d = .tuple (.str w :: r) := by
  rcases p with w | ⟨w, i⟩ | ⟨w, s⟩ <;> exact ⟨w, _, rfl⟩
theorem ok_is_plain (D : DefAt K mg "is_plain" sIsPlain) (DW : DefAt K mg "is_whole" sIsWhole) (B : Bt mg) : Cl P w K mg base CX0 2 "is_plain" (spIsPlain K) := by
  have GW := ok_is_whole (P := P) (w := w) (base := base) DW B
  refine cl0 D scIsPlain (fun _ _ _ _ _ _ us hl => match us, hl with | [_], _ => rfl) (fun vs H Q E h => ?_) fun f cdv A outer s H vs Q E hr h => ?_
  · obtain ⟨x, k, rfl, _⟩ := h
    rfl
  obtain ⟨x, k, rfl, hd, hsz, q⟩ := h
  have nd := scIsPlain.nd
  refine ⟨_, pss_cons (ps_if (PW.pt (pw_or (pt_not (pt_val (pe_isi (T := "tuple") B.isi B.tuple (pv 0)))) (pw_or1 (pt_cmpR op_eq (pe_callB call_len_seq (by rfl) B.len PySem.boot_len (pa_cons (pv 0) pa_nil)) pe_int (nomark _))))) (pss_one (ps_ret pe_bl)) pss_nil)
    (pss_cons (ps_set (i := 1) nd rfl (.inl rfl) (pe_ix ix_tup (pv 0) pe_int (fun _ _ => rfl)))
    (pss_cons (ps_if (pt_cmpR op_eq (pe_callB call_len_seq (by rfl) B.len PySem.boot_len (pa_cons (pv 0) pa_nil)) pe_int (nomark _)) (pss_one (ps_ret (pe_or (pe_cmpR op_eq (pv 1) pe_str (nomark _)) (pe_one (pe_cmpR op_eq (pv 1) pe_str (nomark _)))))) pss_nil)
    (pss_cons (ps_if (pt_cmpR op_gt (pe_callB call_len_seq (by rfl) B.len PySem.boot_len (pa_cons (pv 0) pa_nil)) pe_int (nomark _)) (pss_one (ps_ret pe_bl)) pss_nil)
    (pss_cons (ps_if (pt_cmpR op_eq (pv 1) pe_str (nomark _)) (pss_one (ps_ret (pe_and (pe_cl GW hr (pa_cons (pe_ix ix_tup (pv 0) pe_int (fun _ _ => rfl)) pa_nil)) (pe_one (pe_cmpR op_ge (pe_ix ix_tup (pv 0) pe_int (fun _ _ => rfl)) pe_int (nomark _)))))) pss_nil)
    (pss_cons (ps_if (pt_cmpR op_eq (pv 1) pe_str (nomark _)) (pss_one (ps_ret (pe_cl GW hr (pa_cons (pe_ix ix_tup (pv 0) pe_int (fun _ _ => rfl)) pa_nil)))) pss_nil)
    (pss_one (ps_ret (pe_and (pe_cmpR op_eq (pv 1) pe_str (nomark _)) (pe_and (pe_isi (T := "str") B.isi B.str (pe_ix ix_tup (pv 0) pe_int (fun _ _ => rfl))) (pe_one (pe_cmpR op_eq (pe_callB call_len_str (by rfl) B.len PySem.boot_len (pa_cons (pe_ix ix_tup (pv 0) pe_int (fun _ _ => rfl)) pa_nil)) pe_int (nomark _)))))))))))), ?_⟩
  obtain ⟨w0, r0, ek⟩ := kd_tup k
  rw [ek] at hd
  obtain ⟨a, xs, rfl, hS, hA⟩ := dp_tup hd
  cases hA with
  | @cons y ys _ _ hy hys =>
    obtain rfl := dp_str hy
    refine ⟨.ref a, rfl, .ref a, "tuple", "tuple", true, rfl, tyx_tup hS, by decide +kernel, true, rfl, iteF ⟨.ref a, rfl, a, _, rfl, .inr hS, rfl, _, rfl, ?_⟩⟩
    refine ifF (by rw [dI]; exact decide_eq_false (by rw [List.length_cons]; omega)) ?_
    refine ⟨.ref a, rfl, a, _, 0, .str w0, rfl, rfl, hS, atI_nat (j := 0) rfl, ?_⟩
    refine ⟨.ref a, rfl, a, _, rfl, .inr hS, rfl, _, rfl, ?_⟩
    have len2 : ∀ {y1 : V}, ys = [y1] → decide (V.int ((V.str w0 :: ys).length : Nat) = V.int 1) = false := fun {y1} e => by
      rw [dI, e]
      exact decide_eq_false (by simp)
    have gt2 : ∀ {y1 : V}, ys = [y1] → decide ((2 : Int) < ((V.str w0 :: ys).length : Nat)) = false := fun {y1} e => by
      rw [e]
      exact decide_eq_false (by simp)
    rcases k with (w1 | ⟨w1, i⟩ | ⟨w1, z⟩) | ⟨w1, p⟩
    · -- one text
      have e := PyData.tuple.inj ek
      injection e with e1 e2
      obtain rfl := PyData.str.inj e1
      subst e2
      cases hys
      refine ifT rfl ⟨_, rfl, rfl, _, rfl, ?_⟩
      have hq : Q (.bl (decide (w1 = "whole") || decide (w1 = "word"))) H := q
      rw [dS]
      by_cases h1 : w1 = "whole"
      · rw [decide_eq_true h1] at hq ⊢
        exact iteT hq
      · rw [decide_eq_false h1] at hq ⊢
        refine iteF ⟨_, rfl, rfl, ?_⟩
        rw [dS]
        exact hq
    · -- a text, an int
      have e := PyData.tuple.inj ek
      injection e with e1 e2
      obtain rfl := PyData.str.inj e1
      subst e2
      obtain ⟨y1, e3, hy1⟩ := dps1 hys
      obtain rfl := dp_int hy1
      refine ifF (len2 e3) ⟨.ref a, rfl, a, _, rfl, .inr hS, _, 2, rfl, rfl, _, rfl, ifF (gt2 e3) ?_⟩
      subst e3
      refine ⟨_, rfl, rfl, _, rfl, ?_⟩
      have hq : Q (.bl ((decide (w1 = "below") && decide (1 ≤ i)) || decide (w1 = "upto"))) H := q
      rw [dS]
      by_cases h1 : w1 = "below"
      · have h2 : decide (w1 = "upto") = false := by rw [h1]; decide +kernel
        rw [decide_eq_true h1, h2, Bool.true_and, Bool.or_false] at hq
        rw [decide_eq_true h1]
        refine iteT ⟨.ref a, rfl, a, _, 1, .int i, rfl, rfl, hS, atI_nat (j := 1) rfl, .int i, "int", rfl, .base (.int i), .inl rfl, true, rfl, iteT ?_⟩
        exact ⟨.ref a, rfl, a, _, 1, .int i, rfl, rfl, hS, atI_nat (j := 1) rfl, i, 1, rfl, rfl, hq⟩
      · rw [decide_eq_false h1] at hq ⊢
        refine iteF ⟨_, rfl, rfl, _, rfl, ?_⟩
        rw [dS]
        by_cases h2 : w1 = "upto"
        · rw [decide_eq_true h2] at hq ⊢
          exact iteT ⟨.ref a, rfl, a, _, 1, .int i, rfl, rfl, hS, atI_nat (j := 1) rfl, .int i, "int", rfl, .base (.int i), .inl rfl, hq⟩
        · rw [decide_eq_false h2] at hq ⊢
          refine iteF ⟨_, rfl, rfl, _, rfl, ?_⟩
          rw [dS]
          by_cases h3 : w1 = "without"
          · rw [decide_eq_true h3]
            refine iteT ⟨.ref a, rfl, a, _, 1, .int i, rfl, rfl, hS, atI_nat (j := 1) rfl, .int i, "str", "int", false, rfl, .base (.int i), by decide +kernel, false, rfl, iteF ?_⟩
            exact hq
          · rw [decide_eq_false h3]
            exact iteF hq
    · -- a text, a text
      have e := PyData.tuple.inj ek
      injection e with e1 e2
      obtain rfl := PyData.str.inj e1
      subst e2
      obtain ⟨y1, e3, hy1⟩ := dps1 hys
      obtain rfl := dp_str hy1
      refine ifF (len2 e3) ⟨.ref a, rfl, a, _, rfl, .inr hS, _, 2, rfl, rfl, _, rfl, ifF (gt2 e3) ?_⟩
      subst e3
      refine ⟨_, rfl, rfl, _, rfl, ?_⟩
      have hq : Q (.bl (decide (w1 = "without") && decide (z.cps.size = 1))) H := q
      rw [dS]
      by_cases h1 : w1 = "below"
      · have h2 : decide (w1 = "without") = false := by rw [h1]; decide +kernel
        rw [h2] at hq
        rw [decide_eq_true h1]
        exact iteT ⟨.ref a, rfl, a, _, 1, .str z, rfl, rfl, hS, atI_nat (j := 1) rfl, .str z, "str", rfl, .base (.str z), .inr (.inl rfl), false, rfl, iteF hq⟩
      · rw [decide_eq_false h1]
        refine iteF ⟨_, rfl, rfl, _, rfl, ?_⟩
        rw [dS]
        by_cases h2 : w1 = "upto"
        · have h3 : decide (w1 = "without") = false := by rw [h2]; decide +kernel
          rw [h3] at hq
          rw [decide_eq_true h2]
          exact iteT ⟨.ref a, rfl, a, _, 1, .str z, rfl, rfl, hS, atI_nat (j := 1) rfl, .str z, "str", rfl, .base (.str z), .inr (.inl rfl), hq⟩
        · rw [decide_eq_false h2]
          refine iteF ⟨_, rfl, rfl, _, rfl, ?_⟩
          rw [dS]
          by_cases h3 : w1 = "without"
          · rw [decide_eq_true h3, Bool.true_and] at hq
            rw [decide_eq_true h3]
            refine iteT ⟨.ref a, rfl, a, _, 1, .str z, rfl, rfl, hS, atI_nat (j := 1) rfl, .str z, "str", "str", true, rfl, .base (.str z), by decide +kernel, true, rfl, iteT ?_⟩
            refine ⟨.ref a, rfl, a, _, 1, .str z, rfl, rfl, hS, atI_nat (j := 1) rfl, z, rfl, hsz _ _ rfl, rfl, ?_⟩
            rw [dI]
            have e5 : decide ((z.length : Int) = 1) = decide (z.cps.size = 1) := by
              have e6 : (z.length : Int) = (z.cps.size : Int) := rfl
              by_cases h7 : z.cps.size = 1
              · rw [decide_eq_true h7, decide_eq_true (by omega)]
              · rw [decide_eq_false h7, decide_eq_false (by omega)]
            rw [e5]
            exact hq
          · rw [decide_eq_false h3] at hq ⊢
            exact iteF hq
    · -- a text, a plain kind
      have e := PyData.tuple.inj ek
      injection e with e1 e2
      obtain rfl := PyData.str.inj e1
      subst e2
      obtain ⟨y1, e3, hy1⟩ := dps1 hys
      obtain ⟨w2, r2, ep⟩ := pl_tup p
      rw [ep] at hy1
      obtain ⟨a1, xs1, rfl, hS1, _⟩ := dp_tup hy1
      refine ifF (len2 e3) ⟨.ref a, rfl, a, _, rfl, .inr hS, _, 2, rfl, rfl, _, rfl, ifF (gt2 e3) ?_⟩
      subst e3
      refine ⟨_, rfl, rfl, _, rfl, ?_⟩
      have hq : Q (.bl false) H := q
      rw [dS]
      by_cases h1 : w1 = "below"
      · rw [decide_eq_true h1]
        exact iteT ⟨.ref a, rfl, a, _, 1, .ref a1, rfl, rfl, hS, atI_nat (j := 1) rfl, .ref a1, "tuple", rfl, tyx_tup hS1, .inr (.inr rfl), false, rfl, iteF hq⟩
      · rw [decide_eq_false h1]
        refine iteF ⟨_, rfl, rfl, _, rfl, ?_⟩
        rw [dS]
        by_cases h2 : w1 = "upto"
        · rw [decide_eq_true h2]
          exact iteT ⟨.ref a, rfl, a, _, 1, .ref a1, rfl, rfl, hS, atI_nat (j := 1) rfl, .ref a1, "tuple", rfl, tyx_tup hS1, .inr (.inr rfl), hq⟩
        · rw [decide_eq_false h2]
          refine iteF ⟨_, rfl, rfl, _, rfl, ?_⟩
          rw [dS]
          by_cases h3 : w1 = "without"
          · rw [decide_eq_true h3]
            exact iteT ⟨.ref a, rfl, a, _, 1, .ref a1, rfl, rfl, hS, atI_nat (j := 1) rfl, .ref a1, "str", "tuple", false, rfl, tyx_tup hS1, by decide +kernel, false, rfl, iteF hq⟩
          · rw [decide_eq_false h3]
            exact iteF hq
/-! ### is_kind -/
def spIsKind (T : Tb) (K : PySem.W.Frag) : Sp := fun vs H Q _ => ∃ (x : V) (k : Kd), vs = [x] ∧ Dp K H x k.d ∧ k.Dom ∧ ∀ H', Lv T H H' → Q (.bl k.ok) H'
theorem scIsKind : FnScope ["thing"] ["thing"] (defScope sIsKind) := ⟨rfl, rfl, rfl, by decide +kernel, rfl, by decide +kernel, by decide +kernel⟩
abbrev keyD : PyData := .tuple [.str "key"]
theorem eqv_key (k : Kd) : PyData.eqv k.d keyD = match k with
    | .pl (.one w) => decide (w = "key")
    | _ => false := by
  rcases k with (w | ⟨w, i⟩ | ⟨w, z⟩) | ⟨w, p⟩
  · show (PyData.eqv (.str w) (.str "key") && true) = _
    rw [Bool.and_true]
    rfl
  · show (PyData.eqv (.str w) (.str "key") && false) = _
    rw [Bool.and_false]
  · show (PyData.eqv (.str w) (.str "key") && false) = _
    rw [Bool.and_false]
  · show (PyData.eqv (.str w) (.str "key") && false) = _
    rw [Bool.and_false]
theorem shaped_keyD : SeqAt.shaped keyD = true := by decide +kernel
theorem ok_is_kind (T : Tb) (D : DefAt K mg "is_kind" sIsKind) (DP : DefAt K mg "is_plain" sIsPlain) (DW : DefAt K mg "is_whole" sIsWhole) (B : Bt mg) : Cl P w K mg base CX0 3 "is_kind" (spIsKind T K) := by
  have GP := ok_is_plain (P := P) (w := w) (base := base) DP DW B
  refine cl0 D scIsKind (fun _ _ _ _ _ _ us hl => match us, hl with | [_], _ => rfl) (fun vs H Q E h => ?_) fun f cdv A outer s H vs Q E hr h => ?_
  · obtain ⟨x, k, rfl, _⟩ := h
    rfl
  obtain ⟨x, k, rfl, hd, hk, q⟩ := h
  refine ⟨_, pss_cons (ps_if (PW.pt (pw_or (pt_val (pe_cl GP hr (pa_cons (pv 0) pa_nil))) (pw_or1 (pt_cmpR (op_eqD hr.units) (pv 0) (pe_tup (pa_cons pe_str pa_nil)) (nomark _))))) (pss_one (ps_ret pe_bl)) pss_nil)
    (pss_cons (ps_if (PW.pt (pw_or (pt_not (pt_val (pe_isi (T := "tuple") B.isi B.tuple (pv 0)))) (pw_or1 (pt_cmpR op_ne (pe_callB call_len_seq (by rfl) B.len PySem.boot_len (pa_cons (pv 0) pa_nil)) pe_int (nomark _))))) (pss_one (ps_ret pe_bl)) pss_nil)
    (pss_one (ps_ret (pe_and (pe_cmpR op_in_seq (pe_ix ix_tup (pv 0) pe_int (fun _ _ => rfl)) (pe_tup (pa_cons pe_str (pa_cons pe_str (pa_cons pe_str pa_nil)))) (by rfl)) (pe_one (pe_cl GP hr (pa_cons (pe_ix ix_tup (pv 0) pe_int (fun _ _ => rfl)) pa_nil))))))), ?_⟩
  have hln : ∀ w s, k = .pl (.str w s) → s.length ≤ sizeLine := fun w s e => by
    have z := hk.ln
    rw [e] at z
    exact z
  refine ⟨x, rfl, x, k, rfl, hd, hln, _, rfl, ?_⟩
  have okP : k.plain = true → k.ok = true := fun e => by
    rcases k with (w | ⟨w, i⟩ | ⟨w, z⟩) | ⟨w, p⟩
    · show ((Pl.one w).ok || _) = true
      rw [show (Pl.one w).ok = true from e]
      rfl
    · exact e
    · exact e
    · cases e
  cases hpl : k.plain with
  | true =>
    have q1 := q H Lv.refl
    rw [okP hpl] at q1
    exact iteT (iteT q1)
  | false =>
    refine iteF ⟨x, rfl, by show 1 ≤ sizeLine; rw [sizeLine_eq]; decide, fun p hp => ?_⟩
    have l1 : Lv T H (upd H p (.tup [V.str "key"])) := Lv.new hp
    refine ⟨k.d, keyD, l1.dp hd, .tup (.inl (.inl upd_same)) (.cons (.str _) .nil), hk.sh, shaped_keyD, _, rfl, ?_⟩
    rw [eqv_key]
    rcases hk.ok with ⟨w1, rfl⟩ | ⟨p1, rfl, e1⟩ | ⟨w1, p1, rfl⟩
    · have q1 := q _ l1
      have e2 : (Kd.pl (.one w1)).ok = decide (w1 = "key") := by
        show ((Pl.one w1).ok || decide (w1 = "key")) = decide (w1 = "key")
        rw [show (Pl.one w1).ok = false from hpl, Bool.false_or]
      rw [e2] at q1
      by_cases h2 : w1 = "key"
      · refine ifT (decide_eq_true h2) ?_
        rw [decide_eq_true h2] at q1
        exact q1
      · refine ifF (decide_eq_false h2) ?_
        rw [decide_eq_false h2] at q1
        obtain ⟨a, xs, rfl, hS, hA⟩ := dp_tup (l1.dp hd)
        obtain ⟨y, rfl, hy⟩ := dps1 hA
        refine ⟨.ref a, rfl, .ref a, "tuple", "tuple", true, rfl, tyx_tup hS, by decide +kernel, true, rfl, iteF ⟨.ref a, rfl, a, _, rfl, .inr hS, rfl, _, rfl, ?_⟩⟩
        exact ifT rfl q1
    · have e2 : p1.ok = false := hpl
      rw [e1] at e2
      cases e2
    · refine iteF ?_
      obtain ⟨a, xs, rfl, hS, hA⟩ := dp_tup (l1.dp hd)
      obtain ⟨y, z, rfl, hy, hz⟩ := dps2 hA
      obtain rfl := dp_str hy
      refine ⟨.ref a, rfl, .ref a, "tuple", "tuple", true, rfl, tyx_tup hS, by decide +kernel, true, rfl, iteF ⟨.ref a, rfl, a, _, rfl, .inr hS, rfl, _, rfl, ?_⟩⟩
      refine ifF rfl ?_
      refine ⟨.ref a, rfl, a, _, 0, .str w1, rfl, rfl, hS, atI_nat (j := 0) rfl, by show 3 ≤ sizeLine; rw [sizeLine_eq]; decide, fun p2 hp2 => ?_⟩
      have l2 : Lv T (upd H p (.tup [V.str "key"])) (upd (upd H p (.tup [V.str "key"])) p2 (.tup [V.str "list", V.str "some", V.str "once"])) := Lv.new hp2
      refine ⟨p2, _, rfl, .inr (.inl (.inl upd_same)), rfl, rfl, _, rfl, ?_⟩
      have q2 := q _ (l1.trans l2)
      have e4 : inV (V.str w1) [V.str "list", V.str "some", V.str "once"] = (decide (w1 = "list") || decide (w1 = "some") || decide (w1 = "once")) := by
        have c : ∀ z : Str, eqV (V.str z) (V.str w1) = decide (w1 = z) := fun z => by
          show decide (z = w1) = decide (w1 = z)
          by_cases h : z = w1
          · rw [decide_eq_true h, decide_eq_true h.symm]
          · rw [decide_eq_false h, decide_eq_false fun e => h e.symm]
        unfold inV
        rw [List.any_cons, List.any_cons, List.any_cons, List.any_nil, c, c, c, Bool.or_false, Bool.or_assoc]
      have q3 : Q (.bl ((decide (w1 = "list") || decide (w1 = "some") || decide (w1 = "once")) && p1.ok)) _ := q2
      rw [← e4] at q3
      show if inV (V.str w1) [V.str "list", V.str "some", V.str "once"] = true then _ else _
      cases h5 : inV (V.str w1) [V.str "list", V.str "some", V.str "once"] with
      | true =>
        rw [h5, Bool.true_and] at q3
        refine iteT ⟨.ref a, rfl, a, _, 1, z, rfl, rfl, l2.tup hS, atI_nat (j := 1) rfl, z, .pl p1, rfl, l2.dp hz, fun w s e => ?_, q3⟩
        have e6 : p1 = .str w s := Kd.pl.inj e
        have z6 := hk.ln
        rw [e6] at z6
        exact z6
      | false =>
        rw [h5, Bool.false_and] at q3
        exact iteF q3
end
end HM
set_option Elab.async false
set_option linter.all false
set_option maxRecDepth 100000
set_option maxHeartbeats 4000000
namespace HM
open PySem PySem.Spec PyProof.Rows L2
/-! ### sorted(e, key=lambda x: x[0]), the items tuples that begin with a text -/
abbrev leS (a b : Str) : Bool := decide (a.cps.toList ≤ b.cps.toList)
abbrev firstOf (x : Str) (p1 p2 p3 : Pos) (j : Nat) : Expr := .Subscript (.Name x p1) (.Constant (.int 0) j p2) p3
section
variable {prog : Program} {w : World} {A : Around} {s : Shared} {x qual : Str} {params : Arguments} {scope : Scope} {pm ctv : Value} {c' f t : Addr} {p1 p2 p3 : Pos} {j : Nat} {z : Str} {tk : Tok} {its : List Value}
/-- the lambda, called on such a tuple -/
theorem first_call (hroom : A.depth < recursionLimit) (ho : s.heap.get? f = some (PySem.W.kla_obj "<lambda>" qual params (firstOf x p1 p2 p3 j) scope [] pm c' ctv)) (hcd : s.heap.CodeRec (.ref c') qual)
    (hbind : bindArgs (PySem.W.kla_fn "<lambda>" qual params (firstOf x p1 p2 p3 j) scope [] pm (.ref c') ctv) ⟨[.ref t], []⟩ = pure [(x, .ref t)]) (hk : scope.kind = .function) (hco : scope.isCoroutine = false) (hgen : scope.isGenerator = false)
    (hn : scope.names = [(x, .local)]) (hlim : s.heap.NoLimit) (ht : PyProof.Rows.IsTup s.heap t (Value.str z tk :: its).toArray) (hsz : its.length < 1000) (hd : (x == ("__debug__" : Str)) = false) :
    wpAny (model prog w) A (call (.ref f) [.ref t]) (PySem.W.KeyPure (.str z) s) (fun _ _ => False) s := by
  have hl : scope.names.lookup x = some .local := by
    rw [hn]
    simp [List.lookup]
  refine wpAny_call (PySem.W.kla_callFunE hroom ho rfl hco hgen rfl hcd ?_)
  rw [hbind]
  refine wpAny_pure (wpAny_newFunctionEnv (fun y hy => ?_) (fun y hy => ?_) (fun h₁ hns hsb => ⟨hlim.fresh _ hsb, ?_⟩) hk)
  · have hy' : y ∈ scope.names := hy
    rw [hn] at hy'
    rw [List.mem_singleton.mp hy']
    exact fun q => by cases q
  · rw [List.mem_singleton.mp hy]
    exact hl
  have kp : ∀ b o, s.heap.get? b = some o → h₁.get? b = some o := fun b o e => hsb.extBut b o (Nat.ne_of_lt (Heap.lt_size e)) (Heap.get?_push_of_some _ e)
  refine PySem.W.kla_codeExpr (Subscript_ (wpAny_Name (wpAny_loadName_local hk hl hns (v := .ref t) (by simp [List.lookup]) (wpAny_Constant_int ?_)) hd))
  have ht1 : PyProof.Rows.IsTup h₁ t (Value.str z tk :: its).toArray := by
    obtain ⟨o, h1, h2⟩ := ht
    exact ⟨o, kp _ _ h1, h2⟩
  refine subscriptTail_builtinR (x := .str z tk) (T := "tuple") ?_ slot_tuple_getitem.lookup (getItem_tuple (j := 0) ht1 (by decide) (by decide) ?_ rfl ⟨rfl, ?_⟩) (by rfl)
  · obtain ⟨o, h1, h2, _⟩ := ht1
    exact ⟨o, h1, h2⟩
  · refine seqIndex_of (Int.le_refl 0) ?_
    rw [List.size_toArray, List.length_cons]
    omega
  · exact ⟨h₁, _, rfl, kp, Reads.str z tk⟩
end
/-- the items sorted by the texts that they begin with -/
def sortBy (xs : List V) (ks : List Str) : List V := ((xs.zip ks).mergeSort fun a b => leS a.2 b.2).map (·.1)
/-- each item is a tuple that begins with its text -/
def Begins (K : PySem.W.Frag) (H : Hp) (xs : List V) (ks : List Str) : Prop := Paired (fun v k => ∃ (t : Addr) (r : List V), v = V.ref t ∧ r.length < 1000 ∧ SqT K H t (.str k :: r)) xs ks
def tSortLam (T : Tb) (K : PySem.W.Frag) (t : TA) : TE := fun σ H Q => t σ H fun vs H1 => LamX.Tabs T H1 ∧ ∃ (a : Addr) (xs : List V) (ks : List Str), vs = [.ref a] ∧ SqL K H1 a xs ∧ Begins K H1 xs ks ∧
  ∀ H2 p, Lv T H1 H2 → H2 p = none → Q (.ref p) (upd H2 p (.lst (sortBy xs ks)))
section
variable {X : Cx}
theorem alike_strs {α : Type} (k : α → Str) (bs : List α) : PySem.W.AllAlike (bs.map fun b => PyData.str (k b)) := by
  intro d hd d' hd'
  obtain ⟨b, _, rfl⟩ := List.mem_map.mp hd
  obtain ⟨b', _, rfl⟩ := List.mem_map.mp hd'
  rfl
theorem sortable_strs {α : Type} (k : α → Str) (bs : List α) : PySem.W.Sortable (bs.map fun b => PyData.str (k b)) := by
  refine .inr fun d hd => ?_
  obtain ⟨b, _, rfl⟩ := List.mem_map.mp hd
  exact ⟨(fun q => by cases q), fun xs q => by cases q⟩
theorem each_of {K : PySem.W.Frag} {H : Hp} : ∀ {xs : List V} {ks : List Str} {its : List Value}, Begins K H xs ks → Vals xs its →
    PySem.W.EachIs (fun (u : Value) (b : V × Str) => RelV b.1 u ∧ ∃ (t : Addr) (r : List V), b.1 = V.ref t ∧ r.length < 1000 ∧ SqT K H t (.str b.2 :: r)) its (xs.zip ks)
  | _, _, _, .nil, .nil => .nil
  | _, _, _, .cons h h2, .cons r r2 => .cons ⟨r, h⟩ (each_of h2 r2)
theorem vals_each {F : V × Str → Prop} : ∀ {out : List Value} {bs : List (V × Str)}, PySem.W.EachIs (fun (u : Value) (b : V × Str) => RelV b.1 u ∧ F b) out bs → Vals (bs.map (·.1)) out
  | _, _, .nil => .nil
  | _, _, .cons h h2 => .cons h.1 (vals_each h2)
theorem pe_sortedLam {T : Tb} {c P : Addr} {x : Str} {params : Arguments} {scope : Scope} {e : Expr} {te : TE} {p pos p1 p2 p3 lpos kpos : Pos} {j : Nat} (hr : Room 1 X.A) (ms : X.mg "sorted" = none)
    (TB : LamX.TabB X.base X.mg c P) (hcode : X.env.code = .ref c) (hm : (P, X.env.qual ++ "<lambda>") ∈ T) (hu : ∀ q ∈ T, q.1 = P → q.2 = X.env.qual ++ "<lambda>") (he : PE X e te)
    (hdef : defaultsOf params X.env = ([], [])) (hk : scope.kind = .function) (hco : scope.isCoroutine = false) (hgen : scope.isGenerator = false) (hn : scope.names = [(x, .local)])
    (hbind : ∀ (q : Str) (pm cv ctv : Value) (v : Value), bindArgs (PySem.W.kla_fn "<lambda>" q params (firstOf x p1 p2 p3 j) scope [] pm cv ctv) ⟨[v], []⟩ = pure [(x, v)]) (hd : (x == ("__debug__" : Str)) = false)
    (gs : Gl X "sorted" := by rfl) (h1 : backTo pos (starEach [e] X.env) = (false, eval e X.env) :: backTo pos (starEach [] X.env) := by rfl) (h2 : (backTo pos (starEach [e] X.env)).any (·.1) = false := by rfl)
    (h3 : starEach [e] X.env = (false, eval e X.env) :: starEach [] X.env := by rfl) :
    PE X (.Call (.Name "sorted" p) [e] [⟨some "key", .Lambda params (firstOf x p1 p2 p3 j) scope lpos, kpos⟩] pos) (tSortLam T X.K (tCons te tNil)) := by
  refine ⟨fun pins s σ H Q I h => ?_⟩
  refine wpAny_Call_Name_kw (ld_blt I gs ms (u := .builtin "sorted") (by decide +kernel) ?_ (by decide) (by decide))
  have ha : PA X [e] (tCons te tNil) := pa_cons he pa_nil h3
  refine PyProof.Rows.callWith_kw (thn (ha.run pos pins s σ H _ I h) fun us s1 hh => ?_) h1 h2 (by rfl) (by rfl)
  obtain ⟨vs, H1, I1, r1, hT, a, xs, ks, ev, hS, hB, q⟩ := hh
  have e0 : List.filterMap (fun z => z.1) (backToKw pos (keywordEach [⟨some "key", .Lambda params (firstOf x p1 p2 p3 j) scope lpos, kpos⟩] X.env)) = [("key" : Str)] := rfl
  rw [e0]
  show wpAny _ _ (evalAll [(do let v ← eval (.Lambda params (firstOf x p1 p2 p3 j) scope lpos) X.env; standAt pos; pure v)]) _ _ s1
  refine wpAny_evalAll_cons (wpAny_bind (LamX.lam_make2 I1 TB hcode hm hu hT hdef (fun y hy z => ?_) fun f c' pm ctv H2 s2 I2 eN hT2 hf hfn hfr hco2 => wpAny_bind (wpAny_standAt (wpAny_pure (wpAny_evalAll_nil ?_)))))
  · rw [hn] at hy
    rw [List.mem_singleton.mp hy] at z
    cases z
  subst ev
  cases r1 with
  | @cons _ u0 _ ur ra rn =>
    cases rn
    obtain rfl : u0 = Value.ref a := ra
    show wpAny _ _ (call (.builtin "sorted") [.ref a] [("key", .ref f)]) _ _ s2
    have l2 : Lv T H1 H2 := ⟨eN, fun _ => hT2⟩
    have ecl : cloFrom X.env.cells scope.names [] = [] := by
      rw [hn]
      rfl
    rw [ecl] at hf
    obtain ⟨its, rv, hl, hz⟩ := I2.list (l2.seq hS)
    have hB2 : Begins X.K H2 xs ks := Paired.imp (fun v k ⟨t, r, e1, e2, e3⟩ => ⟨t, r, e1, e2, l2.tup e3⟩) hB
    obtain ⟨⟨oc, cvs, ct, hoc, hdc, hvc⟩, _, _⟩ := I2.hok c' _ hco2
    have hxl := rv.length
    have hlz : (xs.zip ks).length = its.length := by
      rw [List.length_zip, ← Paired.len hB, Nat.min_self, hxl]
    refine PySem.W.sorted_key_data (b := false) (fun b : V × Str => PyData.str b.2) hl.isList (each_of hB2 rv) (alike_strs _ _) (sortable_strs _ _) (by rw [hlz, ← hxl]; exact hz) (fun b hb => ?_) (PyProof.Rows.ksk_s1 _ _) (fun _ => PyProof.Rows.ksk_l1 _ _) (fun _ => PyProof.Rows.ksk_t1 _ _) (fun v b hR hb h tk kp => ?_) fun out cc h' tk kp hfr2 hD hlen hE => ?_
    · have h0 := hr.un
      show X.A.units + 2 + (PyData.str b.2).depth < cLine
      have e1 : (PyData.str b.2).depth = 0 := rfl
      rw [e1]
      omega
    · obtain ⟨rR, t, r, e1, e2, e3⟩ := hR
      rw [e1] at rR
      obtain rfl : v = Value.ref t := rR
      obtain ⟨its2, rv2, ht2, _⟩ := I2.tuple e3
      cases rv2 with
      | @cons _ uz _ ur2 rz rr =>
        obtain ⟨tk2, rfl⟩ := rz
        have ht3 : PyProof.Rows.IsTup h t (Value.str b.2 tk2 :: ur2).toArray := by
          obtain ⟨o, k1, k2⟩ := ht2
          exact ⟨o, kp _ _ k1, k2⟩
        refine first_call (s := { s2 with heap := h, toks := tk }) ?_ (kp _ _ hf) ⟨c', oc, cvs, ct, rfl, kp _ _ hoc, hdc, hvc⟩ (hbind _ _ _ _ _) hk hco hgen hn (I2.nolimit.keeps kp) ht3 (by rw [← rr.length]; exact e2) hd
        show X.A.depth < recursionLimit
        have := hr.dp
        omega
    · have e5 : PySem.W.dataLe false (fun b : V × Str => PyData.str b.2) = fun a b => leS a.2 b.2 := PySem.W.dataLe_str fun b : V × Str => b.2
      rw [e5] at hE
      have hvals : Vals (sortBy xs ks) out := vals_each hE
      have hnew : H2 (s2.heap.objs.size + 1) = none := I2.hok.gone hfr2
      have hz2 : (sortBy xs ks).length ≤ sizeLine := by
        rw [hvals.length, hlen, hlz, ← hxl]
        exact hz
      refine ⟨.ref (s2.heap.objs.size + 1), upd H2 (s2.heap.objs.size + 1) (.lst (sortBy xs ks)), I2.laidN kp hfr2 hnew ⟨hz2, out, cc, hvals, hD⟩, rfl, q H2 _ l2 hnew⟩
end
end HM
set_option Elab.async false
set_option linter.all false
set_option maxRecDepth 100000
set_option maxHeartbeats 4000000
namespace HM
open PySem PySem.Spec PyProof.Rows L2
/-! ### a tuple whose object is known: no dict of its own -/
def PlainT (H : Hp) (a : Addr) (xs : List V) : Prop := ∃ o : Obj, H a = some (.frz o (.tup xs)) ∧ o.dict = none
theorem PlainT.seq {K : PySem.W.Frag} {H : Hp} {a : Addr} {xs : List V} (h : PlainT H a xs) : SqT K H a xs := by
  obtain ⟨o, h, _⟩ := h
  exact .inl (.inr ⟨o, h⟩)
theorem Lv.plainT {T : Tb} {H H' : Hp} (l : Lv T H H') {a : Addr} {xs : List V} (h : PlainT H a xs) : PlainT H' a xs := by
  obtain ⟨o, h, e⟩ := h
  exact ⟨o, l.at h, e⟩
section
variable {X : Cx}
/-- tuple(a list) -/
theorem call_tupleF : CallR X (.type "tuple") (fun xs H Q => ∃ p ys, xs = [V.ref p] ∧ SqL X.K H p ys ∧ ∀ (l : Addr) (o : Obj), H l = none → o.dict = none → Q (.ref l) (upd H l (.frz o (.tup ys)))) := by
  intro pins s σ H xs us Q I r ⟨p, ys, e, hq, q⟩
  subst e
  obtain ⟨u, eu, rx⟩ := vals1 r
  subst eu
  cases rx
  obtain ⟨its, rv, pl, hz⟩ := I.list hq
  refine call_tuple_list pl.isList (fun h' kp => ?_) (by rw [List.size_toArray, ← rv.length]; exact hz)
  have J : Inv X pins σ H { s with heap := h' } := I.kept (t' := s.toks) kp
  have eo : (h'.push { cls := .type "tuple", data := .seq its.toArray }).get? h'.objs.size = some { cls := .type "tuple", data := .seq its.toArray } := Heap.get?_push_size _ rfl
  exact ⟨.ref h'.objs.size, _, J.laid (t' := s.toks) (o := .frz { cls := .type "tuple", data := .seq its.toArray } (.tup ys)) (fun _ _ z => Heap.get?_push_of_some _ z) (Nat.le_refl _) ⟨eo, hz, its, rv, ⟨_, eo, rfl, _, rfl⟩⟩, rfl, q _ _ (J.hok.fresh (Nat.le_refl _)) rfl⟩
/-- dict(a tuple of pairs) -/
theorem call_dictT (hcalm : X.calm = true) : CallR X (.type "dict") (fun xs H Q => ∃ (a : Addr) (ps : List Addr) (kvs : List (Key × V)), xs = [V.ref a] ∧ PlainT H a (ps.map V.ref) ∧ Paired (fun p kv => SqT X.K H p [kV kv.1, kv.2]) ps kvs ∧
    ∀ p, H p = none → Q (.ref p) (upd H p (.dK (mergeK [] kvs)))) := by
  intro pins s σ H xs us Q I r ⟨a, ps, kvs, ex, ⟨o, ho, hdict⟩, hp, q⟩
  subst ex
  obtain ⟨u, eu, rx⟩ := vals1 r
  subst eu
  cases rx
  obtain ⟨hget, hz, its, rv, o2, hg2, hc, n, hdat⟩ := (show ObjOk X.prog X.w H s.heap a (.frz o (.tup (ps.map V.ref))) from I.hok a _ ho)
  have eo : o2 = o := Option.some.inj (hg2.symm.trans hget)
  subst eo
  have ei := refs_at rv
  subst ei
  rw [List.length_map] at hz
  obtain ⟨prs, rel, hl, hpr⟩ := pairs_of I hp
  have hlt : ∀ {j : Nat} {z : Key × Value}, prs[j]? = some z → j < prs.length := fun e => (List.getElem?_eq_some_iff.mp e).1
  have key : ∀ j : Nat, j < prs.length → ∃ (b : Addr) (u : Value) (z : Key × Value), ps[j]? = some b ∧ prs[j]? = some z ∧ IsTup s.heap b #[u, z.2] ∧ keyIs z.1 u = true := fun j hj => by
    obtain ⟨b, u, e1, e2, e3⟩ := hpr j prs[j] (List.getElem?_eq_getElem hj)
    exact ⟨b, u, prs[j], e1, List.getElem?_eq_getElem hj, e2, e3⟩
  -- the pairs as values
  have hall : ∃ vps : List (Value × Value), vps.length = prs.length ∧ ∀ (j : Nat) (k v : Value), vps[j]? = some (k, v) → ∃ (b : Addr) (z : Key × Value), ps[j]? = some b ∧ prs[j]? = some z ∧ v = z.2 ∧ IsTup s.heap b #[k, v] ∧ keyIs z.1 k = true := by
    have gen : ∀ m : Nat, m ≤ prs.length → ∃ vps : List (Value × Value), vps.length = m ∧ ∀ (j : Nat) (k v : Value), vps[j]? = some (k, v) → ∃ (b : Addr) (z : Key × Value), ps[j]? = some b ∧ prs[j]? = some z ∧ v = z.2 ∧ IsTup s.heap b #[k, v] ∧ keyIs z.1 k = true := by
      intro m
      induction m with
      | zero => exact fun _ => ⟨[], rfl, fun j k v e => by simp at e⟩
      | succ m ih =>
        intro hm
        obtain ⟨vps, l1, h1⟩ := ih (Nat.le_of_succ_le hm)
        obtain ⟨b, u, z, e1, e2, e3, e4⟩ := key m hm
        refine ⟨vps ++ [(u, z.2)], by rw [List.length_append, l1]; rfl, fun j k v e => ?_⟩
        by_cases hj : j < vps.length
        · rw [List.getElem?_append_left hj] at e
          exact h1 j k v e
        · have hj2 : j = vps.length := by
            have := (List.getElem?_eq_some_iff.mp e).1
            rw [List.length_append, List.length_singleton] at this
            omega
          subst hj2
          rw [List.getElem?_append_right (Nat.le_refl _), Nat.sub_self] at e
          have e' : (u, z.2) = (k, v) := Option.some.inj e
          injection e' with e5 e6
          subst e5 e6
          rw [l1]
          exact ⟨b, z, e1, e2, rfl, e3, e4⟩
    exact gen prs.length (Nat.le_refl _)
  obtain ⟨vps, lv, hv⟩ := hall
  have P := PySem.PairArg.tuple (prog := X.prog) (w := X.w) a (ps.map Value.ref).toArray (fun j => ps.getD j 0) vps
  refine PySem.call_dict_pairs (knd := mixKind X.prog X.w) (kvs := prs) P (I.ok.hd hcalm) ⟨⟨o2, n, hget, hc, hdict, hdat⟩, ?_, fun j k v e => ?_⟩ ⟨lv.symm, fun i k v e => ?_⟩ (by rw [lv, hl]; exact hz) fun h' tk hd' kp => ?_
  · rw [List.size_toArray, List.length_map, lv, hl]
  · obtain ⟨b, z, e1, e2, e3, e4, e5⟩ := hv j k v e
    have eg : ps.getD j 0 = b := by rw [List.getD_eq_getElem?_getD, e1]; rfl
    refine ⟨?_, .inl ?_⟩
    · show (ps.map Value.ref).toArray[j]? = some (.ref (ps.getD j 0))
      rw [eg, List.getElem?_toArray, List.getElem?_map, e1]
      rfl
    · show s.heap.IsTuple (ps.getD j 0) #[k, v]
      rw [eg]
      obtain ⟨ob, k1, k2, k3⟩ := e4
      exact ⟨ob, k1, k2, k3⟩
  · obtain ⟨b, z, e1, e2, e3, e4, e5⟩ := hv i k v e
    refine ⟨z.1, ?_, ?_⟩
    · rw [e2, e3]
    · exact e5
  · have hm : (s.heap.objs.size == sysModules) = false := beq_eq_false_iff_ne.mpr (Nat.ne_of_gt I.big)
    have hlen : (mergeK [] kvs).length ≤ sizeLine := by
      refine Nat.le_trans (length_mergeK kvs []) ?_
      rw [List.length_nil, Nat.zero_add, rel.length, hl]
      exact hz
    refine ⟨.ref s.heap.objs.size, upd H s.heap.objs.size (.dK (mergeK [] kvs)), I.laid (t' := tk) (fun b o e => kp b o (by simp) e) (Nat.le_refl _) (show ObjOk X.prog X.w _ _ _ (.dK (mergeK [] kvs)) from ⟨hlen, hm, merged [] prs, KV.merge rel .nil, hd'⟩), rfl, q _ (I.hok.fresh (Nat.le_refl _))⟩
/-- d != e, two dicts of the very same pairs -/
theorem kv_refs {κ : Type} : ∀ {kvs : List (κ × V)} {va vb : List (κ × Value)}, (∀ p ∈ kvs, ∃ t : Addr, p.2 = .ref t) → KV kvs va → KV kvs vb → va = vb
  | _, _, _, _, .nil, .nil => rfl
  | (k, v) :: r, _, _, h, .cons (b := (k1, u1)) h1 r1, .cons (b := (k2, u2)) h2 r2 => by
    obtain ⟨t, e⟩ := h (k, v) List.mem_cons_self
    obtain ⟨a1, a2⟩ := h1
    obtain ⟨b1, b2⟩ := h2
    have e' : v = .ref t := e
    subst e'
    have c1 : u1 = Value.ref t := a2
    have c2 : u2 = Value.ref t := b2
    have d1 : k = k1 := a1
    have d2 : k = k2 := b1
    rw [kv_refs (fun p hp => h p (List.mem_cons_of_mem _ hp)) r1 r2, c1, c2, ← d1, ← d2]
theorem hits_same {A : Around} {s : Shared} {kb : List (Key × Value)} (hn : (kb.map (·.1)).Nodup) : ∀ {ka : List (Key × Value)}, (∀ q ∈ ka, q ∈ kb) → PySem.W.KeqHits A s kb ka true
  | [], _ => .nil
  | (k, v) :: r, h => by
    show PySem.W.KeqHits A s kb ((k, v) :: r) (true && true)
    exact .hit (valueAt_of_mem hn (h (k, v) List.mem_cons_self)) (SeqAt.EqAt.same v) (hits_same hn fun q hq => h q (List.mem_cons_of_mem _ hq))
theorem op_ne_same (hu : X.A.units < cLine) : OpR X (compareOp .NotEq) (fun x y H Q => ∃ a b kvs, x = .ref a ∧ y = .ref b ∧ H a = some (.dK kvs) ∧ H b = some (.dK kvs) ∧ (kvs.map (·.1)).Nodup ∧ (∀ p ∈ kvs, ∃ t : Addr, p.2 = .ref t) ∧ Q (.bl false) H) := by
  intro pins s σ H x y v u Q I rx ry ⟨a, b, kvs, e1, e2, ea, eb, hn, hv, q⟩
  subst e1 e2
  obtain rfl : v = Value.ref a := rx
  obtain rfl : u = Value.ref b := ry
  obtain ⟨_, ya, va, ra, da⟩ := (show ObjOk X.prog X.w H s.heap a (.dK kvs) from I.hok a _ ea)
  obtain ⟨_, yb, vb, rb, db⟩ := (show ObjOk X.prog X.w H s.heap b (.dK kvs) from I.hok b _ eb)
  have e := kv_refs hv ra rb
  subst e
  refine PySem.W.keq_ne (knd := mixKind X.prog X.w) (r := true) ya yb da db hu (fun _ => hits_same (by rw [← ra.keys]; exact hn) fun q hq => hq) ⟨.bl false, H, I, ?_, q⟩
  show Value.bool (!(va.length == va.length && true)) = Value.bool false
  simp
end
end HM
set_option Elab.async false
set_option linter.all false
set_option maxRecDepth 100000
set_option maxHeartbeats 4000000
namespace HM
open PySem PySem.Spec PyProof.Rows L2
/-! ### texts in order -/
theorem leS_trans {a b c : Str} (h1 : leS a b = true) (h2 : leS b c = true) : leS a c = true :=
  decide_eq_true (List.le_trans (of_decide_eq_true h1) (of_decide_eq_true h2))
theorem leS_total (a b : Str) : (leS a b || leS b a) = true := by
  rw [Bool.or_eq_true]
  rcases List.le_total a.cps.toList b.cps.toList with h | h
  · exact .inl (decide_eq_true h)
  · exact .inr (decide_eq_true h)
theorem leS_anti {a b : Str} (h1 : leS a b = true) (h2 : leS b a = true) : a = b := by
  have e := List.le_antisymm (of_decide_eq_true h1) (of_decide_eq_true h2)
  obtain ⟨⟨l⟩⟩ := a
  obtain ⟨⟨r⟩⟩ := b
  have e' : l = r := e
  rw [e']
section
variable {α : Type}
/-- two lists in order by names that are unlike, one a permutation of the other, are one -/
theorem sorted_one (k : α → Str) : ∀ {l m : List α}, l.Perm m → (l.map k).Nodup → l.Pairwise (fun a b => leS (k a) (k b) = true) → m.Pairwise (fun a b => leS (k a) (k b) = true) → l = m
  | [], m, p, _, _, _ => (List.nil_perm.mp p).symm
  | a :: l, [], p, _, _, _ => absurd p.length_eq (by simp)
  | a :: l, b :: m, p, hn, hl, hm => by
    have ha : a ∈ b :: m := p.mem_iff.mp List.mem_cons_self
    have hb : b ∈ a :: l := p.mem_iff.mpr List.mem_cons_self
    have inj : ∀ x ∈ a :: l, ∀ y ∈ a :: l, k x = k y → x = y := by
      intro x hx y hy e
      obtain ⟨i, hi, ei⟩ := List.mem_iff_getElem.mp hx
      obtain ⟨j, hj, ej⟩ := List.mem_iff_getElem.mp hy
      have h1 : ((a :: l).map k)[i]? = some (k x) := by rw [List.getElem?_map, List.getElem?_eq_getElem hi, ei]; rfl
      have h2 : ((a :: l).map k)[j]? = some (k x) := by rw [List.getElem?_map, List.getElem?_eq_getElem hj, ej, e]; rfl
      have e3 := nd_ix hn h1 h2
      subst e3
      rw [← ei, ej]
    have e : a = b := by
      rcases List.mem_cons.mp ha with e | h1
      · exact e
      · rcases List.mem_cons.mp hb with e | h2
        · exact e.symm
        · have l1 := (List.pairwise_cons.mp hl).1 b h2
          have l2 := (List.pairwise_cons.mp hm).1 a h1
          exact inj a List.mem_cons_self b hb (leS_anti l1 l2)
    subst e
    rw [sorted_one k (List.Perm.cons_inv p) (List.nodup_cons.mp hn).2 (List.pairwise_cons.mp hl).2 (List.pairwise_cons.mp hm).2]
theorem sort_perm_eq (k : α → Str) {l m : List α} (p : l.Perm m) (hn : (l.map k).Nodup) : l.mergeSort (fun a b => leS (k a) (k b)) = m.mergeSort fun a b => leS (k a) (k b) := by
  have tr : ∀ a b c : α, leS (k a) (k b) = true → leS (k b) (k c) = true → leS (k a) (k c) = true := fun _ _ _ => leS_trans
  have to : ∀ a b : α, (leS (k a) (k b) || leS (k b) (k a)) = true := fun a b => leS_total _ _
  refine sorted_one k (((List.mergeSort_perm l _).trans p).trans (List.mergeSort_perm m _).symm) ?_ (List.pairwise_mergeSort tr to l) (List.pairwise_mergeSort tr to m)
  exact ((List.mergeSort_perm l _).map k).nodup_iff.mpr hn
theorem sort_names (k : α → Str) (l : List α) : (l.mergeSort fun a b => leS (k a) (k b)).map k = (l.map k).mergeSort leS :=
  PySem.W.sort_maps k fun _ _ _ _ => rfl
/-- what sorted gives of texts -/
theorem rising_pair : ∀ (ss : List Str) (p : Str), PyProof.Rows.risingS p ss = true → (p :: ss).Pairwise fun a b => leS a b = true
  | [], p, _ => List.pairwise_singleton _ _
  | x :: r, p, h => by
    unfold PyProof.Rows.risingS at h
    rw [Bool.and_eq_true] at h
    have ih := rising_pair r x h.2
    have hx : leS p x = true := by
      have h1 : ltCps x.cps.toList p.cps.toList = false := by
        have h2 := h.1
        cases q : ltCps x.cps.toList p.cps.toList with
        | false => rfl
        | true =>
          rw [q] at h2
          cases h2
      rw [ltCps_eq] at h1
      exact decide_eq_true (List.not_lt.mp (of_decide_eq_false h1))
    refine List.pairwise_cons.mpr ⟨fun b hb => ?_, ih⟩
    rcases List.mem_cons.mp hb with rfl | hb
    · exact hx
    · exact leS_trans hx ((List.pairwise_cons.mp ih).1 b hb)
end
/-! ### columns, tables in order -/
def sortC (cs : Cols) : Cols := cs.mergeSort fun a b => leS a.1 b.1
def nc (p : Part) : Part := (p.1, p.2.1, sortC p.2.2)
def sortP (ps : List Part) : List Part := ps.mergeSort fun a b => leS a.1 b.1
def nrm (ps : List Part) : List Part := (ps.take 1).map nc ++ (sortP (ps.drop 1)).map nc
theorem sortC_perm (cs : Cols) : (sortC cs).Perm cs := List.mergeSort_perm _ _
theorem sortP_perm (ps : List Part) : (sortP ps).Perm ps := List.mergeSort_perm _ _
theorem sortC_idem (cs : Cols) : sortC (sortC cs) = sortC cs :=
  List.mergeSort_of_pairwise (List.pairwise_mergeSort (le := fun a b : Str × Kd => leS a.1 b.1) (fun _ _ _ => leS_trans) (fun a b => leS_total a.1 b.1) cs)
theorem nc_idem (p : Part) : nc (nc p) = nc p := by
  unfold nc
  rw [sortC_idem]
theorem nrm_cons (h : Part) (r : List Part) : nrm (h :: r) = nc h :: (sortP r).map nc := rfl
theorem nrm_nil : nrm [] = [] := by simp [nrm, sortP]
theorem nrm_length (ps : List Part) : (nrm ps).length = ps.length := by
  cases ps with
  | nil => rw [nrm_nil]
  | cons h r => rw [nrm_cons, List.length_cons, List.length_map, (sortP_perm r).length_eq, List.length_cons]
theorem map_names (ps : List Part) : (ps.map nc).map (·.1) = ps.map (·.1) := by
  rw [List.map_map]
  rfl
theorem sortP_nc (ps : List Part) : (sortP ps).map nc = sortP (ps.map nc) := PySem.W.sort_maps nc fun _ _ _ _ => rfl
/-- the tables in order hang on which they are alone -/
theorem sortP_eq {as bs : List Part} (p : (as.map nc).Perm (bs.map nc)) (hn : (bs.map (·.1)).Nodup) : (sortP as).map nc = (sortP bs).map nc := by
  rw [sortP_nc, sortP_nc]
  refine sort_perm_eq (fun q : Part => q.1) p ?_
  rw [map_names]
  have e := (p.map (·.1)).nodup_iff
  rw [map_names, map_names] at e
  exact e.mpr hn
theorem nrm_eq {h k : Part} {as bs : List Part} (e : nc h = nc k) (p : (as.map nc).Perm (bs.map nc)) (hn : (bs.map (·.1)).Nodup) : nrm (h :: as) = nrm (k :: bs) := by
  rw [nrm_cons, nrm_cons, e, sortP_eq p hn]
theorem nrm_perm (ps : List Part) : ((nrm ps).map nc).Perm (ps.map nc) := by
  cases ps with
  | nil =>
    rw [nrm_nil]
  | cons h r =>
    rw [nrm_cons, List.map_cons, List.map_cons, nc_idem, List.map_map]
    have e : (nc ∘ nc) = nc := funext nc_idem
    rw [e]
    exact ((sortP_perm r).map nc).cons _
theorem nrm_names_perm (ps : List Part) : ((nrm ps).map (·.1)).Perm (ps.map (·.1)) := by
  have h := (nrm_perm ps).map (·.1)
  rw [map_names, map_names] at h
  exact h
/-- other columns in the table of a name -/
def setC (x : Str) (cs : Cols) (p : Part) : Part := if p.1 = x then (p.1, p.2.1, cs) else p
theorem setC_name (x : Str) (cs : Cols) (p : Part) : (setC x cs p).1 = p.1 := by
  unfold setC
  split <;> rfl
theorem setC_sort (x : Str) (cs : Cols) (p : Part) : (setC x cs p).2.1 = p.2.1 := by
  unfold setC
  split <;> rfl
theorem nc_setC (x : Str) (cs : Cols) (p : Part) : nc (setC x cs (nc p)) = nc (setC x cs p) := by
  unfold setC
  by_cases h : p.1 = x
  · rw [if_pos h, if_pos (show (nc p).1 = x from h)]
    rfl
  · rw [if_neg h, if_neg (show ¬ (nc p).1 = x from h), nc_idem]
theorem setC_names (x : Str) (cs : Cols) (ps : List Part) : (ps.map (setC x cs)).map (·.1) = ps.map (·.1) := by
  rw [List.map_map]
  exact List.map_congr_left fun p _ => setC_name x cs p
theorem nrm_setC {h : Part} {r : List Part} (x : Str) (cs : Cols) (hn : (r.map (·.1)).Nodup) : nrm ((nrm (h :: r)).map (setC x cs)) = nrm ((h :: r).map (setC x cs)) := by
  rw [nrm_cons, List.map_cons, List.map_cons]
  refine nrm_eq (nc_setC x cs h) ?_ (by rw [setC_names]; exact hn)
  rw [List.map_map, List.map_map, List.map_map]
  have e : ((nc ∘ setC x cs) ∘ nc) = nc ∘ setC x cs := funext fun p => nc_setC x cs p
  rw [e]
  exact (sortP_perm r).map _
theorem nrm_snoc {h : Part} {r : List Part} (p : Part) (hn : ((r ++ [p]).map (·.1)).Nodup) : nrm (nrm (h :: r) ++ [p]) = nrm (h :: r ++ [p]) := by
  rw [nrm_cons, List.cons_append, List.cons_append]
  refine nrm_eq (nc_idem h) ?_ hn
  rw [List.map_append, List.map_append, List.map_map]
  have e : (nc ∘ nc) = nc := funext nc_idem
  rw [e]
  exact ((sortP_perm r).map nc).append (.refl _)
/-- without the table of a name -/
def dropN (x : Str) (ps : List Part) : List Part := ps.filter fun p => decide (p.1 ≠ x)
theorem nrm_drop {h : Part} {r : List Part} (x : Str) (hx : h.1 ≠ x) (hn : (r.map (·.1)).Nodup) : nrm (dropN x (nrm (h :: r))) = nrm (dropN x (h :: r)) := by
  have e1 : dropN x (nrm (h :: r)) = nc h :: dropN x ((sortP r).map nc) := by
    rw [nrm_cons]
    unfold dropN
    exact List.filter_cons_of_pos (p := fun q : Part => decide (q.1 ≠ x)) (decide_eq_true (show (nc h).1 ≠ x from hx))
  have e2 : dropN x (h :: r) = h :: dropN x r := by
    unfold dropN
    exact List.filter_cons_of_pos (p := fun q : Part => decide (q.1 ≠ x)) (decide_eq_true hx)
  rw [e1, e2]
  refine nrm_eq (nc_idem h) ?_ ?_
  · unfold dropN
    rw [List.filter_map, List.map_map]
    have e : (nc ∘ nc) = nc := funext nc_idem
    have e3 : ((fun p : Part => decide (p.1 ≠ x)) ∘ nc) = fun p : Part => decide (p.1 ≠ x) := rfl
    rw [e, e3]
    exact ((sortP_perm r).filter _).map nc
  · unfold dropN
    exact List.Nodup.sublist (List.Sublist.map _ (List.filter_sublist ..)) hn
theorem nrm_reverse {h : Part} {r : List Part} (hn : (r.map (·.1)).Nodup) : nrm (h :: r.reverse) = nrm (h :: r) :=
  nrm_eq rfl ((List.reverse_perm r).map nc) hn
theorem nrm_nrm {h : Part} {r : List Part} (hn : (r.map (·.1)).Nodup) : nrm (nrm (h :: r)) = nrm (h :: r) := by
  rw [nrm_cons]
  refine nrm_eq (nc_idem h) ?_ hn
  rw [List.map_map]
  have e : (nc ∘ nc) = nc := funext nc_idem
  rw [e]
  exact (sortP_perm r).map nc
/-! ### what makes a form -/
abbrev SORTS4 : List Str := ["head", "twin", "many", "some"]
def colsBad (cs : Cols) : Bool := cs.any fun c => !isNameB c.1 || !c.2.ok
def partBad (seen : List Str) (first : Bool) (p : Part) : Bool := (!isNameB p.1 || seen.contains p.1 || !SORTS4.contains p.2.1) || (decide (p.2.1 = "head") != first) || colsBad p.2.2
def anyBad : List Str → Bool → List Part → Bool
  | _, _, [] => false
  | seen, first, p :: r => partBad seen first p || anyBad (seen ++ [p.1]) false r
def formBad (n : Int) (ps : List Part) : Bool := decide (n < 1) || ps.isEmpty || anyBad [] true ps
theorem anyBad_of {p : Part} {post : List Part} : ∀ {pre : List Part} {seen : List Str} {first : Bool}, partBad (seen ++ pre.map (·.1)) (first && pre.isEmpty) p = true → anyBad seen first (pre ++ p :: post) = true
  | [], seen, first, h => by
    rw [List.map_nil, List.append_nil, List.isEmpty_nil, Bool.and_true] at h
    show (partBad seen first p || _) = true
    rw [h, Bool.true_or]
  | q :: pre, seen, first, h => by
    show (partBad seen first q || anyBad (seen ++ [q.1]) false (pre ++ p :: post)) = true
    have ih := anyBad_of (pre := pre) (seen := seen ++ [q.1]) (first := false) (p := p) (post := post) (by
      rw [List.map_cons, List.isEmpty_cons, Bool.and_false] at h
      rw [Bool.false_and, List.append_assoc]
      exact h)
    rw [ih, Bool.or_true]
structure ColsOk (cs : Cols) : Prop where
  all : ∀ c ∈ cs, isNameB c.1 = true ∧ c.2.ok = true ∧ c.2.Dom
  nd : (cs.map (·.1)).Nodup
  len : cs.length ≤ 12
theorem ColsOk.good {cs : Cols} (h : ColsOk cs) : colsBad cs = false := by
  unfold colsBad
  refine List.any_eq_false.mpr fun c hc => ?_
  obtain ⟨h1, h2, _⟩ := h.all c hc
  rw [h1, h2]
  decide
theorem ColsOk.perm {cs ds : Cols} (h : ColsOk cs) (p : ds.Perm cs) : ColsOk ds :=
  ⟨fun c hc => h.all c (p.mem_iff.mp hc), (p.map (·.1)).nodup_iff.mpr h.nd, by rw [p.length_eq]; exact h.len⟩
theorem ColsOk.nil : ColsOk [] := ⟨(fun c hc => by cases hc), List.nodup_nil, by decide⟩
structure WF (ps : List Part) : Prop where
  hd : ∃ h r, ps = h :: r ∧ h.2.1 = "head" ∧ ∀ p ∈ r, p.2.1 = "twin" ∨ p.2.1 = "many" ∨ p.2.1 = "some"
  ok : ∀ p ∈ ps, isNameB p.1 = true ∧ ColsOk p.2.2
  nd : (ps.map (·.1)).Nodup
theorem side_sort {x : Str} (h : x = "twin" ∨ x = "many" ∨ x = "some") : SORTS4.contains x = true ∧ decide (x = "head") = false := by
  rcases h with rfl | rfl | rfl <;> exact ⟨by decide +kernel, by decide +kernel⟩
theorem sides_good : ∀ {r : List Part} {seen : List Str}, (∀ p ∈ r, p.2.1 = "twin" ∨ p.2.1 = "many" ∨ p.2.1 = "some") → (∀ p ∈ r, isNameB p.1 = true ∧ ColsOk p.2.2) → (seen ++ r.map (·.1)).Nodup → anyBad seen false r = false
  | [], _, _, _, _ => rfl
  | p :: r, seen, hs, ho, hn => by
    have h1 := side_sort (hs p List.mem_cons_self)
    have h2 := ho p List.mem_cons_self
    have h3 : seen.contains p.1 = false := by
      rw [List.map_cons, List.nodup_append] at hn
      cases q : seen.contains p.1 with
      | false => rfl
      | true => exact absurd rfl (hn.2.2 p.1 (List.contains_iff_mem.mp q) p.1 List.mem_cons_self)
    have ih : anyBad (seen ++ [p.1]) false r = false := sides_good (fun q hq => hs q (List.mem_cons_of_mem _ hq)) (fun q hq => ho q (List.mem_cons_of_mem _ hq)) (by
      rw [List.append_assoc]
      exact hn)
    show (partBad seen false p || anyBad (seen ++ [p.1]) false r) = false
    rw [ih, Bool.or_false]
    unfold partBad
    rw [h2.1, h3, h1.1, h1.2, h2.2.good]
    rfl
theorem WF.good {ps : List Part} {n : Int} (h : WF ps) (hn : 1 ≤ n) : formBad n ps = false := by
  obtain ⟨k, r, rfl, hk, hr⟩ := h.hd
  have h2 := h.ok k List.mem_cons_self
  have h4 := h.nd
  rw [List.map_cons] at h4
  have e : anyBad [] true (k :: r) = false := by
    show (partBad [] true k || anyBad [k.1] false r) = false
    rw [sides_good hr (fun q hq => h.ok q (List.mem_cons_of_mem _ hq)) (by rw [List.singleton_append]; exact h4), Bool.or_false]
    unfold partBad
    rw [h2.1, h2.2.good, hk, show ([] : List Str).contains k.1 = false from rfl]
    decide +kernel
  unfold formBad
  rw [e, decide_eq_false (by omega)]
  rfl
theorem nc_ok {p : Part} (h : isNameB p.1 = true ∧ ColsOk p.2.2) : isNameB (nc p).1 = true ∧ ColsOk (nc p).2.2 := ⟨h.1, h.2.perm (sortC_perm _)⟩
theorem mem_nrm {ps : List Part} {q : Part} (h : q ∈ nrm ps) : ∃ p ∈ ps, q = nc p := by
  cases ps with
  | nil =>
    rw [nrm_nil] at h
    cases h
  | cons k r =>
    rw [nrm_cons] at h
    rcases List.mem_cons.mp h with e | h
    · exact ⟨k, List.mem_cons_self, e⟩
    · obtain ⟨p, hp, e⟩ := List.mem_map.mp h
      exact ⟨p, List.mem_cons_of_mem _ ((sortP_perm r).mem_iff.mp hp), e.symm⟩
theorem WF.nrm {ps : List Part} (h : WF ps) : WF (nrm ps) := by
  obtain ⟨k, r, rfl, hk, hr⟩ := h.hd
  refine ⟨⟨nc k, (sortP r).map nc, rfl, hk, fun p hp => ?_⟩, fun p hp => ?_, (nrm_names_perm _).nodup_iff.mpr h.nd⟩
  · obtain ⟨q, hq, e⟩ := List.mem_map.mp hp
    rw [← e]
    exact hr q ((sortP_perm r).mem_iff.mp hq)
  · obtain ⟨q, hq, e⟩ := mem_nrm hp
    rw [e]
    exact nc_ok (h.ok q hq)
theorem WF.snoc {ps : List Part} {p : Part} (h : WF ps) (h1 : isNameB p.1 = true ∧ ColsOk p.2.2) (h2 : p.2.1 = "twin" ∨ p.2.1 = "many" ∨ p.2.1 = "some") (h3 : p.1 ∉ ps.map (·.1)) : WF (ps ++ [p]) := by
  obtain ⟨k, r, rfl, hk, hr⟩ := h.hd
  refine ⟨⟨k, r ++ [p], rfl, hk, fun q hq => ?_⟩, fun q hq => ?_, ?_⟩
  · rcases List.mem_append.mp hq with hq | hq
    · exact hr q hq
    · rw [List.mem_singleton.mp hq]
      exact h2
  · rcases List.mem_append.mp hq with hq | hq
    · exact h.ok q hq
    · rw [List.mem_singleton.mp hq]
      exact h1
  · rw [List.map_append]
    exact nd_snoc h.nd h3
theorem WF.setC {ps : List Part} {x : Str} {cs : Cols} (h : WF ps) (h1 : ColsOk cs) : WF (ps.map (setC x cs)) := by
  obtain ⟨k, r, rfl, hk, hr⟩ := h.hd
  refine ⟨⟨HM.setC x cs k, r.map (HM.setC x cs), rfl, by rw [setC_sort]; exact hk, fun q hq => ?_⟩, fun q hq => ?_, by rw [setC_names]; exact h.nd⟩
  · obtain ⟨p, hp, e⟩ := List.mem_map.mp hq
    rw [← e, setC_sort]
    exact hr p hp
  · obtain ⟨p, hp, e⟩ := List.mem_map.mp hq
    rw [← e, setC_name]
    refine ⟨(h.ok p hp).1, ?_⟩
    unfold HM.setC
    split
    · exact h1
    · exact (h.ok p hp).2
theorem WF.drop {k : Part} {r : List Part} {x : Str} (h : WF (k :: r)) (hx : k.1 ≠ x) : WF (dropN x (k :: r)) := by
  have e2 : dropN x (k :: r) = k :: dropN x r := by
    unfold dropN
    exact List.filter_cons_of_pos (p := fun q : Part => decide (q.1 ≠ x)) (decide_eq_true hx)
  obtain ⟨k', r', e, hk, hr⟩ := h.hd
  injection e with e3 e4
  subst e3 e4
  refine ⟨⟨k, dropN x r, e2, hk, fun q hq => hr q (List.mem_filter.mp hq).1⟩, fun q hq => h.ok q (List.mem_filter.mp hq).1, ?_⟩
  unfold dropN
  exact List.Nodup.sublist (List.Sublist.map _ (List.filter_sublist ..)) h.nd
/-! ### where form_of runs -/
structure ROk (p : Part) : Prop where
  nm : p.1.length ≤ sizeLine
  cs : ∀ c ∈ p.2.2, c.1.length ≤ sizeLine ∧ c.2.Dom
  nd : (p.2.2.map (·.1)).Nodup
  len : p.2.2.length < 64
theorem name_len {z : Str} (h : isNameB z = true) : z.length ≤ 8 := by
  unfold isNameB at h
  rw [Bool.and_eq_true] at h
  exact (of_decide_eq_true h.1).2
theorem name_line {z : Str} (h : isNameB z = true) : z.length ≤ sizeLine := Nat.le_trans (name_len h) (by rw [sizeLine_eq]; decide)
theorem rok_of {p : Part} (h : isNameB p.1 = true ∧ ColsOk p.2.2) : ROk p :=
  ⟨name_line h.1, fun c hc => ⟨name_line (h.2.all c hc).1, (h.2.all c hc).2.2⟩, h.2.nd, Nat.lt_of_le_of_lt h.2.len (by decide)⟩
end HM
set_option Elab.async false
set_option linter.all false
set_option maxRecDepth 100000
set_option maxHeartbeats 4000000
namespace HM
open PySem PySem.Spec PyProof.Rows L2
/-! ### data in another heap -/
section
variable {K : PySem.W.Frag} {H H' : Hp}
mutual
theorem dp_by (ht : ∀ b xs, SqT K H b xs → SqT K H' b xs) (hl : ∀ b xs, SqL K H b xs → SqL K H' b xs) : ∀ (d : PyData) (v : V), Dp K H v d → Dp K H' v d
  | .none, _, h => by cases h; exact .non
  | .bool b, _, h => by cases h; exact .bl b
  | .int i, _, h => by cases h; exact .int i
  | .str x, _, h => by cases h; exact .str x
  | .list ds, _, h => by
    cases h with
    | lst hs ha => exact .lst (hl _ _ hs) (dps_by ht hl ds _ ha)
  | .tuple ds, _, h => by
    cases h with
    | tup hs ha => exact .tup (ht _ _ hs) (dps_by ht hl ds _ ha)
  | .dict _, _, h => by cases h
theorem dps_by (ht : ∀ b xs, SqT K H b xs → SqT K H' b xs) (hl : ∀ b xs, SqL K H b xs → SqL K H' b xs) : ∀ (ds : List PyData) (vs : List V), DpAll K H vs ds → DpAll K H' vs ds
  | [], _, h => by cases h; exact .nil
  | d :: ds, _, h => by
    cases h with
    | cons h1 h2 => exact .cons (dp_by ht hl d _ h1) (dps_by ht hl ds _ h2)
end
theorem rd_upd {d b : Addr} {u o : HO} (hd : ¬ Rd H d u) (h : Rd H b u) : Rd (upd H d o) b u := by
  have e : b ≠ d := fun z => hd (z ▸ h)
  rcases h with h | ⟨ob, h⟩
  · exact .inl (by rw [upd_ne e]; exact h)
  · exact .inr ⟨ob, by rw [upd_ne e]; exact h⟩
theorem dp_upd {d : Addr} {o : HO} (nt : ∀ xs, ¬ Rd H d (.tup xs)) (nl : ∀ xs, ¬ Rd H d (.lst xs)) {v : V} {x : PyData} (h : Dp K H v x) : Dp K (upd H d o) v x :=
  dp_by (fun b xs q => by
    rcases q with q | q
    · exact .inl (rd_upd (nt xs) q)
    · exact .inr q) (fun b xs q => by
    rcases q with q | q
    · exact .inl (rd_upd (nl xs) q)
    · exact .inr q) x v h
theorem dK_nt {d : Addr} {kvs : List (Key × V)} (hd : H d = some (.dK kvs)) : (∀ xs, ¬ Rd H d (.tup xs)) ∧ ∀ xs, ¬ Rd H d (.lst xs) := by
  refine ⟨fun xs h => ?_, fun xs h => ?_⟩ <;> rcases h with h | ⟨ob, h⟩ <;> rw [hd] at h <;> cases h
theorem fK_nt {d : Addr} {ob : Obj} {kvs : List (Key × V)} (hd : H d = some (.frz ob (.dK kvs))) : (∀ xs, ¬ Rd H d (.tup xs)) ∧ ∀ xs, ¬ Rd H d (.lst xs) := by
  refine ⟨fun xs h => ?_, fun xs h => ?_⟩ <;> rcases h with h | ⟨ob, h⟩ <;> rw [hd] at h <;> cases h
end
/-! ### a dict is locked for a while -/
section
variable {T : Tb} {H H' : Hp} {d : Addr} {od : Obj} {kvs : List (Key × V)} {o : HO}
theorem tabs_upd {u : HO} (h : H d = some u) (w : ∀ c q, u ≠ LamX.CodeO c q) (nt : ∀ ps, u ≠ .tbl ps) (a : LamX.Tabs T H) : LamX.Tabs T (upd H d o) := by
  intro q hq
  obtain ⟨ps, h1, h2, h3⟩ := a q hq
  have n1 : q.1 ≠ d := fun z => by
    rw [z, h] at h1
    exact nt _ (Option.some.inj h1)
  refine ⟨ps, by rw [upd_ne n1]; exact h1, h2, fun pos cv hc => ?_⟩
  obtain ⟨c, e1, e2⟩ := h3 pos cv hc
  have n2 : c ≠ d := fun z => by
    rw [z, h] at e2
    exact w _ _ (Option.some.inj e2)
  exact ⟨c, e1, by rw [upd_ne n2]; exact e2⟩
theorem tabs_dK (h : H d = some (.dK kvs)) (a : LamX.Tabs T H) : LamX.Tabs T (upd H d o) :=
  tabs_upd h (fun c q z => by
    have z' : HO.dK kvs = HO.ext _ := z
    cases z') (fun ps z => by cases z) a
theorem tabs_fK (h : H d = some (.frz od (.dK kvs))) (a : LamX.Tabs T H) : LamX.Tabs T (upd H d o) :=
  tabs_upd h (fun c q z => by
    have z' : HO.frz od (HO.dK kvs) = HO.ext _ := z
    cases z') (fun ps z => by cases z) a
theorem Lv.unlock (h0 : H d = some (.dK kvs)) (l : Lv T (upd H d (.frz od (.dK kvs))) H') (hd : H' d = some (.frz od (.dK kvs))) : Lv T H (upd H' d (.dK kvs)) := by
  refine ⟨fun b u hb n => ?_, fun a => tabs_fK hd (l.tab (tabs_dK h0 a))⟩
  by_cases e : b = d
  · subst e
    rw [h0] at hb
    rw [upd_same]
    exact hb
  · rw [upd_ne e]
    exact l.ext b u (by rw [upd_ne e]; exact hb) n
theorem LvX.locked (h0 : H d = some (.dK kvs)) (l : Lv T (upd H d (.frz od (.dK kvs))) H') : LvX T (fun b => b = d) H H' := by
  refine ⟨fun b u hb n e => l.ext b u (by rw [upd_ne e]; exact hb) n, fun a => l.tab (tabs_dK h0 a)⟩
theorem LvX.mono {D D' : Addr → Prop} (l : LvX T D H H') (h : ∀ b, D b → D' b) : LvX T D' H H' := ⟨fun b o e n nd => l.ext b o e n fun z => nd (h b z), l.tab⟩
end
/-! ### new since -/
def Nw (H : Hp) (p : Addr) : Prop := ∀ o, H p = some o → ¬ NoTb o
theorem Nw.of {H : Hp} {p : Addr} (h : H p = none) : Nw H p := fun o e => by
  rw [h] at e
  cases e
theorem Lv.nw {T : Tb} {H H1 : Hp} {p : Addr} (l : Lv T H H1) (h : Nw H1 p) : Nw H p := fun o e n => h o (l.ext p o e n) n
theorem Lv.putN {T : Tb} {H H1 : Hp} {p : Addr} {u o : HO} (a : Lv T H H1) (n : Nw H p) (e : H1 p = some u) (w : Wr u) : Lv T H (upd H1 p o) := by
  refine ⟨fun b x hb nx => ?_, fun h => ?_⟩
  · have ne : b ≠ p := fun z => n x (z ▸ hb) nx
    rw [upd_ne ne]
    exact a.ext b x hb nx
  · refine tabs_upd e (fun c q z => ?_) (fun ps z => ?_) (a.tab h)
    · rw [z] at w
      exact w
    · rw [z] at w
      exact w
theorem ne_at {H : Hp} {a b : Addr} {o u : HO} (ha : H a = some o) (hb : H b = some u) (d : o ≠ u) : a ≠ b := fun z => by
  rw [z, hb] at ha
  exact d (Option.some.inj ha).symm
theorem ne_none {H : Hp} {a b : Addr} {o : HO} (ha : H a = some o) (hb : H b = none) : a ≠ b := fun z => by
  rw [z, hb] at ha
  cases ha
/-! ### columns, tables, forms on the heap -/
def ColsT (K : PySem.W.Frag) (H : Hp) (c : Addr) (cs : Cols) : Prop := ∃ ts : List Addr, PlainT H c (ts.map V.ref) ∧ Paired (fun (t : Addr) (c : Str × Kd) => ∃ x, SqT K H t [.str c.1, x] ∧ Dp K H x c.2.d) ts cs
def PartAt (K : PySem.W.Frag) (H : Hp) (D : Addr → Prop) (v : V) (p : Part) : Prop := ∃ t d, v = V.ref t ∧ SqT K H t [.str p.1, .str p.2.1, .ref d] ∧ ColsAt K H d p.2.2 ∧ (colsBad p.2.2 = true → D d)
def TabAt (K : PySem.W.Frag) (H : Hp) (v : V) (p : Part) : Prop := ∃ t c, v = V.ref t ∧ SqT K H t [.str p.1, .str p.2.1, .ref c] ∧ ColsT K H c p.2.2
def FormAt (K : PySem.W.Frag) (H : Hp) (v : V) (n : Int) (qs : List Part) : Prop := ∃ a r xs, v = V.ref a ∧ SqT K H a [.int n, .ref r] ∧ SqT K H r xs ∧ Paired (TabAt K H) xs qs
section
variable {K : PySem.W.Frag} {T : Tb} {H H' : Hp} {D : Addr → Prop}
theorem Lv.colsT (a : Lv T H H') {c : Addr} {cs : Cols} (h : ColsT K H c cs) : ColsT K H' c cs := by
  obtain ⟨ts, h1, h2⟩ := h
  exact ⟨ts, a.plainT h1, Paired.imp (fun t c ⟨x, q1, q2⟩ => ⟨x, a.tup q1, a.dp q2⟩) h2⟩
theorem Lv.part (a : Lv T H H') {v : V} {p : Part} (h : PartAt K H D v p) : PartAt K H' D v p := by
  obtain ⟨t, d, e, h1, h2, h3⟩ := h
  exact ⟨t, d, e, a.tup h1, a.cols h2, h3⟩
theorem Lv.tabAt (a : Lv T H H') {v : V} {p : Part} (h : TabAt K H v p) : TabAt K H' v p := by
  obtain ⟨t, c, e, h1, h2⟩ := h
  exact ⟨t, c, e, a.tup h1, a.colsT h2⟩
theorem Lv.form (a : Lv T H H') {v : V} {n : Int} {qs : List Part} (h : FormAt K H v n qs) : FormAt K H' v n qs := by
  obtain ⟨b, r, xs, e, h1, h2, h3⟩ := h
  exact ⟨b, r, xs, e, a.tup h1, a.tup h2, Paired.imp (fun v p q => a.tabAt q) h3⟩
theorem PartAt.mono {D' : Addr → Prop} (h : ∀ b, D b → D' b) {v : V} {p : Part} (q : PartAt K H D v p) : PartAt K H D' v p := by
  obtain ⟨t, d, e, h1, h2, h3⟩ := q
  exact ⟨t, d, e, h1, h2, fun z => h _ (h3 z)⟩
end
/-! ### columns by names -/
section
variable {K : PySem.W.Frag} {H : Hp}
theorem cols_keys : ∀ {kvs : List (Key × V)} {cs : Cols}, Paired (fun kv c => kv.1 = Sum.inr c.1 ∧ Dp K H kv.2 c.2.d) kvs cs → kvs.map (·.1) = (cs.map (·.1)).map Sum.inr
  | _, _, .nil => rfl
  | _, _, .cons h t => by
    rw [List.map_cons, List.map_cons, List.map_cons, cols_keys t, h.1]
theorem cols_val : ∀ {kvs : List (Key × V)} {cs : Cols} {c : Str × Kd}, Paired (fun kv c => kv.1 = Sum.inr c.1 ∧ Dp K H kv.2 c.2.d) kvs cs → (cs.map (·.1)).Nodup → c ∈ cs → ∃ v, valV kvs (Sum.inr c.1) = some v ∧ Dp K H v c.2.d
  | _, _, _, .nil, _, h => by cases h
  | _, _, c, @Paired.cons _ _ _ kv c0 kvs cs h t, nd, hc => by
    rw [List.map_cons, List.nodup_cons] at nd
    rcases List.mem_cons.mp hc with rfl | hc
    · exact ⟨kv.2, valV_pos h.1, h.2⟩
    · have ne : ¬ kv.1 = Sum.inr c.1 := fun z => by
        rw [h.1] at z
        have e := Sum.inr.inj z
        exact nd.1 (e ▸ List.mem_map_of_mem hc)
      rw [valV_neg ne]
      exact cols_val t nd.2 hc
theorem sorted_names {ys : List Str} {cs : Cols} (p : ys.Perm (cs.map (·.1))) (s : PyProof.Rows.sortedS ys = true) (nd : (cs.map (·.1)).Nodup) : ys = (sortC cs).map (·.1) := by
  have h1 : ys.Pairwise fun a b => leS a b = true := by
    cases ys with
    | nil => exact .nil
    | cons x r => exact rising_pair r x s
  have h2 : ((sortC cs).map (·.1)).Pairwise fun a b => leS a b = true :=
    List.pairwise_map.mpr (List.pairwise_mergeSort (le := fun a b : Str × Kd => leS a.1 b.1) (fun _ _ _ => leS_trans) (fun a b => leS_total a.1 b.1) cs)
  exact sorted_one (fun x : Str => x) (p.trans ((sortC_perm cs).map (·.1)).symm) (by rw [List.map_id']; exact p.nodup_iff.mpr nd) h1 h2
theorem take_map_succ {α β : Type} (f : α → β) {xs : List α} {i : Nat} {x : α} (e : xs[i]? = some x) : (xs.take (i + 1)).map f = (xs.take i).map f ++ [f x] := by
  rw [List.take_add_one, e, List.map_append]
  rfl
theorem paired_snoc {α β : Type} {F : α → β → Prop} {xs : List α} {ys : List β} {x : α} {y : β} {i : Nat} (h : Paired F xs (ys.take i)) (e : ys[i]? = some y) (q : F x y) : Paired F (xs ++ [x]) (ys.take (i + 1)) := by
  rw [List.take_add_one, e]
  exact Paired.append' h (.cons q .nil)
theorem colsBad_all : ∀ {cs : Cols}, (∀ c ∈ cs, isNameB c.1 = true ∧ c.2.ok = true) → colsBad cs = false := fun {cs} h => by
  unfold colsBad
  refine List.any_eq_false.mpr fun c hc => ?_
  obtain ⟨h1, h2⟩ := h c hc
  rw [h1, h2]
  decide
theorem colsBad_one {cs : Cols} {c : Str × Kd} (hc : c ∈ cs) (h : isNameB c.1 = false ∨ c.2.ok = false) : colsBad cs = true := by
  unfold colsBad
  refine List.any_eq_true.mpr ⟨c, hc, ?_⟩
  rcases h with h | h
  · rw [h]
    rfl
  · rw [h]
    simp
end
end HM
set_option Elab.async false
set_option linter.all false
set_option maxRecDepth 100000
set_option maxHeartbeats 4000000
namespace HM
open PySem PySem.Spec PyProof.Rows L2
/-! ### the own exceptions -/
/-- NoForm stands at CF, NoTable at CT, StepError.__init__ at fI -/
structure Ex (K : PySem.W.Frag) (mg : Str → Option Value) (CF CT fI : Addr) : Prop where
  nf : mg "NoForm" = some (.ref CF)
  qF : PySem.W.excIn K CF He.veBase "ValueError.__new__" = true
  kF : PySem.W.keepIn K (.ref CF) = true
  sF : PySem.W.subIn K (.ref CF) (.type "BaseException") = some true
  tF : PySem.W.typeIn K (.ref CF) = some (.type "type")
  nt : mg "NoTable" = some (.ref CT)
  oT : OexC K CT
  iT : PySem.W.findIn K (.ref CT) "__init__" = some (some (.ref fI))
  tI : PySem.W.typeIn K (.ref fI) = some (.type "function")
  dI : ∃ fd, FunD K "__init__" "StepError.__init__" (defArgs (inClass (top 2) 0)) (defBody (inClass (top 2) 0)) (defScope (inClass (top 2) 0)) [] [] fI fd
  f1 : PySem.W.findIn K (.ref CT) "table" = some none
  f2 : PySem.W.findIn K (.ref CT) "key" = some none
  f3 : PySem.W.findIn K (.ref CT) "place" = some none
/-- a block's names, by a look -/
def blkB (N : List Str) (sc scope : Scope) (own : List (Str × Nat)) : Bool :=
  (scope.names.all fun y => decide (scope.names.lookup y.1 = some y.2)) && ((own.all fun p => decide (N[p.2]? = some p.1)) && ((scope.names.all fun y => !decide (y.2 = .free) || (decide (sc.names.lookup y.1 = some .cell) || decide (sc.names.lookup y.1 = some .free))) &&
    (scope.names.all fun y => !(decide (y.2 = .local) || decide (y.2 = .cell)) || (decide (y.1 ∈ own.map (·.1)) || decide (y.1 ∉ N)))))
theorem blk_of {N : List Str} {sc scope : Scope} {own : List (Str × Nat)} (hk : scope.kind = .function) (h : blkB N sc scope own = true) : BlkOk N sc scope own := by
  unfold blkB at h
  rw [Bool.and_eq_true, Bool.and_eq_true, Bool.and_eq_true, List.all_eq_true, List.all_eq_true, List.all_eq_true, List.all_eq_true] at h
  obtain ⟨h1, h2, h3, h4⟩ := h
  refine ⟨hk, fun y hy => of_decide_eq_true (h1 y hy), fun p hp => of_decide_eq_true (h2 p hp), fun y hy e => ?_, fun y hy e => ?_⟩
  · have q := h3 y hy
    rw [decide_eq_true e, Bool.not_true, Bool.false_or, Bool.or_eq_true] at q
    rcases q with q | q
    · exact .inl (of_decide_eq_true q)
    · exact .inr (of_decide_eq_true q)
  · have q := h4 y hy
    have e2 : (decide (y.2 = .local) || decide (y.2 = .cell)) = true := by
      rcases e with e | e
      · rw [decide_eq_true e, Bool.true_or]
      · rw [decide_eq_true e, Bool.or_true]
    rw [e2, Bool.not_true, Bool.false_or, Bool.or_eq_true] at q
    rcases q with q | q
    · exact .inl (of_decide_eq_true q)
    · exact .inr (of_decide_eq_true q)
theorem yesT {σ : L2.St} {H : Hp} {f : Bool → Hp → Prop} (h : f true H) : tYes σ H f := h
theorem hu1 {k : Nat} {A : Around} (r : Room k A) : A.units + 1 < cLine := by
  have := r.un
  omega
section
variable {P : Program} {w : World} {K : PySem.W.Frag} {mg : Str → Option Value} {base : Heap} {CF CT fI : Addr}
theorem pmk_nf {X : Cx} (e : Ex X.K X.mg CF CT fI) {m : Str} {j : Nat} {p p2 pos : Pos} (hg : Gl X "NoForm" := by rfl) : PMk X (.Call (.Name "NoForm" p) [.Constant (.str m) j p2] [] pos) (fun _ H Q => Q (.ref CF) none H) :=
  pmk_own PySem.F.excBase_ValueError e.qF e.nf e.kF (raises_own e.sF e.tF) hg
/-! ### need_columns -/
def spNeed (T : Tb) (K : PySem.W.Frag) (CF : Addr) : Sp := fun vs H Q E => ∃ (d : Addr) (cs : Cols), vs = [.ref d] ∧ ColsAt K H d cs ∧ (∀ c ∈ cs, c.1.length ≤ sizeLine ∧ c.2.Dom) ∧ (cs.map (·.1)).Nodup ∧ cs.length < 64 ∧
  (colsBad cs = false → ∀ c H', Lv T H H' → ColsT K H' c (sortC cs) → Q (.ref c) H') ∧ (colsBad cs = true → ∀ H', LvX T (fun b => b = d) H H' → E (.ref CF) none H')
theorem scNeed : FnScope ["columns", "column", "kind"] ["columns"] (defScope sNeed) := ⟨rfl, rfl, rfl, by decide +kernel, rfl, by decide +kernel, by decide +kernel⟩
theorem ok_need (T : Tb) (D : DefAt K mg "need_columns" sNeed) (ex : Ex K mg CF CT fI) (GN : Cl P w K mg base CX0 1 "is_name" spIsName) (GK : Cl P w K mg base CX0 3 "is_kind" (spIsKind T K)) (B : Bt mg) :
    Cl P w K mg base (L2.CX P w) 4 "need_columns" (spNeed T K CF) := by
  have nd := scNeed.nd
  refine clX D scNeed (fun _ _ _ _ _ _ us hl => match us, hl with | [_], _ => rfl) (fun vs H Q E h => ?_) fun f cdv A outer s H vs Q E hr h => ?_
  · obtain ⟨d, cs, rfl, _⟩ := h
    rfl
  obtain ⟨d, cs, rfl, hcs, hdom, hnd, hlen, q, qE⟩ := h
  obtain ⟨kvs, hd, hp⟩ := hcs
  refine ⟨_, pss_cons (ps_lock (ps_for (passes_of rfl) rfl (pi_items (pv 0)) (pg_tup rfl (pgs_cons (pg_name (i := 1) nd rfl (.inl rfl)) (pgs_cons (pg_name (i := 2) nd rfl (.inl rfl)) pgs_nil)))
      (pss_one (ps_if (PW.pt (pw_or (pt_not (pt_val (pe_cl GN hr (pa_cons (pv 1) pa_nil)))) (pw_or1 (pt_not (pt_val (pe_cl GK hr (pa_cons (pv 2) pa_nil)))))))
        (pss_one (ps_raise rfl (takes_of rfl rfl rfl rfl) (pmk_nf (X := cxOf (L2.CX P w) P w K mg base _ _ _ _ _ _ _ _ _ _) ex))) pss_nil))))
    (pss_one (ps_ret (pe_callTy (T := "tuple") call_tupleF rfl B.tuple (by decide +kernel) (pa_cons (pe_lc (own := [("column", 1)]) rfl nd (pi_list (pe_callB (id := "sorted") (call_sortedD rfl) rfl B.sorted (by decide +kernel) (pa_cons (pv 0) pa_nil)))
      (blk_of (N := ["columns", "column", "kind"]) (sc := defScope sNeed) rfl (by decide +kernel)) (fun s H C cl fp => pg_name (i := 1) nd rfl (.inl rfl)) (fun s H C cl fp => pts_nil)
      (fun s H C cl fp => pe_tup (pa_cons (pv 1) (pa_cons (pe_dget (hu1 hr) (pv 0) (pv 1) (fun _ _ => rfl)) pa_nil)))) pa_nil)))), ?_⟩
  refine ⟨d, .dK kvs, hd, True.intro, fun od => ?_⟩
  have hnt := dK_nt hd
  have L0 : (upd H d (.frz od (.dK kvs))) d = some (.frz od (.dK kvs)) := upd_same
  have hkl : kvs.length = cs.length := Paired.len hp
  refine ⟨_, rfl, d, od, kvs, rfl, L0, ?_⟩
  refine for_by kvs.length (fun i σ H' => ∃ y z, σ = [some (.ref d), y, z] ∧ H' d = some (.frz od (.dK kvs)) ∧ Lv T (upd H d (.frz od (.dK kvs))) H' ∧ ∀ c ∈ cs.take i, isNameB c.1 = true ∧ c.2.ok = true) ⟨none, none, rfl, L0, Lv.refl, fun c hc => by simp at hc⟩
    (fun i σ H' hi hP => ?_) (fun σ H' hP => ?_) (fun i x σ H' H2 hi hP hy => ?_) fun σ H' hP => ?_
  · obtain ⟨y, z, rfl, h1, _⟩ := hP
    exact ⟨h1, hi⟩
  · obtain ⟨y, z, rfl, h1, _⟩ := hP
    exact ⟨h1, Nat.le_refl _⟩
  · obtain ⟨y, z, rfl, h1, l1, hok⟩ := hP
    obtain ⟨t, k, v, hkv, rfl, hn, rfl⟩ := hy
    have hcs : ∃ c, cs[i]? = some c := ⟨cs[i]'(by omega), List.getElem?_eq_getElem (by omega)⟩
    obtain ⟨c, hc⟩ := hcs
    obtain ⟨kv', e1, e2, e3⟩ := Paired.getR hp hc
    have e4 : (k, v) = kv' := Option.some.inj (hkv.symm.trans e1)
    subst e4
    have hk : k = Sum.inr c.1 := e2
    subst hk
    have hcm := List.mem_of_getElem? hc
    have l2 : Lv T (upd H d (.frz od (.dK kvs))) (upd H' t (.tup [kV (Sum.inr c.1), v])) := l1.add hn
    have ntd : t ≠ d := fun z => by
      rw [z, h1] at hn
      cases hn
    have hdd : (upd H' t (.tup [kV (Sum.inr c.1), v])) d = some (.frz od (.dK kvs)) := by rw [upd_ne (Ne.symm ntd)]; exact h1
    refine ⟨t, _, rfl, .inl (.inl upd_same), rfl, _, _, rfl, _, _, rfl, rfl, ?_⟩
    refine ⟨.str c.1, rfl, c.1, rfl, (hdom c hcm).1, _, rfl, ?_⟩
    have bad : ∀ {H3 : Hp}, Lv T (upd H d (.frz od (.dK kvs))) H3 → isNameB c.1 = false ∨ c.2.ok = false → E (.ref CF) none H3 := fun {H3} l3 hb => qE (colsBad_one hcm hb) H3 (LvX.locked hd l3)
    cases hnm : isNameB c.1 with
    | false => exact iteT (iteT (bad l2 (.inl hnm)))
    | true =>
      refine iteF ⟨v, rfl, v, c.2, rfl, l2.dp (dp_upd hnt.1 hnt.2 e3), (hdom c hcm).2, fun H3 l3 => ⟨_, rfl, ?_⟩⟩
      cases hko : c.2.ok with
      | false => exact iteT (bad (l2.trans l3) (.inr hko))
      | true =>
        refine iteF ⟨_, _, rfl, l3.at hdd, l2.trans l3, fun c2 hc2 => ?_⟩
        rw [List.take_add_one, hc] at hc2
        rcases List.mem_append.mp hc2 with hc2 | hc2
        · exact hok c2 hc2
        · have : c2 = c := by simpa using hc2
          rw [this]
          exact ⟨hnm, hko⟩
  · obtain ⟨y, z, rfl, h1, l1, hok⟩ := hP
    rw [List.take_of_length_le (by omega)] at hok
    refine ⟨h1, ?_⟩
    have hgood := colsBad_all hok
    have l2 : Lv T H (upd H' d (.dK kvs)) := Lv.unlock hd l1 h1
    have hdu : (upd H' d (.dK kvs)) d = some (.dK kvs) := upd_same
    generalize upd H' d (.dK kvs) = H1 at l2 hdu
    refine ⟨_, rfl, d, kvs, cs.map (·.1), rfl, .inl hdu, cols_keys hp, by rw [List.length_map]; exact hlen, fun ys p hperm hsrt hnp => ?_⟩
    obtain rfl := sorted_names hperm hsrt hnd
    refine ⟨p, rfl, ⟨_, .inl (.inl upd_same)⟩, fun D hD => ?_⟩
    have l3 : Lv T H (upd H1 p (.lst (((sortC cs).map (·.1)).map V.str))) := l2.add hnp
    have hpD : p ≠ D := fun z => by
      rw [← z, upd_same] at hD
      cases hD
    have hdp : d ≠ p := fun z => by
      rw [← z, hdu] at hnp
      cases hnp
    have hd3 : (upd H1 p (.lst (((sortC cs).map (·.1)).map V.str))) d = some (.dK kvs) := by rw [upd_ne hdp]; exact hdu
    have hp3 : (upd H1 p (.lst (((sortC cs).map (·.1)).map V.str))) p = some (.lst (((sortC cs).map (·.1)).map V.str)) := upd_same
    generalize upd H1 p (.lst (((sortC cs).map (·.1)).map V.str)) = H3 at l3 hD hd3 hp3
    have hsl : (sortC cs).length = cs.length := (sortC_perm cs).length_eq
    have hdD : d ≠ D := fun z => by
      rw [← z, hd3] at hD
      cases hD
    refine lc_by (sortC cs).length (fun i H' => ∃ ts : List Addr, H' D = some (.lst (ts.map V.ref)) ∧ H' p = some (.lst (((sortC cs).map (·.1)).map V.str)) ∧ H' d = some (.dK kvs) ∧ Lv T H H' ∧
        Paired (fun (t : Addr) (c : Str × Kd) => ∃ x, H' t = some (.tup [.str c.1, x]) ∧ Dp K H x c.2.d) ts ((sortC cs).take i)) ⟨[], upd_same, by rw [upd_ne hpD]; exact hp3, by rw [upd_ne hdD]; exact hd3, l3.add hD, .nil⟩
      (fun i H' hi hP => ?_) (fun H' hP => ?_) (fun i x H' H2 hi hP hy => ?_) fun H' hP => ?_
    · obtain ⟨ts, h1, h2, _⟩ := hP
      exact ⟨_, _, .inl (.inl h2), List.getElem?_eq_getElem (by simpa using hi)⟩
    · obtain ⟨ts, h1, h2, _⟩ := hP
      exact ⟨_, .inl (.inl h2), by simp⟩
    · obtain ⟨ts, h1, h2, h4, l4, hts⟩ := hP
      obtain ⟨rfl, hy⟩ := hy
      have hc : (sortC cs)[i]? = some ((sortC cs)[i]) := List.getElem?_eq_getElem hi
      generalize (sortC cs)[i] = c at hc
      have hcm : c ∈ cs := (sortC_perm cs).mem_iff.mp (List.mem_of_getElem? hc)
      have hx := hy _ (.inl (.inl h2))
      rw [List.getElem?_map, List.getElem?_map, hc] at hx
      have hx' : V.str c.1 = x := Option.some.inj hx
      subst hx'
      obtain ⟨v, hv, hvd⟩ := cols_val hp hnd hcm
      refine ⟨rfl, ?_⟩
      refine yesT (iteT ?_)
      refine ⟨_, rfl, ⟨_, rfl, _, rfl, d, v, rfl, ?_, by show 2 ≤ sizeLine; rw [sizeLine_eq]; decide, fun t ht => ?_⟩⟩
      · rw [← hv]
        exact DGet.k (k := Sum.inr c.1) h4
      · have hDt : D ≠ t := fun z => by
          rw [← z, h1] at ht
          cases ht
        have hpt : p ≠ t := fun z => by
          rw [← z, h2] at ht
          cases ht
        have hdt : d ≠ t := fun z => by
          rw [← z, h4] at ht
          cases ht
        have l5 : Lv T H2 (upd H2 t (.tup [.str c.1, v])) := Lv.new ht
        have l6 : Lv T H (upd (upd H2 t (.tup [.str c.1, v])) D (.lst (ts.map V.ref ++ [V.ref t]))) := (l4.trans l5).putN (u := .lst (ts.map V.ref)) (l3.nw (.of hD)) (by rw [upd_ne hDt]; exact h1) True.intro
        refine ⟨ts.map V.ref, by rw [upd_ne hDt]; exact h1, ?_, ts ++ [t], ?_, ?_, ?_, l6, ?_⟩
        · rw [List.length_map, Paired.len hts, List.length_take, sizeLine_eq]
          omega
        · rw [upd_same, List.map_append]
          rfl
        · rw [upd_ne hpD, upd_ne hpt]
          exact h2
        · rw [upd_ne hdD, upd_ne hdt]
          exact h4
        · refine paired_snoc (Paired.imp (fun t2 c2 hh => ?_) hts) hc ⟨v, ?_, hvd⟩
          · obtain ⟨x, q1, q2⟩ := hh
            exact ⟨x, by
              rw [upd_ne (ne_at q1 h1 (fun z => by cases z)), upd_ne (ne_none q1 ht)]
              exact q1, q2⟩
          · rw [upd_ne (Ne.symm hDt), upd_same]
    · obtain ⟨ts, h1, h2, h4, l4, hts⟩ := hP
      rw [List.take_of_length_le (Nat.le_refl _)] at hts
      refine ⟨D, _, rfl, .inl (.inl h1), fun c o hc ho => ?_⟩
      refine q hgood c _ (l4.add hc) ⟨ts, ⟨o, upd_same, ho⟩, Paired.imp (fun t c2 ⟨x, q1, q2⟩ => ⟨x, (Lv.new (T := T) hc).tup (.inl (.inl q1)), (l4.add hc).dp q2⟩) hts⟩
end
end HM
set_option Elab.async false
set_option linter.all false
set_option maxRecDepth 100000
set_option maxHeartbeats 4000000
namespace HM
open PySem PySem.Spec PyProof.Rows L2
/-! ### a def whose code object is known -/
/-- the def of the name x, its code object at c -/
def DefC (K : PySem.W.Frag) (mg : Str → Option Value) (x : Str) (st : Stmt) (c : Addr) : Prop :=
  ∃ (f : Addr) (oc : Value) (od : Option Addr) (kV doc pm : Value) (an : Option Addr) (ct : Value) (osl : Array (Option Value)),
    K.lookup f = some ⟨oc, od, .func (PySem.W.fnOf x x (defArgs st) (defBody st) (defScope st) .none kV doc pm an (.ref c) ct), osl⟩ ∧ PySem.W.codeIn K (.ref c) x = true ∧ PySem.W.keepIn K (.ref f) = true ∧ mg x = some (.ref f)
section
variable {P : Program} {w : World} {K : PySem.W.Frag} {mg : Str → Option Value} {base : Heap}
theorem clC {CX : CXT} {x : Str} {st : Stmt} {N ps : List Str} {k : Nat} {sp : Sp} {c : Addr} (D : DefC K mg x st c) (S : FnScope N ps (defScope st))
    (hb : ∀ (kV doc pm : Value) (an : Option Addr) (cdv ct : Value) (us : List Value), us.length = ps.length → bindArgs (PySem.W.fnOf x x (defArgs st) (defBody st) (defScope st) .none kV doc pm an cdv ct) ⟨us, []⟩ = pure (ps.zip us))
    (len : ∀ vs H Q E, sp vs H Q E → vs.length = ps.length)
    (hbody : ∀ (f : Addr) (A : Around) (outer : List Env) (s : Shared) (H : Hp) (vs : List V) (Q : VK) (E : XK), Room k (A.deeper (envOfC x (defScope st) s.heap.objs.size f (.ref c))) → sp vs H Q E →
      ∃ t, PSs (cxOf CX P w K mg base N x (defScope st) f (.ref c) A outer s H E) (defBody st) t ∧ t { nx := fun _ H' => Q .non H', rt := Q } (start N vs) H) : Cl P w K mg base CX (k + 1) x sp := by
  obtain ⟨f, oc, od, kV, doc, pm, an, ct, osl, lk, hcd, kp, hm⟩ := D
  exact ⟨f, _, ps, fn_of lk hcd S len fun A outer s H vs Q E hr h => hbody f A outer s H vs Q E hr h, hm, kp, Binds.all fun us hl => hb _ _ _ _ _ _ us hl⟩
end
/-! ### tuples stay -/
def TupO : HO → Prop
  | .tup _ => True
  | .frz _ (.tup _) => True
  | _ => False
def Kt (H H' : Hp) : Prop := ∀ b o, H b = some o → TupO o → H' b = some o
section
variable {K : PySem.W.Frag} {T : Tb} {H H1 H' : Hp}
theorem Kt.refl : Kt H H := fun _ _ h _ => h
theorem Kt.trans (a : Kt H H1) (b : Kt H1 H') : Kt H H' := fun c o h t => b c o (a c o h t) t
theorem Lv.kt (l : Lv T H H') : Kt H H' := fun b o h t => l.ext b o h fun ps z => by
  rw [z] at t
  exact t
theorem Kt.upd {d : Addr} {u o : HO} (h : H d = some u) (n : ¬ TupO u) : Kt H (upd H d o) := fun b x hb t => by
  rw [upd_ne (fun z => by
    rw [z, h] at hb
    rw [Option.some.inj hb] at n
    exact n t)]
  exact hb
theorem Kt.new {d : Addr} {o : HO} (h : H d = none) : Kt H (L2.upd H d o) := (Lv.new (T := []) h).kt
theorem Kt.tup (k : Kt H H') {b : Addr} {xs : List V} (h : SqT K H b xs) : SqT K H' b xs := by
  rcases h with (h | ⟨ob, h⟩) | h
  · exact .inl (.inl (k _ _ h True.intro))
  · exact .inl (.inr ⟨ob, k _ _ h True.intro⟩)
  · exact .inr h
theorem Kt.plain (k : Kt H H') {b : Addr} {xs : List V} (h : PlainT H b xs) : PlainT H' b xs := by
  obtain ⟨o, h1, h2⟩ := h
  exact ⟨o, k _ _ h1 True.intro, h2⟩
theorem Kt.pl (k : Kt H H') {x : V} {p : Pl} (h : Dp K H x p.d) : Dp K H' x p.d := by
  rcases p with w | ⟨w, i⟩ | ⟨w, z⟩
  · obtain ⟨a, xs, rfl, hS, hA⟩ := dp_tup h
    obtain ⟨y, rfl, hy⟩ := dps1 hA
    obtain rfl := dp_str hy
    exact .tup (k.tup hS) (.cons (.str _) .nil)
  · obtain ⟨a, xs, rfl, hS, hA⟩ := dp_tup h
    obtain ⟨y, z, rfl, hy, hz⟩ := dps2 hA
    obtain rfl := dp_str hy
    obtain rfl := dp_int hz
    exact .tup (k.tup hS) (.cons (.str _) (.cons (.int _) .nil))
  · obtain ⟨a, xs, rfl, hS, hA⟩ := dp_tup h
    obtain ⟨y, z, rfl, hy, hz⟩ := dps2 hA
    obtain rfl := dp_str hy
    obtain rfl := dp_str hz
    exact .tup (k.tup hS) (.cons (.str _) (.cons (.str _) .nil))
theorem Kt.kd (k : Kt H H') {x : V} {q : Kd} (h : Dp K H x q.d) : Dp K H' x q.d := by
  rcases q with p | ⟨w, p⟩
  · exact Kt.pl (p := p) k h
  · obtain ⟨a, xs, rfl, hS, hA⟩ := dp_tup h
    obtain ⟨y, z, rfl, hy, hz⟩ := dps2 hA
    obtain rfl := dp_str hy
    exact .tup (k.tup hS) (.cons (.str _) (.cons (k.pl hz) .nil))
theorem Kt.colsT (k : Kt H H') {c : Addr} {cs : Cols} (h : ColsT K H c cs) : ColsT K H' c cs := by
  obtain ⟨ts, h1, h2⟩ := h
  exact ⟨ts, k.plain h1, Paired.imp (fun t c ⟨x, q1, q2⟩ => ⟨x, k.tup q1, k.kd q2⟩) h2⟩
theorem Kt.tabAt (k : Kt H H') {v : V} {p : Part} (h : TabAt K H v p) : TabAt K H' v p := by
  obtain ⟨t, c, e, h1, h2⟩ := h
  exact ⟨t, c, e, k.tup h1, k.colsT h2⟩
theorem Kt.form (k : Kt H H') {v : V} {n : Int} {qs : List Part} (h : FormAt K H v n qs) : FormAt K H' v n qs := by
  obtain ⟨b, r, xs, e, h1, h2, h3⟩ := h
  exact ⟨b, r, xs, e, k.tup h1, k.tup h2, Paired.imp (fun v p q => k.tabAt q) h3⟩
end
/-! ### slices, sorting -/
theorem cut_from {ws : List V} (k : Nat) : cutV ws (some (k : Int)) none = ws.drop k := by
  unfold cutV
  rw [HT.sIx_none, HT.sIx_nat]
  by_cases h : k ≤ ws.length
  · rw [Nat.min_eq_left h]
    exact List.take_of_length_le (by rw [List.length_drop]; omega)
  · rw [Nat.min_eq_right (by omega), List.drop_of_length_le (Nat.le_refl _), List.drop_of_length_le (by omega), List.take_nil]
theorem cut_to {ws : List V} (k : Nat) : cutV ws none (some (k : Int)) = ws.take k := by
  unfold cutV
  rw [HT.sIx_none, HT.sIx_nat, List.drop_zero, Nat.sub_zero]
  by_cases h : k ≤ ws.length
  · rw [Nat.min_eq_left h]
  · rw [Nat.min_eq_right (by omega), List.take_of_length_le (Nat.le_refl _), List.take_of_length_le (by omega)]
theorem begins_of {K : PySem.W.Frag} {H : Hp} : ∀ {xs : List V} {qs : List Part}, Paired (TabAt K H) xs qs → Begins K H xs (qs.map (·.1))
  | _, _, .nil => .nil
  | _, _, .cons h t => by
    obtain ⟨a, c, e, h1, h2⟩ := h
    exact .cons ⟨a, _, e, Nat.lt_trans (show 2 < 3 by decide) (by decide), h1⟩ (begins_of t)
theorem paired_mem {α β : Type} {F : α → β → Prop} : ∀ {zs : List (α × β)}, (∀ z ∈ zs, F z.1 z.2) → Paired F (zs.map (·.1)) (zs.map (·.2))
  | [], _ => .nil
  | z :: r, h => .cons (h z List.mem_cons_self) (paired_mem fun q hq => h q (List.mem_cons_of_mem _ hq))
theorem mem_paired {α β : Type} {F : α → β → Prop} : ∀ {xs : List α} {ys : List β}, Paired F xs ys → ∀ z ∈ xs.zip ys, F z.1 z.2
  | _, _, .nil, z, hz => by cases hz
  | _, _, .cons h t, z, hz => by
    rw [List.zip_cons_cons] at hz
    rcases List.mem_cons.mp hz with rfl | hz
    · exact h
    · exact mem_paired t z hz
theorem zip_snd {α β : Type} : ∀ {xs : List α} {ys : List β}, xs.length = ys.length → (xs.zip ys).map (·.2) = ys
  | [], [], _ => rfl
  | [], _ :: _, h => by cases h
  | _ :: _, [], h => by cases h
  | x :: xs, y :: ys, h => by
    rw [List.zip_cons_cons, List.map_cons, zip_snd (Nat.succ.inj h)]
theorem zip_map_r {α β γ : Type} (f : β → γ) : ∀ {xs : List α} {ys : List β}, xs.zip (ys.map f) = (xs.zip ys).map fun z => (z.1, f z.2)
  | [], _ => by simp
  | _ :: _, [] => by simp
  | x :: xs, y :: ys => by
    rw [List.map_cons, List.zip_cons_cons, List.zip_cons_cons, List.map_cons, zip_map_r f]
/-- what is sorted by the names goes along -/
theorem sortBy_paired {β : Type} {F : V → β → Prop} {xs : List V} {qs : List β} (k : β → Str) (h : Paired F xs qs) : Paired F (sortBy xs (qs.map k)) (qs.mergeSort fun a b => leS (k a) (k b)) := by
  have e1 : sortBy xs (qs.map k) = ((xs.zip qs).mergeSort fun a b => leS (k a.2) (k b.2)).map (·.1) := by
    unfold sortBy
    rw [zip_map_r, ← PySem.W.sort_maps (fun z : V × β => (z.1, k z.2)) (r := fun a b => leS (k a.2) (k b.2)) fun _ _ _ _ => rfl, List.map_map]
    rfl
  have e2 : (qs.mergeSort fun a b => leS (k a) (k b)) = ((xs.zip qs).mergeSort fun a b => leS (k a.2) (k b.2)).map (·.2) := by
    rw [PySem.W.sort_maps (fun z : V × β => z.2) (s := fun a b => leS (k a) (k b)) fun _ _ _ _ => rfl, zip_snd (Paired.len h)]
  rw [e1, e2]
  exact paired_mem fun z hz => mem_paired h z ((List.mergeSort_perm _ _).mem_iff.mp hz)
theorem inV_strs (z : Str) : ∀ xs : List Str, inV (.str z) (xs.map V.str) = xs.contains z
  | [] => rfl
  | x :: r => by
    have ih := inV_strs z r
    unfold inV at ih ⊢
    rw [List.map_cons, List.any_cons, ih, List.contains_cons]
    have e : eqV (V.str x) (V.str z) = (z == x) := by
      show decide (x = z) = (z == x)
      by_cases h : x = z
      · rw [decide_eq_true h, h]
        simp
      · rw [decide_eq_false h]
        exact (beq_eq_false_iff_ne.mpr fun q => h q.symm).symm
    rw [e]
/-! ### form_of -/
theorem anyBad_snoc {p : Part} : ∀ {pre : List Part} {seen : List Str} {first : Bool}, anyBad seen first (pre ++ [p]) = (anyBad seen first pre || partBad (seen ++ pre.map (·.1)) (first && pre.isEmpty) p)
  | [], seen, first => by
    show (partBad seen first p || false) = (false || partBad (seen ++ []) (first && true) p)
    rw [Bool.or_false, Bool.false_or, List.append_nil, Bool.and_true]
  | q :: pre, seen, first => by
    show (partBad seen first q || anyBad (seen ++ [q.1]) false (pre ++ [p])) = ((partBad seen first q || anyBad (seen ++ [q.1]) false pre) || partBad (seen ++ (q :: pre).map (·.1)) (first && false) p)
    rw [anyBad_snoc, Bool.false_and, Bool.and_false, List.append_assoc, Bool.or_assoc]
    rfl
theorem colsBad_good {p : Part} {seen : List Str} {b : Bool} (h : partBad seen b p = false) : colsBad p.2.2 = false := by
  unfold partBad at h
  rw [Bool.or_eq_false_iff] at h
  exact h.2
def spFormOf (T : Tb) (K : PySem.W.Frag) (CF : Addr) : Sp := fun xs H Q E => ∃ (a : Addr) (n : Int) (vs : List V) (ps : List Part) (D : Addr → Prop), xs = [.int n, .ref a] ∧ SqL K H a vs ∧ Paired (PartAt K H D) vs ps ∧ (∀ p ∈ ps, ROk p) ∧ ps.length < 1000 ∧
  LamX.Tabs T H ∧ (formBad n ps = false → ∀ v H', Lv T H H' → FormAt K H' v n (nrm ps) → Q v H') ∧ (formBad n ps = true → ∀ H', LvX T D H H' → E (.ref CF) none H')
abbrev NForm : List Str := ["size", "tables", "seen", "made", "at", "table", "name", "sort", "columns", "sides"]
theorem scForm : FnScope NForm ["size", "tables"] (defScope sFormOf) := ⟨rfl, rfl, rfl, by decide +kernel, rfl, by decide +kernel, by decide +kernel⟩
section
variable {P : Program} {w : World} {K : PySem.W.Frag} {mg : Str → Option Value} {base : Heap} {CF CT fI : Addr}
theorem ok_form (T : Tb) {c PT sA : Addr} (D : DefC K mg "form_of" sFormOf c) (TB : LamX.TabB base mg c PT) (hT : (PT, ("form_of.<locals>.<lambda>" : Str)) ∈ T) (hu : ∀ q ∈ T, q.1 = PT → q.2 = ("form_of.<locals>.<lambda>" : Str)) (ex : Ex K mg CF CT fI)
    (GW : Cl P w K mg base CX0 1 "is_whole" (spIsWhole K)) (GN : Cl P w K mg base CX0 1 "is_name" spIsName) (GC : Cl P w K mg base (L2.CX P w) 4 "need_columns" (spNeed T K CF)) (B : Bt mg) (gS : mg "SORTS" = some (.ref sA)) (hS : ∀ H, SqT K H sA (SORTS4.map V.str)) :
    Cl P w K mg base (L2.CX P w) 5 "form_of" (spFormOf T K CF) := by
  have nd := scForm.nd
  refine clC D scForm (fun _ _ _ _ _ _ us hl => match us, hl with | [_, _], _ => rfl) (fun vs H Q E h => ?_) fun f A outer s H vs Q E hr h => ?_
  · obtain ⟨a, n, vs, ps, D, rfl, _⟩ := h
    rfl
  obtain ⟨a, n, vs, ps, D, rfl, hL, hP, hok, hlen, hTH, q, qE⟩ := h
  refine ⟨_, pss_cons (ps_if (PW.pt (pw_or (pt_not (pt_val (pe_cl GW hr (pa_cons (pv 0) pa_nil)))) (pw_or (pt_cmpR op_lt (pv 0) pe_int (nomark _)) (pw_or1 (pt_cmpR op_eq (pe_callB call_len_seq (by rfl) B.len PySem.boot_len (pa_cons (pv 1) pa_nil)) pe_int (nomark _))))))
      (pss_one (ps_raise rfl (takes_of rfl rfl rfl rfl) (pmk_nf (X := cxOf (L2.CX P w) P w K mg base _ _ _ _ _ _ _ _ _ _) ex))) pss_nil)
    (pss_cons (ps_set (i := 2) nd rfl (.inl rfl) pe_dnewK)
    (pss_cons (ps_set (i := 3) nd rfl (.inl rfl) (pe_lst pa_nil))
    (pss_cons (ps_for (passes_of rfl) rfl (pi_enum rfl B.enum (pa_cons (pv 1) pa_nil)) (pg_tup rfl (pgs_cons (pg_name (i := 4) nd rfl (.inl rfl)) (pgs_cons (pg_name (i := 5) nd rfl (.inl rfl)) pgs_nil)))
      (pss_cons (ps_asg (pv 5) (pg_tup rfl (pgs_cons (pg_name (i := 6) nd rfl (.inl rfl)) (pgs_cons (pg_name (i := 7) nd rfl (.inl rfl)) (pgs_cons (pg_name (i := 8) nd rfl (.inl rfl)) pgs_nil)))))
      (pss_cons (ps_if (PW.pt (pw_or (pt_not (pt_val (pe_cl GN hr (pa_cons (pv 6) pa_nil)))) (pw_or (pt_cmp (pc_din (hu1 hr) (pv 6) (pv 2))) (pw_or1 (pt_cmpR op_notIn_seq (pv 7) (pe_glob (v := .ref sA) rfl gS rfl) (by rfl))))))
        (pss_one (ps_raise rfl (takes_of rfl rfl rfl rfl) (pmk_nf (X := cxOf (L2.CX P w) P w K mg base _ _ _ _ _ _ _ _ _ _) ex))) pss_nil)
      (pss_cons (ps_if (pt_cmpR op_ne (pe_cmpR op_eq (pv 7) pe_str (nomark _)) (pe_cmpR op_eq (pv 4) pe_int (nomark _)) (nomark _))
        (pss_one (ps_raise rfl (takes_of rfl rfl rfl rfl) (pmk_nf (X := cxOf (L2.CX P w) P w K mg base _ _ _ _ _ _ _ _ _ _) ex))) pss_nil)
      (pss_cons (ps_dput (hu1 hr) (pv 2) (pv 6) pe_bl rfl)
      (pss_one (ps_expr (pe_bm PySem.F.plainAttrs_list PySem.F.slot_list_append PySem.F.type_list_append mt_append (pv 3) (pa_cons (pe_tup (pa_cons (pv 6) (pa_cons (pv 7) (pa_cons (pe_clX GC hr (passes_call (takes_of rfl rfl rfl rfl) fun _ _ _ _ h => h) (pa_cons (pv 8) pa_nil)) pa_nil)))) pa_nil)))))))))
    (pss_cons (ps_set (i := 9) nd rfl (.inl rfl) (pe_sortedLam (T := T) (x := "one") (hr.mono (by decide)) B.sorted TB rfl hT hu (pe_slice sl_list (pv 3) (po_some pe_int) po_none) rfl rfl rfl rfl rfl (fun _ _ _ _ _ => rfl) (by decide +kernel)))
    (pss_one (ps_ret (pe_tup (pa_cons (pv 0) (pa_cons (pe_callTy (T := "tuple") call_tuple_of rfl B.tuple (by decide +kernel) (pa_cons (pe_op op_cat (pe_slice sl_list (pv 3) po_none (po_some pe_int)) (pv 9)) pa_nil)) pa_nil))))))))), ?_⟩
  have hvl : vs.length = ps.length := Paired.len hP
  refine ⟨_, rfl, .int n, "int", rfl, .base (.int n), .inl rfl, _, rfl, ?_⟩
  refine ifF (by decide) ⟨_, rfl, _, _, rfl, rfl, _, rfl, ?_⟩
  by_cases hn1 : n < 1
  · rw [decide_eq_true hn1]
    refine iteT (iteT (qE ?_ H Lv.refl.x))
    unfold formBad
    rw [decide_eq_true hn1]
    rfl
  rw [decide_eq_false hn1]
  refine iteF ⟨_, rfl, a, vs, rfl, .inl hL, rfl, _, rfl, ?_⟩
  rw [dI]
  by_cases hemp : ps = []
  · subst hemp
    rw [decide_eq_true (by rw [hvl]; rfl)]
    refine iteT (qE ?_ H Lv.refl.x)
    unfold formBad
    rw [decide_eq_false hn1]
    rfl
  have hpos : 0 < ps.length := List.length_pos_iff.mpr hemp
  rw [decide_eq_false (by omega)]
  refine iteF fun sn hsn => ?_
  refine ⟨by show 0 ≤ sizeLine; exact Nat.zero_le _, fun md hmd => ?_⟩
  have l1 : Lv T H (upd H sn (.dK [])) := Lv.new hsn
  have l2 : Lv T H (upd (upd H sn (.dK [])) md (.lst [])) := l1.add hmd
  have hsm : sn ≠ md := fun z => by
    rw [← z, upd_same] at hmd
    cases hmd
  have hs2 : (upd (upd H sn (.dK [])) md (.lst [])) sn = some (.dK []) := by rw [upd_ne hsm]; exact upd_same
  have hm2 : (upd (upd H sn (.dK [])) md (.lst [])) md = some (.lst []) := upd_same
  have nwS : Nw H sn := .of hsn
  have nwM : Nw H md := l1.nw (.of hmd)
  generalize upd (upd H sn (.dK [])) md (.lst []) = H2 at l2 hs2 hm2
  refine ⟨_, rfl, a, vs, rfl, l2.seq hL, ?_⟩
  refine for_by ps.length (fun i σ H' => ∃ y4 y5 y6 y7 y8 kvs ws, σ = [some (.int n), some (.ref a), some (.ref sn), some (.ref md), y4, y5, y6, y7, y8, none] ∧ H' sn = some (.dK kvs) ∧ kvs.map (·.1) = ((ps.take i).map (·.1)).map Sum.inr ∧
      H' md = some (.lst ws) ∧ Paired (TabAt K H') ws ((ps.take i).map nc) ∧ Lv T H H' ∧ anyBad [] true (ps.take i) = false) ⟨none, none, none, none, none, [], [], rfl, hs2, rfl, hm2, .nil, l2, rfl⟩
    (fun i σ H' hi hP' => ?_) (fun σ H' hP' => ?_) (fun i x σ H' H3 hi hP' hy => ?_) fun σ H' hP' => ?_
  · obtain ⟨y4, y5, y6, y7, y8, kvs, ws, rfl, h1, h2, h3, h4, l3, h5⟩ := hP'
    exact ⟨vs, _, l3.seq hL, List.getElem?_eq_getElem (by omega)⟩
  · obtain ⟨y4, y5, y6, y7, y8, kvs, ws, rfl, h1, h2, h3, h4, l3, h5⟩ := hP'
    exact ⟨vs, l3.seq hL, by omega⟩
  · obtain ⟨y4, y5, y6, y7, y8, kvs, ws, rfl, h1, h2, h3, h4, l3, h5⟩ := hP'
    obtain ⟨t, v, rfl, ht, rfl, hvs⟩ := hy
    have hv := hvs vs (l3.seq hL)
    obtain ⟨p, hp, pt, pd, rfl, hpS, hpC, hpD⟩ := Paired.getL hP hv
    have hpm := List.mem_of_getElem? hp
    have hrok := hok p hpm
    have l4 : Lv T H (upd H' t (.tup [.int (i : Nat), .ref pt])) := l3.add ht
    have hsn4 : (upd H' t (.tup [.int (i : Nat), .ref pt])) sn = some (.dK kvs) := by rw [upd_ne (ne_none h1 ht)]; exact h1
    have hmd4 : (upd H' t (.tup [.int (i : Nat), .ref pt])) md = some (.lst ws) := by rw [upd_ne (ne_none h3 ht)]; exact h3
    have htt : SqT K (upd H' t (.tup [.int (i : Nat), .ref pt])) t [.int (i : Nat), .ref pt] := .inl (.inl upd_same)
    have h44 : Paired (TabAt K (upd H' t (.tup [.int (i : Nat), .ref pt]))) ws ((ps.take i).map nc) := Paired.imp (fun v q z => (Kt.new ht).tabAt z) h4
    generalize upd H' t (.tup [.int (i : Nat), .ref pt]) = H4 at l4 hsn4 hmd4 htt h44
    refine ⟨t, _, rfl, htt, rfl, _, _, rfl, _, _, rfl, rfl, ?_⟩
    refine ⟨_, rfl, pt, _, rfl, l4.tup hpS, rfl, _, _, rfl, _, _, rfl, _, _, rfl, rfl, ?_⟩
    have esplit : ps = ps.take i ++ p :: ps.drop (i + 1) := by
      have := List.getElem?_eq_some_iff.mp hp
      obtain ⟨hi2, e⟩ := this
      rw [← e, List.getElem_cons_drop, List.take_append_drop]
    have bad : partBad ((ps.take i).map (·.1)) (ps.take i).isEmpty p = true → ∀ H5, LvX T D H H5 → E (.ref CF) none H5 := fun hb H5 l5 => by
      refine qE ?_ H5 l5
      unfold formBad
      rw [esplit, anyBad_of (by rw [List.nil_append, Bool.true_and]; exact hb), Bool.or_true]
    have hfst : (ps.take i).isEmpty = decide ((i : Int) = 0) := by
      cases i with
      | zero => rfl
      | succ j =>
        rw [decide_eq_false (by omega)]
        cases hps : ps with
        | nil => exact absurd hps hemp
        | cons _ _ => rfl
    have hseen : (valV kvs (Sum.inr p.1)).isSome = ((ps.take i).map (·.1)).contains p.1 := by
      rw [← valV_any]
      have e : (kvs.any fun kv => decide (kv.1 = Sum.inr p.1)) = (kvs.map (·.1)).any fun k => decide (k = Sum.inr p.1) := by
        rw [List.any_map]
        rfl
      rw [e, h2, List.any_map]
      generalize (ps.take i).map (·.1) = l
      induction l with
      | nil => rfl
      | cons z l ih =>
        rw [List.any_cons, ih, List.contains_cons]
        have e2 : ((fun k : Key => decide (k = Sum.inr p.1)) ∘ Sum.inr) z = (p.1 == z) := by
          show decide ((Sum.inr z : Key) = Sum.inr p.1) = (p.1 == z)
          by_cases h : z = p.1
          · rw [decide_eq_true (by rw [h]), h]
            simp
          · rw [decide_eq_false fun q => h (Sum.inr.inj q)]
            exact (beq_eq_false_iff_ne.mpr fun q => h q.symm).symm
        rw [e2]
    refine ⟨_, rfl, p.1, rfl, hrok.nm, _, rfl, ?_⟩
    cases hb1 : isNameB p.1 with
    | false =>
      refine iteT (iteT (bad ?_ _ l4.x))
      unfold partBad
      rw [hb1]
      rfl
    | true =>
      refine iteF ⟨_, rfl, _, rfl, sn, _, rfl, DGet.k (k := Sum.inr p.1) hsn4, _, rfl, ?_⟩
      rw [hseen]
      cases hb2 : ((ps.take i).map (·.1)).contains p.1 with
      | true =>
        refine iteT (iteT (bad ?_ _ l4.x))
        unfold partBad
        rw [hb2]
        simp
      | false =>
        refine iteF ⟨_, rfl, sA, _, rfl, .inr (hS _), rfl, rfl, _, rfl, ?_⟩
        rw [inV_strs]
        cases hb3 : SORTS4.contains p.2.1 with
        | false =>
          refine iteT (bad ?_ _ l4.x)
          unfold partBad
          rw [hb3]
          simp
        | true =>
          refine iteF ⟨_, rfl, rfl, _, rfl, rfl, rfl, _, rfl, ?_⟩
          rw [dS, dI, dB]
          have e3 : (!(decide (p.2.1 = "head") == decide ((i : Int) = 0))) = (decide (p.2.1 = "head") != (ps.take i).isEmpty) := by
            rw [hfst]
            rfl
          rw [e3]
          cases hb4 : (decide (p.2.1 = "head") != (ps.take i).isEmpty) with
          | true =>
            refine iteT (bad ?_ _ l4.x)
            unfold partBad
            rw [hb4]
            simp
          | false =>
            refine iteF ⟨_, rfl, _, rfl, sn, _, rfl, DPut.k (k := Sum.inr p.1) hsn4 ?_, ?_⟩
            · have e := congrArg List.length h2
              rw [List.length_map, List.length_map, List.length_map, List.length_take] at e
              rw [sizeLine_eq]
              omega
            have eput : putK kvs (Sum.inr p.1) (V.bl true) = kvs ++ [(Sum.inr p.1, V.bl true)] := by
              unfold putK
              rw [valV_any, hseen, hb2]
              rfl
            rw [eput]
            have l5 : Lv T H (upd H4 sn (.dK (kvs ++ [(Sum.inr p.1, V.bl true)]))) := l4.putN nwS hsn4 True.intro
            have hsn5 : (upd H4 sn (.dK (kvs ++ [(Sum.inr p.1, V.bl true)]))) sn = some (.dK (kvs ++ [(Sum.inr p.1, V.bl true)])) := upd_same
            have hmd5 : (upd H4 sn (.dK (kvs ++ [(Sum.inr p.1, V.bl true)]))) md = some (.lst ws) := by rw [upd_ne (Ne.symm hsm)]; exact hmd4
            have h45 : Paired (TabAt K (upd H4 sn (.dK (kvs ++ [(Sum.inr p.1, V.bl true)])))) ws ((ps.take i).map nc) := Paired.imp (fun v q z => (Kt.upd hsn4 (fun z => z)).tabAt z) h44
            generalize upd H4 sn (.dK (kvs ++ [(Sum.inr p.1, V.bl true)])) = H5 at l5 hsn5 hmd5 h45
            refine ⟨_, rfl, .inl ⟨rfl, ws, .inl (.inl hmd5)⟩, _, rfl, _, rfl, _, rfl, pd, p.2.2, rfl, l5.cols hpC, hrok.cs, hrok.nd, hrok.len, fun hgood c H6 l6 hc => ?_, fun hbad H6 l6 => ?_⟩
            · refine ⟨by show 3 ≤ sizeLine; rw [sizeLine_eq]; decide, fun pr hpr => ?_⟩
              have hsn6 := l6.at hsn5
              have hmd6 := l6.at hmd5
              refine ⟨md, ws, _, rfl, rfl, by rw [upd_ne (ne_none hmd6 hpr)]; exact hmd6, ?_, ?_⟩
              · rw [Paired.len h45, List.length_map, List.length_take, sizeLine_eq]
                omega
              have hmd7 : (upd H6 pr (.tup [.str p.1, .str p.2.1, .ref c])) md = some (.lst ws) := by rw [upd_ne (ne_none hmd6 hpr)]; exact hmd6
              have k7 : Kt H6 (upd (upd H6 pr (.tup [.str p.1, .str p.2.1, .ref c])) md (.lst (ws ++ [.ref pr]))) := (Kt.new hpr).trans (Kt.upd hmd7 (fun z => z))
              refine ⟨_, _, _, _, _, kvs ++ [(Sum.inr p.1, V.bl true)], ws ++ [.ref pr], rfl, ?_, ?_, upd_same, ?_, ((l5.trans l6).add hpr).putN nwM hmd7 True.intro, ?_⟩
              · rw [upd_ne hsm, upd_ne (ne_none hsn6 hpr)]
                exact hsn6
              · rw [List.map_append, h2, take_map_succ _ hp, List.map_append]
                rfl
              · rw [take_map_succ nc hp]
                refine Paired.append' (Paired.imp (fun v q z => (l6.kt.trans k7).tabAt z) h45) (.cons ⟨pr, c, rfl, ?_, k7.colsT hc⟩ .nil)
                refine .inl (.inl ?_)
                rw [upd_ne (Ne.symm (ne_none hmd6 hpr)), upd_same]
                rfl
              · rw [List.take_add_one, hp]
                show anyBad [] true (ps.take i ++ [p]) = false
                rw [anyBad_snoc, h5, Bool.false_or, List.nil_append, Bool.true_and]
                unfold partBad
                rw [hb1, hb2, hb3, hb4, hgood]
                rfl
            · refine bad ?_ H6 (l5.thenX (l6.mono fun b hb => ?_))
              · unfold partBad
                rw [hbad, Bool.or_true]
              · subst hb
                exact hpD hbad
  · obtain ⟨y4, y5, y6, y7, y8, kvs, ws, rfl, h1, h2, h3, h4, l3, h5⟩ := hP'
    rw [List.take_of_length_le (Nat.le_refl _)] at h4 h5
    have hgood : formBad n ps = false := by
      unfold formBad
      rw [decide_eq_false hn1, h5]
      cases hps : ps with
      | nil => exact absurd hps hemp
      | cons _ _ => rfl
    refine ⟨_, rfl, 1, rfl, md, ws, rfl, .inl (.inl h3), fun s1 hs1 => ?_⟩
    rw [show cutV ws (some 1) none = ws.drop 1 from cut_from 1]
    have l6 : Lv T H (upd H' s1 (.lst (ws.drop 1))) := l3.add hs1
    have h46 : Paired (TabAt K (upd H' s1 (.lst (ws.drop 1)))) ws (ps.map nc) := Paired.imp (fun v q z => (Kt.new hs1).tabAt z) h4
    have hmd6 : (upd H' s1 (.lst (ws.drop 1))) md = some (.lst ws) := by rw [upd_ne (ne_none h3 hs1)]; exact h3
    have hs16 : (upd H' s1 (.lst (ws.drop 1))) s1 = some (.lst (ws.drop 1)) := upd_same
    generalize upd H' s1 (.lst (ws.drop 1)) = H6 at l6 h46 hmd6 hs16
    have hdr := Paired.drop' 1 h46
    refine ⟨l6.tab hTH, s1, _, _, rfl, .inl (.inl hs16), begins_of hdr, fun H7 s2 l7 hs2' => ?_⟩
    have hsort : Paired (TabAt K H7) (sortBy (ws.drop 1) (((ps.map nc).drop 1).map (·.1))) (sortP ((ps.map nc).drop 1)) := sortBy_paired (fun q : Part => q.1) (Paired.imp (fun v q z => l7.tabAt z) hdr)
    have htk : Paired (TabAt K H7) (ws.take 1) ((ps.map nc).take 1) := Paired.imp (fun v q z => l7.tabAt z) (Paired.take' 1 h46)
    generalize sortBy (ws.drop 1) (((ps.map nc).drop 1).map (·.1)) = ys at hsort
    have hmd7 : (upd H7 s2 (.lst ys)) md = some (.lst ws) := by rw [upd_ne (ne_none (l7.at hmd6) hs2')]; exact l7.at hmd6
    have hs27 : (upd H7 s2 (.lst ys)) s2 = some (.lst ys) := upd_same
    have k8 : Kt H7 (upd H7 s2 (.lst ys)) := Kt.new hs2'
    have l8 : Lv T H (upd H7 s2 (.lst ys)) := (l6.trans l7).add hs2'
    generalize upd H7 s2 (.lst ys) = H8 at hmd7 hs27 k8 l8
    refine ⟨_, rfl, _, rfl, 1, rfl, md, ws, rfl, .inl (.inl hmd7), fun s3 hs3 => ?_⟩
    rw [show cutV ws none (some 1) = ws.take 1 from cut_to 1]
    refine ⟨_, rfl, s3, s2, _, _, rfl, rfl, upd_same, by rw [upd_ne (ne_none hs27 hs3)]; exact hs27, ?_, fun s4 hs4 => ?_⟩
    · rw [Paired.len htk, Paired.len hsort, (sortP_perm _).length_eq, List.length_take, List.length_drop, List.length_map, sizeLine_eq]
      omega
    refine ⟨s4, _, rfl, .inl ⟨.inl (.inl upd_same), fun r hr' => ⟨by show 2 ≤ sizeLine; rw [sizeLine_eq]; decide, fun fa hfa => ?_⟩⟩⟩
    have k9 := (((k8.trans (Kt.new hs3)).trans (Kt.new hs4)).trans (Kt.new hr')).trans (Kt.new (o := .tup [.int n, .ref r]) hfa)
    refine q hgood _ _ ((((l8.add hs3).add hs4).add hr').add hfa) ⟨fa, r, ws.take 1 ++ ys, rfl, .inl (.inl upd_same), .inl (.inl ?_), ?_⟩
    · rw [upd_ne (ne_none upd_same hfa), upd_same]
    · unfold nrm
      rw [List.map_take, sortP_nc, List.map_drop]
      exact Paired.append' (Paired.imp (fun v q z => k9.tabAt z) htk) (Paired.imp (fun v q z => k9.tabAt z) hsort)
end
end HM
set_option Elab.async false
set_option linter.all false
set_option maxRecDepth 100000
set_option maxHeartbeats 4000000
namespace HM
open PySem PySem.Spec PyProof.Rows L2
/-! ### rules in a block -/
section
variable {X : Cx} {K0 : PySem.W.Frag}
theorem pg_tupB {es : List Expr} {k : Nat} {pos : Pos} {t : TGs} {n : Nat} (hK : X.K = K0) (hc : X.calm = true) (h : PGs X es t)
    (hn : (assignEach es X.env).length = n := by rfl) (hst : (assignEach es X.env).findIdx? (·.1) = none := by rfl) : PG X (.Tuple es k pos) (gTup K0 n t) := by
  subst hK
  exact pg_tup hc h hn hst
theorem ix_tupB (hK : X.K = K0) : IxR X (rIxT K0) := by
  subst hK
  exact ix_tup
theorem ix_listB (hK : X.K = K0) : IxR X (rIxL K0) := by
  subst hK
  exact ix_list
def rDictT (K : PySem.W.Frag) : List V → Hp → VK → Prop := fun xs H Q => ∃ (a : Addr) (ps : List Addr) (kvs : List (Key × V)), xs = [V.ref a] ∧ PlainT H a (ps.map V.ref) ∧ Paired (fun p kv => SqT K H p [kV kv.1, kv.2]) ps kvs ∧
    ∀ p, H p = none → Q (.ref p) (upd H p (.dK (mergeK [] kvs)))
theorem call_dictTB (hK : X.K = K0) (hc : X.calm = true) : CallR X (.type "dict") (rDictT K0) := by
  subst hK
  exact call_dictT hc
end
/-! ### StepError.__init__ -/
abbrev sInit : Stmt := inClass (top 2) 0
abbrev ntFields (x : Str) : List (Str × V) := [("place", .non), ("key", .non), ("table", .str x)]
def spInit (CT : Addr) : Sp := fun vs H Q _ => ∃ (a : Addr) (x : Str), vs = [.ref a, .str x, .non, .non] ∧ H a = some (exo a CT none) ∧
  ∀ d H', H d = none → d ≠ a → H' a = some (exo a CT (some d)) → H' d = some (exd d (ntFields x)) → (∀ b, b ≠ a → b ≠ d → H' b = H b) → Q .non H'
theorem scInit : FnScope ["self", "table", "key", "place"] ["self", "table", "key", "place"] (defScope sInit) := ⟨rfl, rfl, rfl, by decide +kernel, rfl, by decide +kernel, by decide +kernel⟩
section
variable {P : Program} {w : World} {K : PySem.W.Frag} {mg : Str → Option Value} {base : Heap} {CF CT fI : Addr}
theorem ok_init (ex : Ex K mg CF CT fI) : ∃ fd, FnOk P w K mg base CX0 1 fI fd ["self", "table", "key", "place"] (spInit CT) ∧ Binds K fd ["self", "table", "key", "place"] [] := by
  obtain ⟨fd, F⟩ := ex.dI
  refine ⟨fd, F.ok scInit (fun vs H Q E h => ?_) (fun cdv A outer s H vs Q E hr h => ?_), F.bindsN fun _ _ _ _ _ _ us hl => match us, hl with | [_, _, _, _], _ => rfl⟩
  · obtain ⟨a, x, rfl, _⟩ := h
    rfl
  obtain ⟨a, x, rfl, ha, q⟩ := h
  refine ⟨_, pss_cons (ps_ost (pv 0) (pv 1)) (pss_cons (ps_ost (pv 0) (pv 2)) (pss_one (ps_ost (pv 0) (pv 3)))), ?_⟩
  refine ⟨_, rfl, _, rfl, a, CT, rfl, ex.oT, ex.f1, .inl ⟨ha, fun d hd hda => ?_⟩⟩
  have h1 : (upd (upd H d (exd d [("table", .str x)])) a (exo a CT (some d))) a = some (exo a CT (some d)) := upd_same
  have h2 : (upd (upd H d (exd d [("table", .str x)])) a (exo a CT (some d))) d = some (exd d [("table", .str x)]) := by rw [upd_ne hda, upd_same]
  have h3 : ∀ b, b ≠ a → b ≠ d → (upd (upd H d (exd d [("table", .str x)])) a (exo a CT (some d))) b = H b := fun b n1 n2 => by rw [upd_ne n1, upd_ne n2]
  generalize upd (upd H d (exd d [("table", .str x)])) a (exo a CT (some d)) = H2 at h1 h2 h3
  refine ⟨_, rfl, _, rfl, a, CT, rfl, ex.oT, ex.f2, .inr ⟨d, _, h1, h2, by show 1 ≤ 900; decide, ?_⟩⟩
  have h4 : (upd H2 d (exd d [("key", .non), ("table", .str x)])) a = some (exo a CT (some d)) := by rw [upd_ne (Ne.symm hda)]; exact h1
  refine ⟨_, rfl, _, rfl, a, CT, rfl, ex.oT, ex.f3, .inr ⟨d, _, h4, upd_same, by show 2 ≤ 900; decide, ?_⟩⟩
  refine q d _ hd hda ?_ upd_same fun b n1 n2 => ?_
  · rw [upd_ne (Ne.symm hda)]
    exact h4
  · rw [upd_ne n2, upd_ne n2]
    exact h3 b n1 n2
/-- what a NoTable leaves -/
def NtAt (T : Tb) (H : Hp) (d : Addr) (x : Str) (H' : Hp) : Prop := Lv T H H' ∧ H' d = some (.xd (ntFields x)) ∧ H d = none
theorem pmk_nt {X : Cx} {k : Nat} (T : Tb) (ex : Ex X.K X.mg CF CT fI) (hr : Room k X.A) {i : Nat} {x : Str} {p p1 pos p2 p3 : Pos} {j1 j2 : Nat} (hv : PE X (.Name x p1) (tVar i)) (hk : 2 ≤ k := by decide) (hg : Gl X "NoTable" := by rfl) :
    PMk X (.Call (.Name "NoTable" p) [.Name x p1, .Constant .none j1 p2, .Constant .none j2 p3] [] pos) (fun σ H Q => ∃ z, σ[i]? = some (some (V.str z)) ∧ ∀ d H', NtAt T H d z H' → Q (.ref CT) (some d) H') := by
  obtain ⟨fd, F1, hb⟩ := ok_init (P := X.prog) (w := X.w) (base := X.base) ex
  have h := pmk_oex (x := "NoTable") (p := p) (pos := pos) (es := [.Constant .none j1 p2, .Constant .none j2 p3]) ex.oT ex.iT ex.tI F1 (hr.mono hk) hb .nil L2.pass0 hg ex.nt (pa_cons hv (pa_cons pe_non (pa_cons pe_non pa_nil)))
  intro pins s σ H Q I ⟨z, hz, hq⟩
  refine h pins s σ H Q I ⟨_, hz, by show 3 ≤ 1000; decide, fun a ha => ⟨a, z, rfl, upd_same, fun d H' hd hda e1 e2 e3 => ⟨rfl, d, _, e1, e2, ?_, hq d _ ⟨Lv.of fun b o hbo => ?_, upd_same, ?_⟩⟩⟩⟩
  · rw [upd_ne hda] at hd
    exact hd
  · rw [upd_ne hda] at hd
    have nb : b ≠ d := ne_none hbo hd
    have na : b ≠ a := ne_none hbo ha
    rw [upd_ne nb, del_ne na, e3 b na nb, upd_ne na]
    exact hbo
  · rw [upd_ne hda] at hd
    exact hd
/-! ### table_at -/
def spTableAt (T : Tb) (K : PySem.W.Frag) (CT : Addr) : Sp := fun vs H Q E => ∃ (v : V) (x : Str) (n : Int) (qs : List Part), vs = [v, .str x] ∧ FormAt K H v n qs ∧
  (∀ u q, q ∈ qs → q.1 = x → TabAt K H u q → Q u H) ∧ ((∀ q ∈ qs, q.1 ≠ x) → ∀ d H', NtAt T H d x H' → E (.ref CT) (some d) H')
theorem scTableAt : FnScope ["form", "table", "one"] ["form", "table"] (defScope sTableAt) := ⟨rfl, rfl, rfl, by decide +kernel, rfl, by decide +kernel, by decide +kernel⟩
theorem ok_table_at (T : Tb) (D : DefAt K mg "table_at" sTableAt) (ex : Ex K mg CF CT fI) : Cl P w K mg base (L2.CX P w) 3 "table_at" (spTableAt T K CT) := by
  have nd := scTableAt.nd
  refine clX D scTableAt (fun _ _ _ _ _ _ us hl => match us, hl with | [_, _], _ => rfl) (fun vs H Q E h => ?_) fun f cdv A outer s H vs Q E hr h => ?_
  · obtain ⟨v, x, n, qs, rfl, _⟩ := h
    rfl
  obtain ⟨v, x, n, qs, rfl, hF, q, qE⟩ := h
  refine ⟨_, pss_cons (ps_for (passes_of rfl) rfl (pi_tup (pe_ix ix_tup (pv 0) pe_int (fun _ _ => rfl))) (pg_name (i := 2) nd rfl (.inl rfl)) (pss_one (ps_if (pt_cmpR op_eq (pe_ix ix_tup (pv 2) pe_int (fun _ _ => rfl)) (pv 1) (nomark _)) (pss_one (ps_ret (pv 2))) pss_nil)))
    (pss_one (ps_raise rfl (takes_of rfl rfl rfl rfl) (pmk_nt (X := cxOf (L2.CX P w) P w K mg base _ _ _ _ _ _ _ _ _ _) T ex hr (i := 1) (pv 1)))), ?_⟩
  obtain ⟨a, r, xs, rfl, h1, h2, h3⟩ := hF
  refine ⟨_, rfl, a, _, 1, .ref r, rfl, rfl, h1, atI_nat (j := 1) rfl, r, rfl, ⟨xs, h2⟩, ?_⟩
  refine for_by xs.length (fun i σ H' => H' = H ∧ (∃ y, σ = [some (.ref a), some (.str x), y]) ∧ ∀ q ∈ qs.take i, q.1 ≠ x) ⟨rfl, ⟨none, rfl⟩, fun q hq => by simp at hq⟩ (fun i σ H' hi hP => ?_) (fun σ H' hP => ?_) (fun i y σ H' H2 hi hP hy => ?_) fun σ H' hP => ?_
  · obtain ⟨rfl, _⟩ := hP
    exact ⟨xs, _, h2, List.getElem?_eq_getElem hi⟩
  · obtain ⟨rfl, _⟩ := hP
    exact ⟨xs, h2, Nat.le_refl _⟩
  · obtain ⟨rfl, ⟨y0, rfl⟩, hne⟩ := hP
    obtain ⟨rfl, hy⟩ := hy
    have hx := hy xs h2
    obtain ⟨p, hp, hT⟩ := Paired.getL h3 hx
    obtain ⟨t, c, e, t1, t2⟩ := id hT
    subst e
    refine ⟨_, rfl, t, _, 0, .str p.1, rfl, rfl, t1, atI_nat (j := 0) rfl, _, rfl, rfl, _, rfl, ?_⟩
    rw [dS]
    by_cases he : p.1 = x
    · rw [decide_eq_true he]
      exact iteT ⟨_, rfl, q _ p (List.mem_of_getElem? hp) he hT⟩
    · rw [decide_eq_false he]
      refine iteF ⟨rfl, ⟨_, rfl⟩, fun q hq => ?_⟩
      rw [List.take_add_one, hp] at hq
      rcases List.mem_append.mp hq with hq | hq
      · exact hne q hq
      · rw [show q = p by simpa using hq]
        exact he
  · obtain ⟨rfl, ⟨y0, rfl⟩, hne⟩ := hP
    rw [Paired.len h3, List.take_of_length_le (Nat.le_refl _)] at hne
    exact ⟨x, rfl, qE hne⟩
/-! ### tables_of -/
def spTablesOf (T : Tb) (K : PySem.W.Frag) : Sp := fun vs H Q _ => ∃ (v : V) (n : Int) (qs : List Part), vs = [v] ∧ FormAt K H v n qs ∧ qs.length < 1000 ∧ ∀ p H', Lv T H H' → H' p = some (.lst ((qs.map (·.1)).map V.str)) → Q (.ref p) H'
theorem scTablesOf : FnScope ["form", "one"] ["form"] (defScope sTablesOf) := ⟨rfl, rfl, rfl, by decide +kernel, rfl, by decide +kernel, by decide +kernel⟩
theorem ok_tables_of (T : Tb) (D : DefAt K mg "tables_of" sTablesOf) : Cl P w K mg base CX0 1 "tables_of" (spTablesOf T K) := by
  have nd := scTablesOf.nd
  refine cl0 D scTablesOf (fun _ _ _ _ _ _ us hl => match us, hl with | [_], _ => rfl) (fun vs H Q E h => ?_) fun f cdv A outer s H vs Q E hr h => ?_
  · obtain ⟨v, n, qs, rfl, _⟩ := h
    rfl
  obtain ⟨v, n, qs, rfl, hF, hlen, q⟩ := h
  refine ⟨_, pss_one (ps_ret (pe_lc (own := [("one", 1)]) rfl nd (pi_tup (pe_ix ix_tup (pv 0) pe_int (fun _ _ => rfl))) (blk_of (N := ["form", "one"]) (sc := defScope sTablesOf) rfl (by decide +kernel)) (fun s H C cl fp => pg_name (i := 1) nd rfl (.inl rfl)) (fun s H C cl fp => pts_nil)
    (fun s H C cl fp => pe_ix (ix_tupB (K0 := K) rfl) (pv 1) pe_int (fun _ _ => rfl)))), ?_⟩
  obtain ⟨a, r, xs, rfl, h1, h2, h3⟩ := hF
  refine ⟨_, rfl, a, _, 1, .ref r, rfl, rfl, h1, atI_nat (j := 1) rfl, r, rfl, ⟨xs, h2⟩, fun D hD => ?_⟩
  refine lc_by xs.length (fun i H' => H' D = some (.lst (((qs.take i).map (·.1)).map V.str)) ∧ Lv T H H') ⟨upd_same, Lv.new hD⟩ (fun i H' hi hP => ?_) (fun H' hP => ?_) (fun i y H' H2 hi hP hy => ?_) fun H' hP => ?_
  · obtain ⟨e1, l1⟩ := hP
    exact ⟨xs, _, l1.tup h2, List.getElem?_eq_getElem hi⟩
  · obtain ⟨e1, l1⟩ := hP
    exact ⟨xs, l1.tup h2, Nat.le_refl _⟩
  · obtain ⟨e1, l1⟩ := hP
    obtain ⟨rfl, hy⟩ := hy
    have hx := hy xs (l1.tup h2)
    obtain ⟨p, hp, hT⟩ := Paired.getL h3 hx
    obtain ⟨t, c, e, t1, t2⟩ := id hT
    subst e
    refine ⟨rfl, yesT (iteT ⟨_, rfl, t, _, 0, .str p.1, rfl, rfl, l1.tup t1, atI_nat (j := 0) rfl, _, e1, ?_, ?_, ?_⟩)⟩
    · rw [List.length_map, List.length_map, List.length_take, sizeLine_eq]
      omega
    · rw [upd_same, List.take_add_one, hp, List.map_append, List.map_append]
      rfl
    · exact l1.putN (.of hD) e1 True.intro
  · obtain ⟨e1, l1⟩ := hP
    rw [Paired.len h3, List.take_of_length_le (Nat.le_refl _)] at e1
    exact q D H' l1 e1
/-! ### sort_of, columns_of: of a table that is not there -/
def spMiss (T : Tb) (K : PySem.W.Frag) (CT : Addr) : Sp := fun vs H Q E => ∃ (v : V) (x : Str) (n : Int) (qs : List Part), vs = [v, .str x] ∧ FormAt K H v n qs ∧ (∀ q ∈ qs, q.1 ≠ x) ∧ ∀ d H', NtAt T H d x H' → E (.ref CT) (some d) H'
theorem scSortOf : FnScope ["form", "table"] ["form", "table"] (defScope sSortOf) := ⟨rfl, rfl, rfl, by decide +kernel, rfl, by decide +kernel, by decide +kernel⟩
theorem scColumnsOf : FnScope ["form", "table"] ["form", "table"] (defScope sColumnsOf) := ⟨rfl, rfl, rfl, by decide +kernel, rfl, by decide +kernel, by decide +kernel⟩
theorem ok_sort_of (T : Tb) (D : DefAt K mg "sort_of" sSortOf) (GT : Cl P w K mg base (L2.CX P w) 3 "table_at" (spTableAt T K CT)) : Cl P w K mg base (L2.CX P w) 4 "sort_of" (spMiss T K CT) := by
  refine clX D scSortOf (fun _ _ _ _ _ _ us hl => match us, hl with | [_, _], _ => rfl) (fun vs H Q E h => ?_) fun f cdv A outer s H vs Q E hr h => ?_
  · obtain ⟨v, x, n, qs, rfl, _⟩ := h
    rfl
  obtain ⟨v, x, n, qs, rfl, hF, hne, qE⟩ := h
  refine ⟨_, pss_one (ps_ret (pe_ix ix_tup (pe_clX GT hr (passes_call (takes_of rfl rfl rfl rfl) fun _ _ _ _ h => h) (pa_cons (pv 0) (pa_cons (pv 1) pa_nil))) pe_int (fun _ _ => rfl))), ?_⟩
  exact ⟨_, rfl, _, rfl, v, x, n, qs, rfl, hF, fun u q hq he => absurd he (hne q hq), fun _ => qE⟩
theorem ok_columns_of (T : Tb) (D : DefAt K mg "columns_of" sColumnsOf) (GT : Cl P w K mg base (L2.CX P w) 3 "table_at" (spTableAt T K CT)) (B : Bt mg) : Cl P w K mg base (L2.CX P w) 4 "columns_of" (spMiss T K CT) := by
  refine clX D scColumnsOf (fun _ _ _ _ _ _ us hl => match us, hl with | [_, _], _ => rfl) (fun vs H Q E h => ?_) fun f cdv A outer s H vs Q E hr h => ?_
  · obtain ⟨v, x, n, qs, rfl, _⟩ := h
    rfl
  obtain ⟨v, x, n, qs, rfl, hF, hne, qE⟩ := h
  refine ⟨_, pss_one (ps_ret (pe_callTy (T := "dict") (call_dictT rfl) rfl B.dict (by decide +kernel) (pa_cons (pe_ix ix_tup (pe_clX GT hr (passes_call (takes_of rfl rfl rfl rfl) fun _ _ _ _ h => h) (pa_cons (pv 0) (pa_cons (pv 1) pa_nil))) pe_int (fun _ _ => rfl)) pa_nil))), ?_⟩
  exact ⟨_, rfl, _, rfl, v, x, n, qs, rfl, hF, fun u q hq he => absurd he (hne q hq), fun _ => qE⟩
/-! ### parts_of -/
theorem mergeK_nodup : ∀ {more acc : List (Key × V)}, ((acc ++ more).map (·.1)).Nodup → mergeK acc more = acc ++ more
  | [], acc, _ => by
    rw [List.append_nil]
    rfl
  | kv :: more, acc, h => by
    have e : putK acc kv.1 kv.2 = acc ++ [kv] := by
      unfold putK
      rw [if_neg]
      rw [List.any_eq_true]
      rintro ⟨z, hz, e⟩
      have e' := of_decide_eq_true e
      rw [List.map_append, List.map_cons, List.nodup_append] at h
      exact h.2.2 z.1 (List.mem_map_of_mem hz) kv.1 List.mem_cons_self e'
    show mergeK (putK acc kv.1 kv.2) more = acc ++ kv :: more
    rw [e, mergeK_nodup (by rw [List.append_assoc]; exact h), List.append_assoc]
    rfl
theorem colsT_kvs {H : Hp} : ∀ {ts : List Addr} {cs : Cols}, Paired (fun (t : Addr) (c : Str × Kd) => ∃ x, SqT K H t [.str c.1, x] ∧ Dp K H x c.2.d) ts cs →
    ∃ kvs : List (Key × V), Paired (fun p kv => SqT K H p [kV kv.1, kv.2]) ts kvs ∧ Paired (fun kv c => kv.1 = Sum.inr c.1 ∧ Dp K H kv.2 c.2.d) kvs cs
  | _, _, .nil => ⟨[], .nil, .nil⟩
  | _, _, @Paired.cons _ _ _ t c _ _ h tl => by
    obtain ⟨x, h1, h2⟩ := h
    obtain ⟨kvs, h3, h4⟩ := colsT_kvs tl
    exact ⟨(Sum.inr c.1, x) :: kvs, .cons h1 h3, .cons ⟨rfl, h2⟩ h4⟩
theorem nodup_inr {l : List Str} (h : l.Nodup) : (l.map (Sum.inr : Str → Key)).Nodup :=
  List.Pairwise.map _ (fun _ _ q e => q (Sum.inr.inj e)) h
/-- what a form's parts are -/
def Good (qs : List Part) : Prop := ∀ q ∈ qs, (q.2.2.map (·.1)).Nodup ∧ colsBad q.2.2 = false
def spPartsOf (T : Tb) (K : PySem.W.Frag) : Sp := fun vs H Q _ => ∃ (v : V) (n : Int) (qs : List Part), vs = [v] ∧ FormAt K H v n qs ∧ qs.length < 1000 ∧ Good qs ∧ ∀ p H' ws, Nw H p → Lv T H H' → H' p = some (.lst ws) → Paired (PartAt K H' fun _ => False) ws qs → Q (.ref p) H'
theorem scPartsOf : FnScope ["form", "name", "sort", "columns"] ["form"] (defScope sPartsOf) := ⟨rfl, rfl, rfl, by decide +kernel, rfl, by decide +kernel, by decide +kernel⟩
/-- tuples and dicts stay -/
def TupD : HO → Prop
  | .tup _ => True
  | .frz _ (.tup _) => True
  | .dK _ => True
  | _ => False
def Kq (H H' : Hp) : Prop := ∀ b o, H b = some o → TupD o → H' b = some o
section
variable {T : Tb} {H H1 H' : Hp} {D : Addr → Prop}
theorem tupOD (o : HO) (t : TupO o) : TupD o := by
  cases o with
  | frz ob u => cases u <;> first | exact True.intro | exact False.elim t
  | _ => first | exact True.intro | exact False.elim t
theorem Kq.kt (k : Kq H H') : Kt H H' := fun b o h t => k b o h (tupOD o t)
theorem Lv.kq (l : Lv T H H') : Kq H H' := fun b o h t => l.ext b o h fun ps z => by
  rw [z] at t
  exact t
theorem Kq.trans (a : Kq H H1) (b : Kq H1 H') : Kq H H' := fun c o h t => b c o (a c o h t) t
theorem Kq.upd {d : Addr} {u o : HO} (h : H d = some u) (n : ¬ TupD u) : Kq H (L2.upd H d o) := fun b x hb t => by
  rw [upd_ne (fun z => by
    rw [z, h] at hb
    rw [Option.some.inj hb] at n
    exact n t)]
  exact hb
theorem Kq.new {d : Addr} {o : HO} (h : H d = none) : Kq H (L2.upd H d o) := (Lv.new (T := []) h).kq
theorem Kq.cols (k : Kq H H') {d : Addr} {cs : Cols} (h : ColsAt K H d cs) : ColsAt K H' d cs := by
  obtain ⟨kvs, h1, h2⟩ := h
  exact ⟨kvs, k _ _ h1 True.intro, Paired.imp (fun kv c z => ⟨z.1, k.kt.kd z.2⟩) h2⟩
theorem Kq.part (k : Kq H H') {v : V} {p : Part} (h : PartAt K H D v p) : PartAt K H' D v p := by
  obtain ⟨t, d, e, h1, h2, h3⟩ := h
  exact ⟨t, d, e, k.kt.tup h1, k.cols h2, h3⟩
end
theorem ok_parts_of (T : Tb) (D : DefAt K mg "parts_of" sPartsOf) (B : Bt mg) : Cl P w K mg base CX0 1 "parts_of" (spPartsOf T K) := by
  have nd := scPartsOf.nd
  refine cl0 D scPartsOf (fun _ _ _ _ _ _ us hl => match us, hl with | [_], _ => rfl) (fun vs H Q E h => ?_) fun f cdv A outer s H vs Q E hr h => ?_
  · obtain ⟨v, n, qs, rfl, _⟩ := h
    rfl
  obtain ⟨v, n, qs, rfl, hF, hlen, hg, q⟩ := h
  refine ⟨_, pss_one (ps_ret (pe_lc (own := [("name", 1), ("sort", 2), ("columns", 3)]) rfl nd (pi_tup (pe_ix ix_tup (pv 0) pe_int (fun _ _ => rfl))) (blk_of (N := ["form", "name", "sort", "columns"]) (sc := defScope sPartsOf) rfl (by decide +kernel))
    (fun s H C cl fp => pg_tupB (K0 := K) (n := 3) rfl rfl (pgs_cons (pg_name (i := 1) nd rfl (.inl rfl)) (pgs_cons (pg_name (i := 2) nd rfl (.inl rfl)) (pgs_cons (pg_name (i := 3) nd rfl (.inl rfl)) pgs_nil)))) (fun s H C cl fp => pts_nil)
    (fun s H C cl fp => pe_tup (pa_cons (pv 1) (pa_cons (pv 2) (pa_cons (pe_callTy (T := "dict") (call_dictTB (K0 := K) rfl rfl) rfl B.dict (by decide +kernel) (pa_cons (pv 3) pa_nil)) pa_nil)))))), ?_⟩
  obtain ⟨a, r, xs, rfl, h1, h2, h3⟩ := hF
  refine ⟨_, rfl, a, _, 1, .ref r, rfl, rfl, h1, atI_nat (j := 1) rfl, r, rfl, ⟨xs, h2⟩, fun D hD => ?_⟩
  refine lc_by xs.length (fun i H' => ∃ ws, H' D = some (.lst ws) ∧ Paired (PartAt K H' fun _ => False) ws (qs.take i) ∧ Lv T H H') ⟨[], upd_same, .nil, Lv.new hD⟩ (fun i H' hi hP => ?_) (fun H' hP => ?_) (fun i y H' H2 hi hP hy => ?_) fun H' hP => ?_
  · obtain ⟨ws, e1, e2, l1⟩ := hP
    exact ⟨xs, _, l1.tup h2, List.getElem?_eq_getElem hi⟩
  · obtain ⟨ws, e1, e2, l1⟩ := hP
    exact ⟨xs, l1.tup h2, Nat.le_refl _⟩
  · obtain ⟨ws, e1, e2, l1⟩ := hP
    obtain ⟨rfl, hy⟩ := hy
    have hx := hy xs (l1.tup h2)
    obtain ⟨p, hp, hT⟩ := Paired.getL h3 hx
    obtain ⟨t, c, e, t1, t2⟩ := l1.tabAt hT
    subst e
    obtain ⟨ts, c1, c2⟩ := t2
    obtain ⟨kvs, k1, k2⟩ := colsT_kvs c2
    have hgp := hg p (List.mem_of_getElem? hp)
    refine ⟨t, _, rfl, t1, rfl, _, _, rfl, _, _, rfl, _, _, rfl, rfl, rfl, yesT (iteT ?_)⟩
    refine ⟨_, rfl, _, rfl, _, rfl, c, ts, kvs, rfl, c1, k1, fun d hd => ⟨by show 3 ≤ sizeLine; rw [sizeLine_eq]; decide, fun t' ht' => ?_⟩⟩
    have em : mergeK [] kvs = kvs := mergeK_nodup (by rw [List.nil_append, cols_keys k2]; exact nodup_inr hgp.1)
    rw [em] at ht' ⊢
    have hDd := ne_none e1 hd
    have hD2 : (upd H2 d (.dK kvs)) D = some (.lst ws) := by rw [upd_ne hDd]; exact e1
    have hDt := ne_none hD2 ht'
    have hD3 : (upd (upd H2 d (.dK kvs)) t' (.tup [.str p.1, .str p.2.1, .ref d])) D = some (.lst ws) := by rw [upd_ne hDt]; exact hD2
    have kk : Kq H2 (upd (upd (upd H2 d (.dK kvs)) t' (.tup [.str p.1, .str p.2.1, .ref d])) D (.lst (ws ++ [.ref t']))) := ((Kq.new hd).trans (Kq.new ht')).trans (Kq.upd hD3 (fun z => z))
    refine ⟨ws, hD3, ?_, ws ++ [.ref t'], upd_same, ?_, ((l1.add hd).add ht').putN (.of hD) hD3 True.intro⟩
    · rw [Paired.len e2, List.length_take, sizeLine_eq]
      omega
    · refine paired_snoc (Paired.imp (fun v q z => kk.part z) e2) hp ⟨t', d, rfl, .inl (.inl ?_), ⟨kvs, ?_, Paired.imp (fun kv c z => ⟨z.1, kk.kt.kd z.2⟩) k2⟩, fun z => ?_⟩
      · rw [upd_ne (Ne.symm hDt), upd_same]
      · rw [upd_ne (Ne.symm hDd), upd_ne (ne_none upd_same ht'), upd_same]
      · rw [hgp.2] at z
        cases z
  · obtain ⟨ws, e1, e2, l1⟩ := hP
    rw [Paired.len h3, List.take_of_length_le (Nat.le_refl _)] at e2
    exact q D H' ws (.of hD) l1 e1 e2
end
end HM
set_option Elab.async false
set_option linter.all false
set_option maxRecDepth 100000
set_option maxHeartbeats 4000000
namespace HM
open PySem PySem.Spec PyProof.Rows L2
structure COk (cs : Cols) : Prop where
  all : ∀ c ∈ cs, c.1.length ≤ sizeLine ∧ c.2.Dom
  nd : (cs.map (·.1)).Nodup
  len : cs.length < 64
theorem WF.rok {qs : List Part} (h : WF qs) : ∀ q ∈ qs, ROk q := fun q hq => rok_of (h.ok q hq)
theorem WF.gd {qs : List Part} (h : WF qs) : Good qs := fun q hq => ⟨(h.ok q hq).2.nd, (h.ok q hq).2.good⟩
theorem ROk.setC {x : Str} {cs : Cols} {q : Part} (h : ROk q) (c : COk cs) : ROk (HM.setC x cs q) := by
  unfold HM.setC
  split
  · exact ⟨h.nm, c.all, c.nd, c.len⟩
  · exact h
/-- what form_of makes of other parts -/
def Then (T : Tb) (K : PySem.W.Frag) (CF : Addr) (n : Int) (ps : List Part) (D : Addr → Prop) (H : Hp) (Q : VK) (E : XK) : Prop :=
  (formBad n ps = false → ∀ v H', Lv T H H' → FormAt K H' v n (nrm ps) → Q v H') ∧ (formBad n ps = true → ∀ H', LvX T D H H' → E (.ref CF) none H')
theorem Then.at {T : Tb} {K : PySem.W.Frag} {CF : Addr} {n : Int} {ps : List Part} {D : Addr → Prop} {H H1 : Hp} {Q : VK} {E : XK} (t : Then T K CF n ps D H Q E) (l : Lv T H H1) : Then T K CF n ps D H1 Q E :=
  ⟨fun h v H' l' f => t.1 h v H' (l.trans l') f, fun h H' l' => t.2 h H' (l.thenX l')⟩
section
variable {P : Program} {w : World} {K : PySem.W.Frag} {mg : Str → Option Value} {base : Heap} {CF CT fI : Addr}
/-! ### with_columns -/
def spWithCols (T : Tb) (K : PySem.W.Frag) (CF CT : Addr) : Sp := fun vs H Q E => ∃ (v c : V) (x : Str) (n : Int) (qs : List Part), vs = [v, .str x, c] ∧ FormAt K H v n qs ∧ WF qs ∧ qs.length < 900 ∧ LamX.Tabs T H ∧
  ((∀ q ∈ qs, q.1 ≠ x) → ∀ d H', NtAt T H d x H' → E (.ref CT) (some d) H') ∧
  ((∃ q ∈ qs, q.1 = x) → ∃ d cs D, c = .ref d ∧ ColsAt K H d cs ∧ (colsBad cs = true → D d) ∧ COk cs ∧ Then T K CF n (qs.map (setC x cs)) D H Q E)
abbrev NWc : List Str := ["form", "table", "columns", "parts", "name", "sort", "old"]
theorem scWithCols : FnScope NWc ["form", "table", "columns"] (defScope sWithCols) := ⟨rfl, rfl, rfl, by decide +kernel, rfl, by decide +kernel, by decide +kernel⟩
theorem ok_with_cols (T : Tb) (D : DefAt K mg "with_columns" sWithCols) (GT : Cl P w K mg base (L2.CX P w) 3 "table_at" (spTableAt T K CT)) (GP : Cl P w K mg base CX0 1 "parts_of" (spPartsOf T K)) (GF : Cl P w K mg base (L2.CX P w) 5 "form_of" (spFormOf T K CF)) :
    Cl P w K mg base (L2.CX P w) 6 "with_columns" (spWithCols T K CF CT) := by
  have nd := scWithCols.nd
  refine clX D scWithCols (fun _ _ _ _ _ _ us hl => match us, hl with | [_, _, _], _ => rfl) (fun vs H Q E h => ?_) fun f cdv A outer s H vs Q E hr h => ?_
  · obtain ⟨v, c, x, n, qs, rfl, _⟩ := h
    rfl
  obtain ⟨v, c, x, n, qs, rfl, hF, hWF, hlen, hTH, qN, qP⟩ := h
  refine ⟨_, pss_cons (ps_expr (pe_clX GT hr (passes_call (takes_of rfl rfl rfl rfl) fun _ _ _ _ h => h) (pa_cons (pv 0) (pa_cons (pv 1) pa_nil))))
    (pss_cons (ps_set (i := 3) nd rfl (.inl rfl) (pe_lst pa_nil))
    (pss_cons (ps_for (passes_of rfl) rfl (pi_list (pe_cl GP hr (pa_cons (pv 0) pa_nil))) (pg_tup rfl (pgs_cons (pg_name (i := 4) nd rfl (.inl rfl)) (pgs_cons (pg_name (i := 5) nd rfl (.inl rfl)) (pgs_cons (pg_name (i := 6) nd rfl (.inl rfl)) pgs_nil))))
      (pss_one (ps_if (pt_cmpR op_eq (pv 4) (pv 1) (nomark _))
        (pss_one (ps_expr (pe_bm PySem.F.plainAttrs_list PySem.F.slot_list_append PySem.F.type_list_append mt_append (pv 3) (pa_cons (pe_tup (pa_cons (pv 4) (pa_cons (pv 5) (pa_cons (pv 2) pa_nil)))) pa_nil))))
        (pss_one (ps_expr (pe_bm PySem.F.plainAttrs_list PySem.F.slot_list_append PySem.F.type_list_append mt_append (pv 3) (pa_cons (pe_tup (pa_cons (pv 4) (pa_cons (pv 5) (pa_cons (pv 6) pa_nil)))) pa_nil)))))))
    (pss_one (ps_ret (pe_clX GF hr (passes_call (takes_of rfl rfl rfl rfl) fun _ _ _ _ h => h) (pa_cons (pe_ix ix_tup (pv 0) pe_int (fun _ _ => rfl)) (pa_cons (pv 3) pa_nil))))))), ?_⟩
  refine ⟨_, rfl, _, rfl, v, x, n, qs, rfl, hF, fun u q0 hq0 he0 _ => ?_, qN⟩
  obtain ⟨d, cs, D, rfl, hC, hD, hok, hth⟩ := qP ⟨q0, hq0, he0⟩
  refine ⟨by show 0 ≤ sizeLine; exact Nat.zero_le _, fun m hm => ?_⟩
  have l1 : Lv T H (upd H m (.lst [])) := Lv.new hm
  have em1 : (upd H m (.lst [])) m = some (.lst []) := upd_same
  generalize upd H m (.lst []) = H1 at l1 em1
  refine ⟨_, rfl, v, n, qs, rfl, l1.form hF, by omega, hWF.gd, fun p H2 ws hnw l2 ep hP => ⟨p, rfl, ⟨ws, .inl (.inl ep)⟩, ?_⟩⟩
  have em2 := l2.at em1
  have hmp : m ≠ p := fun z => hnw _ (z ▸ em1) (fun ps q => by cases q)
  have l12 := l1.trans l2
  refine for_by qs.length (fun i σ H' => ∃ ys y4 y5 y6, σ = [some v, some (.str x), some (.ref d), some (.ref m), y4, y5, y6] ∧ H' m = some (.lst ys) ∧ H' p = some (.lst ws) ∧ Paired (PartAt K H' D) ys ((qs.take i).map (setC x cs)) ∧ Kq H2 H' ∧ Lv T H H')
    ⟨[], none, none, none, rfl, em2, ep, .nil, fun _ _ h _ => h, l12⟩ (fun i σ H' hi hP' => ?_) (fun σ H' hP' => ?_) (fun i y σ H' H3 hi hP' hy => ?_) fun σ H' hP' => ?_
  · obtain ⟨ys, y4, y5, y6, rfl, e1, e2, e3, k1, l3⟩ := hP'
    exact ⟨ws, _, .inl (.inl e2), List.getElem?_eq_getElem (by rw [Paired.len hP]; exact hi)⟩
  · obtain ⟨ys, y4, y5, y6, rfl, e1, e2, e3, k1, l3⟩ := hP'
    exact ⟨ws, .inl (.inl e2), by rw [Paired.len hP]; exact Nat.le_refl _⟩
  · obtain ⟨ys, y4, y5, y6, rfl, e1, e2, e3, k1, l3⟩ := hP'
    obtain ⟨rfl, hy⟩ := hy
    have hx := hy ws (.inl (.inl e2))
    obtain ⟨q, hq, hT⟩ := Paired.getL hP hx
    obtain ⟨t, dq, e, t1, t2, t3⟩ := k1.part hT
    subst e
    have hyl : ys.length < sizeLine := by
      rw [Paired.len e3, List.length_map, List.length_take, sizeLine_eq]
      omega
    refine ⟨t, _, rfl, t1, rfl, _, _, rfl, _, _, rfl, _, _, rfl, rfl, ?_⟩
    refine ⟨_, rfl, _, rfl, rfl, _, rfl, ?_⟩
    rw [dS]
    by_cases hqx : q.1 = x
    · rw [decide_eq_true hqx]
      refine iteT ⟨_, rfl, .inl ⟨rfl, ys, .inl (.inl e1)⟩, _, rfl, _, rfl, _, rfl, by show 3 ≤ sizeLine; rw [sizeLine_eq]; decide, fun t' ht' => ?_⟩
      have e1' : (upd H3 t' (.tup [.str q.1, .str q.2.1, .ref d])) m = some (.lst ys) := by rw [upd_ne (ne_none e1 ht')]; exact e1
      have kk : Kq H3 (upd (upd H3 t' (.tup [.str q.1, .str q.2.1, .ref d])) m (.lst (ys ++ [.ref t']))) := (Kq.new ht').trans (Kq.upd e1' (fun z => z))
      refine ⟨m, ys, _, rfl, rfl, e1', hyl, ys ++ [.ref t'], _, _, _, rfl, upd_same, ?_, ?_, k1.trans kk, (l3.add ht').putN (.of hm) e1' True.intro⟩
      · rw [upd_ne (Ne.symm hmp), upd_ne (ne_none e2 ht')]
        exact e2
      · rw [take_map_succ (setC x cs) hq]
        refine Paired.append' (Paired.imp (fun v q z => kk.part z) e3) (.cons ?_ .nil)
        have es : setC x cs q = (q.1, q.2.1, cs) := if_pos hqx
        rw [es]
        refine ⟨t', d, rfl, .inl (.inl ?_), kk.cols (l3.cols hC), hD⟩
        rw [upd_ne (Ne.symm (ne_none e1 ht')), upd_same]
    · rw [decide_eq_false hqx]
      refine iteF ⟨_, rfl, .inl ⟨rfl, ys, .inl (.inl e1)⟩, _, rfl, _, rfl, _, rfl, by show 3 ≤ sizeLine; rw [sizeLine_eq]; decide, fun t' ht' => ?_⟩
      have e1' : (upd H3 t' (.tup [.str q.1, .str q.2.1, .ref dq])) m = some (.lst ys) := by rw [upd_ne (ne_none e1 ht')]; exact e1
      have kk : Kq H3 (upd (upd H3 t' (.tup [.str q.1, .str q.2.1, .ref dq])) m (.lst (ys ++ [.ref t']))) := (Kq.new ht').trans (Kq.upd e1' (fun z => z))
      refine ⟨m, ys, _, rfl, rfl, e1', hyl, ys ++ [.ref t'], _, _, _, rfl, upd_same, ?_, ?_, k1.trans kk, (l3.add ht').putN (.of hm) e1' True.intro⟩
      · rw [upd_ne (Ne.symm hmp), upd_ne (ne_none e2 ht')]
        exact e2
      · rw [take_map_succ (setC x cs) hq]
        refine Paired.append' (Paired.imp (fun v q z => kk.part z) e3) (.cons ?_ .nil)
        have es : setC x cs q = q := if_neg hqx
        rw [es]
        refine ⟨t', dq, rfl, .inl (.inl ?_), kk.cols t2, fun z => (t3 z).elim⟩
        rw [upd_ne (Ne.symm (ne_none e1 ht')), upd_same]
  · obtain ⟨ys, y4, y5, y6, rfl, e1, e2, e3, k1, l3⟩ := hP'
    rw [List.take_of_length_le (Nat.le_refl _)] at e3
    obtain ⟨a, r, xs, rfl, h1, h2, h3⟩ := hF
    have t4 := hth.at l3
    exact ⟨_, rfl, a, _, 0, .int n, rfl, rfl, l3.tup h1, atI_nat (j := 0) rfl, _, rfl, m, n, ys, _, D, rfl, .inl (.inl e1), e3, fun p hp => by
      obtain ⟨q, hq, e⟩ := List.mem_map.mp hp
      rw [← e]
      exact (hWF.rok q hq).setC hok, by rw [List.length_map]; omega, l3.tab hTH, t4.1, t4.2⟩
/-! ### with_table -/
def spWithTab (T : Tb) (K : PySem.W.Frag) (CF : Addr) : Sp := fun vs H Q E => ∃ (v : V) (d : Addr) (x sx : Str) (n : Int) (qs : List Part) (cs : Cols) (D : Addr → Prop), vs = [v, .str x, .str sx, .ref d] ∧ FormAt K H v n qs ∧ WF qs ∧ qs.length < 900 ∧ LamX.Tabs T H ∧
  ColsAt K H d cs ∧ (colsBad cs = true → D d) ∧ COk cs ∧ x.length ≤ sizeLine ∧ Then T K CF n (qs ++ [(x, sx, cs)]) D H Q E
theorem scWithTab : FnScope ["form", "name", "sort", "columns"] ["form", "name", "sort", "columns"] (defScope sWithTab) := ⟨rfl, rfl, rfl, by decide +kernel, rfl, by decide +kernel, by decide +kernel⟩
theorem ok_with_tab (T : Tb) (D : DefAt K mg "with_table" sWithTab) (GP : Cl P w K mg base CX0 1 "parts_of" (spPartsOf T K)) (GF : Cl P w K mg base (L2.CX P w) 5 "form_of" (spFormOf T K CF)) :
    Cl P w K mg base (L2.CX P w) 6 "with_table" (spWithTab T K CF) := by
  have nd := scWithTab.nd
  refine clX D scWithTab (fun _ _ _ _ _ _ us hl => match us, hl with | [_, _, _, _], _ => rfl) (fun vs H Q E h => ?_) fun f cdv A outer s H vs Q E hr h => ?_
  · obtain ⟨v, d, x, sx, n, qs, cs, D, rfl, _⟩ := h
    rfl
  obtain ⟨v, d, x, sx, n, qs, cs, D, rfl, hF, hWF, hlen, hTH, hC, hD, hok, hxl, hth⟩ := h
  refine ⟨_, pss_one (ps_ret (pe_clX GF hr (passes_call (takes_of rfl rfl rfl rfl) fun _ _ _ _ h => h) (pa_cons (pe_ix ix_tup (pv 0) pe_int (fun _ _ => rfl)) (pa_cons (pe_op op_cat (pe_cl GP hr (pa_cons (pv 0) pa_nil)) (pe_lst (pa_cons (pe_tup (pa_cons (pv 1) (pa_cons (pv 2) (pa_cons (pv 3) pa_nil)))) pa_nil))) pa_nil)))), ?_⟩
  obtain ⟨a, r, xs, ev, h1, h2, h3⟩ := id hF
  refine ⟨_, rfl, a, _, 0, .int n, ev, rfl, h1, atI_nat (j := 0) rfl, _, rfl, v, n, qs, rfl, hF, by omega, hWF.gd, fun p H2 ws hnw l2 ep hP => ?_⟩
  refine ⟨_, rfl, _, rfl, _, rfl, by show 3 ≤ sizeLine; rw [sizeLine_eq]; decide, fun t ht => ⟨by show 1 ≤ sizeLine; rw [sizeLine_eq]; decide, fun m hm => ?_⟩⟩
  have ep2 : (upd (upd H2 t (.tup [.str x, .str sx, .ref d])) m (.lst [.ref t])) p = some (.lst ws) := by rw [upd_ne (ne_none (by rw [upd_ne (ne_none ep ht)]; exact ep) hm), upd_ne (ne_none ep ht)]; exact ep
  refine ⟨p, m, ws, _, rfl, rfl, ep2, upd_same, ?_, fun b hb => ?_⟩
  · rw [Paired.len hP, List.length_singleton, sizeLine_eq]
    omega
  have l5 := ((l2.add ht).add hm).add (o := .lst (ws ++ [.ref t])) hb
  have k5 : Lv T H2 _ := (((Lv.refl (T := T)).add ht).add hm).add (o := .lst (ws ++ [.ref t])) hb
  have t4 := hth.at l5
  refine ⟨b, n, _, _, D, rfl, .inl (.inl upd_same), Paired.append' (Paired.imp (fun v q z => (k5.part z).mono fun _ h => h.elim) hP) (.cons ⟨t, d, rfl, .inl (.inl ?_), l5.cols hC, hD⟩ .nil), fun p hp => ?_, ?_, l5.tab hTH, t4.1, t4.2⟩
  · have e : (upd H2 t (.tup [.str x, .str sx, .ref d])) t = some (.tup [.str x, .str sx, .ref d]) := upd_same
    have e2 : (upd (upd H2 t (.tup [.str x, .str sx, .ref d])) m (.lst [.ref t])) t = some (.tup [.str x, .str sx, .ref d]) := by rw [upd_ne (ne_none e hm)]; exact e
    rw [upd_ne (ne_none e2 hb)]
    exact e2
  · rcases List.mem_append.mp hp with hp | hp
    · exact hWF.rok p hp
    · rw [List.mem_singleton.mp hp]
      exact ⟨hxl, hok.all, hok.nd, hok.len⟩
  · rw [List.length_append, List.length_singleton]
    omega
/-! ### without_table -/
def spWithout (T : Tb) (K : PySem.W.Frag) (CF CT : Addr) : Sp := fun vs H Q E => ∃ (v : V) (x : Str) (n : Int) (qs : List Part), vs = [v, .str x] ∧ FormAt K H v n qs ∧ WF qs ∧ qs.length < 900 ∧ LamX.Tabs T H ∧
  ((∀ q ∈ qs, q.1 ≠ x) → ∀ d H', NtAt T H d x H' → E (.ref CT) (some d) H') ∧
  ((∃ q ∈ qs, q.1 = x) → Then T K CF n (dropN x qs) (fun _ => False) H Q E)
theorem scWithout : FnScope ["form", "name", "one"] ["form", "name"] (defScope sWithout) := ⟨rfl, rfl, rfl, by decide +kernel, rfl, by decide +kernel, by decide +kernel⟩
theorem dropN_snoc_neg {x : Str} {l : List Part} {q : Part} (h : q.1 ≠ x) : dropN x (l ++ [q]) = dropN x l ++ [q] := by
  unfold dropN
  rw [List.filter_append]
  simp [h]
theorem dropN_snoc_pos {x : Str} {l : List Part} {q : Part} (h : q.1 = x) : dropN x (l ++ [q]) = dropN x l := by
  unfold dropN
  rw [List.filter_append]
  simp [h]
theorem dropN_len {x : Str} {l : List Part} : (dropN x l).length ≤ l.length := List.length_filter_le ..
theorem ok_without (T : Tb) (D : DefAt K mg "without_table" sWithout) (GT : Cl P w K mg base (L2.CX P w) 3 "table_at" (spTableAt T K CT)) (GP : Cl P w K mg base CX0 1 "parts_of" (spPartsOf T K)) (GF : Cl P w K mg base (L2.CX P w) 5 "form_of" (spFormOf T K CF)) :
    Cl P w K mg base (L2.CX P w) 6 "without_table" (spWithout T K CF CT) := by
  have nd := scWithout.nd
  refine clX D scWithout (fun _ _ _ _ _ _ us hl => match us, hl with | [_, _], _ => rfl) (fun vs H Q E h => ?_) fun f cdv A outer s H vs Q E hr h => ?_
  · obtain ⟨v, x, n, qs, rfl, _⟩ := h
    rfl
  obtain ⟨v, x, n, qs, rfl, hF, hWF, hlen, hTH, qN, qP⟩ := h
  refine ⟨_, pss_cons (ps_expr (pe_clX GT hr (passes_call (takes_of rfl rfl rfl rfl) fun _ _ _ _ h => h) (pa_cons (pv 0) (pa_cons (pv 1) pa_nil))))
    (pss_one (ps_ret (pe_clX GF hr (passes_call (takes_of rfl rfl rfl rfl) fun _ _ _ _ h => h) (pa_cons (pe_ix ix_tup (pv 0) pe_int (fun _ _ => rfl)) (pa_cons (pe_lc (own := [("one", 2)]) rfl nd (pi_list (pe_cl GP hr (pa_cons (pv 0) pa_nil)))
      (blk_of (N := ["form", "name", "one"]) (sc := defScope sWithout) rfl (by decide +kernel)) (fun s H C cl fp => pg_name (i := 2) nd rfl (.inl rfl)) (fun s H C cl fp => pts_one (pt_cmpR op_ne (pe_ix (ix_tupB (K0 := K) rfl) (pv 2) pe_int (fun _ _ => rfl)) (pv 1) (nomark _))) (fun s H C cl fp => pv 2)) pa_nil))))), ?_⟩
  refine ⟨_, rfl, _, rfl, v, x, n, qs, rfl, hF, fun u q0 hq0 he0 _ => ?_, qN⟩
  have hth := qP ⟨q0, hq0, he0⟩
  obtain ⟨a, r, xs, ev, h1, h2, h3⟩ := id hF
  refine ⟨_, rfl, a, _, 0, .int n, ev, rfl, h1, atI_nat (j := 0) rfl, ?_⟩
  refine ⟨_, rfl, v, n, qs, rfl, hF, by omega, hWF.gd, fun p H2 ws hnw l2 ep hP => ⟨p, rfl, ⟨ws, .inl (.inl ep)⟩, fun m hm => ?_⟩⟩
  have hmp : p ≠ m := ne_none ep hm
  refine lc_by qs.length (fun i H' => ∃ ys, H' m = some (.lst ys) ∧ H' p = some (.lst ws) ∧ Paired (PartAt K H2 fun _ => False) ys (dropN x (qs.take i)) ∧ Lv T H2 H') ⟨[], upd_same, by rw [upd_ne hmp]; exact ep, .nil, Lv.new hm⟩
    (fun i H' hi hP' => ?_) (fun H' hP' => ?_) (fun i y H' H3 hi hP' hy => ?_) fun H' hP' => ?_
  · obtain ⟨ys, e1, e2, e3, l3⟩ := hP'
    exact ⟨ws, _, .inl (.inl e2), List.getElem?_eq_getElem (by rw [Paired.len hP]; exact hi)⟩
  · obtain ⟨ys, e1, e2, e3, l3⟩ := hP'
    exact ⟨ws, .inl (.inl e2), by rw [Paired.len hP]; exact Nat.le_refl _⟩
  · obtain ⟨ys, e1, e2, e3, l3⟩ := hP'
    obtain ⟨rfl, hy⟩ := hy
    have hx := hy ws (.inl (.inl e2))
    obtain ⟨q, hq, hT⟩ := Paired.getL hP hx
    obtain ⟨t, dq, e, t1, t2, t3⟩ := l3.part hT
    subst e
    have etk : qs.take (i + 1) = qs.take i ++ [q] := by rw [List.take_add_one, hq]; rfl
    refine ⟨rfl, _, rfl, t, _, 0, .str q.1, rfl, rfl, t1, atI_nat (j := 0) rfl, _, rfl, rfl, _, rfl, ?_⟩
    rw [dS]
    by_cases hqx : q.1 = x
    · rw [decide_eq_true hqx]
      refine iteF ⟨ys, e1, e2, ?_, l3⟩
      rw [etk, dropN_snoc_pos hqx]
      exact e3
    · rw [decide_eq_false hqx]
      refine iteT ⟨_, rfl, ys, e1, ?_, ys ++ [.ref t], upd_same, ?_, ?_, l3.putN (.of hm) e1 True.intro⟩
      · have := dropN_len (x := x) (l := qs.take i)
        rw [Paired.len e3, sizeLine_eq]
        rw [List.length_take] at this
        omega
      · rw [upd_ne hmp]
        exact e2
      · rw [etk, dropN_snoc_neg hqx]
        exact Paired.append' e3 (.cons hT .nil)
  · obtain ⟨ys, e1, e2, e3, l3⟩ := hP'
    rw [List.take_of_length_le (Nat.le_refl _)] at e3
    have t4 := hth.at (l2.trans l3)
    exact ⟨m, n, ys, _, _, rfl, .inl (.inl e1), Paired.imp (fun v q z => l3.part z) e3, fun p hp => hWF.rok p (List.mem_filter.mp hp).1, Nat.lt_of_le_of_lt dropN_len (by omega), (l2.trans l3).tab hTH, t4.1, t4.2⟩
end
end HM
set_option Elab.async false
set_option linter.all false
set_option maxRecDepth 100000
set_option maxHeartbeats 4000000
namespace HM
open PySem PySem.Spec PyProof.Rows L2
/-! ### a caught exception that is kept -/
def Cau (a : Addr) (cls : Value) (d : Option Addr) : HO := .ext fun h => ∃ (oe : Obj) (vs : Array Value), h.get? a = some oe ∧ Zc cls d oe ∧ oe.data = .fields vs
theorem cau_ok {P : Program} {w : World} {H : Hp} {h : Heap} {a : Addr} {cls : Value} {d : Option Addr} {oe : Obj} {vs : Array Value} (e : h.get? a = some oe) (z : Zc cls d oe) (dd : oe.data = .fields vs) : ObjOk P w H h a (Cau a cls d) :=
  ⟨⟨oe, vs, e, z, dd⟩, ⟨oe, e⟩, fun _ _ ⟨o, v, q, r⟩ k => ⟨o, v, k o q, r⟩⟩
theorem cau_at {P : Program} {w : World} {H : Hp} {h : Heap} {a : Addr} {cls : Value} {d : Option Addr} (hok : HOk P w H h) (e : H a = some (Cau a cls d)) : ∃ (oe : Obj) (vs : Array Value), h.get? a = some oe ∧ Zc cls d oe ∧ oe.data = .fields vs := by
  have x : ObjOk P w H h a (.ext fun h => ∃ (oe : Obj) (vs : Array Value), h.get? a = some oe ∧ Zc cls d oe ∧ oe.data = .fields vs) := hok a _ e
  exact x.1
section
variable {X : Cx} {pins : List (Addr × Obj)} {σ : L2.St} {H : Hp} {s : Shared}
/-- an object of the heap that is not tracked, and wasn't there at the entry, is tracked -/
theorem track {a : Addr} {o : HO} (I : Inv X pins σ H s) (ha0 : X.s_0.heap.get? a = none) (hn : H a = none) (nL : a ≠ X.env.locals) (nC : ∀ v, ¬ s.heap.IsCell a v) (nP : ∀ p ∈ X.pn ++ pins, p.1 ≠ a) (new : ObjOk X.prog X.w (upd H a o) s.heap a o) : Inv X pins σ (upd H a o) s := by
  refine ⟨I.ok, I.os, I.bare, ⟨I.base.keep, I.base.slot, fun b u e n hx => ?_, I.base.there, fun b xs e => ?_, fun b u x e => ?_, fun b ps e => ?_⟩, I.loc, I.cell, ?_, fun x c e => ?_, fun p hp => ?_, fun b u e => ?_, I.len⟩
  · rw [upd_ne (fun z => by rw [z, ha0] at e; cases e)]
    exact I.base.free b u e n hx
  · have q := I.base.tups b xs e
    rw [upd_ne (ne_none q hn)]
    exact q
  · have q := I.base.frzs b u x e
    rw [upd_ne (ne_none q hn)]
    exact q
  · obtain ⟨m, q⟩ := I.base.tbls b ps e
    exact ⟨m, by rw [upd_ne (ne_none q hn)]; exact q⟩
  · rw [upd_ne (Ne.symm nL)]
    exact I.free
  · rw [upd_ne (fun z => by
      obtain ⟨v, hv⟩ := I.cell x c e
      rw [z] at hv
      exact nC v hv)]
    exact I.freeC x c e
  · obtain ⟨e1, n, r⟩ := I.pin p hp
    exact ⟨e1, by rw [upd_ne (nP p hp)]; exact n, r⟩
  · by_cases hb : b = a
    · subst hb
      rw [upd_same] at e
      cases e
      exact new
    · rw [upd_ne hb] at e
      exact (I.hok b u e).stay (fun c v _ q => q) (fun c q => by rw [upd_ne (ne_none q hn)]; exact q) fun c xs q => by rw [upd_ne (ne_none q hn)]; exact q
end
/-! ### except .. as n, the exception kept -/
def keepE (a : Addr) (cls : Value) (d : Option Addr) (i : Nat) (D : Ends) : Ends :=
  { nx := fun σ' H' => D.nx (σ'.set i none) (upd H' a (Cau a cls d)), rt := fun v H' => D.rt v (upd H' a (Cau a cls d)), bk := fun σ' H' => D.bk (σ'.set i none) (upd H' a (Cau a cls d)), ct := fun σ' H' => D.ct (σ'.set i none) (upd H' a (Cau a cls d)) }
def wKeep (K : PySem.W.Frag) (Wout : WX) (D : Ends) : List (Value × Option Nat × (Addr → Value → Option Addr → TS)) → WX
  | [] => Wout
  | (c, none, ts) :: r => fun cls d σ H => ∃ b, PySem.W.exmOne K cls c = some b ∧ (b = true → ∀ a, H a = none → ts a cls d D σ H) ∧ (b = false → wKeep K Wout D r cls d σ H)
  | (c, some i, ts) :: r => fun cls d σ H => ∃ b, PySem.W.exmOne K cls c = some b ∧ (b = true → ∀ a, H a = none → ts a cls d (keepE a cls d i D) (σ.set i (some (.ref a))) H) ∧ (b = false → wKeep K Wout D r cls d σ H)
inductive HkOk (X : Cx) : List ExceptHandler → List (Value × Option Nat × (Addr → Value → Option Addr → TS)) → Prop
  | nil : HkOk X [] []
  | plain {x : Str} {c : Value} {ts : Addr → Value → Option Addr → TS} {b₀ : Stmt} {suite : List Stmt} {np pos' : Pos} {hds : List ExceptHandler} {l : List (Value × Option Nat × (Addr → Value → Option Addr → TS))} (hc : Names X x c)
      (hsu : ∀ (a : Addr) (oe : Obj) (cls : Value) (d : Option Addr) (pn : List (Addr × Obj)), Zc cls d oe → (∃ vs, oe.data = .fields vs) → PSs (X.suite a ((a, oe) :: pn)) (b₀ :: suite) (ts a cls d)) (r : HkOk X hds l) :
      HkOk X (.ExceptHandler (some (.Name x np)) none (b₀ :: suite) pos' :: hds) ((c, none, ts) :: l)
  | keep {x n : Str} {i : Nat} {c : Value} {ts : Addr → Value → Option Addr → TS} {b₀ : Stmt} {suite : List Stmt} {np pos' : Pos} {hds : List ExceptHandler} {l : List (Value × Option Nat × (Addr → Value → Option Addr → TS))} (hi : X.N[i]? = some n) (hln : X.env.kindOf n = some .local) (hc : Names X x c)
      (hsu : ∀ (a : Addr) (oe : Obj) (cls : Value) (d : Option Addr) (pn : List (Addr × Obj)), Zc cls d oe → (∃ vs, oe.data = .fields vs) → PSs (X.suite a ((a, oe) :: pn)) (b₀ :: suite) (ts a cls d)) (r : HkOk X hds l) :
      HkOk X (.ExceptHandler (some (.Name x np)) (some n) (b₀ :: suite) pos' :: hds) ((c, some i, ts) :: l)
section
variable {X : Cx} {body : List Stmt} {h₀ : ExceptHandler} {hds : List ExceptHandler} {l : List (Value × Option Nat × (Addr → Value → Option Addr → TS))} {pos : Pos} {tb : WX → TS} {Wout : WX}
theorem ps_try_keep (hs : X.stack = X.env :: X.outer) (hf : X.env.frame = some X.env.locals) (hex : X.ex = []) (hN : X.N.Nodup) (tk : Takes X Wout)
    (hb : ∀ (W : WX) (pn : List (Addr × Obj)) (xe : Value → Shared → Prop), Takes (X.tr pn xe) W → PassesOwn (model X.prog X.w) X.A X.env xe → PSs (X.tr pn xe) body (tb W))
    (hh : HkOk X (h₀ :: hds) l) : PS X (.Try body (h₀ :: hds) [] [] pos) (fun D σ H => tb (wKeep X.K Wout D l) D σ H) := by
  refine ⟨fun pins s σ H D I h => ?_⟩
  have ok := I.ok
  have hfr : X.A.frames = some (X.env :: X.outer) := by rw [ok.frames, hs]
  refine wpAny_Try_except ?_
  refine wpAny_mono ((hb (wKeep X.K Wout D l) (X.pn ++ pins) (fun e s₁ => wpAny (model X.prog X.w) X.A (noteFrame e X.env) (fun _ s₂ => wpAny (model X.prog X.w) X.A (setFlight e none) (fun _ s₃ =>
    wpAny (model X.prog X.w) X.A (handleBy e X.env (h₀ :: hds)) (SP X pins D) X.xe s₃) X.xe s₂) X.xe s₁) (fun u s' xx => ?_) PassesOwn.looking).run [] s σ H D (I.toTry _) h) (fun f s1 hsp => ?_) (fun e s1 he => he)
  · obtain ⟨a, B, sI, pins', σ', H', cls, d, rfl, J', nb, up, sky, na, os, ag, w⟩ := xx
    have J : Inv X pins σ' H' sI := J'.ofTry ok
    have sky' : Sky B (X.env :: X.outer) a (Zc cls d) X.env.locals s'.heap := by rw [← hs]; exact sky
    have aB : B.get? a = none := by
      rcases sky with ⟨_, h, _⟩ | fl | hh
      · exact h
      · exact fl.2.1
      · exact hh.2.1
    show wpAny (model X.prog X.w) X.A (noteFrame (.ref a) X.env) _ _ _
    refine Sky.land Zc.steady hfr hf sky' fun h3 fl3 up3 => ?_
    have J3 : Inv X pins σ' H' { s' with heap := h3 } := J.landed nb fl3.1 (up.trans up3) os ag
    obtain ⟨oe3, vs3, he3, hz3, hd3⟩ := fl3.there
    have notFr : ∀ {h : Heap} {o : Obj} {vs : Array Value}, h.FunFrames B (X.env :: X.outer) → h.get? a = some o → o.data = .fields vs → a ∉ frs (X.env :: X.outer) := fun {h o vs} ff e dd hm => by
      obtain ⟨_, o', e', hnf⟩ := ff.mem hm
      rw [e] at e'; cases e'
      exact hnf _ dd
    have nfr := notFr fl3.2.2.1 he3 hd3
    have nL : a ≠ X.env.locals := fun z => nfr (List.mem_filterMap.mpr ⟨X.env, List.mem_cons_self, by rw [hf, z]⟩)
    have nF : a ∉ X.fs := fun hm => by
      obtain ⟨e, he, q⟩ := List.mem_filterMap.mp hm
      exact nfr (List.mem_filterMap.mpr ⟨e, List.mem_cons_of_mem _ he, q⟩)
    have aI : sI.heap.get? a = none := by
      cases q : sI.heap.get? a with
      | none => rfl
      | some o =>
        have z := nb a o q (by rw [hs]; exact nfr)
        rw [aB] at z
        cases z
    have nP : ∀ p ∈ X.pn ++ pins, p.1 ≠ a := fun p hp z => by
      have e := (J.pin p hp).1
      rw [z, aI] at e
      cases e
    have a0 : a ∉ X.ex → X.s_0.heap.get? a = none := fun nx => by
      cases q : X.s_0.heap.get? a with
      | none => rfl
      | some o =>
        obtain ⟨o', z⟩ := J.base.there a o q nx
        rw [aI] at z
        cases z
    have S3 := J3.suite he3 hd3 na nL nF
    have go : ∀ {hds' : List ExceptHandler} {l' : List (Value × Option Nat × (Addr → Value → Option Addr → TS))}, HkOk X hds' l' → wKeep X.K Wout D l' cls d σ' H' →
        wpAny (model X.prog X.w) X.A (handleBy (.ref a) X.env hds') (SP X pins D) X.xe { s' with heap := h3 } := by
      intro hds' l' hk
      have test : ∀ {x : Str} {c : Value} {np : Pos} {Q : Value → Shared → Prop} {E : Value → Shared → Prop}, Names X x c → Q c { s' with heap := h3 } → wpAny (model X.prog X.w) (X.A.mark (some (.ref a))) (eval (.Name x np) X.env) Q E { s' with heap := h3 } := fun {x c np Q E} hc q => by
        obtain ⟨hg, hdbg, hm | ⟨hm, hv, hnn⟩⟩ := hc
        · exact ld_glob (X := X.suite a ((a, oe3) :: (X.pn ++ pins))) S3 hg hm q hdbg
        · exact ld_blt (X := X.suite a ((a, oe3) :: (X.pn ++ pins))) S3 hg hm hv q hnn hdbg
      have LT : PySem.W.Looks (model X.prog X.w) h3 (typeOf (.ref a)) cls := fun A Q E s k q => wpAny_typeOf_ref (k _ _ he3) (by rw [hz3.1]; exact q)
      induction hk with
      | nil =>
        intro w
        refine wpAny_handleBy_nil ?_
        obtain ⟨k1, k2, k3, oe, vs, T, oT, ts', he, hz, hd, h1, hr⟩ := id fl3
        unfold PySem.passOn
        refine wpAny_bind (wpAny_field he hd h1 ?_)
        rw [if_neg (show ¬ ((Value.ref T == Value.none) = true) from by simp)]
        have fin : wpAny (model X.prog X.w) X.A (setFlight (.ref a) X.env.frame) (fun _ s4 => wpAny (model X.prog X.w) X.A (throw (.ref a) : Sem Flow) (SP X pins D) X.xe s4) X.xe { s' with heap := h3 } := by
          rw [hf]
          refine HandSPX.setFlight_upZ fl3 fun h4 hh4 up4 => wpAny_throw (tk _ _ ?_)
          exact ⟨a, B, sI, pins, σ', H', cls, d, rfl, J, nb, (up.trans up3).trans up4, .inr (.inr (by rw [hs]; exact hh4)), na, os, ag, w⟩
        first
          | exact wpAny_bind (wpAny_pure (wpAny_bind fin))
          | exact wpAny_bind fin
      | @plain x c ts b₀ suite np pos' hds2 l2 hc hsu r ih =>
        intro w
        obtain ⟨b, hb1, hyes, hno⟩ := w
        refine wpAny_handleBy_cons (codeAny_handlers_test ?_) (by intro q; cases q)
        have LM := PySem.W.exm_one (M := model X.prog X.w) (J3.kIn) LT hb1
        refine test hc (LM.here ?_)
        cases b with
        | true =>
          refine codeAny_handlers_suite ?_
          refine HandSPX.lands_againZ fl3 fun h4 fl4 up4 => ?_
          have J4 : Inv X pins σ' H' { s' with heap := h4 } := J.landed nb fl4.1 ((up.trans up3).trans up4) os ag
          obtain ⟨oe4, vs4, he4, hz4, hd4⟩ := fl4.there
          have S4 := J4.suite he4 hd4 na nL nF
          refine wpAny_mono ((hsu a oe4 cls d (X.pn ++ pins) hz4 ⟨_, hd4⟩).run [] _ _ H' _ S4 (hyes rfl a na)) (fun f s6 hsp => ?_) (fun _ _ z => False.elim z)
          cases f with
          | next =>
            obtain ⟨σ6, H6, S6, q6⟩ := hsp
            exact ⟨_, _, S6.unsuite ok, q6⟩
          | brk =>
            obtain ⟨σ6, H6, S6, q6⟩ := hsp
            exact ⟨_, _, S6.unsuite ok, q6⟩
          | cont =>
            obtain ⟨σ6, H6, S6, q6⟩ := hsp
            exact ⟨_, _, S6.unsuite ok, q6⟩
          | ret u =>
            obtain ⟨v6, σ6, H6, S6, r6, q6⟩ := hsp
            exact ⟨_, _, _, S6.unsuite ok, r6, q6⟩
        | false =>
          show wpAny _ X.A (handleBy (.ref a) X.env hds2) _ _ _
          exact ih (hno rfl)
      | @keep x n i c ts b₀ suite np pos' hds2 l2 hi hln hc hsu r ih =>
        intro w
        obtain ⟨b, hb1, hyes, hno⟩ := w
        have hloc : Loc X.env.scope n := .inl hln
        refine wpAny_handleBy_cons (codeAny_handlers_test ?_) (by intro q; cases q)
        have LM := PySem.W.exm_one (M := model X.prog X.w) (J3.kIn) LT hb1
        refine test hc (LM.here ?_)
        cases b with
        | true =>
          refine codeAny_handlers_suite_as ?_
          refine HandSPX.lands_againZ fl3 fun h4 fl4 up4 => ?_
          have J4 : Inv X pins σ' H' { s' with heap := h4 } := J.landed nb fl4.1 ((up.trans up3).trans up4) os ag
          obtain ⟨oe4, vs4, he4, hz4, hd4⟩ := fl4.there
          have S4 := J4.suite he4 hd4 na nL nF
          refine store_ok (X := X.suite a ((a, oe4) :: (X.pn ++ pins))) (v := .ref a) S4 hN hi hloc rfl (fun s5 S5 => ?_) (.inr hln)
          refine wpAny_mono ((hsu a oe4 cls d (X.pn ++ pins) hz4 ⟨_, hd4⟩).run [] s5 _ H' _ S5 (hyes rfl a na)) (fun f s6 hsp => ?_) (fun _ _ z => False.elim z)
          have end_ : ∀ {σ6 : L2.St} {H6 : Hp} {Q : Shared → Prop}, Inv (X.suite a ((a, oe4) :: (X.pn ++ pins))) [] σ6 H6 s6 → (∀ s7, Inv X pins (σ6.set i none) (upd H6 a (Cau a cls d)) s7 → Q s7) →
              wpAny (model X.prog X.w) X.A (do bindName X.env n .none; unbindBehindTheSuite X.env n pos') (fun _ s7 => Q s7) X.xe s6 := fun {σ6 H6 Q} S6 hq => by
            obtain ⟨p1, p2, p3, p4, p5⟩ := S6.pin (a, oe4) (List.mem_append_left _ List.mem_cons_self)
            have J6 := S6.unsuite ok
            have nx : a ∉ X.ex := by
              rw [hex]
              exact fun z => by cases z
            exact gone_ok (track J6 (a0 nx) p2 nL (fun v ⟨o, e1, e2⟩ => by
              have e3 : o = oe4 := Option.some.inj (e1.symm.trans p1)
              rw [e3, hd4] at e2
              cases e2) nP (cau_ok p1 hz4 hd4)) hN hi hln hq
          cases f with
          | next =>
            obtain ⟨σ6, H6, S6, q6⟩ := hsp
            exact end_ S6 fun s7 J7 => ⟨_, _, J7, q6⟩
          | brk =>
            obtain ⟨σ6, H6, S6, q6⟩ := hsp
            exact end_ S6 fun s7 J7 => ⟨_, _, J7, q6⟩
          | cont =>
            obtain ⟨σ6, H6, S6, q6⟩ := hsp
            exact end_ S6 fun s7 J7 => ⟨_, _, J7, q6⟩
          | ret u =>
            obtain ⟨v6, σ6, H6, S6, r6, q6⟩ := hsp
            exact end_ S6 fun s7 J7 => ⟨_, _, _, J7, r6, q6⟩
        | false =>
          show wpAny _ X.A (handleBy (.ref a) X.env hds2) _ _ _
          exact ih (hno rfl)
    exact go hh w
  · cases f with
    | next =>
      obtain ⟨σ', H', J', q⟩ := hsp
      exact wpAny_execs_nil ⟨σ', H', J'.ofTry ok, q⟩
    | brk =>
      obtain ⟨σ', H', J', q⟩ := hsp
      exact ⟨σ', H', J'.ofTry ok, q⟩
    | cont =>
      obtain ⟨σ', H', J', q⟩ := hsp
      exact ⟨σ', H', J'.ofTry ok, q⟩
    | ret u =>
      obtain ⟨v, σ', H', J', r, q⟩ := hsp
      exact ⟨v, σ', H', J'.ofTry ok, r, q⟩
end
/-! ### isinstance, fields of a kept exception -/
def DOk (H : Hp) (d : Option Addr) : Prop := ∀ dd, d = some dd → ∃ fs, H dd = some (.xd fs)
theorem kitx_cau {K : PySem.W.Frag} {x D : Addr} (C : ExcC K D) : PySem.W.KitX K (.ref x) (.ref D) (fun h => ∃ (ox : Obj) (od : Option Obj), PySem.W.InstAt h x ox D od) where
  ty := fun _ _ _ ⟨_, _, I⟩ => I.type
  it := fun _ _ X _ => by
    obtain ⟨cdD, hcD, _⟩ := PySem.W.any_some C.hd
    unfold PySem.W.clsIn at hcD
    split at hcD
    · rename_i c' d' cd' sl' ho
      intro A' Q' E' s' k q
      unfold isType loadHead
      exact wpAny_bind (wpAny_loadPart (k _ _ (X _ _ ho)) (wpAny_pure q))
    · cases hcD
  ne := fun h tp dd its n sl X htp => by
    obtain ⟨cdD, hcD, _⟩ := PySem.W.any_some C.hd
    refine Bool.eq_false_iff.mpr fun q => ?_
    have e : D = tp := Value.ref.inj (beq_iff_eq.mp q)
    subst e
    unfold PySem.W.clsIn at hcD
    split at hcD
    · rename_i c' d' cd' sl' ho
      have z := (X _ _ ho).symm.trans htp
      cases z
    · cases hcD
  ca := fun X ⟨_, _, I⟩ k => PySem.W.kx_classE X I C.hg C.hk C.hs (PySem.W.findObj_dataE (by obtain ⟨cd, hc, _⟩ := PySem.W.any_some C.hd; rw [hc]; rfl) C.ha C.hn C.ht) C.hm k
section
variable {X : Cx}
theorem inst_cau {pins : List (Addr × Obj)} {σ : L2.St} {H : Hp} {s : Shared} {a D : Addr} {d : Option Addr} (I : Inv X pins σ H s) (e : H a = some (Cau a (.ref D) d)) (hd : DOk H d) : ∃ (ox : Obj) (od : Option Obj), PySem.W.InstAt s.heap a ox D od := by
  obtain ⟨oe, vs, h1, h2, h3⟩ := cau_at I.hok e
  cases d with
  | none => exact ⟨oe, none, h1, h2.1, by unfold PySem.W.notCls; rw [h3] <;> rfl, by rw [h2.2]; exact True.intro⟩
  | some dd =>
    obtain ⟨fs, hf⟩ := hd dd rfl
    obtain ⟨mA, ⟨od, es, ep, ho, hr⟩, _⟩ := (show ObjOk X.prog X.w H s.heap dd (.xd fs) from I.hok dd _ hf)
    exact ⟨oe, some od, h1, h2.1, by unfold PySem.W.notCls; rw [h3] <;> rfl, by rw [h2.2]; exact ho⟩
/-- isinstance(e, c), e kept -/
def rIsK (K : PySem.W.Frag) : List V → Hp → VK → Prop := fun xs H Q => ∃ (a D : Addr) (d : Option Addr) (c : V) (u : Value) (b : Bool), xs = [.ref a, c] ∧ H a = some (Cau a (.ref D) d) ∧ DOk H d ∧ ExcC K D ∧ ClsV c u ∧ PySem.W.kitOne K (.ref D) u = some b ∧ Q (.bl b) H
theorem call_isK : CallR X (.builtin "isinstance") (rIsK X.K) := by
  intro pins s σ H xs us Q I r h
  obtain ⟨a, D, d, c, u, b, rfl, e, hd, C, k, ek, q⟩ := h
  obtain ⟨u1, u2, rfl, r1, r2⟩ := vals2 r
  obtain rfl : u1 = Value.ref a := r1
  have e2 := k.eq r2
  subst e2
  exact PySem.W.kia_one (kitx_cau C) I.kIn (inst_cau I e hd) ek (fun z => nomatch z) fun tk => ⟨.bl b, H, I.tok tk, rfl, q⟩
/-- isinstance(e, (c1, c2, ..)) -/
def rIsKT (K : PySem.W.Frag) : List V → Hp → VK → Prop := fun xs H Q => ∃ (a D : Addr) (d : Option Addr) (tp : Addr) (cs : List V) (us : List Value) (b : Bool), xs = [.ref a, .ref tp] ∧ H tp = some (.tup cs) ∧ Paired ClsV cs us ∧ H a = some (Cau a (.ref D) d) ∧ DOk H d ∧ ExcC K D ∧
  PySem.W.kitAny K (.ref D) us = some b ∧ Q (.bl b) H
theorem call_isKT : CallR X (.builtin "isinstance") (rIsKT X.K) := by
  intro pins s σ H xs us Q I r h
  obtain ⟨a, D, d, tp, cs, ws, b, rfl, hT, k, e, hd, C, ek, q⟩ := h
  obtain ⟨u1, u2, rfl, r1, r2⟩ := vals2 r
  obtain rfl : u1 = Value.ref a := r1
  cases (show u2 = Value.ref tp from r2)
  obtain ⟨_, its, rv, o, h1, h2, n, h3⟩ := (show ObjOk X.prog X.w H s.heap tp (.tup cs) from I.hok tp _ hT)
  have e3 := ClsV.all k rv
  subst e3
  obtain ⟨oc, od, dt, sl⟩ := o
  simp only at h2 h3
  subst h2 h3
  exact PySem.W.kia_tup (kitx_cau C) I.kIn (inst_cau I e hd) h1 ek (fun z => nomatch z) fun tk => ⟨.bl b, H, I.tok tk, rfl, q⟩
/-- e.f, e kept -/
def tCf (C : Addr) (f : Str) (te : TE) : TE := fun σ H Q => te σ H fun x H1 => ∃ (a dd : Addr) (fs : List (Str × V)) (v : V), x = .ref a ∧ H1 a = some (Cau a (.ref C) (some dd)) ∧ H1 dd = some (.xd fs) ∧ fs.lookup f = some v ∧ Q v H1
theorem pe_cf {C : Addr} {e : Expr} {te : TE} {pos : Pos} {n : Str} (T : XfC X.K C) (hno : PySem.W.findIn X.K (.ref C) n = some none) (he : PE X e te) (hb : attributeBase e n X.env (eval e X.env) = eval e X.env := by rfl) : PE X (.Attribute e n pos) (tCf C n te) := by
  refine ⟨fun pins s σ H Q I h => ?_⟩
  refine attr_of hb (thn (he.run pins s σ H _ I h) fun u s1 hh => ?_)
  obtain ⟨x, H1, I1, rx, a, dd, fs, v, ex, ea, ed, l, q⟩ := hh
  subst ex
  obtain rfl : u = Value.ref a := rx
  obtain ⟨oe, vs, h1, h2, h3⟩ := cau_at I1.hok ea
  have hx : ObjOk X.prog X.w H1 s1.heap dd (.xd fs) := I1.hok dd _ ed
  obtain ⟨mA, hns, hr⟩ := hx
  obtain ⟨od, ho, hl⟩ := lookIn_ns hns
  obtain ⟨u, hu, ru⟩ := RelO.some_of (v := v) (o := mA n) (by rw [← l]; exact hr n)
  have J : PySem.W.InstAt s1.heap a oe C (some od) := ⟨h1, h2.1, by unfold PySem.W.notCls; rw [h3] <;> rfl, by rw [h2.2]; exact ho⟩
  exact HandSPX.exc_get I1.kIn J T.ga T.gg T.exC (PySem.W.findObj_own T.hdC hno rfl (by rw [hl, hu])) (handed_of ru) ⟨v, H1, I1.tok _, ru, q⟩
end
end HM
set_option Elab.async false
set_option linter.all false
set_option maxRecDepth 100000
set_option maxHeartbeats 4000000
namespace HM
open PySem PySem.Spec PyProof.Rows L2
section
variable {P : Program} {w : World} {K : PySem.W.Frag} {mg : Str → Option Value} {base : Heap}
/-! ### _law_cell -/
def spCell (K : PySem.W.Frag) : Sp := fun vs H Q _ => ∃ (a : Addr) (ns : List Int) (k : Nat), vs = [.ref a, .int k] ∧ SqL K H a (ns.map V.int) ∧ k < 3 ∧ ∀ z : Int, Q (.int z) H
theorem scCell : FnScope ["_law_script", "_law_k", "_law_number"] ["_law_script", "_law_k"] (defScope sCell) := ⟨rfl, rfl, rfl, by decide +kernel, rfl, by decide +kernel, by decide +kernel⟩
theorem ok_cell (D : DefAt K mg "_law_cell" sCell) (B : Bt mg) : Cl P w K mg base CX0 1 "_law_cell" (spCell K) := by
  have nd := scCell.nd
  refine cl0 D scCell (fun _ _ _ _ _ _ us hl => match us, hl with | [_, _], _ => rfl) (fun vs H Q E h => ?_) fun f cdv A outer s H vs Q E hr h => ?_
  · obtain ⟨a, ns, k, rfl, _⟩ := h
    rfl
  obtain ⟨a, ns, k, rfl, hS, hk, q⟩ := h
  refine ⟨_, pss_cons (ps_if (pt_cmpR op_lt (pv 1) (pe_callB call_len_seq (by rfl) B.len PySem.boot_len (pa_cons (pv 0) pa_nil)) (nomark _)) (pss_one (ps_ret (pe_ix ix_list (pv 0) (pv 1) (fun _ _ => rfl)))) pss_nil)
    (pss_cons (ps_set (i := 2) nd rfl (.inl rfl) (pe_op op_add (pe_op op_mul (pv 1) pe_int) pe_int))
    (pss_cons (ps_if (pt_cmpR op_gt (pe_callB call_len_seq (by rfl) B.len PySem.boot_len (pa_cons (pv 0) pa_nil)) pe_int (nomark _))
      (pss_one (ps_set (i := 2) nd rfl (.inl rfl) (pe_op op_add (pv 2) (pe_op op_mul (pe_op op_mod (pe_ix ix_list (pv 0) (pe_op op_mod (pv 1) (pe_callB call_len_seq (by rfl) B.len PySem.boot_len (pa_cons (pv 0) pa_nil))) (fun _ _ => rfl)) pe_int) pe_int)))) pss_nil)
    (pss_one (ps_ret (pe_op op_mod (pv 2) pe_int))))), ?_⟩
  have hlen : (ns.map V.int).length = ns.length := List.length_map ..
  refine ⟨_, rfl, _, rfl, a, _, rfl, .inl hS, _, _, rfl, rfl, _, rfl, ?_⟩
  by_cases h1 : (k : Int) < ((ns.map V.int).length : Nat)
  · rw [decide_eq_true h1]
    have e : (ns.map V.int)[k]? = some (V.int (ns[k]'(by omega))) := by rw [List.getElem?_map, List.getElem?_eq_getElem (by omega)]; rfl
    exact iteT ⟨_, rfl, _, rfl, a, _, k, _, rfl, rfl, hS, atI_nat e, q _⟩
  · rw [decide_eq_false h1]
    refine iteF ⟨_, rfl, _, _, rfl, rfl, .inl ⟨by omega, by omega⟩, _, _, rfl, rfl, _, rfl, a, _, rfl, .inl hS, _, _, rfl, rfl, _, rfl, ?_⟩
    by_cases h2 : (0 : Int) < ((ns.map V.int).length : Nat)
    · rw [decide_eq_true h2]
      have hlt : k % (ns.map V.int).length < ns.length := by
        rw [hlen]
        exact Nat.mod_lt _ (by omega)
      obtain ⟨zz, e⟩ : ∃ zz, (ns.map V.int)[k % (ns.map V.int).length]? = some (V.int zz) := ⟨ns[k % (ns.map V.int).length]'hlt, by rw [List.getElem?_map, List.getElem?_eq_getElem hlt]; rfl⟩
      have e3 : atI (ns.map V.int) ((k : Int) % ((ns.map V.int).length : Nat)) = some (V.int zz) := by
        have e2 : ((k : Int) % ((ns.map V.int).length : Nat)) = ((k % (ns.map V.int).length : Nat) : Int) := (Int.natCast_emod _ _).symm
        rw [e2]
        exact atI_nat e
      have h5 := Int.emod_nonneg zz (show (2147483647 : Int) ≠ 0 by decide)
      have h6 := Int.emod_lt_of_pos zz (show (0 : Int) < 2147483647 by decide)
      refine iteT ⟨_, rfl, _, rfl, _, rfl, _, rfl, a, _, rfl, .inl hS, _, _, rfl, rfl, h2, a, _, _, V.int zz, rfl, rfl, hS, e3, zz, _, rfl, rfl, (show (0 : Int) < 2147483647 by decide), _, _, rfl, rfl, .inl ⟨by omega, by omega⟩, _, _, rfl, rfl, ?_⟩
      exact ⟨_, rfl, _, _, rfl, rfl, (show (0 : Int) < 2147483647 by decide), q _⟩
    · rw [decide_eq_false h2]
      exact iteF ⟨_, rfl, _, _, rfl, rfl, (show (0 : Int) < 2147483647 by decide), q _⟩
/-! ### _law_stream -/
def spStream (T : Tb) : Sp := fun vs H Q _ => ∃ (c : Int) (m : Nat), vs = [.int c, .int m] ∧ m ≤ 20 ∧ ∀ p H' (xs : List Int), Lv T H H' → H' p = some (.lst (xs.map V.int)) → xs.length = m → (∀ z ∈ xs, 0 ≤ z ∧ z < 2147483647) → Q (.ref p) H'
theorem scStream : FnScope ["_law_cell_here", "_law_many", "_law_found", "_law_number", "_law_k"] ["_law_cell_here", "_law_many"] (defScope sStream) := ⟨rfl, rfl, rfl, by decide +kernel, rfl, by decide +kernel, by decide +kernel⟩
theorem ok_stream (T : Tb) (D : DefAt K mg "_law_stream" sStream) (B : Bt mg) : Cl P w K mg base CX0 1 "_law_stream" (spStream T) := by
  have nd := scStream.nd
  refine cl0 D scStream (fun _ _ _ _ _ _ us hl => match us, hl with | [_, _], _ => rfl) (fun vs H Q E h => ?_) fun f cdv A outer s H vs Q E hr h => ?_
  · obtain ⟨c, m, rfl, _⟩ := h
    rfl
  obtain ⟨c, m, rfl, hm, q⟩ := h
  refine ⟨_, pss_cons (ps_set (i := 2) nd rfl (.inl rfl) (pe_lst pa_nil))
    (pss_cons (ps_set (i := 3) nd rfl (.inl rfl) (pe_op op_add (pe_op op_mod (pv 0) pe_int) pe_int))
    (pss_cons (ps_for PassesOwn.never rfl (pi_range1 rfl B.range (pa_cons (pv 1) pa_nil)) (pg_name (i := 4) nd rfl (.inl rfl))
      (pss_cons (ps_set (i := 3) nd rfl (.inl rfl) (pe_op op_mod (pe_op op_add (pe_op op_add (pe_op op_mul (pv 3) (pv 3)) (pe_op op_mul pe_int (pv 3))) (pv 4)) pe_int))
      (pss_one (ps_expr (pe_bm PySem.F.plainAttrs_list PySem.F.slot_list_append PySem.F.type_list_append mt_append (pv 2) (pa_cons (pv 3) pa_nil))))))
    (pss_one (ps_ret (pv 2))))), ?_⟩
  refine ⟨by show 0 ≤ sizeLine; exact Nat.zero_le _, fun l hl => ?_⟩
  have l1 : Lv T H (upd H l (.lst [])) := Lv.new hl
  refine ⟨_, rfl, _, _, rfl, rfl, (show (0 : Int) < 2147483647 by decide), _, _, rfl, rfl, ?_⟩
  have hc1 := Int.emod_nonneg c (show (2147483647 : Int) ≠ 0 by decide)
  have hc2 := Int.emod_lt_of_pos c (show (0 : Int) < 2147483647 by decide)
  refine ⟨_, rfl, (m : Int), rfl, by omega, by omega, ?_⟩
  refine for_by m (fun i σ H' => ∃ (y : Int) (z : Option V) (xs : List Int), σ = [some (.int c), some (.int m), some (.ref l), some (.int y), z] ∧ 0 ≤ y ∧ y < 2147531918 ∧ H' l = some (.lst (xs.map V.int)) ∧ xs.length = i ∧ (∀ z ∈ xs, 0 ≤ z ∧ z < 2147483647) ∧ Lv T H H')
    ⟨_, none, [], rfl, by omega, by omega, upd_same, rfl, (fun z hz => by cases hz), l1⟩ (fun i σ H' hi hP => ?_) (fun σ H' hP => ?_) (fun i x σ H' H2 hi hP hy => ?_) fun σ H' hP => ?_
  · show i < ((m : Int)).toNat
    rw [Int.toNat_natCast]
    exact hi
  · show ((m : Int)).toNat ≤ m
    rw [Int.toNat_natCast]
    exact Nat.le_refl _
  · obtain ⟨y, z, xs, rfl, hy1, hy2, e1, e2, e3, l2⟩ := hP
    obtain ⟨rfl, rfl⟩ := hy
    refine ⟨_, rfl, _, rfl, _, _, rfl, rfl, .inl ⟨by omega, by omega⟩, _, rfl, _, _, rfl, rfl, .inr ⟨by omega, by omega⟩, _, _, rfl, rfl, _, rfl, _, _, rfl, rfl, _, _, rfl, rfl, (show (0 : Int) < 2147483647 by decide), ?_⟩
    have hz1 : 0 ≤ (y * y + 48271 * y + (0 + (i : Int))) % 2147483647 := Int.emod_nonneg _ (by decide)
    have hz2 : (y * y + 48271 * y + (0 + (i : Int))) % 2147483647 < 2147483647 := Int.emod_lt_of_pos _ (by decide)
    refine ⟨_, rfl, .inl ⟨rfl, _, .inl (.inl e1)⟩, _, rfl, l, _, _, rfl, rfl, e1, ?_, _, _, xs ++ [(y * y + 48271 * y + (0 + (i : Int))) % 2147483647], rfl, hz1, Int.lt_trans hz2 (by decide), ?_, ?_, fun z hz => ?_, l2.putN (.of hl) e1 True.intro⟩
    · rw [List.length_map, e2, sizeLine_eq]
      omega
    · rw [upd_same, List.map_append]
      rfl
    · rw [List.length_append, e2]
      rfl
    · rcases List.mem_append.mp hz with hz | hz
      · exact e3 z hz
      · rw [List.mem_singleton.mp hz]
        exact ⟨hz1, hz2⟩
  · obtain ⟨y, z, xs, rfl, hy1, hy2, e1, e2, e3, l2⟩ := hP
    exact ⟨_, rfl, q l H' xs l2 e1 e2 e3⟩
/-! ### _law_letter -/
def letN (c : Int) : Nat := 97 + (c % 26).toNat
theorem let_get : ∀ i : Fin 26, LET.cps.toList[i.1]? = some (97 + i.1) := by decide +kernel
theorem let_lt (c : Int) : (c % 26).toNat < 26 := by
  have := Int.emod_lt_of_pos c (show (0 : Int) < 26 by decide)
  omega
theorem let_mem (c : Int) : letN c ∈ LET.cps.toList := List.mem_of_getElem? (let_get ⟨_, let_lt c⟩)
def spLetter : Sp := fun vs H Q _ => ∃ c : Int, vs = [.int c] ∧ Q (.str ⟨#[letN c]⟩) H
theorem scLetter : FnScope ["_law_cell_here"] ["_law_cell_here"] (defScope sLetter) := ⟨rfl, rfl, rfl, by decide +kernel, rfl, by decide +kernel, by decide +kernel⟩
theorem ok_letter (D : DefAt K mg "_law_letter" sLetter) : Cl P w K mg base CX0 1 "_law_letter" spLetter := by
  refine cl0 D scLetter (fun _ _ _ _ _ _ us hl => match us, hl with | [_], _ => rfl) (fun vs H Q E h => ?_) fun f cdv A outer s H vs Q E hr h => ?_
  · obtain ⟨c, rfl, _⟩ := h
    rfl
  obtain ⟨c, rfl, q⟩ := h
  refine ⟨_, pss_one (ps_ret (pe_ix ix_str pe_str (pe_op op_mod (pv 0) pe_int) (fun _ _ => rfl))), ?_⟩
  refine ⟨_, rfl, _, _, rfl, rfl, (show (0 : Int) < 26 by decide), LET, _, letN c, rfl, rfl, by show 26 ≤ sizeLine; rw [sizeLine_eq]; decide, ?_, q⟩
  have e : c % 26 = ((c % 26).toNat : Int) := (Int.toNat_of_nonneg (Int.emod_nonneg _ (by decide))).symm
  rw [e]
  exact atI_nat (let_get ⟨_, let_lt c⟩)
end
end HM
set_option Elab.async false
set_option linter.all false
set_option maxRecDepth 100000
set_option maxHeartbeats 4000000
namespace HM
open PySem PySem.Spec PyProof.Rows L2
/-! ### texts as lists of signs -/
abbrev tl (z : Str) : List Nat := z.cps.toList
theorem len_tl (z : Str) : z.length = (tl z).length := by simp [tl, Str.length]
theorem tl_add (x y : Str) : tl (x ++ y) = tl x ++ tl y := by
  show (x ++ y).cps.toList = _
  rw [Str.cps_append, Array.toList_append]
theorem tl_to (z : Str) (u : Nat) : tl (cutS z none (some (u : Int))) = (tl z).take u := by
  show ((z.cps.toList.drop (HT.sIx z.length 0 none)).take (HT.sIx z.length z.length (some (u : Int)) - HT.sIx z.length 0 none)) = z.cps.toList.take u
  rw [HT.sIx_none, HT.sIx_nat, List.drop_zero, Nat.sub_zero, len_tl]
  show (tl z).take _ = (tl z).take u
  by_cases h : u ≤ (tl z).length
  · rw [Nat.min_eq_left h]
  · rw [Nat.min_eq_right (by omega), List.take_of_length_le (Nat.le_refl _), List.take_of_length_le (by omega)]
theorem tl_mid (z : Str) (a b : Nat) (h : b ≤ (tl z).length) (hab : a ≤ b) : tl (cutS z (some (a : Int)) (some (b : Int))) = ((tl z).drop a).take (b - a) := by
  show ((z.cps.toList.drop (HT.sIx z.length 0 (some (a : Int)))).take (HT.sIx z.length z.length (some (b : Int)) - HT.sIx z.length 0 (some (a : Int)))) = _
  rw [HT.sIx_nat, HT.sIx_nat, len_tl, Nat.min_eq_left (by omega : a ≤ (tl z).length), Nat.min_eq_left h]
theorem name_of {z : Str} (h1 : 1 ≤ (tl z).length) (h8 : (tl z).length ≤ 8) (h : ∀ c ∈ tl z, c ∈ LET.cps.toList) : isNameB z = true := by
  unfold isNameB
  have e : z.cps.size = (tl z).length := by simp [tl]
  rw [e, decide_eq_true ⟨h1, h8⟩, Bool.true_and, List.all_eq_true]
  exact fun c hc => decide_eq_true (h c hc)
theorem nodup_range_map {α : Type} (f : Nat → α) (m : Nat) (h : ∀ i j, i < m → j < m → f i = f j → i = j) : ((List.range m).map f).Nodup :=
  List.pairwise_map.mpr (List.Pairwise.imp_of_mem (fun {a b} ha hb q e => q (h a b (List.mem_range.mp ha) (List.mem_range.mp hb) e)) List.nodup_range)
/-! ### the two ways of names -/
def nm1 (b : Str) (x9 : Int) (k : Nat) : Str := cutS b none (some (1 + ((0 + (k : Int)) + x9) % 8))
def nm2 (b : Str) (xa : Int) (a s : Int) (k : Nat) : Str := cutS b none (some a) ++ (⟨#[letN (xa + (0 + (k : Int)))]⟩ : Str) ++ cutS b (some (a + 1)) (some s)
structure Base8 (b : Str) : Prop where
  len : (tl b).length = 8
  all : ∀ c ∈ tl b, c ∈ LET.cps.toList
theorem nm1_tl {b : Str} {x9 : Int} {k : Nat} (h9 : 0 ≤ x9) : tl (nm1 b x9 k) = (tl b).take (1 + (k + x9.toNat) % 8) := by
  unfold nm1
  have e : (1 + ((0 + (k : Int)) + x9) % 8) = ((1 + (k + x9.toNat) % 8 : Nat) : Int) := by omega
  rw [e, tl_to]
theorem nm1_name {b : Str} {x9 : Int} {k : Nat} (h : Base8 b) (h9 : 0 ≤ x9) : isNameB (nm1 b x9 k) = true := by
  refine name_of ?_ ?_ ?_
  · rw [nm1_tl h9, List.length_take, h.len]
    omega
  · rw [nm1_tl h9, List.length_take, h.len]
    omega
  · rw [nm1_tl h9]
    exact fun c hc => h.all c (List.mem_of_mem_take hc)
theorem nm1_inj {b : Str} {x9 : Int} {i j : Nat} (h : Base8 b) (h9 : 0 ≤ x9) (hi : i < 8) (hj : j < 8) (e : nm1 b x9 i = nm1 b x9 j) : i = j := by
  have e1 := congrArg (fun z => (tl z).length) e
  simp only [nm1_tl h9, List.length_take, h.len] at e1
  omega
theorem nm2_tl {b : Str} {xa : Int} {a s k : Nat} (h : Base8 b) (has : a < s) (hs : s ≤ 8) : tl (nm2 b xa a s k) = (tl b).take a ++ (letN (xa + (0 + (k : Int))) :: ((tl b).drop (a + 1)).take (s - (a + 1))) := by
  unfold nm2
  have e : ((a : Int) + 1) = ((a + 1 : Nat) : Int) := by omega
  rw [tl_add, tl_add, tl_to, e, tl_mid b (a + 1) s (by rw [h.len]; exact hs) has, List.append_assoc]
  rfl
theorem nm2_name {b : Str} {xa : Int} {a s k : Nat} (h : Base8 b) (has : a < s) (hs : s ≤ 8) : isNameB (nm2 b xa a s k) = true := by
  have hl : (tl (nm2 b xa a s k)).length = s := by
    rw [nm2_tl h has hs, List.length_append, List.length_take, List.length_cons, List.length_take, List.length_drop, h.len]
    omega
  refine name_of (by omega) (by omega) fun c hc => ?_
  rw [nm2_tl h has hs] at hc
  rcases List.mem_append.mp hc with hc | hc
  · exact h.all c (List.mem_of_mem_take hc)
  · rcases List.mem_cons.mp hc with rfl | hc
    · exact let_mem _
    · exact h.all c (List.mem_of_mem_drop (List.mem_of_mem_take hc))
theorem nm2_inj {b : Str} {xa : Int} {a s i j : Nat} (h : Base8 b) (has : a < s) (hs : s ≤ 8) (hi : i < 26) (hj : j < 26) (e : nm2 b xa a s i = nm2 b xa a s j) : i = j := by
  have e1 := congrArg tl e
  rw [nm2_tl h has hs, nm2_tl h has hs] at e1
  have e2 := (List.append_inj e1 rfl).2
  injection e2 with e3 _
  unfold letN at e3
  omega
theorem and_split {c : Bool} {A Qf : Prop} (h1 : c = true → Qf → A) (h2 : Qf) : if c = true then A else Qf := by
  cases c with
  | true => exact iteT (h1 rfl h2)
  | false => exact iteF h2
section
variable {P : Program} {w : World} {K : PySem.W.Frag} {mg : Str → Option Value} {base : Heap}
/-! ### _law_names -/
def spNames (T : Tb) : Sp := fun vs H Q _ => ∃ (c : Int) (m : Nat), vs = [.int c, .int m] ∧ m ≤ 12 ∧ ∀ p H' (zs : List Str), Lv T H H' → H' p = some (.lst (zs.map V.str)) → zs.length = m → (∀ z ∈ zs, isNameB z = true) → zs.Nodup → Q (.ref p) H'
abbrev NNames : List Str := ["_law_cell_here", "_law_many", "_law_xs", "_law_base", "_law_k", "_law_size", "_law_at_here", "_law_names_here", "_law_sign"]
theorem scNames : FnScope NNames ["_law_cell_here", "_law_many"] (defScope sNames) := ⟨rfl, rfl, rfl, by decide +kernel, rfl, by decide +kernel, by decide +kernel⟩
theorem int_at {xs : List Int} {i : Nat} (h : i < xs.length) : ∃ z, (xs.map V.int)[i]? = some (V.int z) ∧ z ∈ xs := ⟨xs[i], by rw [List.getElem?_map, List.getElem?_eq_getElem h]; rfl, List.getElem_mem h⟩
theorem ok_names (T : Tb) (D : DefAt K mg "_law_names" sNames) (GS : Cl P w K mg base CX0 1 "_law_stream" (spStream T)) (GL : Cl P w K mg base CX0 1 "_law_letter" spLetter) (B : Bt mg) : Cl P w K mg base CX0 2 "_law_names" (spNames T) := by
  have nd := scNames.nd
  refine cl0 D scNames (fun _ _ _ _ _ _ us hl => match us, hl with | [_, _], _ => rfl) (fun vs H Q E h => ?_) fun f cdv A outer s H vs Q E hr h => ?_
  · obtain ⟨c, m, rfl, _⟩ := h
    rfl
  obtain ⟨c, m, rfl, hm, q⟩ := h
  refine ⟨_, pss_cons (ps_set (i := 2) nd rfl (.inr rfl) (pe_cl GS hr (pa_cons (pv 0) (pa_cons pe_int pa_nil))))
    (pss_cons (ps_set (i := 3) nd rfl (.inr rfl) pe_str)
    (pss_cons (ps_for PassesOwn.never rfl (pi_range1 rfl B.range (pa_cons pe_int pa_nil)) (pg_name (i := 4) nd rfl (.inl rfl))
      (pss_one (ps_set (i := 3) nd rfl (.inr rfl) (pe_op op_add_str (pv 3) (pe_cl GL hr (pa_cons (pe_ix ix_list (pv 2) (pv 4) (fun _ _ => rfl)) pa_nil))))))
    (pss_cons (ps_if (PW.pt (pw_and (pt_cmpR op_eq (pe_op op_mod (pe_ix ix_list (pv 2) pe_int (fun _ _ => rfl)) pe_int) pe_int (nomark _)) (pw_and1 (pt_cmpR op_le (pv 1) pe_int (nomark _)))))
      (pss_one (ps_ret (pe_lc (own := [("_law_k", 4)]) rfl nd (pi_range1 rfl B.range (pa_cons (pv 1) pa_nil)) (blk_of (N := NNames) (sc := defScope sNames) rfl (by decide +kernel)) (fun s H C cl fp => pg_name (i := 4) nd rfl (.inl rfl)) (fun s H C cl fp => pts_nil)
        (fun s H C cl fp => pe_slice sl_str (pv 3) po_none (po_some (pe_op op_add pe_int (pe_op op_mod (pe_op op_add (pv 4) (pe_ix (ix_listB (K0 := K) rfl) (pv 2) pe_int (fun _ _ => rfl))) pe_int))))))) pss_nil)
    (pss_cons (ps_set (i := 5) nd rfl (.inl rfl) (pe_op op_add pe_int (pe_op op_mod (pe_ix ix_list (pv 2) pe_int (fun _ _ => rfl)) pe_int)))
    (pss_cons (ps_set (i := 6) nd rfl (.inl rfl) (pe_op op_mod (pe_ix ix_list (pv 2) pe_int (fun _ _ => rfl)) (pv 5)))
    (pss_cons (ps_set (i := 7) nd rfl (.inl rfl) (pe_lst pa_nil))
    (pss_cons (ps_for PassesOwn.never rfl (pi_range1 rfl B.range (pa_cons (pv 1) pa_nil)) (pg_name (i := 4) nd rfl (.inl rfl))
      (pss_cons (ps_set (i := 8) nd rfl (.inl rfl) (pe_cl GL hr (pa_cons (pe_op op_add (pe_ix ix_list (pv 2) (pv 6) (fun _ _ => rfl)) (pv 4)) pa_nil)))
      (pss_one (ps_expr (pe_bm PySem.F.plainAttrs_list PySem.F.slot_list_append PySem.F.type_list_append mt_append (pv 7) (pa_cons (pe_op op_add_str (pe_op op_add_str (pe_slice sl_str (pv 3) po_none (po_some (pv 6))) (pv 8))
        (pe_slice sl_str (pv 3) (po_some (pe_op op_add (pv 6) pe_int)) (po_some (pv 5)))) pa_nil))))))
    (pss_one (ps_ret (pv 7)))))))))), ?_⟩
  refine ⟨_, rfl, c, 11, rfl, by decide, fun p H1 xs l1 e1 hxl hx => ?_⟩
  have hS1 : SqL K H1 p (xs.map V.int) := .inl (.inl e1)
  refine ⟨8, rfl, by decide, by decide, ?_⟩
  refine for_by 8 (fun i σ H' => ∃ (b : Str) (z : Option V), σ = [some (.int c), some (.int m), some (.ref p), some (.str b), z, none, none, none, none] ∧ (tl b).length = i ∧ (∀ c ∈ tl b, c ∈ LET.cps.toList) ∧ H' = H1)
    ⟨_, none, rfl, rfl, (fun c hc => by cases hc), rfl⟩ (fun i σ H' hi hP => hi) (fun σ H' hP => Nat.le_refl _) (fun i x σ H' H2 hi hP hy => ?_) fun σ H' hP => ?_
  · obtain ⟨b, z, rfl, hb1, hb2, rfl⟩ := hP
    obtain ⟨rfl, rfl⟩ := hy
    obtain ⟨zz, ez, _⟩ := int_at (xs := xs) (i := i) (by omega)
    refine ⟨_, rfl, _, rfl, _, rfl, p, _, _, V.int zz, rfl, rfl, hS1, ?_, zz, rfl, b, _, rfl, rfl, ?_, _, _, rfl, ?_, fun c' hc => ?_, rfl⟩
    · rw [show (0 + (i : Int)) = (i : Int) by omega]
      exact atI_nat ez
    · rw [len_tl, hb1, sizeLine_eq]
      show i + 1 ≤ _
      omega
    · rw [tl_add, List.length_append, hb1]
      rfl
    · rw [tl_add] at hc
      rcases List.mem_append.mp hc with hc | hc
      · exact hb2 c' hc
      · have e : c' = letN zz := by simpa [tl] using hc
        rw [e]
        exact let_mem _
  · obtain ⟨b, z, rfl, hb1, hb2, rfl⟩ := hP
    have B8 : Base8 b := ⟨hb1, hb2⟩
    have hbl : b.length = 8 := by rw [len_tl]; exact hb1
    obtain ⟨z8, ez8, _⟩ := int_at (xs := xs) (i := 8) (by omega)
    obtain ⟨z9, ez9, hz9⟩ := int_at (xs := xs) (i := 9) (by omega)
    obtain ⟨z10, ez10, hz10⟩ := int_at (xs := xs) (i := 10) (by omega)
    have h9 := (hx z9 hz9).1
    refine ⟨_, rfl, p, _, 8, V.int z8, rfl, rfl, hS1, atI_nat (j := 8) ez8, z8, _, rfl, rfl, (show (0 : Int) < 3 by decide), rfl, _, rfl, ?_⟩
    refine and_split (fun _ q2 => ?_) ?_
    · refine ⟨_, rfl, _, _, rfl, rfl, _, rfl, ?_⟩
      by_cases hm8 : (m : Int) ≤ 8
      · rw [decide_eq_true hm8]
        refine iteT ⟨_, rfl, (m : Int), rfl, by omega, by omega, fun L hL => ?_⟩
        have hpL := ne_none e1 hL
        refine lc_by m (fun i H' => H' L = some (.lst (((List.range i).map (nm1 b z9)).map V.str)) ∧ H' p = some (.lst (xs.map V.int)) ∧ Lv T H H') ⟨upd_same, by rw [upd_ne hpL]; exact e1, l1.add hL⟩
          (fun i H' hi hP => ?_) (fun H' hP => ?_) (fun i x H' H2 hi hP hy => ?_) fun H' hP => ?_
        · show i < ((m : Int)).toNat
          rw [Int.toNat_natCast]
          exact hi
        · show ((m : Int)).toNat ≤ m
          rw [Int.toNat_natCast]
          exact Nat.le_refl _
        · obtain ⟨k1, k2, k3⟩ := hP
          obtain ⟨rfl, rfl⟩ := hy
          refine ⟨rfl, yesT (iteT ⟨_, rfl, _, rfl, _, rfl, p, _, 9, V.int z9, rfl, rfl, .inl (.inl k2), atI_nat (j := 9) ez9, _, _, rfl, rfl, _, _, rfl, rfl, (show (0 : Int) < 8 by decide), _, _, rfl, rfl, _, rfl, b, rfl, ?_, _, k1, ?_, ?_, ?_, k3.putN (l1.nw (.of hL)) k1 True.intro⟩)⟩
          · rw [hbl, sizeLine_eq]
            decide
          · rw [List.length_map, List.length_map, List.length_range, sizeLine_eq]
            omega
          · rw [upd_same, List.range_succ, List.map_append, List.map_append]
            rfl
          · rw [upd_ne hpL]
            exact k2
        · obtain ⟨k1, k2, k3⟩ := hP
          refine q L H' _ k3 k1 (by rw [List.length_map, List.length_range]) (fun z hz => ?_) (nodup_range_map _ _ fun i j hi hj e => nm1_inj B8 h9 (by omega) (by omega) e)
          obtain ⟨k, _, rfl⟩ := List.mem_map.mp hz
          exact nm1_name B8 h9
      · rw [decide_eq_false hm8]
        exact q2
    · refine iteF ?_
      refine ⟨_, rfl, p, _, 9, V.int z9, rfl, rfl, hS1, atI_nat (j := 9) ez9, z9, _, rfl, rfl, (show (0 : Int) < 8 by decide), _, _, rfl, rfl, ?_⟩
      have hsz : 0 < 1 + z9 % 8 := by omega
      refine ⟨_, rfl, p, _, 10, V.int z10, rfl, rfl, hS1, atI_nat (j := 10) ez10, _, rfl, z10, _, rfl, rfl, hsz, ?_⟩
      refine ⟨by show 0 ≤ sizeLine; exact Nat.zero_le _, fun L hL => ?_⟩
      have hpL := ne_none e1 hL
      obtain ⟨s, es⟩ : ∃ s : Nat, 1 + z9 % 8 = (s : Int) := ⟨(1 + z9 % 8).toNat, (Int.toNat_of_nonneg (by omega)).symm⟩
      have ha1 := Int.emod_nonneg z10 (show (1 + z9 % 8) ≠ 0 by omega)
      have ha2 := Int.emod_lt_of_pos z10 hsz
      obtain ⟨a, ea⟩ : ∃ a : Nat, z10 % (1 + z9 % 8) = (a : Int) := ⟨(z10 % (1 + z9 % 8)).toNat, (Int.toNat_of_nonneg ha1).symm⟩
      obtain ⟨za, eza, _⟩ := int_at (xs := xs) (i := a) (by omega)
      have has : a < s := by omega
      have hs8 : s ≤ 8 := by omega
      have c1 : ∀ z : Str, (tl (cutS b none (some (z10 % (1 + z9 % 8))))).length ≤ 8 := fun _ => by
        rw [ea, tl_to, List.length_take, hb1]
        omega
      have c2 : (tl (cutS b (some (z10 % (1 + z9 % 8) + 1)) (some (1 + z9 % 8)))).length ≤ 8 := by
        rw [ea, es, show ((a : Int) + 1) = ((a + 1 : Nat) : Int) by omega, tl_mid b (a + 1) s (by omega) has, List.length_take, List.length_drop, hb1]
        omega
      refine ⟨_, rfl, (m : Int), rfl, by omega, by omega, ?_⟩
      refine for_by m (fun i σ H' => ∃ (z z2 : Option V), σ = [some (.int c), some (.int m), some (.ref p), some (.str b), z, some (.int (1 + z9 % 8)), some (.int (z10 % (1 + z9 % 8))), some (.ref L), z2] ∧
          H' L = some (.lst (((List.range i).map (nm2 b za (z10 % (1 + z9 % 8)) (1 + z9 % 8))).map V.str)) ∧ H' p = some (.lst (xs.map V.int)) ∧ Lv T H H')
        ⟨_, none, rfl, upd_same, by rw [upd_ne hpL]; exact e1, l1.add hL⟩ (fun i σ H' hi hP => ?_) (fun σ H' hP => ?_) (fun i x σ H' H2 hi hP hy => ?_) fun σ H' hP => ?_
      · show i < ((m : Int)).toNat
        rw [Int.toNat_natCast]
        exact hi
      · show ((m : Int)).toNat ≤ m
        rw [Int.toNat_natCast]
        exact Nat.le_refl _
      · obtain ⟨z, z2, rfl, k1, k2, k3⟩ := hP
        obtain ⟨rfl, rfl⟩ := hy
        refine ⟨_, rfl, _, rfl, p, _, _, V.int za, rfl, rfl, .inl (.inl k2), by rw [ea]; exact atI_nat eza, _, rfl, za, _, rfl, rfl, _, rfl, ?_⟩
        refine ⟨_, rfl, .inl ⟨rfl, _, .inl (.inl k1)⟩, _, rfl, _, rfl, _, rfl, b, rfl, by rw [hbl, sizeLine_eq]; decide, _, rfl, _, _, rfl, rfl, ?_, _, rfl, _, rfl, _, _, rfl, rfl, _, rfl, _, rfl, _, rfl, b, rfl, by rw [hbl, sizeLine_eq]; decide, _, _, rfl, rfl, ?_, L, _, _, rfl, rfl, k1, ?_, _, _, rfl, ?_, ?_, k3.putN (l1.nw (.of hL)) k1 True.intro⟩
        · rw [len_tl, sizeLine_eq]
          have := c1 b
          show _ + 1 ≤ _
          omega
        · rw [len_tl, tl_add, List.length_append, len_tl, sizeLine_eq]
          have := c1 b
          have := c2
          show _ + 1 + _ ≤ _
          omega
        · rw [List.length_map, List.length_map, List.length_range, sizeLine_eq]
          omega
        · rw [upd_same, List.range_succ, List.map_append, List.map_append]
          rfl
        · rw [upd_ne hpL]
          exact k2
      · obtain ⟨z, z2, rfl, k1, k2, k3⟩ := hP
        rw [ea, es] at k1
        refine ⟨_, rfl, q L H' _ k3 k1 (by rw [List.length_map, List.length_range]) (fun z hz => ?_) (nodup_range_map _ _ fun i j hi hj e => nm2_inj B8 has hs8 (by omega) (by omega) e)⟩
        obtain ⟨k, _, rfl⟩ := List.mem_map.mp hz
        exact nm2_name B8 has hs8
end
end HM
set_option Elab.async false
set_option linter.all false
set_option maxRecDepth 100000
set_option maxHeartbeats 4000000
namespace HM
open PySem PySem.Spec PyProof.Rows L2
def Pl.sOk : Pl → Bool
  | .str _ z => PyData.strOk z
  | _ => true
theorem sh_one {w : Str} (h : PyData.strOk w = true) : SeqAt.shaped (Kd.pl (.one w)).d = true := by
  simp [SeqAt.shaped, Kd.d, Pl.d, PyData.canLay0, PyData.canLayAll0, PyData.depth, PyData.depthAll, h]
theorem lay_pl {p : Pl} (h : p.ok = true) (s : p.sOk = true) : PyData.canLay0 p.d = true := by
  rcases p with w | ⟨w, i⟩ | ⟨w, z⟩
  · have h' : (decide (w = "whole") || decide (w = "word")) = true := h
    rw [Bool.or_eq_true] at h'
    rcases h' with h' | h' <;> rw [of_decide_eq_true h'] <;> decide +kernel
  · have h' : ((decide (w = "below") && decide (1 ≤ i)) || decide (w = "upto")) = true := h
    rw [Bool.or_eq_true, Bool.and_eq_true] at h'
    have e : PyData.strOk w = true := by
      rcases h' with h' | h'
      · rw [of_decide_eq_true h'.1]
        decide +kernel
      · rw [of_decide_eq_true h']
        decide +kernel
    simp [Pl.d, PyData.canLay0, PyData.canLayAll0, e]
  · have h' : (decide (w = "without") && decide (z.cps.size = 1)) = true := h
    rw [Bool.and_eq_true] at h'
    have e : PyData.strOk w = true := by
      rw [of_decide_eq_true h'.1]
      decide +kernel
    have e2 : PyData.strOk z = true := s
    simp [Pl.d, PyData.canLay0, PyData.canLayAll0, e, e2]
theorem sh_pl {p : Pl} (h : p.ok = true) (s : p.sOk = true) : SeqAt.shaped (Kd.pl p).d = true := by
  have e := lay_pl h s
  have d : PyData.depth (Kd.pl p).d ≤ 64 := by rcases p with w | ⟨w, i⟩ | ⟨w, z⟩ <;> simp [Kd.d, Pl.d, PyData.depth, PyData.depthAll]
  unfold SeqAt.shaped
  rw [show PyData.canLay0 (Kd.pl p).d = true from e, decide_eq_true d]
  rfl
theorem sh_nest {w : Str} {p : Pl} (hw : PyData.strOk w = true) (h : p.ok = true) (s : p.sOk = true) : SeqAt.shaped (Kd.nest w p).d = true := by
  have e := lay_pl h s
  have d : PyData.depth (Kd.nest w p).d ≤ 64 := by rcases p with w | ⟨w, i⟩ | ⟨w, z⟩ <;> simp [Kd.d, Pl.d, PyData.depth, PyData.depthAll]
  have e2 : PyData.canLay0 (Kd.nest w p).d = true := by simp [Kd.d, PyData.canLay0, PyData.canLayAll0, hw, e]
  unfold SeqAt.shaped
  rw [e2, decide_eq_true d]
  rfl
theorem one_line : 1 ≤ sizeLine := by
  rw [sizeLine_eq]
  decide
theorem two_line : 2 ≤ sizeLine := by
  rw [sizeLine_eq]
  decide
section
variable {P : Program} {w : World} {K : PySem.W.Frag} {mg : Str → Option Value} {base : Heap}
/-! ### _law_plain -/
structure PlOk (p : Pl) : Prop where
  ok : p.ok = true
  ln : (Kd.pl p).len ≤ sizeLine
  st : p.sOk = true
theorem PlOk.dom {p : Pl} (h : PlOk p) : (Kd.pl p).Dom := ⟨sh_pl h.ok h.st, h.ln, .inr (.inl ⟨p, rfl, h.ok⟩)⟩
def spLPlain (T : Tb) (K : PySem.W.Frag) : Sp := fun vs H Q _ => ∃ (a n : Int), vs = [.int a, .int n] ∧ ∀ v H' (p : Pl), Lv T H H' → Dp K H' v p.d → PlOk p → Q v H'
theorem scPlain : FnScope ["_law_way", "_law_number"] ["_law_way", "_law_number"] (defScope sPlain) := ⟨rfl, rfl, rfl, by decide +kernel, rfl, by decide +kernel, by decide +kernel⟩
theorem sign_get : ∀ i : Fin 8, ∃ c, (" -,:;.!#" : Str).cps.toList[i.1]? = some c ∧ c < 0x110000 := by
  intro i
  have h : i.1 < (" -,:;.!#" : Str).cps.toList.length := by
    have e : (" -,:;.!#" : Str).cps.toList.length = 8 := by decide +kernel
    rw [e]
    exact i.2
  have a : ∀ c ∈ (" -,:;.!#" : Str).cps.toList, c < 0x110000 := by decide +kernel
  exact ⟨_, List.getElem?_eq_getElem h, a _ (List.getElem_mem h)⟩
theorem ok_lplain (T : Tb) (D : DefAt K mg "_law_plain" sPlain) : Cl P w K mg base CX0 1 "_law_plain" (spLPlain T K) := by
  refine cl0 D scPlain (fun _ _ _ _ _ _ us hl => match us, hl with | [_, _], _ => rfl) (fun vs H Q E h => ?_) fun f cdv A outer s H vs Q E hr h => ?_
  · obtain ⟨a, n, rfl, _⟩ := h
    rfl
  obtain ⟨a, n, rfl, q⟩ := h
  refine ⟨_, pss_cons (ps_if (pt_cmpR op_eq (pv 0) pe_int (nomark _)) (pss_one (ps_ret (pe_tup (pa_cons pe_str pa_nil)))) pss_nil)
    (pss_cons (ps_if (pt_cmpR op_eq (pv 0) pe_int (nomark _)) (pss_one (ps_ret (pe_tup (pa_cons pe_str (pa_cons (pe_op op_add pe_int (pe_op op_mod (pv 1) (pe_op op_pow pe_int pe_int))) pa_nil))))) pss_nil)
    (pss_cons (ps_if (pt_cmpR op_eq (pv 0) pe_int (nomark _)) (pss_one (ps_ret (pe_tup (pa_cons pe_str (pa_cons (pe_op op_sub (pe_op op_mod (pv 1) pe_int) pe_int) pa_nil))))) pss_nil)
    (pss_cons (ps_if (pt_cmpR op_eq (pv 0) pe_int (nomark _)) (pss_one (ps_ret (pe_tup (pa_cons pe_str pa_nil)))) pss_nil)
    (pss_one (ps_ret (pe_tup (pa_cons pe_str (pa_cons (pe_ix ix_str pe_str (pe_op op_mod (pv 1) pe_int) (fun _ _ => rfl)) pa_nil)))))))), ?_⟩
  refine ⟨_, rfl, rfl, _, rfl, ?_⟩
  rw [dI]
  by_cases h0 : a = 0
  · rw [decide_eq_true h0]
    exact iteT ⟨one_line, fun p hp => q _ _ (.one "whole") (Lv.new hp) (.tup (.inl (.inl upd_same)) (.cons (.str _) .nil)) ⟨by decide +kernel, Nat.zero_le _, rfl⟩⟩
  rw [decide_eq_false h0]
  refine iteF ⟨_, rfl, rfl, _, rfl, ?_⟩
  rw [dI]
  by_cases h1 : a = 1
  · rw [decide_eq_true h1]
    refine iteT ⟨_, rfl, _, _, rfl, rfl, ⟨by decide, by decide, by decide⟩, _, _, rfl, rfl, (show (0 : Int) < 10 ^ 6 by decide), _, _, rfl, rfl, two_line, fun p hp => ?_⟩
    refine q _ _ (.int "below" (1 + n % 10 ^ 6)) (Lv.new hp) (.tup (.inl (.inl upd_same)) (.cons (.str _) (.cons (.int _) .nil))) ⟨?_, Nat.zero_le _, rfl⟩
    show ((decide (("below" : Str) = "below") && decide (1 ≤ 1 + n % 10 ^ 6)) || decide (("below" : Str) = "upto")) = true
    have := Int.emod_nonneg n (show (10 ^ 6 : Int) ≠ 0 by decide)
    rw [decide_eq_true (rfl : ("below" : Str) = "below"), decide_eq_true (show 1 ≤ 1 + n % 10 ^ 6 by omega)]
    rfl
  rw [decide_eq_false h1]
  refine iteF ⟨_, rfl, rfl, _, rfl, ?_⟩
  rw [dI]
  by_cases h2 : a = 2
  · rw [decide_eq_true h2]
    refine iteT ⟨_, rfl, _, _, rfl, rfl, (show (0 : Int) < 2001 by decide), _, _, rfl, rfl, two_line, fun p hp => ?_⟩
    refine q _ _ (.int "upto" (n % 2001 - 1000)) (Lv.new hp) (.tup (.inl (.inl upd_same)) (.cons (.str _) (.cons (.int _) .nil))) ⟨?_, Nat.zero_le _, rfl⟩
    show ((decide (("upto" : Str) = "below") && decide (1 ≤ n % 2001 - 1000)) || decide (("upto" : Str) = "upto")) = true
    rw [decide_eq_true (rfl : ("upto" : Str) = "upto"), Bool.or_true]
  rw [decide_eq_false h2]
  refine iteF ⟨_, rfl, rfl, _, rfl, ?_⟩
  rw [dI]
  by_cases h3 : a = 3
  · rw [decide_eq_true h3]
    exact iteT ⟨one_line, fun p hp => q _ _ (.one "word") (Lv.new hp) (.tup (.inl (.inl upd_same)) (.cons (.str _) .nil)) ⟨by decide +kernel, Nat.zero_le _, rfl⟩⟩
  rw [decide_eq_false h3]
  have hm1 := Int.emod_nonneg n (show (8 : Int) ≠ 0 by decide)
  have hm2 := Int.emod_lt_of_pos n (show (0 : Int) < 8 by decide)
  obtain ⟨c, hc, hc2⟩ := sign_get ⟨(n % 8).toNat, by omega⟩
  have hst : (Pl.str "without" ⟨#[c]⟩).sOk = true := by
    show (#[c] : Array Nat).all (· < 0x110000) = true
    simp [hc2]
  have e8 : n % 8 = ((n % 8).toNat : Int) := (Int.toNat_of_nonneg hm1).symm
  refine iteF ⟨_, rfl, _, _, rfl, rfl, (show (0 : Int) < 8 by decide), _, _, c, rfl, rfl, ?_, by rw [e8]; exact atI_nat hc, two_line, fun p hp => ?_⟩
  · have e : (" -,:;.!#" : Str).length = 8 := by decide +kernel
    rw [e, sizeLine_eq]
    decide
  · refine q _ _ (.str "without" ⟨#[c]⟩) (Lv.new hp) (.tup (.inl (.inl upd_same)) (.cons (.str _) (.cons (.str _) .nil))) ⟨?_, one_line, hst⟩
    show (decide (("without" : Str) = "without") && decide ((⟨#[c]⟩ : Str).cps.size = 1)) = true
    rw [decide_eq_true (rfl : ("without" : Str) = "without")]
    rfl
/-! ### _law_kind -/
def spLKind (T : Tb) (K : PySem.W.Frag) : Sp := fun vs H Q _ => ∃ (n : Int), vs = [.int n] ∧ ∀ v H' (k : Kd), Lv T H H' → Dp K H' v k.d → k.ok = true → k.Dom → Q v H'
theorem scKind : FnScope ["_law_number", "_law_way", "_law_inner"] ["_law_number"] (defScope sKind) := ⟨rfl, rfl, rfl, by decide +kernel, rfl, by decide +kernel, by decide +kernel⟩
theorem PlOk.kok {p : Pl} (h : PlOk p) : (Kd.pl p).ok = true := by
  rcases p with w | ⟨w, i⟩ | ⟨w, z⟩
  · show ((Pl.one w).ok || _) = true
    rw [h.ok]
    rfl
  · exact h.ok
  · exact h.ok
theorem ok_lkind (T : Tb) (D : DefAt K mg "_law_kind" sKind) (GP : Cl P w K mg base CX0 1 "_law_plain" (spLPlain T K)) : Cl P w K mg base CX0 2 "_law_kind" (spLKind T K) := by
  have nd := scKind.nd
  refine cl0 D scKind (fun _ _ _ _ _ _ us hl => match us, hl with | [_], _ => rfl) (fun vs H Q E h => ?_) fun f cdv A outer s H vs Q E hr h => ?_
  · obtain ⟨n, rfl, _⟩ := h
    rfl
  obtain ⟨n, rfl, q⟩ := h
  refine ⟨_, pss_cons (ps_set (i := 1) nd rfl (.inl rfl) (pe_op op_mod (pv 0) pe_int))
    (pss_cons (ps_set (i := 2) nd rfl (.inl rfl) (pe_op op_mod (pe_op op_fdiv (pv 0) pe_int) pe_int))
    (pss_cons (ps_if (pt_cmpR op_lt (pv 1) pe_int (nomark _)) (pss_one (ps_ret (pe_cl GP hr (pa_cons (pv 1) (pa_cons (pe_op op_fdiv (pv 0) pe_int) pa_nil))))) pss_nil)
    (pss_cons (ps_if (pt_cmpR op_eq (pv 1) pe_int (nomark _)) (pss_one (ps_ret (pe_tup (pa_cons pe_str pa_nil)))) pss_nil)
    (pss_one (ps_ret (pe_tup (pa_cons (pe_ix ix_list (pe_lst (pa_cons pe_str (pa_cons pe_str (pa_cons pe_str pa_nil)))) (pe_op op_sub (pv 1) pe_int) (fun _ _ => rfl)) (pa_cons (pe_cl GP hr (pa_cons (pv 2) (pa_cons (pe_op op_fdiv (pv 0) pe_int) pa_nil))) pa_nil)))))))), ?_⟩
  have hm1 := Int.emod_nonneg n (show (9 : Int) ≠ 0 by decide)
  have hm2 := Int.emod_lt_of_pos n (show (0 : Int) < 9 by decide)
  have c9 : CDiv n 9 := ⟨by decide, by decide⟩
  have c45 : CDiv n 45 := ⟨by decide, by decide⟩
  refine ⟨_, rfl, _, _, rfl, rfl, (show (0 : Int) < 9 by decide), _, rfl, _, _, rfl, rfl, c9, _, _, rfl, rfl, (show (0 : Int) < 5 by decide), ?_⟩
  refine ⟨_, rfl, _, _, rfl, rfl, _, rfl, ?_⟩
  by_cases h5 : n % 9 < 5
  · rw [decide_eq_true h5]
    exact iteT ⟨_, rfl, _, rfl, _, _, rfl, rfl, c45, _, _, rfl, fun v H' p l hd hp => q v H' (.pl p) l hd hp.kok hp.dom⟩
  rw [decide_eq_false h5]
  refine iteF ⟨_, rfl, rfl, _, rfl, ?_⟩
  rw [dI]
  by_cases h6 : n % 9 = 5
  · rw [decide_eq_true h6]
    exact iteT ⟨one_line, fun p hp => q _ _ (.pl (.one "key")) (Lv.new hp) (.tup (.inl (.inl upd_same)) (.cons (.str _) .nil)) (by decide +kernel) ⟨sh_one (by decide +kernel), Nat.zero_le _, .inl ⟨_, rfl⟩⟩⟩
  rw [decide_eq_false h6]
  refine iteF ⟨by show 3 ≤ sizeLine; rw [sizeLine_eq]; decide, fun l hl => ?_⟩
  obtain ⟨j, hj, ej⟩ : ∃ j : Nat, j < 3 ∧ n % 9 - 6 = (j : Int) := ⟨(n % 9 - 6).toNat, by omega, by omega⟩
  have hw : ∃ wd : Str, ([V.str "list", V.str "some", V.str "once"] : List V)[j]? = some (.str wd) ∧ (decide (wd = "list") || decide (wd = "some") || decide (wd = "once")) = true ∧ PyData.strOk wd = true := by
    match j, hj with
    | 0, _ => exact ⟨_, rfl, by decide +kernel, by decide +kernel⟩
    | 1, _ => exact ⟨_, rfl, by decide +kernel, by decide +kernel⟩
    | 2, _ => exact ⟨_, rfl, by decide +kernel, by decide +kernel⟩
  obtain ⟨wd, hwd, hok, hws⟩ := hw
  refine ⟨_, rfl, _, _, rfl, rfl, l, _, _, .str wd, rfl, rfl, .inl (.inl upd_same), by rw [ej]; exact atI_nat hwd, _, rfl, _, rfl, _, _, rfl, rfl, c45, _, _, rfl, fun v H' p l' hd hp => ⟨two_line, fun t ht => ?_⟩⟩
  refine q _ _ (.nest wd p) (((Lv.new hl).trans l').add ht) (.tup (.inl (.inl upd_same)) (.cons (.str _) (.cons ((Lv.new (T := T) ht).dp hd) .nil))) ?_ ⟨sh_nest hws hp.ok hp.st, ?_, .inr (.inr ⟨_, _, rfl⟩)⟩
  · show ((decide (wd = "list") || decide (wd = "some") || decide (wd = "once")) && p.ok) = true
    rw [hok, hp.ok]
    rfl
  · have := hp.ln
    rcases p with w | ⟨w, i⟩ | ⟨w, z⟩ <;> exact this
/-! ### _law_columns -/
def spLCols (T : Tb) (K : PySem.W.Frag) : Sp := fun vs H Q _ => ∃ (n : Int), vs = [.int n, .int 12] ∧ ∀ d H' (cs : Cols), Lv T H H' → Nw H d → ColsAt K H' d cs → ColsOk cs → Q (.ref d) H'
abbrev NCols : List Str := ["_law_cell_here", "_law_most", "_law_xs", "_law_many", "_law_columns_here", "_law_k", "_law_name"]
theorem scCols : FnScope NCols ["_law_cell_here", "_law_most"] (defScope sColumns) := ⟨rfl, rfl, rfl, by decide +kernel, rfl, by decide +kernel, by decide +kernel⟩
theorem ok_lcols (T : Tb) (D : DefAt K mg "_law_columns" sColumns) (GS : Cl P w K mg base CX0 1 "_law_stream" (spStream T)) (GN : Cl P w K mg base CX0 2 "_law_names" (spNames T)) (GK : Cl P w K mg base CX0 2 "_law_kind" (spLKind T K)) (B : Bt mg) :
    Cl P w K mg base CX0 3 "_law_columns" (spLCols T K) := by
  have nd := scCols.nd
  refine cl0 D scCols (fun _ _ _ _ _ _ us hl => match us, hl with | [_, _], _ => rfl) (fun vs H Q E h => ?_) fun f cdv A outer s H vs Q E hr h => ?_
  · obtain ⟨n, rfl, _⟩ := h
    rfl
  obtain ⟨n, rfl, q⟩ := h
  refine ⟨_, pss_cons (ps_set (i := 2) nd rfl (.inl rfl) (pe_cl GS hr (pa_cons (pv 0) (pa_cons pe_int pa_nil))))
    (pss_cons (ps_set (i := 3) nd rfl (.inl rfl) (pe_op op_mod (pe_ix ix_list (pv 2) pe_int (fun _ _ => rfl)) pe_int))
    (C8.pss_cut (ps_if (pt_cmpR op_eq (pe_op op_mod (pe_op op_fdiv (pe_ix ix_list (pv 2) pe_int (fun _ _ => rfl)) pe_int) pe_int) pe_int (nomark _)) (pss_one (ps_set (i := 3) nd rfl (.inl rfl) (pv 1))) pss_nil)
    (pss_cons (ps_set (i := 4) nd rfl (.inl rfl) pe_dnewK)
    (pss_cons (ps_for PassesOwn.never rfl (pi_enum rfl B.enum (pa_cons (pe_cl GN hr (pa_cons (pe_ix ix_list (pv 2) pe_int (fun _ _ => rfl)) (pa_cons (pv 3) pa_nil))) pa_nil)) (pg_tup rfl (pgs_cons (pg_name (i := 5) nd rfl (.inl rfl)) (pgs_cons (pg_name (i := 6) nd rfl (.inl rfl)) pgs_nil)))
      (pss_one (ps_dput (hu1 hr) (pv 4) (pv 6) (pe_cl GK hr (pa_cons (pe_ix ix_list (pv 2) (pe_op op_add pe_int (pv 5)) (fun _ _ => rfl)) pa_nil)) rfl)))
    (pss_one (ps_ret (pv 4))))))), ?_⟩
  refine ⟨_, rfl, n, 14, rfl, by decide, fun p H1 xs l1 e1 hxl hx => ?_⟩
  have hS1 : SqL K H1 p (xs.map V.int) := .inl (.inl e1)
  obtain ⟨z0, ez0, _⟩ := int_at (xs := xs) (i := 0) (by omega)
  obtain ⟨z1, ez1, _⟩ := int_at (xs := xs) (i := 1) (by omega)
  have hz1 := Int.emod_nonneg z0 (show (4 : Int) ≠ 0 by decide)
  have hz2 := Int.emod_lt_of_pos z0 (show (0 : Int) < 4 by decide)
  refine ⟨_, rfl, p, _, 0, V.int z0, rfl, rfl, hS1, atI_nat (j := 0) ez0, z0, _, rfl, rfl, (show (0 : Int) < 4 by decide), ?_⟩
  refine ⟨fun σ' H' => H' = H1 ∧ ∃ m : Nat, m ≤ 12 ∧ σ' = [some (.int n), some (.int 12), some (.ref p), some (.int m), none, none, none], ?_, ?_⟩
  · refine ⟨_, rfl, p, _, 0, V.int z0, rfl, rfl, hS1, atI_nat (j := 0) ez0, z0, _, rfl, rfl, ⟨by decide, by decide⟩, _, _, rfl, rfl, (show (0 : Int) < 8 by decide), rfl, _, rfl, ?_⟩
    rw [dI]
    by_cases h : z0 / 4 % 8 = 1
    · rw [decide_eq_true h]
      exact iteT ⟨_, rfl, rfl, 12, Nat.le_refl _, rfl⟩
    · rw [decide_eq_false h]
      refine iteF ⟨rfl, (z0 % 4).toNat, by omega, ?_⟩
      have e : (((z0 % 4).toNat : Nat) : Int) = z0 % 4 := Int.toNat_of_nonneg hz1
      rw [e]
      rfl
  · rintro σ' H' ⟨rfl, m, hm, rfl⟩
    intro d hd
    have hpd := ne_none e1 hd
    have e2 : (upd H' d (.dK [])) p = some (.lst (xs.map V.int)) := by rw [upd_ne hpd]; exact e1
    have ed : (upd H' d (.dK [])) d = some (.dK []) := upd_same
    have l2 : Lv T H (upd H' d (.dK [])) := l1.add hd
    generalize upd H' d (.dK []) = H2 at e2 ed l2
    refine ⟨_, rfl, p, _, 1, V.int z1, rfl, rfl, .inl (.inl e2), atI_nat (j := 1) ez1, _, rfl, z1, m, rfl, hm, fun np H3 zs l3 e3 hzl hzn hznd => ?_⟩
    refine ⟨np, _, rfl, .inl (.inl e3), ?_⟩
    have nwd : Nw H d := l1.nw (.of hd)
    refine for_by m (fun i σ H' => ∃ (y z : Option V) (kvs : List (Key × V)) (cs : Cols), σ = [some (.int n), some (.int 12), some (.ref p), some (.int m), some (.ref d), y, z] ∧ H' d = some (.dK kvs) ∧ H' p = some (.lst (xs.map V.int)) ∧ H' np = some (.lst (zs.map V.str)) ∧
        Paired (fun kv c => kv.1 = Sum.inr c.1 ∧ Dp K H' kv.2 c.2.d) kvs cs ∧ cs.map (·.1) = zs.take i ∧ (∀ c ∈ cs, isNameB c.1 = true ∧ c.2.ok = true ∧ c.2.Dom) ∧ Lv T H H')
      ⟨none, none, [], [], rfl, l3.at ed, l3.at e2, e3, .nil, rfl, (fun c hc => by cases hc), l2.trans l3⟩ (fun i σ H' hi hP => ?_) (fun σ H' hP => ?_) (fun i x σ H' H4 hi hP hy => ?_) fun σ H' hP => ?_
    · obtain ⟨y, z, kvs, cs, rfl, k1, k2, k3, k4, k5, k6, k7⟩ := hP
      exact ⟨_, _, .inl (.inl k3), List.getElem?_eq_getElem (by rw [List.length_map, hzl]; exact hi)⟩
    · obtain ⟨y, z, kvs, cs, rfl, k1, k2, k3, k4, k5, k6, k7⟩ := hP
      exact ⟨_, .inl (.inl k3), by rw [List.length_map, hzl]; exact Nat.le_refl _⟩
    · obtain ⟨y, z, kvs, cs, rfl, k1, k2, k3, k4, k5, k6, k7⟩ := hP
      obtain ⟨t, v, rfl, ht, rfl, hv⟩ := hy
      have hv2 := hv _ (.inl (.inl k3))
      have hzi : zs[i]? = some (zs[i]'(by omega)) := List.getElem?_eq_getElem (by omega)
      generalize zs[i]'(by omega) = nm at hzi
      rw [List.getElem?_map, hzi] at hv2
      obtain rfl : V.str nm = v := Option.some.inj hv2
      obtain ⟨zk, ezk, _⟩ := int_at (xs := xs) (i := 2 + i) (by omega)
      have k2' : (upd H' t (.tup [.int (i : Nat), .str nm])) p = some (.lst (xs.map V.int)) := by rw [upd_ne (ne_none k2 ht)]; exact k2
      refine ⟨t, _, rfl, .inl (.inl upd_same), rfl, _, _, rfl, _, _, rfl, rfl, ?_⟩
      refine ⟨_, rfl, _, rfl, _, _, rfl, rfl, p, _, _, V.int zk, rfl, rfl, .inl (.inl k2'), ?_, zk, rfl, fun kv H5 kd l5 hkd hok hdom => ?_⟩
      · have e : (2 + (i : Int)) = ((2 + i : Nat) : Int) := by omega
        rw [e]
        exact atI_nat ezk
      have l45 : Lv T H' H5 := (Lv.new ht).trans l5
      have k1' := l45.at k1
      have hnin : nm ∉ zs.take i := fun hm' => by
        obtain ⟨j, hj, ej⟩ := List.mem_iff_getElem.mp hm'
        have hjl : j < i := by
          rw [List.length_take] at hj
          omega
        have e6 : zs[j]? = some nm := by
          rw [List.getElem_take] at ej
          rw [List.getElem?_eq_getElem (by omega), ej]
        have := nd_ix hznd e6 hzi
        omega
      have eput : putK kvs (Sum.inr nm) kv = kvs ++ [(Sum.inr nm, kv)] := by
        unfold putK
        rw [if_neg]
        rw [List.any_eq_true]
        rintro ⟨q0, hq0, e0⟩
        have e0' := of_decide_eq_true e0
        have e1' := cols_keys k4
        have : (Sum.inr nm : Key) ∈ kvs.map (·.1) := e0' ▸ List.mem_map_of_mem hq0
        rw [e1', k5] at this
        obtain ⟨q1, hq1, e2'⟩ := List.mem_map.mp this
        exact hnin (Sum.inr.inj e2' ▸ hq1)
      refine ⟨_, rfl, _, rfl, d, _, rfl, DPut.k (k := Sum.inr nm) k1' ?_, ?_⟩
      · have := Paired.len k4
        have h2 := congrArg List.length k5
        rw [List.length_map, List.length_take] at h2
        rw [sizeLine_eq]
        omega
      rw [eput]
      have kq : Kt H5 (upd H5 d (.dK (kvs ++ [(Sum.inr nm, kv)]))) := Kt.upd k1' (fun z => z)
      have hdnp : np ≠ d := ne_at (l45.at k3) k1' (fun z => by cases z)
      have hdp : p ≠ d := ne_at (l45.at k2) k1' (fun z => by cases z)
      refine ⟨_, _, kvs ++ [(Sum.inr nm, kv)], cs ++ [(nm, kd)], rfl, upd_same, by rw [upd_ne hdp]; exact l45.at k2, by rw [upd_ne hdnp]; exact l45.at k3, ?_, ?_, fun c hc => ?_, (k7.trans l45).putN nwd k1' True.intro⟩
      · exact Paired.append' (Paired.imp (fun a b z => ⟨z.1, kq.kd (l45.dp z.2)⟩) k4) (.cons ⟨rfl, kq.kd hkd⟩ .nil)
      · rw [List.map_append, k5, List.take_add_one, hzi]
        rfl
      · rcases List.mem_append.mp hc with hc | hc
        · exact k6 c hc
        · rw [List.mem_singleton.mp hc]
          exact ⟨hzn nm (List.mem_of_getElem? hzi), hok, hdom⟩
    · obtain ⟨y, z, kvs, cs, rfl, k1, k2, k3, k4, k5, k6, k7⟩ := hP
      rw [List.take_of_length_le (by omega)] at k5
      refine ⟨_, rfl, q d H' cs k7 nwd ⟨kvs, k1, k4⟩ ⟨k6, by rw [k5]; exact hznd, ?_⟩⟩
      have := congrArg List.length k5
      rw [List.length_map] at this
      omega
end
end HM
set_option Elab.async false
set_option linter.all false
set_option maxRecDepth 100000
set_option maxHeartbeats 4000000
namespace HM
open PySem PySem.Spec PyProof.Rows L2
/-! ### _law_same: of equal data -/
mutual
def leafy : PyData → Bool
  | .int _ => true
  | .str _ => true
  | .tuple ds => leafyAll ds
  | _ => false
def leafyAll : List PyData → Bool
  | [] => true
  | d :: r => leafy d && leafyAll r
end
theorem leafy_get : ∀ {ds : List PyData} {i : Nat} {d : PyData}, leafyAll ds = true → ds[i]? = some d → leafy d = true
  | [], _, _, _, e => by simp at e
  | d :: r, 0, _, h, e => by
    have e' := Option.some.inj e
    subst e'
    exact (Bool.and_eq_true_iff.mp h).1
  | d :: r, i + 1, _, h, e => leafy_get (ds := r) (i := i) (Bool.and_eq_true_iff.mp h).2 e
theorem depth_get : ∀ {ds : List PyData} {i : Nat} {d : PyData}, ds[i]? = some d → d.depth ≤ PyData.depthAll ds
  | [], _, _, e => by simp at e
  | d :: r, 0, _, e => by
    have e' := Option.some.inj e
    subst e'
    show d.depth ≤ max d.depth (PyData.depthAll r)
    omega
  | d :: r, i + 1, x, e => by
    have := depth_get (ds := r) (i := i) e
    show x.depth ≤ max d.depth (PyData.depthAll r)
    omega
def spSame (T : Tb) (K : PySem.W.Frag) (n : Nat) : Sp := fun vs H Q _ => ∃ (x y : V) (d : PyData), vs = [x, y] ∧ Dp K H x d ∧ Dp K H y d ∧ leafy d = true ∧ d.depth ≤ n ∧ ∀ H', Lv T H H' → Q (.bl true) H'
abbrev NSame : List Str := ["_law_found", "_law_due_here", "_law_one", "_law_other"]
theorem scSame : FnScope NSame ["_law_found", "_law_due_here"] (defScope sSame) := ⟨rfl, rfl, rfl, by decide +kernel, rfl, by decide +kernel, by decide +kernel⟩
section
variable {P : Program} {w : World} {K : PySem.W.Frag} {mg : Str → Option Value} {base : Heap}
theorem ok_same (T : Tb) (D : DefAt K mg "_law_same" sSame) (B : Bt mg) : ∀ n, Cl P w K mg base CX0 (n + 2) "_law_same" (spSame T K n) := by
  have nd := scSame.nd
  -- one body, the inner call by any promise of the level below
  have step : ∀ (k : Nat) (sp : Sp), Cl P w K mg base CX0 (k + 1) "_law_same" sp → ∀ (f : Addr) (cdv : Value) (A : Around) (outer : List Env) (s : Shared) (H : Hp) (vs : List V) (Q : VK) (E : XK), Room (k + 1) (A.deeper (envOfC "_law_same" (defScope sSame) s.heap.objs.size f cdv)) →
      (∃ (x y : V) (d : PyData), vs = [x, y] ∧ Dp K H x d ∧ Dp K H y d ∧ leafy d = true ∧ (∀ ds, d = .tuple ds → ∀ (i : Nat) (e : PyData), ds[i]? = some e → ∀ x y H1 Q1, Lv T H H1 → Dp K H1 x e → Dp K H1 y e → (∀ H', Lv T H1 H' → Q1 (.bl true) H') → sp [x, y] H1 Q1 (E0 : XK)) ∧ ∀ H', Lv T H H' → Q (.bl true) H') →
      ∃ t, PSs (cxOf CX0 P w K mg base NSame "_law_same" (defScope sSame) f cdv A outer s H E).nox (defBody sSame) t ∧ t { nx := fun _ H' => Q .non H', rt := Q } (start NSame vs) H := by
    intro k sp G f cdv A outer s H vs Q E hr h
    obtain ⟨x, y, d, rfl, hx, hy, hl, hs, q⟩ := h
    refine ⟨_, pss_cons (ps_if (pt_val (pe_isi (T := "tuple") B.isi B.tuple (pv 1)))
        (pss_cons (ps_if (PW.pt (pw_or (pt_not (pt_val (pe_isi (T := "tuple") B.isi B.tuple (pv 0)))) (pw_or1 (pt_cmpR op_ne (pe_callB call_len_seq (by rfl) B.len PySem.boot_len (pa_cons (pv 0) pa_nil)) (pe_callB call_len_seq (by rfl) B.len PySem.boot_len (pa_cons (pv 1) pa_nil)) (nomark _)))))
          (pss_one (ps_ret pe_bl)) pss_nil)
        (pss_cons (ps_for PassesOwn.never rfl (RZ.pi_zipA rfl B.zip (pa_cons (pv 0) (pa_cons (pv 1) pa_nil))) (pg_tup rfl (pgs_cons (pg_name (i := 2) nd rfl (.inl rfl)) (pgs_cons (pg_name (i := 3) nd rfl (.inl rfl)) pgs_nil)))
          (pss_one (ps_if (pt_not (pt_val (pe_cl G hr (pa_cons (pv 2) (pa_cons (pv 3) pa_nil)) (Nat.le_refl _)))) (pss_one (ps_ret pe_bl)) pss_nil)))
        (pss_one (ps_ret pe_bl)))) pss_nil)
      (pss_cons (ps_if (pt_val (pe_isi (T := "str") B.isi B.str (pv 1))) (pss_one (ps_ret (pe_and (pe_isi (T := "str") B.isi B.str (pv 0)) (pe_one (pe_cmpR op_eq (pv 0) (pv 1) (nomark _)))))) pss_nil)
      (pss_one (ps_ret (pe_and (pe_isi (T := "int") B.isi B.int (pv 0)) (pe_and (pe_not (pe_isi (T := "bool") B.isi B.bool (pv 0))) (pe_one (pe_cmpR op_eq (pv 0) (pv 1) (nomark _)))))))), ?_⟩
    cases d with
    | none => cases hl
    | bool b => cases hl
    | list ds => cases hl
    | dict ds => cases hl
    | int i =>
      obtain rfl := dp_int hx
      obtain rfl := dp_int hy
      refine ⟨_, rfl, .int i, "tuple", "int", false, rfl, .base (.int i), by decide +kernel, _, rfl, iteF ?_⟩
      refine ⟨_, rfl, .int i, "str", "int", false, rfl, .base (.int i), by decide +kernel, _, rfl, iteF ?_⟩
      refine ⟨_, rfl, .int i, "int", "int", true, rfl, .base (.int i), by decide +kernel, _, rfl, iteT ?_⟩
      refine ⟨_, rfl, .int i, "bool", "int", false, rfl, .base (.int i), by decide +kernel, _, rfl, _, rfl, iteT ?_⟩
      refine ⟨_, rfl, _, rfl, rfl, ?_⟩
      rw [decide_eq_true rfl]
      exact q H Lv.refl
    | str z =>
      obtain rfl := dp_str hx
      obtain rfl := dp_str hy
      refine ⟨_, rfl, .str z, "tuple", "str", false, rfl, .base (.str z), by decide +kernel, _, rfl, iteF ?_⟩
      refine ⟨_, rfl, .str z, "str", "str", true, rfl, .base (.str z), by decide +kernel, _, rfl, iteT ?_⟩
      refine ⟨_, rfl, .str z, "str", "str", true, rfl, .base (.str z), by decide +kernel, _, rfl, iteT ?_⟩
      refine ⟨_, rfl, _, rfl, rfl, ?_⟩
      rw [decide_eq_true rfl]
      exact q H Lv.refl
    | tuple ds =>
      obtain ⟨a, xs, rfl, hS, hA⟩ := dp_tup hx
      obtain ⟨b, ys, rfl, hS2, hA2⟩ := dp_tup hy
      have hlen : xs.length = ys.length := (DpAll.length hA).trans (DpAll.length hA2).symm
      refine ⟨_, rfl, .ref b, "tuple", "tuple", true, rfl, tyx_tup hS2, by decide +kernel, _, rfl, iteT ?_⟩
      refine ⟨_, rfl, .ref a, "tuple", "tuple", true, rfl, tyx_tup hS, by decide +kernel, _, rfl, iteF ?_⟩
      refine ⟨_, rfl, a, xs, rfl, .inr hS, _, rfl, b, ys, rfl, .inr hS2, rfl, _, rfl, ?_⟩
      rw [dI, decide_eq_true (by rw [hlen])]
      refine iteF ⟨_, rfl, _, rfl, a, b, xs, ys, rfl, .inr ⟨hS, hS2, ?_⟩⟩
      refine for_by ds.length (fun i σ H' => ∃ (z1 z2 : Option V), σ = [some (.ref a), some (.ref b), z1, z2] ∧ Lv T H H') ⟨none, none, rfl, Lv.refl⟩ (fun i σ H' hi hP => ?_) (fun σ H' hP => ?_) (fun i x σ H' H2 hi hP hy' => ?_) fun σ H' hP => ?_
      · obtain ⟨z1, z2, rfl, l⟩ := hP
        have h1 := DpAll.length hA
        have h2 := DpAll.length hA2
        exact ⟨xs, ys, _, _, l.tup hS, l.tup hS2, List.getElem?_eq_getElem (by omega), List.getElem?_eq_getElem (by omega)⟩
      · obtain ⟨z1, z2, rfl, l⟩ := hP
        have h1 := DpAll.length hA
        exact ⟨xs, ys, l.tup hS, l.tup hS2, .inl (by omega)⟩
      · obtain ⟨z1, z2, rfl, l⟩ := hP
        obtain ⟨t, x1, y1, rfl, ht, rfl, hx1, hy1⟩ := hy'
        have e1 := hx1 xs (l.tup hS)
        have e2 := hy1 ys (l.tup hS2)
        obtain ⟨e, he, hd1⟩ := DpAll.getV hA e1
        obtain ⟨e', he', hd2⟩ := DpAll.getV hA2 e2
        obtain rfl : e = e' := Option.some.inj (he.symm.trans he')
        have l2 : Lv T H (upd H' t (.tup [x1, y1])) := l.add ht
        refine ⟨t, _, rfl, .inl (.inl upd_same), rfl, _, _, rfl, _, _, rfl, rfl, ?_⟩
        refine ⟨_, rfl, _, rfl, hs ds rfl i e he x1 y1 _ _ l2 (l2.dp hd1) (l2.dp hd2) fun H3 l3 => ?_⟩
        exact ⟨true, rfl, iteF ⟨_, _, rfl, l2.trans l3⟩⟩
      · obtain ⟨z1, z2, rfl, l⟩ := hP
        exact q H' l
  intro n
  induction n with
  | zero =>
    -- a leaf calls nothing, but the text names the def: its own promise of nothing
    have G0 : Cl P w K mg base CX0 1 "_law_same" (fun _ _ _ _ => False) := cl0 D scSame (fun _ _ _ _ _ _ us hl => match us, hl with | [_, _], _ => rfl) (fun vs H Q E h => h.elim) fun f cdv A outer s H vs Q E hr h => h.elim
    refine cl0 D scSame (fun _ _ _ _ _ _ us hl => match us, hl with | [_, _], _ => rfl) (fun vs H Q E h => ?_) fun f cdv A outer s H vs Q E hr h => ?_
    · obtain ⟨x, y, d, rfl, _⟩ := h
      rfl
    obtain ⟨x, y, d, rfl, hx, hy, hl, hd, q⟩ := h
    refine step 0 _ G0 f cdv A outer s H _ Q E hr ⟨x, y, d, rfl, hx, hy, hl, fun ds e => ?_, q⟩
    rw [e] at hd
    have hd' : PyData.depthAll ds + 1 ≤ 0 := hd
    omega
  | succ n ih =>
    refine cl0 D scSame (fun _ _ _ _ _ _ us hl => match us, hl with | [_, _], _ => rfl) (fun vs H Q E h => ?_) fun f cdv A outer s H vs Q E hr h => ?_
    · obtain ⟨x, y, d, rfl, _⟩ := h
      rfl
    obtain ⟨x, y, d, rfl, hx, hy, hl, hd, q⟩ := h
    refine step (n + 1) _ ih f cdv A outer s H _ Q E hr ⟨x, y, d, rfl, hx, hy, hl, fun ds e i e1 he x1 y1 H1 Q1 l1 d1 d2 q1 => ?_, q⟩
    subst e
    have hd' : PyData.depthAll ds + 1 ≤ n + 1 := hd
    have hg := depth_get he
    exact ⟨x1, y1, e1, rfl, d1, d2, leafy_get (show leafyAll ds = true from hl) he, by omega, q1⟩
end
/-! ### a form's data -/
def colD (c : Str × Kd) : PyData := .tuple [.str c.1, c.2.d]
def rowD (p : Part) : PyData := .tuple [.str p.1, .str p.2.1, .tuple (p.2.2.map colD)]
def formD (n : Int) (qs : List Part) : PyData := .tuple [.int n, .tuple (qs.map rowD)]
theorem dp_cols {K : PySem.W.Frag} {H : Hp} : ∀ {ts : List Addr} {cs : Cols}, Paired (fun (t : Addr) (c : Str × Kd) => ∃ x, SqT K H t [.str c.1, x] ∧ Dp K H x c.2.d) ts cs → DpAll K H (ts.map V.ref) (cs.map colD)
  | _, _, .nil => .nil
  | _, _, .cons ⟨x, h1, h2⟩ t => .cons (.tup h1 (.cons (.str _) (.cons h2 .nil))) (dp_cols t)
theorem dp_rows {K : PySem.W.Frag} {H : Hp} : ∀ {xs : List V} {qs : List Part}, Paired (TabAt K H) xs qs → DpAll K H xs (qs.map rowD)
  | _, _, .nil => .nil
  | _, _, .cons h t => by
    obtain ⟨a, c, rfl, h1, ts, h2, h3⟩ := h
    exact .cons (.tup h1 (.cons (.str _) (.cons (.str _) (.cons (.tup h2.seq (dp_cols h3)) .nil)))) (dp_rows t)
theorem FormAt.dp {K : PySem.W.Frag} {H : Hp} {v : V} {n : Int} {qs : List Part} (h : FormAt K H v n qs) : Dp K H v (formD n qs) := by
  obtain ⟨a, r, xs, rfl, h1, h2, h3⟩ := h
  exact .tup h1 (.cons (.int _) (.cons (.tup h2 (dp_rows h3)) .nil))
theorem leafy_pl (p : Pl) : leafy p.d = true := by rcases p with w | ⟨w, i⟩ | ⟨w, z⟩ <;> rfl
theorem leafy_kd (k : Kd) : leafy k.d = true := by
  rcases k with p | ⟨w, p⟩
  · exact leafy_pl p
  · show (leafy (.str w) && (leafy p.d && true)) = true
    rw [leafy_pl]
    rfl
theorem depth_kd (k : Kd) : k.d.depth ≤ 2 := by
  rcases k with (w | ⟨w, i⟩ | ⟨w, z⟩) | ⟨w, w2 | ⟨w2, i⟩ | ⟨w2, z⟩⟩ <;> simp [Kd.d, Pl.d, PyData.depth, PyData.depthAll]
theorem leafy_all {α : Type} {g : α → PyData} : ∀ {xs : List α}, (∀ x ∈ xs, leafy (g x) = true) → leafyAll (xs.map g) = true
  | [], _ => rfl
  | x :: r, h => by
    show (leafy (g x) && leafyAll (r.map g)) = true
    rw [h x List.mem_cons_self, leafy_all fun y hy => h y (List.mem_cons_of_mem _ hy)]
    rfl
theorem depth_all {α : Type} {g : α → PyData} {m : Nat} : ∀ {xs : List α}, (∀ x ∈ xs, (g x).depth ≤ m) → PyData.depthAll (xs.map g) ≤ m
  | [], _ => Nat.zero_le _
  | x :: r, h => by
    have h1 := h x List.mem_cons_self
    have h2 := depth_all (g := g) (m := m) fun y hy => h y (List.mem_cons_of_mem x hy)
    show max (g x).depth (PyData.depthAll (r.map g)) ≤ m
    omega
theorem leafy_form (n : Int) (qs : List Part) : leafy (formD n qs) = true := by
  have h : leafyAll (qs.map rowD) = true := leafy_all fun p _ => by
    have h2 : leafyAll (p.2.2.map colD) = true := leafy_all fun c _ => by
      show (true && (leafy c.2.d && true)) = true
      rw [leafy_kd]
      rfl
    show (true && (true && (leafyAll (p.2.2.map colD) && true))) = true
    rw [h2]
    rfl
  show (true && (leafyAll (qs.map rowD) && true)) = true
  rw [h]
  rfl
theorem depth_form (n : Int) (qs : List Part) : (formD n qs).depth ≤ 7 := by
  have h : PyData.depthAll (qs.map rowD) ≤ 5 := depth_all fun p _ => by
    have h2 : PyData.depthAll (p.2.2.map colD) ≤ 3 := depth_all fun c _ => by
      have := depth_kd c.2
      show max 0 (max c.2.d.depth 0) + 1 ≤ 3
      omega
    show max 0 (max 0 (max (PyData.depthAll (p.2.2.map colD) + 1) 0)) + 1 ≤ 5
    omega
  show max 0 (max (PyData.depthAll (qs.map rowD) + 1) 0) + 1 ≤ 7
  omega
end HM
set_option Elab.async false
set_option linter.all false
set_option maxRecDepth 100000
set_option maxHeartbeats 4000000
namespace HM
open PySem PySem.Spec PyProof.Rows L2
/-! ### [(c, d[c]) for c in sorted(d)] -/
abbrev rSortedD : List V → Hp → VK → Prop := fun xs H Q => ∃ (a : Addr) (kvs : List (Key × V)) (ks : List Str), xs = [.ref a] ∧ Rd H a (.dK kvs) ∧ kvs.map (·.1) = ks.map Sum.inr ∧ ks.length < 64 ∧
    ∀ ys p, ys.Perm ks → sortedS ys = true → H p = none → Q (.ref p) (upd H p (.lst (ys.map V.str)))
theorem cols_lc {K : PySem.W.Frag} {T : Tb} {H : Hp} {d : Addr} {cs : Cols} {σ : L2.St} {i j : Nat} {Q : VK} (hi : σ[i]? = some (some (.ref d))) (hij : j ≠ i) (hj : j < σ.length) (hcs : ColsAt K H d cs) (hnd : (cs.map (·.1)).Nodup) (hlen : cs.length < 64)
    (q : ∀ D H' (ts : List Addr), Lv T H H' → H' D = some (.lst (ts.map V.ref)) → Paired (fun (t : Addr) (c : Str × Kd) => ∃ x, SqT K H' t [.str c.1, x] ∧ Dp K H' x c.2.d) ts (sortC cs) → Q (.ref D) H') :
    tLc (iList K (tCB rSortedD (tCons (tVar i) tNil))) (gName j) tYes (tTup (tCons (tVar j) (tCons (tDGet (tVar i) (tVar j)) tNil))) [j] σ H Q := by
  obtain ⟨kvs, hd, hp⟩ := hcs
  have hset : ∀ x : Option V, wipe ((wipe σ [j]).set j x) [j] = wipe σ [j] := fun x => by
    show ((σ.set j none).set j x).set j none = σ.set j none
    rw [List.set_set, List.set_set]
  have hgi : ∀ x : Option V, ((wipe σ [j]).set j x)[i]? = some (some (.ref d)) := fun x => by
    show ((σ.set j none).set j x)[i]? = _
    rw [List.set_set, List.getElem?_set_ne hij]
    exact hi
  have hgj : ∀ x : Option V, ((wipe σ [j]).set j x)[j]? = some x := fun x => by
    show ((σ.set j none).set j x)[j]? = _
    rw [List.set_set, List.getElem?_set_self hj]
  refine ⟨_, hi, d, kvs, cs.map (·.1), rfl, .inl hd, cols_keys hp, by rw [List.length_map]; exact hlen, fun ys p hperm hsrt hnp => ?_⟩
  obtain rfl := sorted_names hperm hsrt hnd
  refine ⟨p, rfl, ⟨_, .inl (.inl upd_same)⟩, fun D hD => ?_⟩
  have l3 : Lv T H (upd H p (.lst (((sortC cs).map (·.1)).map V.str))) := Lv.new hnp
  have hpD := ne_none upd_same hD
  have hdp := ne_none hd hnp
  have hd3 : (upd H p (.lst (((sortC cs).map (·.1)).map V.str))) d = some (.dK kvs) := by rw [upd_ne hdp]; exact hd
  have hp3 : (upd H p (.lst (((sortC cs).map (·.1)).map V.str))) p = some (.lst (((sortC cs).map (·.1)).map V.str)) := upd_same
  generalize upd H p (.lst (((sortC cs).map (·.1)).map V.str)) = H3 at l3 hD hd3 hp3
  have hsl : (sortC cs).length = cs.length := (sortC_perm cs).length_eq
  have hdD := ne_none hd3 hD
  refine lc_by (sortC cs).length (fun i H' => ∃ ts : List Addr, H' D = some (.lst (ts.map V.ref)) ∧ H' p = some (.lst (((sortC cs).map (·.1)).map V.str)) ∧ H' d = some (.dK kvs) ∧ Lv T H H' ∧
      Paired (fun (t : Addr) (c : Str × Kd) => ∃ x, H' t = some (.tup [.str c.1, x]) ∧ Dp K H x c.2.d) ts ((sortC cs).take i)) ⟨[], upd_same, by rw [upd_ne hpD]; exact hp3, by rw [upd_ne hdD]; exact hd3, l3.add hD, .nil⟩
    (fun i H' hi hP => ?_) (fun H' hP => ?_) (fun i x H' H2 hi hP hy => ?_) fun H' hP => ?_
  · obtain ⟨ts, h1, h2, _⟩ := hP
    exact ⟨_, _, .inl (.inl h2), List.getElem?_eq_getElem (by simpa using hi)⟩
  · obtain ⟨ts, h1, h2, _⟩ := hP
    exact ⟨_, .inl (.inl h2), by simp⟩
  · obtain ⟨ts, h1, h2, h4, l4, hts⟩ := hP
    obtain ⟨rfl, hy⟩ := hy
    have hc : (sortC cs)[i]? = some ((sortC cs)[i]) := List.getElem?_eq_getElem hi
    generalize (sortC cs)[i] = c at hc
    have hcm : c ∈ cs := (sortC_perm cs).mem_iff.mp (List.mem_of_getElem? hc)
    have hx := hy _ (.inl (.inl h2))
    rw [List.getElem?_map, List.getElem?_map, hc] at hx
    have hx' : V.str c.1 = x := Option.some.inj hx
    subst hx'
    obtain ⟨v, hv, hvd⟩ := cols_val hp hnd hcm
    refine ⟨hset _, yesT (iteT ?_)⟩
    refine ⟨_, hgj _, ⟨_, hgi _, _, hgj _, d, v, rfl, ?_, two_line, fun t ht => ?_⟩⟩
    · rw [← hv]
      exact DGet.k (k := Sum.inr c.1) h4
    · have hDt := ne_none h1 ht
      have hpt := ne_none h2 ht
      have hdt := ne_none h4 ht
      have l5 : Lv T H2 (upd H2 t (.tup [.str c.1, v])) := Lv.new ht
      have l6 : Lv T H (upd (upd H2 t (.tup [.str c.1, v])) D (.lst (ts.map V.ref ++ [V.ref t]))) := (l4.trans l5).putN (u := .lst (ts.map V.ref)) (l3.nw (.of hD)) (by rw [upd_ne hDt]; exact h1) True.intro
      refine ⟨ts.map V.ref, by rw [upd_ne hDt]; exact h1, ?_, ts ++ [t], ?_, ?_, ?_, l6, ?_⟩
      · rw [List.length_map, Paired.len hts, List.length_take, sizeLine_eq]
        omega
      · rw [upd_same, List.map_append]
        rfl
      · rw [upd_ne hpD, upd_ne hpt]
        exact h2
      · rw [upd_ne hdD, upd_ne hdt]
        exact h4
      · refine paired_snoc (Paired.imp (fun t2 c2 hh => ?_) hts) hc ⟨v, ?_, hvd⟩
        · obtain ⟨x, q1, q2⟩ := hh
          exact ⟨x, by
            rw [upd_ne (ne_at q1 h1 (fun z => by cases z)), upd_ne (ne_none q1 ht)]
            exact q1, q2⟩
        · rw [upd_ne (Ne.symm hDt), upd_same]
  · obtain ⟨ts, h1, h2, h4, l4, hts⟩ := hP
    rw [List.take_of_length_le (Nat.le_refl _)] at hts
    refine q D H' ts l4 h1 (Paired.imp (fun t c2 hh => ?_) hts)
    obtain ⟨x, q1, q2⟩ := hh
    exact ⟨x, .inl (.inl q1), l4.dp q2⟩
theorem tcons1 {ta : TE} {tr : TA} {σ : L2.St} {H : Hp} {Q : List V → Hp → Prop} (h : ta σ H fun x H1 => tr σ H1 fun xs H2 => Q (x :: xs) H2) : tCons ta tr σ H Q := h
theorem tcb1 {r : List V → Hp → VK → Prop} {ta : TE} {σ : L2.St} {H : Hp} {Q : VK} (h : ta σ H fun x H1 => r [x] H1 Q) : tCB r (tCons ta tNil) σ H Q := h
theorem begins_part {K : PySem.W.Frag} {H : Hp} {D : Addr → Prop} : ∀ {xs : List V} {qs : List Part}, Paired (PartAt K H D) xs qs → Begins K H xs (qs.map (·.1))
  | _, _, .nil => .nil
  | _, _, .cons h t => by
    obtain ⟨a, c, e, h1, h2, h3⟩ := h
    exact .cons ⟨a, _, e, Nat.lt_trans (show 2 < 3 by decide) (by decide), h1⟩ (begins_part t)
/-! ### _law_form -/
def spLForm (T : Tb) (K : PySem.W.Frag) : Sp := fun xs H Q _ => ∃ (a : Addr) (n : Int) (vs : List V) (ps : List Part) (D : Addr → Prop), xs = [.int n, .ref a] ∧ SqL K H a vs ∧ Paired (PartAt K H D) vs ps ∧ (∀ p ∈ ps, (p.2.2.map (·.1)).Nodup ∧ p.2.2.length < 64) ∧ ps.length < 1000 ∧
  LamX.Tabs T H ∧ ∀ v H', Lv T H H' → FormAt K H' v n (nrm ps) → Q v H'
abbrev NLForm : List Str := ["_law_size", "_law_parts_here", "_law_rows", "_law_name", "_law_sort", "_law_columns_here", "_law_column"]
theorem scLForm : FnScope NLForm ["_law_size", "_law_parts_here"] (defScope sForm) := ⟨rfl, rfl, rfl, by decide +kernel, rfl, by decide +kernel, by decide +kernel⟩
section
variable {P : Program} {w : World} {K : PySem.W.Frag} {mg : Str → Option Value} {base : Heap}
theorem ok_lform (T : Tb) {c PT : Addr} (D : DefC K mg "_law_form" sForm c) (TB : LamX.TabB base mg c PT) (hT : (PT, ("_law_form.<locals>.<lambda>" : Str)) ∈ T) (hu : ∀ q ∈ T, q.1 = PT → q.2 = ("_law_form.<locals>.<lambda>" : Str)) (B : Bt mg) :
    Cl P w K mg base CX0 2 "_law_form" (spLForm T K) := by
  have nd := scLForm.nd
  refine clC D scLForm (fun _ _ _ _ _ _ us hl => match us, hl with | [_, _], _ => rfl) (fun vs H Q E h => ?_) fun f A outer s H vs Q E hr h => ?_
  · obtain ⟨a, n, vs, ps, D, rfl, _⟩ := h
    rfl
  obtain ⟨a, n, vs, ps, D, rfl, hL, hP, hok, hlen, hTH, q⟩ := h
  refine ⟨_, PSs.nox (pss_cons (ps_set (i := 2) nd rfl (.inl rfl) (pe_lst pa_nil))
    (pss_cons (ps_for PassesOwn.never rfl (pi_list (pe_op op_cat (pe_slice sl_list (pv 1) po_none (po_some pe_int)) (pe_sortedLam (X := (cxOf CX0 P w K mg base NLForm "_law_form" (defScope sForm) f (.ref c) A outer s H E).nox) (T := T) (x := "_law_part") (hr.mono (by decide)) B.sorted TB rfl hT hu (pe_slice sl_list (pv 1) (po_some pe_int) po_none) rfl rfl rfl rfl rfl (fun _ _ _ _ _ => rfl) (by decide +kernel))))
        (pg_tup rfl (pgs_cons (pg_name (i := 3) nd rfl (.inl rfl)) (pgs_cons (pg_name (i := 4) nd rfl (.inl rfl)) (pgs_cons (pg_name (i := 5) nd rfl (.inr rfl)) pgs_nil))))
      (pss_one (ps_expr (pe_bm PySem.F.plainAttrs_list PySem.F.slot_list_append PySem.F.type_list_append mt_append (pv 2) (pa_cons (pe_tup (pa_cons (pv 3) (pa_cons (pv 4) (pa_cons
        (pe_callTy (T := "tuple") call_tupleF rfl B.tuple (by decide +kernel) (pa_cons (pe_lc (own := [("_law_column", 6)]) rfl nd (pi_list (pe_callB (id := "sorted") (r := rSortedD) (call_sortedD rfl) rfl B.sorted (by decide +kernel) (pa_cons (pv 5) pa_nil)))
          (blk_of (N := NLForm) (sc := defScope sForm) rfl (by decide +kernel)) (fun s H C cl fp => pg_name (i := 6) nd rfl (.inl rfl)) (fun s H C cl fp => pts_nil)
          (fun s H C cl fp => pe_tup (pa_cons (pv 6) (pa_cons (pe_dget (hu1 hr) (pv 5) (pv 6) (fun _ _ => rfl)) pa_nil)))) pa_nil)) pa_nil)))) pa_nil)))))
    (pss_one (ps_ret (pe_tup (pa_cons (pv 0) (pa_cons (pe_callTy (T := "tuple") call_tuple_of rfl B.tuple (by decide +kernel) (pa_cons (pv 2) pa_nil)) pa_nil))))))), ?_⟩
  refine ⟨by show 0 ≤ sizeLine; exact Nat.zero_le _, fun m hm => ?_⟩
  have l1 : Lv T H (upd H m (.lst [])) := Lv.new hm
  have em1 : (upd H m (.lst [])) m = some (.lst []) := upd_same
  have nwM : Nw H m := .of hm
  generalize upd H m (.lst []) = H1 at l1 em1
  refine ⟨_, rfl, 1, rfl, a, vs, rfl, l1.seq hL, fun s1 hs1 => ?_⟩
  rw [show cutV vs none (some 1) = vs.take 1 from cut_to 1]
  have l2 : Lv T H (upd H1 s1 (.lst (vs.take 1))) := l1.add hs1
  have em2 : (upd H1 s1 (.lst (vs.take 1))) m = some (.lst []) := by rw [upd_ne (ne_none em1 hs1)]; exact em1
  have es2 : (upd H1 s1 (.lst (vs.take 1))) s1 = some (.lst (vs.take 1)) := upd_same
  generalize upd H1 s1 (.lst (vs.take 1)) = H2 at l2 em2 es2
  refine ⟨_, rfl, 1, rfl, a, vs, rfl, l2.seq hL, fun s2 hs2 => ?_⟩
  rw [show cutV vs (some 1) none = vs.drop 1 from cut_from 1]
  have l3 : Lv T H (upd H2 s2 (.lst (vs.drop 1))) := l2.add hs2
  have em3 : (upd H2 s2 (.lst (vs.drop 1))) m = some (.lst []) := by rw [upd_ne (ne_none em2 hs2)]; exact em2
  have es3 : (upd H2 s2 (.lst (vs.drop 1))) s1 = some (.lst (vs.take 1)) := by rw [upd_ne (ne_none es2 hs2)]; exact es2
  have es4 : (upd H2 s2 (.lst (vs.drop 1))) s2 = some (.lst (vs.drop 1)) := upd_same
  generalize upd H2 s2 (.lst (vs.drop 1)) = H3 at l3 em3 es3 es4
  have hdr : Paired (PartAt K H3 D) (vs.drop 1) (ps.drop 1) := Paired.drop' 1 (Paired.imp (fun v p z => l3.part z) hP)
  refine ⟨l3.tab hTH, s2, _, _, rfl, .inl (.inl es4), begins_part hdr, fun H4 s3 l4 hs3 => ?_⟩
  have hsort : Paired (PartAt K H4 D) (sortBy (vs.drop 1) ((ps.drop 1).map (·.1))) (sortP (ps.drop 1)) := sortBy_paired (fun q : Part => q.1) (Paired.imp (fun v q z => l4.part z) hdr)
  have htk : Paired (PartAt K H4 D) (vs.take 1) (ps.take 1) := Paired.take' 1 (Paired.imp (fun v p z => (l3.trans l4).part z) hP)
  generalize sortBy (vs.drop 1) ((ps.drop 1).map (·.1)) = ys at hsort
  have em5 : (upd H4 s3 (.lst ys)) m = some (.lst []) := by rw [upd_ne (ne_none (l4.at em3) hs3)]; exact l4.at em3
  have es5 : (upd H4 s3 (.lst ys)) s1 = some (.lst (vs.take 1)) := by rw [upd_ne (ne_none (l4.at es3) hs3)]; exact l4.at es3
  refine ⟨s1, s3, _, _, rfl, rfl, es5, upd_same, ?_, fun s4 hs4 => ?_⟩
  · rw [Paired.len htk, Paired.len hsort, (sortP_perm _).length_eq, List.length_take, List.length_drop, sizeLine_eq]
    omega
  have l6 : Lv T H (upd (upd H4 s3 (.lst ys)) s4 (.lst (vs.take 1 ++ ys))) := ((l3.trans l4).add hs3).add hs4
  have hall : Paired (PartAt K (upd (upd H4 s3 (.lst ys)) s4 (.lst (vs.take 1 ++ ys))) D) (vs.take 1 ++ ys) (ps.take 1 ++ sortP (ps.drop 1)) :=
    Paired.imp (fun v p z => ((Kq.new hs3).trans (Kq.new hs4)).part z) (Paired.append' htk hsort)
  have em6 : (upd (upd H4 s3 (.lst ys)) s4 (.lst (vs.take 1 ++ ys))) m = some (.lst []) := by rw [upd_ne (ne_none em5 hs4)]; exact em5
  have es6 : (upd (upd H4 s3 (.lst ys)) s4 (.lst (vs.take 1 ++ ys))) s4 = some (.lst (vs.take 1 ++ ys)) := upd_same
  have hms4 : m ≠ s4 := ne_none em5 hs4
  generalize upd (upd H4 s3 (.lst ys)) s4 (.lst (vs.take 1 ++ ys)) = H6 at l6 hall em6 es6
  have hnrm : nrm ps = (ps.take 1 ++ sortP (ps.drop 1)).map nc := by
    unfold nrm
    rw [List.map_append]
  have hok2 : ∀ p ∈ ps.take 1 ++ sortP (ps.drop 1), (p.2.2.map (·.1)).Nodup ∧ p.2.2.length < 64 := fun p hp => by
    rcases List.mem_append.mp hp with hp | hp
    · exact hok p (List.mem_of_mem_take hp)
    · exact hok p (List.mem_of_mem_drop ((sortP_perm _).mem_iff.mp hp))
  have hlen2 : (ps.take 1 ++ sortP (ps.drop 1)).length < 1000 := by
    rw [List.length_append, (sortP_perm _).length_eq, List.length_take, List.length_drop]
    omega
  generalize ps.take 1 ++ sortP (ps.drop 1) = ps' at hall hnrm hok2 hlen2
  generalize vs.take 1 ++ ys = vs' at hall es6
  refine ⟨s4, rfl, ⟨_, .inl (.inl es6)⟩, ?_⟩
  refine for_by ps'.length (fun i σ H' => ∃ y3 y4 y5 ws, σ = [some (.int n), some (.ref a), some (.ref m), y3, y4, y5, none] ∧ H' m = some (.lst ws) ∧ H' s4 = some (.lst vs') ∧ Paired (TabAt K H') ws ((ps'.take i).map nc) ∧ Kq H6 H' ∧ Lv T H H')
    ⟨none, none, none, [], rfl, em6, es6, .nil, fun _ _ h _ => h, l6⟩ (fun i σ H' hi hP' => ?_) (fun σ H' hP' => ?_) (fun i y σ H' H7 hi hP' hy => ?_) fun σ H' hP' => ?_
  · obtain ⟨y3, y4, y5, ws, rfl, e1, e2, e3, k1, l7⟩ := hP'
    exact ⟨vs', _, .inl (.inl e2), List.getElem?_eq_getElem (by rw [Paired.len hall]; exact hi)⟩
  · obtain ⟨y3, y4, y5, ws, rfl, e1, e2, e3, k1, l7⟩ := hP'
    exact ⟨vs', .inl (.inl e2), by rw [Paired.len hall]; exact Nat.le_refl _⟩
  · obtain ⟨y3, y4, y5, ws, rfl, e1, e2, e3, k1, l7⟩ := hP'
    obtain ⟨rfl, hy⟩ := hy
    have hx := hy vs' (.inl (.inl e2))
    obtain ⟨p, hp, hPt⟩ := Paired.getL hall hx
    obtain ⟨t, d, e, t1, t2, t3⟩ := k1.part hPt
    subst e
    have hpk := hok2 p (List.mem_of_getElem? hp)
    refine ⟨t, _, rfl, t1, rfl, _, _, rfl, _, _, rfl, _, _, rfl, rfl, ?_⟩
    refine ⟨_, rfl, .inl ⟨rfl, ws, .inl (.inl e1)⟩, _, rfl, _, rfl, ?_⟩
    refine tcons1 (tcb1 (cols_lc (T := T) (K := K) (d := d) (cs := p.2.2) (i := 5) (j := 6) ?_ (by decide) ?_ t2 hpk.1 hpk.2 fun L H8 ts l8 eL hts => ?_))
    · rfl
    · show 6 < 7
      decide
    refine ⟨L, _, rfl, .inl (.inl eL), fun tc oc htc hoc => ⟨by show 3 ≤ sizeLine; rw [sizeLine_eq]; decide, fun tr htr => ?_⟩⟩
    have e8 : H8 m = some (.lst ws) := l8.at e1
    have e8b : (upd H8 tc (.frz oc (.tup (ts.map V.ref)))) m = some (.lst ws) := by rw [upd_ne (ne_none e8 htc)]; exact e8
    have hmtr := ne_none e8b htr
    have e9 : (upd (upd H8 tc (.frz oc (.tup (ts.map V.ref)))) tr (.tup [.str p.1, .str p.2.1, .ref tc])) m = some (.lst ws) := by rw [upd_ne hmtr]; exact e8b
    have kA : Kq H8 (upd (upd (upd H8 tc (.frz oc (.tup (ts.map V.ref)))) tr (.tup [.str p.1, .str p.2.1, .ref tc])) m (.lst (ws ++ [.ref tr]))) := ((Kq.new htc).trans (Kq.new htr)).trans (Kq.upd e9 (fun z => z))
    have kB : Kq H7 (upd (upd (upd H8 tc (.frz oc (.tup (ts.map V.ref)))) tr (.tup [.str p.1, .str p.2.1, .ref tc])) m (.lst (ws ++ [.ref tr]))) := l8.kq.trans kA
    have hts4 : (upd (upd H8 tc (.frz oc (.tup (ts.map V.ref)))) tr (.tup [.str p.1, .str p.2.1, .ref tc])) s4 = some (.lst vs') := by
      have a1 := l8.at e2
      have a2 : (upd H8 tc (.frz oc (.tup (ts.map V.ref)))) s4 = some (.lst vs') := by rw [upd_ne (ne_none a1 htc)]; exact a1
      rw [upd_ne (ne_none a2 htr)]
      exact a2
    refine ⟨m, ws, _, rfl, rfl, e9, ?_, _, _, _, ws ++ [.ref tr], rfl, upd_same, by rw [upd_ne (Ne.symm hms4)]; exact hts4, ?_, k1.trans kB, (((l7.trans l8).add htc).add htr).putN nwM e9 True.intro⟩
    · rw [Paired.len e3, List.length_map, List.length_take, sizeLine_eq]
      omega
    · rw [take_map_succ nc hp]
      refine Paired.append' (Paired.imp (fun v q z => kB.kt.tabAt z) e3) (.cons ⟨tr, tc, rfl, .inl (.inl ?_), ts, ⟨oc, ?_, hoc⟩, Paired.imp (fun t c z => ?_) hts⟩ .nil)
      · rw [upd_ne (Ne.symm hmtr), upd_same]
        rfl
      · have a1 : (upd H8 tc (.frz oc (.tup (ts.map V.ref)))) tc = some (.frz oc (.tup (ts.map V.ref))) := upd_same
        rw [upd_ne (Ne.symm (ne_none e8 htc)), upd_ne (ne_none a1 htr)]
        exact a1
      · obtain ⟨x, z1, z2⟩ := z
        exact ⟨x, kA.kt.tup z1, kA.kt.kd z2⟩
  · obtain ⟨y3, y4, y5, ws, rfl, e1, e2, e3, k1, l7⟩ := hP'
    rw [List.take_of_length_le (Nat.le_refl _), ← hnrm] at e3
    refine ⟨_, rfl, _, rfl, m, ws, rfl, .inl ⟨.inl (.inl e1), fun r hr' => ⟨two_line, fun fa hfa => ?_⟩⟩⟩
    refine q _ _ ((l7.add hr').add hfa) ⟨fa, r, ws, rfl, .inl (.inl upd_same), .inl (.inl ?_), Paired.imp (fun v p z => ((Kt.new hr').trans (Kt.new hfa)).tabAt z) e3⟩
    rw [upd_ne (ne_none upd_same hfa), upd_same]
end
end HM
set_option Elab.async false
set_option linter.all false
set_option maxRecDepth 100000
set_option maxHeartbeats 4000000
namespace HM
open PySem PySem.Spec PyProof.Rows L2
theorem DOk.lv {T : Tb} {H H' : Hp} {d : Option Addr} (h : DOk H d) (l : Lv T H H') : DOk H' d := fun dd e => by
  obtain ⟨fs, q⟩ := h dd e
  exact ⟨fs, l.at q⟩
/-- a class of the name x, of which CF, CT are told to be, or not to be, below -/
def Kt2 (K : PySem.W.Frag) (mg : Str → Option Value) (CF CT : Addr) (x : Str) (bF bT : Bool) : Prop := ∃ C, mg x = some (.ref C) ∧ PySem.W.kitOne K (.ref CF) (.ref C) = some bF ∧ PySem.W.kitOne K (.ref CT) (.ref C) = some bT
structure Kl (K : PySem.W.Frag) (mg : Str → Option Value) (CF CT : Addr) : Prop where
  ef : ExcC K CF
  et : ExcC K CT
  xt : XfC K CT
  te : Kt2 K mg CF CT "TableError" true true
  nf : Kt2 K mg CF CT "NoForm" true false
  se : Kt2 K mg CF CT "StepError" false true
  nt : Kt2 K mg CF CT "NoTable" false true
  veF : PySem.W.kitOne K (.ref CF) (.type "ValueError") = some true
  veT : PySem.W.kitOne K (.ref CT) (.type "ValueError") = some true
  noMove : Kt2 K mg CF CT "NoMove" false false
  noRow : Kt2 K mg CF CT "NoRow" false false
  noText : Kt2 K mg CF CT "NoText" false false
  notDone : Kt2 K mg CF CT "NotDone" false false
  tooMany : Kt2 K mg CF CT "TooMany" false false
  badRow : Kt2 K mg CF CT "BadRow" false false
  taken : Kt2 K mg CF CT "Taken" false false
  missing : Kt2 K mg CF CT "Missing" false false
  lone : Kt2 K mg CF CT "Lone" false false
  gap : Kt2 K mg CF CT "Gap" false false
  twice : Kt2 K mg CF CT "Twice" false false
  nowhere : Kt2 K mg CF CT "Nowhere" false false
  xte : ∃ C, mg "TableError" = some (.ref C) ∧ PySem.W.exmOne K (.ref CF) (.ref C) = some true ∧ PySem.W.exmOne K (.ref CT) (.ref C) = some true
  xnt : mg "NoTable" = some (.ref CT) ∧ PySem.W.exmOne K (.ref CF) (.ref CT) = some false ∧ PySem.W.exmOne K (.ref CT) (.ref CT) = some true
theorem tseq {t : TS} {u : Ends → L2.St → Hp → Prop} {D : Ends} {σ : L2.St} {H : Hp} (h : t { D with nx := u D } σ H) : tSeq t u D σ H := h
section
variable {K : PySem.W.Frag} {a D m : Addr} {d : Option Addr} {H : Hp} {Dn : Ends} {σ : L2.St} {ws : List Str} {z : Str} {b : Bool}
/-- words.append(z) -/
theorem app_word (h1 : σ[1]? = some (some (.ref m))) (em : H m = some (.lst (ws.map V.str))) (hl : ws.length < 100) (q : Dn.nx σ (upd H m (.lst ((ws ++ [z]).map V.str)))) : tDrop (tBM K "list" rAppend (tVar 1) (tCons (tC (.str z)) tNil)) Dn σ H := by
  refine ⟨_, h1, .inl ⟨rfl, _, .inl (.inl em)⟩, m, _, _, rfl, rfl, em, ?_, ?_⟩
  · rw [List.length_map, sizeLine_eq]
    omega
  · rw [List.map_append] at q
    exact q
end
theorem kitAny_f {K : PySem.W.Frag} {t : Value} : ∀ {us : List Value}, (∀ u ∈ us, PySem.W.kitOne K t u = some false) → PySem.W.kitAny K t us = some false
  | [], _ => kitAny_nil
  | u :: us, h => kitAny_cons (h u List.mem_cons_self) (fun _ => kitAny_f fun v hv => h v (List.mem_cons_of_mem _ hv)) (fun z => by cases z)
def spWords (T : Tb) (K : PySem.W.Frag) (CF CT : Addr) : Sp := fun vs H Q _ => ∃ (a D : Addr) (d : Option Addr) (ws : List Str), vs = [.ref a] ∧ H a = some (Cau a (.ref D) d) ∧ DOk H d ∧ ((D = CF ∧ ws = (["any", "form"] : List Str)) ∨ (D = CT ∧ ws = (["any", "step", "table"] : List Str))) ∧
  ∀ p H', Lv T H H' → H' p = some (.lst (ws.map V.str)) → Q (.ref p) H'
theorem scWords : FnScope ["_law_caught", "_law_words_here"] ["_law_caught"] (defScope sWords) := ⟨rfl, rfl, rfl, by decide +kernel, rfl, by decide +kernel, by decide +kernel⟩
section
variable {P : Program} {w : World} {K : PySem.W.Frag} {mg : Str → Option Value} {base : Heap} {CF CT fI : Addr}
theorem ok_words (T : Tb) (D : DefAt K mg "_law_words" sWords) (kl : Kl K mg CF CT) (B : Bt mg) : Cl P w K mg base CX0 1 "_law_words" (spWords T K CF CT) := by
  have nd := scWords.nd
  obtain ⟨Cte, gte, teF, teT⟩ := kl.te
  obtain ⟨Cnf, gnf, nfF, nfT⟩ := kl.nf
  obtain ⟨Cse, gse, seF, seT⟩ := kl.se
  obtain ⟨Cnt, gnt, ntF, ntT⟩ := kl.nt
  obtain ⟨C1, g1, f1, t1⟩ := kl.noMove
  obtain ⟨C2, g2, f2, t2⟩ := kl.noRow
  obtain ⟨C3, g3, f3, t3⟩ := kl.noText
  obtain ⟨C4, g4, f4, t4⟩ := kl.notDone
  obtain ⟨C5, g5, f5, t5⟩ := kl.tooMany
  obtain ⟨E1, i1, h1, k1⟩ := kl.badRow
  obtain ⟨E2, i2, h2, k2⟩ := kl.taken
  obtain ⟨E3, i3, h3, k3⟩ := kl.missing
  obtain ⟨E4, i4, h4, k4⟩ := kl.lone
  obtain ⟨E5, i5, h5, k5⟩ := kl.gap
  obtain ⟨E6, i6, h6, k6⟩ := kl.twice
  obtain ⟨E7, i7, h7, k7⟩ := kl.nowhere
  refine cl0 D scWords (fun _ _ _ _ _ _ us hl => match us, hl with | [_], _ => rfl) (fun vs H Q E h => ?_) fun f cdv A outer s H vs Q E hr h => ?_
  · obtain ⟨a, D, d, ws, rfl, _⟩ := h
    rfl
  obtain ⟨a, D, d, ws, rfl, e, hd, hD, q⟩ := h
  refine ⟨_, pss_cons (ps_if (pt_cmp (pc_isN (pv 0))) (pss_one (ps_ret (pe_lst (pa_cons pe_str pa_nil)))) pss_nil)
    (pss_cons (ps_set (i := 1) nd rfl (.inl rfl) (pe_lst pa_nil))
    (pss_cons (ps_if (PW.pt (pw_and (pt_val (pe_callB (id := "isinstance") call_isK rfl B.isi (by decide +kernel) (pa_cons (pv 0) (pa_cons (pe_glob (v := .ref Cte) rfl gte rfl) pa_nil))))
        (pw_and1 (pt_val (pe_callB (id := "isinstance") call_isK rfl B.isi (by decide +kernel) (pa_cons (pv 0) (pa_cons (pe_bltn (v := .ty "ValueError") (u := .type "ValueError") rfl B.ve (by decide +kernel) rfl (by decide) (by decide)) pa_nil)))))))
      (pss_one (ps_expr (pe_bm PySem.F.plainAttrs_list PySem.F.slot_list_append PySem.F.type_list_append mt_append (pv 1) (pa_cons pe_str pa_nil)))) pss_nil)
    (pss_cons (ps_if (pt_val (pe_callB (id := "isinstance") call_isK rfl B.isi (by decide +kernel) (pa_cons (pv 0) (pa_cons (pe_glob (v := .ref Cnf) rfl gnf rfl) pa_nil))))
      (pss_one (ps_expr (pe_bm PySem.F.plainAttrs_list PySem.F.slot_list_append PySem.F.type_list_append mt_append (pv 1) (pa_cons pe_str pa_nil)))) pss_nil)
    (pss_cons (ps_if (pt_val (pe_callB (id := "isinstance") call_isK rfl B.isi (by decide +kernel) (pa_cons (pv 0) (pa_cons (pe_glob (v := .ref Cse) rfl gse rfl) pa_nil))))
      (pss_one (ps_expr (pe_bm PySem.F.plainAttrs_list PySem.F.slot_list_append PySem.F.type_list_append mt_append (pv 1) (pa_cons pe_str pa_nil)))) pss_nil)
    (pss_cons (ps_if (pt_val (pe_callB (id := "isinstance") call_isK rfl B.isi (by decide +kernel) (pa_cons (pv 0) (pa_cons (pe_glob (v := .ref Cnt) rfl gnt rfl) pa_nil))))
      (pss_one (ps_expr (pe_bm PySem.F.plainAttrs_list PySem.F.slot_list_append PySem.F.type_list_append mt_append (pv 1) (pa_cons pe_str pa_nil)))) pss_nil)
    (pss_cons (ps_if (pt_val (pe_callB (id := "isinstance") call_isKT rfl B.isi (by decide +kernel) (pa_cons (pv 0) (pa_cons (pe_tup (pa_cons (pe_glob (v := .ref C1) rfl g1 rfl) (pa_cons (pe_glob (v := .ref C2) rfl g2 rfl) (pa_cons (pe_glob (v := .ref C3) rfl g3 rfl) (pa_cons (pe_glob (v := .ref C4) rfl g4 rfl) (pa_cons (pe_glob (v := .ref C5) rfl g5 rfl) pa_nil)))))) pa_nil))))
      (pss_one (ps_expr (pe_bm PySem.F.plainAttrs_list PySem.F.slot_list_append PySem.F.type_list_append mt_append (pv 1) (pa_cons pe_str pa_nil)))) pss_nil)
    (pss_cons (ps_if (pt_val (pe_callB (id := "isinstance") call_isKT rfl B.isi (by decide +kernel) (pa_cons (pv 0) (pa_cons (pe_tup (pa_cons (pe_glob (v := .ref E1) rfl i1 rfl) (pa_cons (pe_glob (v := .ref E2) rfl i2 rfl) (pa_cons (pe_glob (v := .ref E3) rfl i3 rfl) (pa_cons (pe_glob (v := .ref E4) rfl i4 rfl) (pa_cons (pe_glob (v := .ref E5) rfl i5 rfl)
        (pa_cons (pe_glob (v := .ref E6) rfl i6 rfl) (pa_cons (pe_glob (v := .ref E7) rfl i7 rfl) pa_nil)))))))) pa_nil))))
      (pss_one (ps_expr (pe_bm PySem.F.plainAttrs_list PySem.F.slot_list_append PySem.F.type_list_append mt_append (pv 1) (pa_cons pe_str pa_nil)))) pss_nil)
    (pss_one (ps_ret (pv 1)))))))))), ?_⟩
  refine ⟨_, rfl, _, rfl, ifF rfl ⟨by show 0 ≤ sizeLine; exact Nat.zero_le _, fun m hm => ?_⟩⟩
  have l1 : Lv T H (upd H m (.lst [])) := Lv.new hm
  have em1 : (upd H m (.lst [])) m = some (.lst []) := upd_same
  have nwM : Nw H m := .of hm
  generalize upd H m (.lst []) = H1 at l1 em1
  rcases hD with ⟨rfl, rfl⟩ | ⟨rfl, rfl⟩
  · refine ⟨_, rfl, a, D, d, .ref Cte, .ref Cte, true, rfl, l1.at e, hd.lv l1, kl.ef, .own Cte, teF, true, rfl, iteT ?_⟩
    refine ⟨_, rfl, a, D, d, .ty "ValueError", .type "ValueError", true, rfl, l1.at e, hd.lv l1, kl.ef, .ty _, kl.veF, true, rfl, iteT ?_⟩
    refine ⟨_, rfl, .inl ⟨rfl, _, .inl (.inl em1)⟩, m, _, _, rfl, rfl, em1, by show 0 < sizeLine; rw [sizeLine_eq]; decide, ?_⟩
    have l2 : Lv T H (upd H1 m (.lst ([] ++ [V.str "any"]))) := l1.putN nwM em1 True.intro
    have em2 : (upd H1 m (.lst ([] ++ [V.str "any"]))) m = some (.lst ([] ++ [V.str "any"])) := upd_same
    generalize upd H1 m (.lst ([] ++ [V.str "any"])) = H2 at l2 em2 ⊢
    refine ⟨_, rfl, a, D, d, .ref Cnf, .ref Cnf, true, rfl, l2.at e, hd.lv l2, kl.ef, .own Cnf, nfF, true, rfl, iteT ?_⟩
    refine ⟨_, rfl, .inl ⟨rfl, _, .inl (.inl em2)⟩, m, _, _, rfl, rfl, em2, by show 1 < sizeLine; rw [sizeLine_eq]; decide, ?_⟩
    have l3 : Lv T H (upd H2 m (.lst (([] ++ [V.str "any"]) ++ [V.str "form"]))) := l2.putN nwM em2 True.intro
    have em3 : (upd H2 m (.lst (([] ++ [V.str "any"]) ++ [V.str "form"]))) m = some (.lst (([] ++ [V.str "any"]) ++ [V.str "form"])) := upd_same
    generalize upd H2 m (.lst (([] ++ [V.str "any"]) ++ [V.str "form"])) = H3 at l3 em3 ⊢
    refine ⟨_, rfl, a, D, d, .ref Cse, .ref Cse, false, rfl, l3.at e, hd.lv l3, kl.ef, .own Cse, seF, false, rfl, iteF ?_⟩
    refine ⟨_, rfl, a, D, d, .ref Cnt, .ref Cnt, false, rfl, l3.at e, hd.lv l3, kl.ef, .own Cnt, ntF, false, rfl, iteF ?_⟩
    refine ⟨_, rfl, (by show 5 ≤ sizeLine; rw [sizeLine_eq]; decide), fun tp3 htp3 => ?_⟩
    have l4 : Lv T H (upd H3 tp3 (.tup [V.ref C1, V.ref C2, V.ref C3, V.ref C4, V.ref C5])) := l3.add htp3
    have em4 : (upd H3 tp3 (.tup [V.ref C1, V.ref C2, V.ref C3, V.ref C4, V.ref C5])) m = some (.lst (([] ++ [V.str "any"]) ++ [V.str "form"])) := by rw [upd_ne (ne_none em3 htp3)]; exact em3
    have et4 : (upd H3 tp3 (.tup [V.ref C1, V.ref C2, V.ref C3, V.ref C4, V.ref C5])) tp3 = some (.tup [V.ref C1, V.ref C2, V.ref C3, V.ref C4, V.ref C5]) := upd_same
    generalize upd H3 tp3 (.tup [V.ref C1, V.ref C2, V.ref C3, V.ref C4, V.ref C5]) = H4 at l4 em4 et4 ⊢
    refine ⟨a, D, d, tp3, [V.ref C1, V.ref C2, V.ref C3, V.ref C4, V.ref C5], _, false, rfl, et4, (.cons (.own _) (.cons (.own _) (.cons (.own _) (.cons (.own _) (.cons (.own _) .nil))))), l4.at e, hd.lv l4, kl.ef, (kitAny_cons f1 (fun _ => (kitAny_cons f2 (fun _ => (kitAny_cons f3 (fun _ => (kitAny_cons f4 (fun _ => (kitAny_cons f5 (fun _ => kitAny_nil) (fun z => by cases z))) (fun z => by cases z))) (fun z => by cases z))) (fun z => by cases z))) (fun z => by cases z)), false, rfl, iteF ?_⟩
    refine ⟨_, rfl, (by show 7 ≤ sizeLine; rw [sizeLine_eq]; decide), fun tp4 htp4 => ?_⟩
    have l5 : Lv T H (upd H4 tp4 (.tup [V.ref E1, V.ref E2, V.ref E3, V.ref E4, V.ref E5, V.ref E6, V.ref E7])) := l4.add htp4
    have em5 : (upd H4 tp4 (.tup [V.ref E1, V.ref E2, V.ref E3, V.ref E4, V.ref E5, V.ref E6, V.ref E7])) m = some (.lst (([] ++ [V.str "any"]) ++ [V.str "form"])) := by rw [upd_ne (ne_none em4 htp4)]; exact em4
    have et5 : (upd H4 tp4 (.tup [V.ref E1, V.ref E2, V.ref E3, V.ref E4, V.ref E5, V.ref E6, V.ref E7])) tp4 = some (.tup [V.ref E1, V.ref E2, V.ref E3, V.ref E4, V.ref E5, V.ref E6, V.ref E7]) := upd_same
    generalize upd H4 tp4 (.tup [V.ref E1, V.ref E2, V.ref E3, V.ref E4, V.ref E5, V.ref E6, V.ref E7]) = H5 at l5 em5 et5 ⊢
    refine ⟨a, D, d, tp4, [V.ref E1, V.ref E2, V.ref E3, V.ref E4, V.ref E5, V.ref E6, V.ref E7], _, false, rfl, et5, (.cons (.own _) (.cons (.own _) (.cons (.own _) (.cons (.own _) (.cons (.own _) (.cons (.own _) (.cons (.own _) .nil))))))), l5.at e, hd.lv l5, kl.ef, (kitAny_cons h1 (fun _ => (kitAny_cons h2 (fun _ => (kitAny_cons h3 (fun _ => (kitAny_cons h4 (fun _ => (kitAny_cons h5 (fun _ => (kitAny_cons h6 (fun _ => (kitAny_cons h7 (fun _ => kitAny_nil) (fun z => by cases z))) (fun z => by cases z))) (fun z => by cases z))) (fun z => by cases z))) (fun z => by cases z))) (fun z => by cases z))) (fun z => by cases z)), false, rfl, iteF ?_⟩
    exact ⟨_, rfl, q m _ l5 em5⟩
  · refine ⟨_, rfl, a, D, d, .ref Cte, .ref Cte, true, rfl, l1.at e, hd.lv l1, kl.et, .own Cte, teT, true, rfl, iteT ?_⟩
    refine ⟨_, rfl, a, D, d, .ty "ValueError", .type "ValueError", true, rfl, l1.at e, hd.lv l1, kl.et, .ty _, kl.veT, true, rfl, iteT ?_⟩
    refine ⟨_, rfl, .inl ⟨rfl, _, .inl (.inl em1)⟩, m, _, _, rfl, rfl, em1, by show 0 < sizeLine; rw [sizeLine_eq]; decide, ?_⟩
    have l2 : Lv T H (upd H1 m (.lst ([] ++ [V.str "any"]))) := l1.putN nwM em1 True.intro
    have em2 : (upd H1 m (.lst ([] ++ [V.str "any"]))) m = some (.lst ([] ++ [V.str "any"])) := upd_same
    generalize upd H1 m (.lst ([] ++ [V.str "any"])) = H2 at l2 em2 ⊢
    refine ⟨_, rfl, a, D, d, .ref Cnf, .ref Cnf, false, rfl, l2.at e, hd.lv l2, kl.et, .own Cnf, nfT, false, rfl, iteF ?_⟩
    refine ⟨_, rfl, a, D, d, .ref Cse, .ref Cse, true, rfl, l2.at e, hd.lv l2, kl.et, .own Cse, seT, true, rfl, iteT ?_⟩
    refine ⟨_, rfl, .inl ⟨rfl, _, .inl (.inl em2)⟩, m, _, _, rfl, rfl, em2, by show 1 < sizeLine; rw [sizeLine_eq]; decide, ?_⟩
    have l3 : Lv T H (upd H2 m (.lst (([] ++ [V.str "any"]) ++ [V.str "step"]))) := l2.putN nwM em2 True.intro
    have em3 : (upd H2 m (.lst (([] ++ [V.str "any"]) ++ [V.str "step"]))) m = some (.lst (([] ++ [V.str "any"]) ++ [V.str "step"])) := upd_same
    generalize upd H2 m (.lst (([] ++ [V.str "any"]) ++ [V.str "step"])) = H3 at l3 em3 ⊢
    refine ⟨_, rfl, a, D, d, .ref Cnt, .ref Cnt, true, rfl, l3.at e, hd.lv l3, kl.et, .own Cnt, ntT, true, rfl, iteT ?_⟩
    refine ⟨_, rfl, .inl ⟨rfl, _, .inl (.inl em3)⟩, m, _, _, rfl, rfl, em3, by show 2 < sizeLine; rw [sizeLine_eq]; decide, ?_⟩
    have l4 : Lv T H (upd H3 m (.lst ((([] ++ [V.str "any"]) ++ [V.str "step"]) ++ [V.str "table"]))) := l3.putN nwM em3 True.intro
    have em4 : (upd H3 m (.lst ((([] ++ [V.str "any"]) ++ [V.str "step"]) ++ [V.str "table"]))) m = some (.lst ((([] ++ [V.str "any"]) ++ [V.str "step"]) ++ [V.str "table"])) := upd_same
    generalize upd H3 m (.lst ((([] ++ [V.str "any"]) ++ [V.str "step"]) ++ [V.str "table"])) = H4 at l4 em4 ⊢
    refine ⟨_, rfl, (by show 5 ≤ sizeLine; rw [sizeLine_eq]; decide), fun tp4 htp4 => ?_⟩
    have l5 : Lv T H (upd H4 tp4 (.tup [V.ref C1, V.ref C2, V.ref C3, V.ref C4, V.ref C5])) := l4.add htp4
    have em5 : (upd H4 tp4 (.tup [V.ref C1, V.ref C2, V.ref C3, V.ref C4, V.ref C5])) m = some (.lst ((([] ++ [V.str "any"]) ++ [V.str "step"]) ++ [V.str "table"])) := by rw [upd_ne (ne_none em4 htp4)]; exact em4
    have et5 : (upd H4 tp4 (.tup [V.ref C1, V.ref C2, V.ref C3, V.ref C4, V.ref C5])) tp4 = some (.tup [V.ref C1, V.ref C2, V.ref C3, V.ref C4, V.ref C5]) := upd_same
    generalize upd H4 tp4 (.tup [V.ref C1, V.ref C2, V.ref C3, V.ref C4, V.ref C5]) = H5 at l5 em5 et5 ⊢
    refine ⟨a, D, d, tp4, [V.ref C1, V.ref C2, V.ref C3, V.ref C4, V.ref C5], _, false, rfl, et5, (.cons (.own _) (.cons (.own _) (.cons (.own _) (.cons (.own _) (.cons (.own _) .nil))))), l5.at e, hd.lv l5, kl.et, (kitAny_cons t1 (fun _ => (kitAny_cons t2 (fun _ => (kitAny_cons t3 (fun _ => (kitAny_cons t4 (fun _ => (kitAny_cons t5 (fun _ => kitAny_nil) (fun z => by cases z))) (fun z => by cases z))) (fun z => by cases z))) (fun z => by cases z))) (fun z => by cases z)), false, rfl, iteF ?_⟩
    refine ⟨_, rfl, (by show 7 ≤ sizeLine; rw [sizeLine_eq]; decide), fun tp5 htp5 => ?_⟩
    have l6 : Lv T H (upd H5 tp5 (.tup [V.ref E1, V.ref E2, V.ref E3, V.ref E4, V.ref E5, V.ref E6, V.ref E7])) := l5.add htp5
    have em6 : (upd H5 tp5 (.tup [V.ref E1, V.ref E2, V.ref E3, V.ref E4, V.ref E5, V.ref E6, V.ref E7])) m = some (.lst ((([] ++ [V.str "any"]) ++ [V.str "step"]) ++ [V.str "table"])) := by rw [upd_ne (ne_none em5 htp5)]; exact em5
    have et6 : (upd H5 tp5 (.tup [V.ref E1, V.ref E2, V.ref E3, V.ref E4, V.ref E5, V.ref E6, V.ref E7])) tp5 = some (.tup [V.ref E1, V.ref E2, V.ref E3, V.ref E4, V.ref E5, V.ref E6, V.ref E7]) := upd_same
    generalize upd H5 tp5 (.tup [V.ref E1, V.ref E2, V.ref E3, V.ref E4, V.ref E5, V.ref E6, V.ref E7]) = H6 at l6 em6 et6 ⊢
    refine ⟨a, D, d, tp5, [V.ref E1, V.ref E2, V.ref E3, V.ref E4, V.ref E5, V.ref E6, V.ref E7], _, false, rfl, et6, (.cons (.own _) (.cons (.own _) (.cons (.own _) (.cons (.own _) (.cons (.own _) (.cons (.own _) (.cons (.own _) .nil))))))), l6.at e, hd.lv l6, kl.et, (kitAny_cons k1 (fun _ => (kitAny_cons k2 (fun _ => (kitAny_cons k3 (fun _ => (kitAny_cons k4 (fun _ => (kitAny_cons k5 (fun _ => (kitAny_cons k6 (fun _ => (kitAny_cons k7 (fun _ => kitAny_nil) (fun z => by cases z))) (fun z => by cases z))) (fun z => by cases z))) (fun z => by cases z))) (fun z => by cases z))) (fun z => by cases z))) (fun z => by cases z)), false, rfl, iteF ?_⟩
    exact ⟨_, rfl, q m _ l6 em6⟩
end
end HM
set_option Elab.async false
set_option linter.all false
set_option maxRecDepth 100000
set_option maxHeartbeats 4000000
namespace HM
open PySem PySem.Spec PyProof.Rows L2
section
variable {P : Program} {w : World} {K : PySem.W.Frag} {mg : Str → Option Value} {base : Heap} {CF CT fI : Addr}
/-! ### _law_at -/
def spAt (T : Tb) (K : PySem.W.Frag) : Sp := fun xs H Q _ => ∃ (a : Addr) (x : Str) (vs : List V) (ps : List Part) (D : Addr → Prop), xs = [.ref a, .str x] ∧ SqL K H a vs ∧ Paired (PartAt K H D) vs ps ∧
  (∀ (i : Nat) p H', ps[i]? = some p → p.1 = x → Lv T H H' → Q (.int i) H') ∧ ((∀ p ∈ ps, p.1 ≠ x) → ∀ H', Lv T H H' → Q (.int (-1)) H')
abbrev NAt : List Str := ["_law_parts_here", "_law_name", "_law_k", "_law_part"]
theorem scAt : FnScope NAt ["_law_parts_here", "_law_name"] (defScope sAt) := ⟨rfl, rfl, rfl, by decide +kernel, rfl, by decide +kernel, by decide +kernel⟩
theorem ok_at (T : Tb) (D : DefAt K mg "_law_at" sAt) (B : Bt mg) : Cl P w K mg base CX0 1 "_law_at" (spAt T K) := by
  have nd := scAt.nd
  refine cl0 D scAt (fun _ _ _ _ _ _ us hl => match us, hl with | [_, _], _ => rfl) (fun vs H Q E h => ?_) fun f cdv A outer s H vs Q E hr h => ?_
  · obtain ⟨a, x, vs, ps, D, rfl, _⟩ := h
    rfl
  obtain ⟨a, x, vs, ps, D, rfl, hL, hP, q1, q2⟩ := h
  refine ⟨_, pss_cons (ps_for PassesOwn.never rfl (pi_enum rfl B.enum (pa_cons (pv 0) pa_nil)) (pg_tup rfl (pgs_cons (pg_name (i := 2) nd rfl (.inl rfl)) (pgs_cons (pg_name (i := 3) nd rfl (.inl rfl)) pgs_nil)))
      (pss_one (ps_if (pt_cmpR op_eq (pe_ix ix_tup (pv 3) pe_int (fun _ _ => rfl)) (pv 1) (nomark _)) (pss_one (ps_ret (pv 2))) pss_nil)))
    (pss_one (ps_ret (pe_un un_neg pe_int))), ?_⟩
  refine ⟨_, rfl, a, vs, rfl, hL, ?_⟩
  refine for_by ps.length (fun i σ H' => ∃ y z, σ = [some (.ref a), some (.str x), y, z] ∧ Lv T H H' ∧ ∀ p ∈ ps.take i, p.1 ≠ x) ⟨none, none, rfl, Lv.refl, fun p hp => by simp at hp⟩ (fun i σ H' hi hP' => ?_) (fun σ H' hP' => ?_) (fun i v σ H' H2 hi hP' hy => ?_) fun σ H' hP' => ?_
  · obtain ⟨y, z, rfl, l, hne⟩ := hP'
    exact ⟨vs, _, l.seq hL, List.getElem?_eq_getElem (by rw [Paired.len hP]; exact hi)⟩
  · obtain ⟨y, z, rfl, l, hne⟩ := hP'
    exact ⟨vs, l.seq hL, by rw [Paired.len hP]; exact Nat.le_refl _⟩
  · obtain ⟨y, z, rfl, l, hne⟩ := hP'
    obtain ⟨t, v, rfl, ht, rfl, hv⟩ := hy
    have hx := hv vs (l.seq hL)
    obtain ⟨p, hp, hPt⟩ := Paired.getL hP hx
    have l2 : Lv T H (upd H' t (.tup [.int (i : Nat), v])) := l.add ht
    obtain ⟨tt, d, e, t1, t2, t3⟩ := l2.part hPt
    subst e
    refine ⟨t, _, rfl, .inl (.inl upd_same), rfl, _, _, rfl, _, _, rfl, rfl, ?_⟩
    refine ⟨_, rfl, tt, _, 0, .str p.1, rfl, rfl, t1, atI_nat (j := 0) rfl, _, rfl, rfl, _, rfl, ?_⟩
    rw [dS]
    by_cases he : p.1 = x
    · rw [decide_eq_true he]
      exact iteT ⟨_, rfl, q1 i p _ hp he l2⟩
    · rw [decide_eq_false he]
      refine iteF ⟨_, _, rfl, l2, fun q hq => ?_⟩
      rw [List.take_add_one, hp] at hq
      rcases List.mem_append.mp hq with hq | hq
      · exact hne q hq
      · rw [show q = p by simpa using hq]
        exact he
  · obtain ⟨y, z, rfl, l, hne⟩ := hP'
    rw [List.take_of_length_le (Nat.le_refl _)] at hne
    exact ⟨1, rfl, q2 hne H' l⟩
/-! ### _law_due -/
def dueL (a k : Int) : List Str := if (a = 0 ∧ 0 ≤ k) ∨ (a = 2 ∧ k = 0) then [("form" : Str)] else if 0 < a ∧ k < 0 then [("step" : Str), ("table" : Str)] else []
def spDue (T : Tb) : Sp := fun xs H Q _ => ∃ (a k : Int), xs = [.int a, .int k] ∧ ∀ p H', Lv T H H' → H' p = some (.lst ((dueL a k).map V.str)) → Q (.ref p) H'
theorem scDue : FnScope ["_law_way", "_law_at_here"] ["_law_way", "_law_at_here"] (defScope sDue) := ⟨rfl, rfl, rfl, by decide +kernel, rfl, by decide +kernel, by decide +kernel⟩
theorem ok_due (T : Tb) (D : DefAt K mg "_law_due" sDue) : Cl P w K mg base CX0 1 "_law_due" (spDue T) := by
  refine cl0 D scDue (fun _ _ _ _ _ _ us hl => match us, hl with | [_, _], _ => rfl) (fun vs H Q E h => ?_) fun f cdv A outer s H vs Q E hr h => ?_
  · obtain ⟨a, k, rfl, _⟩ := h
    rfl
  obtain ⟨a, k, rfl, q⟩ := h
  refine ⟨_, C8.pss_cut (ps_if (PW.pt (pw_or (PW.pt (pw_and (pt_cmpR op_eq (pv 0) pe_int (nomark _)) (pw_and1 (pt_cmpR op_ge (pv 1) pe_int (nomark _))))) (pw_or1 (PW.pt (pw_and (pt_cmpR op_eq (pv 0) pe_int (nomark _)) (pw_and1 (pt_cmpR op_eq (pv 1) pe_int (nomark _))))))))
      (pss_one (ps_ret (pe_lst (pa_cons pe_str pa_nil)))) pss_nil)
    (pss_cons (ps_if (PW.pt (pw_and (pt_cmpR op_gt (pv 0) pe_int (nomark _)) (pw_and1 (pt_cmpR op_lt (pv 1) pe_int (nomark _))))) (pss_one (ps_ret (pe_lst (pa_cons pe_str (pa_cons pe_str pa_nil))))) pss_nil)
    (pss_one (ps_ret (pe_lst pa_nil)))), ?_⟩
  have F1 : ∀ {H1 : Hp}, Lv T H H1 → (a = 0 ∧ 0 ≤ k) ∨ (a = 2 ∧ k = 0) → 1 ≤ sizeLine ∧ ∀ p, H1 p = none → Q (.ref p) (upd H1 p (.lst [.str "form"])) := fun {H1} l h => ⟨one_line, fun p hp => q p _ (l.add hp) (by
    unfold dueL
    rw [if_pos h, upd_same]
    rfl)⟩
  have F2 : ¬ ((a = 0 ∧ 0 ≤ k) ∨ (a = 2 ∧ k = 0)) → 0 < a ∧ k < 0 → 2 ≤ sizeLine ∧ ∀ p, H p = none → Q (.ref p) (upd H p (.lst [.str "step", .str "table"])) := fun h h2 => ⟨two_line, fun p hp => q p _ (Lv.new hp) (by
    unfold dueL
    rw [if_neg h, if_pos h2, upd_same]
    rfl)⟩
  have F3 : ¬ ((a = 0 ∧ 0 ≤ k) ∨ (a = 2 ∧ k = 0)) → ¬ (0 < a ∧ k < 0) → 0 ≤ sizeLine ∧ ∀ p, H p = none → Q (.ref p) (upd H p (.lst [])) := fun h h2 => ⟨Nat.zero_le _, fun p hp => q p _ (Lv.new hp) (by
    unfold dueL
    rw [if_neg h, if_neg h2, upd_same]
    rfl)⟩
  refine ⟨fun σ' H' => σ' = [some (.int a), some (.int k)] ∧ H' = H ∧ ¬ ((a = 0 ∧ 0 ≤ k) ∨ (a = 2 ∧ k = 0)), ?_, ?_⟩
  · refine ⟨_, rfl, rfl, _, rfl, ?_⟩
    rw [dI]
    by_cases h0 : a = 0
    · rw [decide_eq_true h0]
      refine iteT ⟨_, rfl, _, _, rfl, rfl, _, rfl, ?_⟩
      by_cases hk : 0 ≤ k
      · rw [decide_eq_true hk]
        exact iteT (iteT (F1 Lv.refl (.inl ⟨h0, hk⟩)))
      · rw [decide_eq_false hk]
        refine iteF ⟨_, rfl, rfl, _, rfl, ?_⟩
        rw [dI, decide_eq_false (by omega)]
        exact iteF (iteF ⟨rfl, rfl, by omega⟩)
    · rw [decide_eq_false h0]
      refine iteF ⟨_, rfl, rfl, _, rfl, ?_⟩
      rw [dI]
      by_cases h2 : a = 2
      · rw [decide_eq_true h2]
        refine iteT ⟨_, rfl, rfl, _, rfl, ?_⟩
        rw [dI]
        by_cases hk : k = 0
        · rw [decide_eq_true hk]
          exact iteT (F1 Lv.refl (.inr ⟨h2, hk⟩))
        · rw [decide_eq_false hk]
          exact iteF ⟨rfl, rfl, by omega⟩
      · rw [decide_eq_false h2]
        exact iteF (iteF ⟨rfl, rfl, by omega⟩)
  · rintro σ' H' ⟨rfl, rfl, hn⟩
    refine ⟨_, rfl, _, _, rfl, rfl, _, rfl, ?_⟩
    by_cases h3 : 0 < a
    · rw [decide_eq_true h3]
      refine iteT ⟨_, rfl, _, _, rfl, rfl, _, rfl, ?_⟩
      by_cases h4 : k < 0
      · rw [decide_eq_true h4]
        exact iteT (F2 hn ⟨h3, h4⟩)
      · rw [decide_eq_false h4]
        exact iteF (F3 hn (by omega))
    · rw [decide_eq_false h3]
      exact iteF (iteF (F3 hn (by omega)))
/-! ### _law_parts -/
def spParts (T : Tb) (K : PySem.W.Frag) : Sp := fun xs H Q _ => ∃ (a d : Addr) (x sx : Str) (wy k : Int) (vs : List V) (ps : List Part) (D : Addr → Prop), xs = [.ref a, .int wy, .int k, .str x, .str sx, .ref d] ∧ SqL K H a vs ∧ Paired (PartAt K H D) vs ps ∧ ps.length < 1000 ∧
  ((wy = 0 ∧ H a = some (.lst vs) ∧ ∀ r t H', Lv T H H' → H' r = some (.lst (vs ++ [.ref t])) → H' t = some (.tup [.str x, .str sx, .ref d]) → Q (.ref r) H') ∨
   (∃ (i : Nat) (p : Part), k = i ∧ ps[i]? = some p ∧ wy = 1 ∧ ∀ r t H', Lv T H H' → H' r = some (.lst (vs.take i ++ [.ref t] ++ vs.drop (i + 1))) → H' t = some (.tup [.str x, .str p.2.1, .ref d]) → Q (.ref r) H') ∨
   (∃ (i : Nat), k = i ∧ wy = 2 ∧ ∀ r H', Lv T H H' → H' r = some (.lst (vs.take i ++ vs.drop (i + 1))) → Q (.ref r) H'))
abbrev NParts : List Str := ["_law_parts_here", "_law_way", "_law_at_here", "_law_name", "_law_sort", "_law_columns_here"]
theorem scParts : FnScope NParts NParts (defScope sParts) := ⟨rfl, rfl, rfl, by decide +kernel, rfl, by decide +kernel, by decide +kernel⟩
theorem ok_parts (T : Tb) (D : DefAt K mg "_law_parts" sParts) : Cl P w K mg base CX0 1 "_law_parts" (spParts T K) := by
  refine cl0 D scParts (fun _ _ _ _ _ _ us hl => match us, hl with | [_, _, _, _, _, _], _ => rfl) (fun vs H Q E h => ?_) fun f cdv A outer s H vs Q E hr h => ?_
  · obtain ⟨a, d, x, sx, wy, k, vs, ps, D, rfl, _⟩ := h
    rfl
  obtain ⟨a, d, x, sx, wy, k, vs, ps, D, rfl, hL, hP, hlen, q⟩ := h
  refine ⟨_, pss_cons (ps_if (pt_cmpR op_eq (pv 1) pe_int (nomark _)) (pss_one (ps_ret (pe_op op_cat (pv 0) (pe_lst (pa_cons (pe_tup (pa_cons (pv 3) (pa_cons (pv 4) (pa_cons (pv 5) pa_nil)))) pa_nil))))) pss_nil)
    (pss_cons (ps_if (pt_cmpR op_eq (pv 1) pe_int (nomark _)) (pss_one (ps_ret (pe_op op_cat (pe_op op_cat (pe_slice sl_list (pv 0) po_none (po_some (pv 2)))
        (pe_lst (pa_cons (pe_tup (pa_cons (pv 3) (pa_cons (pe_ix ix_tup (pe_ix ix_list (pv 0) (pv 2) (fun _ _ => rfl)) pe_int (fun _ _ => rfl)) (pa_cons (pv 5) pa_nil)))) pa_nil)))
        (pe_slice sl_list (pv 0) (po_some (pe_op op_add (pv 2) pe_int)) po_none)))) pss_nil)
    (pss_one (ps_ret (pe_op op_cat (pe_slice sl_list (pv 0) po_none (po_some (pv 2))) (pe_slice sl_list (pv 0) (po_some (pe_op op_add (pv 2) pe_int)) po_none))))), ?_⟩
  have hvl := Paired.len hP
  have nm : ∀ i : Nat, ((i : Int) + 1) = ((i + 1 : Nat) : Int) := fun i => by omega
  rcases q with ⟨rfl, ha, q⟩ | ⟨i, p, rfl, hp, rfl, q⟩ | ⟨i, rfl, rfl, q⟩
  · refine ⟨_, rfl, rfl, _, rfl, iteT ?_⟩
    refine ⟨_, rfl, _, rfl, _, rfl, _, rfl, by show 3 ≤ sizeLine; rw [sizeLine_eq]; decide, fun t ht => ⟨one_line, fun m hm => ?_⟩⟩
    have a1 : (upd H t (.tup [.str x, .str sx, .ref d])) a = some (.lst vs) := by rw [upd_ne (ne_none ha ht)]; exact ha
    refine ⟨a, m, vs, _, rfl, rfl, by rw [upd_ne (ne_none a1 hm)]; exact a1, upd_same, ?_, fun r hr' => ?_⟩
    · rw [hvl, List.length_singleton, sizeLine_eq]
      omega
    have l : Lv T H (upd (upd (upd H t (.tup [.str x, .str sx, .ref d])) m (.lst [.ref t])) r (.lst (vs ++ [.ref t]))) := ((Lv.new ht).add hm).add hr'
    refine q r t _ l upd_same ?_
    have e1 : (upd H t (.tup [.str x, .str sx, .ref d])) t = some (.tup [.str x, .str sx, .ref d]) := upd_same
    have e2 : (upd (upd H t (.tup [.str x, .str sx, .ref d])) m (.lst [.ref t])) t = some (.tup [.str x, .str sx, .ref d]) := by rw [upd_ne (ne_none e1 hm)]; exact e1
    rw [upd_ne (ne_none e2 hr')]
    exact e2
  · refine ⟨_, rfl, rfl, _, rfl, iteF ⟨_, rfl, rfl, _, rfl, iteT ?_⟩⟩
    refine ⟨_, rfl, _, rfl, _, rfl, a, vs, rfl, hL, fun s1 hs1 => ?_⟩
    rw [cut_to i]
    have l1 : Lv T H (upd H s1 (.lst (vs.take i))) := Lv.new hs1
    have e1 : (upd H s1 (.lst (vs.take i))) s1 = some (.lst (vs.take i)) := upd_same
    generalize upd H s1 (.lst (vs.take i)) = H1 at l1 e1 ⊢
    obtain ⟨v, hv, pt, pd, rfl, t1, t2, t3⟩ := Paired.getR hP hp
    refine ⟨_, rfl, _, rfl, _, rfl, a, vs, _, _, rfl, rfl, l1.seq hL, atI_nat hv, pt, _, 1, .str p.2.1, rfl, rfl, l1.tup t1, atI_nat (j := 1) rfl, _, rfl, by show 3 ≤ sizeLine; rw [sizeLine_eq]; decide, fun t ht => ⟨one_line, fun m hm => ?_⟩⟩
    have l2 : Lv T H1 (upd (upd H1 t (.tup [.str x, .str p.2.1, .ref d])) m (.lst [.ref t])) := (Lv.new ht).add hm
    have e2 : (upd (upd H1 t (.tup [.str x, .str p.2.1, .ref d])) m (.lst [.ref t])) m = some (.lst [.ref t]) := upd_same
    have e3 : (upd (upd H1 t (.tup [.str x, .str p.2.1, .ref d])) m (.lst [.ref t])) t = some (.tup [.str x, .str p.2.1, .ref d]) := by rw [upd_ne (ne_none upd_same hm), upd_same]
    generalize upd (upd H1 t (.tup [.str x, .str p.2.1, .ref d])) m (.lst [.ref t]) = H2 at l2 e2 e3 ⊢
    refine ⟨s1, m, _, _, rfl, rfl, l2.at e1, e2, ?_, fun c1 hc1 => ?_⟩
    · rw [List.length_take, List.length_singleton, sizeLine_eq]
      omega
    have l3 : Lv T H2 (upd H2 c1 (.lst (vs.take i ++ [.ref t]))) := Lv.new hc1
    have e4 : (upd H2 c1 (.lst (vs.take i ++ [.ref t]))) c1 = some (.lst (vs.take i ++ [.ref t])) := upd_same
    generalize upd H2 c1 (.lst (vs.take i ++ [.ref t])) = H3 at l3 e4 ⊢
    have l13 := (l1.trans l2).trans l3
    refine ⟨_, rfl, _, rfl, _, _, rfl, rfl, _, rfl, a, vs, rfl, l13.seq hL, fun s2 hs2 => ?_⟩
    rw [nm, cut_from (i + 1)]
    have l4 : Lv T H3 (upd H3 s2 (.lst (vs.drop (i + 1)))) := Lv.new hs2
    refine ⟨c1, s2, _, _, rfl, rfl, l4.at e4, upd_same, ?_, fun r hr' => ?_⟩
    · rw [List.length_append, List.length_take, List.length_singleton, List.length_drop, sizeLine_eq]
      omega
    have l5 := l4.add (o := .lst (vs.take i ++ [.ref t] ++ vs.drop (i + 1))) hr'
    have lA := l13.trans l5
    exact q r t _ lA upd_same ((l3.trans l5).at e3)
  · refine ⟨_, rfl, rfl, _, rfl, iteF ⟨_, rfl, rfl, _, rfl, iteF ?_⟩⟩
    refine ⟨_, rfl, _, rfl, _, rfl, a, vs, rfl, hL, fun s1 hs1 => ?_⟩
    rw [cut_to i]
    have l1 : Lv T H (upd H s1 (.lst (vs.take i))) := Lv.new hs1
    have e1 : (upd H s1 (.lst (vs.take i))) s1 = some (.lst (vs.take i)) := upd_same
    generalize upd H s1 (.lst (vs.take i)) = H1 at l1 e1 ⊢
    refine ⟨_, rfl, _, rfl, _, _, rfl, rfl, _, rfl, a, vs, rfl, l1.seq hL, fun s2 hs2 => ?_⟩
    rw [nm, cut_from (i + 1)]
    have l4 : Lv T H1 (upd H1 s2 (.lst (vs.drop (i + 1)))) := Lv.new hs2
    refine ⟨s1, s2, _, _, rfl, rfl, l4.at e1, upd_same, ?_, fun r hr' => ?_⟩
    · rw [List.length_take, List.length_drop, sizeLine_eq]
      omega
    have lA := l1.trans (l4.add (o := .lst (vs.take i ++ vs.drop (i + 1))) hr')
    exact q r _ lA upd_same
/-! ### _law_done -/
def spDone (T : Tb) (K : PySem.W.Frag) (CF CT : Addr) : Sp := fun xs H Q E => ∃ (v c : V) (x sx : Str) (wy : Int), xs = [v, .int wy, .str x, .str sx, c] ∧
  ((wy = 0 ∧ spWithTab T K CF [v, .str x, .str sx, c] H Q E) ∨ (wy = 1 ∧ spWithCols T K CF CT [v, .str x, c] H Q E) ∨ (wy = 2 ∧ spWithout T K CF CT [v, .str x] H Q E))
abbrev NDone : List Str := ["_law_form_here", "_law_way", "_law_name", "_law_sort", "_law_columns_here"]
theorem scDone : FnScope NDone NDone (defScope sDone) := ⟨rfl, rfl, rfl, by decide +kernel, rfl, by decide +kernel, by decide +kernel⟩
theorem ok_done (T : Tb) (D : DefAt K mg "_law_done" sDone) (G1 : Cl P w K mg base (L2.CX P w) 6 "with_table" (spWithTab T K CF)) (G2 : Cl P w K mg base (L2.CX P w) 6 "with_columns" (spWithCols T K CF CT)) (G3 : Cl P w K mg base (L2.CX P w) 6 "without_table" (spWithout T K CF CT)) :
    Cl P w K mg base (L2.CX P w) 7 "_law_done" (spDone T K CF CT) := by
  refine clX D scDone (fun _ _ _ _ _ _ us hl => match us, hl with | [_, _, _, _, _], _ => rfl) (fun vs H Q E h => ?_) fun f cdv A outer s H vs Q E hr h => ?_
  · obtain ⟨v, c, x, sx, wy, rfl, _⟩ := h
    rfl
  obtain ⟨v, c, x, sx, wy, rfl, q⟩ := h
  refine ⟨_, pss_cons (ps_if (pt_cmpR op_eq (pv 1) pe_int (nomark _)) (pss_one (ps_ret (pe_clX G1 hr (passes_call (takes_of rfl rfl rfl rfl) fun _ _ _ _ h => h) (pa_cons (pv 0) (pa_cons (pv 2) (pa_cons (pv 3) (pa_cons (pv 4) pa_nil))))))) pss_nil)
    (pss_cons (ps_if (pt_cmpR op_eq (pv 1) pe_int (nomark _)) (pss_one (ps_ret (pe_clX G2 hr (passes_call (takes_of rfl rfl rfl rfl) fun _ _ _ _ h => h) (pa_cons (pv 0) (pa_cons (pv 2) (pa_cons (pv 4) pa_nil)))))) pss_nil)
    (pss_one (ps_ret (pe_clX G3 hr (passes_call (takes_of rfl rfl rfl rfl) fun _ _ _ _ h => h) (pa_cons (pv 0) (pa_cons (pv 2) pa_nil)))))), ?_⟩
  rcases q with ⟨rfl, q⟩ | ⟨rfl, q⟩ | ⟨rfl, q⟩
  · exact ⟨_, rfl, rfl, _, rfl, iteT ⟨_, rfl, _, rfl, _, rfl, _, rfl, q⟩⟩
  · exact ⟨_, rfl, rfl, _, rfl, iteF ⟨_, rfl, rfl, _, rfl, iteT ⟨_, rfl, _, rfl, _, rfl, q⟩⟩⟩
  · exact ⟨_, rfl, rfl, _, rfl, iteF ⟨_, rfl, rfl, _, rfl, iteF ⟨_, rfl, _, rfl, q⟩⟩⟩
end
end HM
set_option Elab.async false
set_option linter.all false
set_option maxRecDepth 100000
set_option maxHeartbeats 4000000
namespace HM
open PySem PySem.Spec PyProof.Rows L2
theorem dp_strs {K : PySem.W.Frag} {H : Hp} {p : Addr} {ws : List Str} (h : H p = some (.lst (ws.map V.str))) : Dp K H (.ref p) (.list (ws.map PyData.str)) := .lst (.inl (.inl h)) (DpAll.strs ws)
section
variable {P : Program} {w : World} {K : PySem.W.Frag} {mg : Str → Option Value} {base : Heap} {CF CT fI : Addr}
/-! ### _law_refused -/
/-- the deed is refused: with NoForm, with NoTable -/
def DoneF (T : Tb) (K : PySem.W.Frag) (CF CT : Addr) (xs : List V) (H : Hp) : Prop := ∀ (Q : VK) (E : XK), (∀ H', Lv T H H' → E (.ref CF) none H') → spDone T K CF CT xs H Q E
def DoneT (T : Tb) (K : PySem.W.Frag) (CF CT : Addr) (x : Str) (xs : List V) (H : Hp) : Prop := ∀ (Q : VK) (E : XK), (∀ d H', NtAt T H d x H' → E (.ref CT) (some d) H') → spDone T K CF CT xs H Q E
def spRefused (T : Tb) (K : PySem.W.Frag) (CF CT : Addr) : Sp := fun vs H Q _ => ∃ (v c : V) (x sx : Str) (wy : Int) (du : Addr), vs = [v, .int wy, .str x, .str sx, c, .ref du] ∧
  ((H du = some (.lst [.str "form"]) ∧ DoneF T K CF CT [v, .int wy, .str x, .str sx, c] H) ∨ (H du = some (.lst [.str "step", .str "table"]) ∧ DoneT T K CF CT x [v, .int wy, .str x, .str sx, c] H)) ∧
  ∀ H', Lv T H H' → Q (.bl true) H'
abbrev NRef : List Str := ["_law_form_here", "_law_way", "_law_name", "_law_sort", "_law_columns_here", "_law_due_here", "_law_caught", "_law_gone", "e"]
theorem scRef : FnScope NRef ["_law_form_here", "_law_way", "_law_name", "_law_sort", "_law_columns_here", "_law_due_here"] (defScope sRefused) := ⟨rfl, rfl, rfl, by decide +kernel, rfl, by decide +kernel, by decide +kernel⟩
theorem ok_refused (T : Tb) (D : DefAt K mg "_law_refused" sRefused) (ex : Ex K mg CF CT fI) (kl : Kl K mg CF CT) (GD : Cl P w K mg base (L2.CX P w) 7 "_law_done" (spDone T K CF CT)) (GW : Cl P w K mg base CX0 1 "_law_words" (spWords T K CF CT)) (GS : Cl P w K mg base CX0 2 "_law_same" (spSame T K 0)) :
    Cl P w K mg base CX0 8 "_law_refused" (spRefused T K CF CT) := by
  have nd := scRef.nd
  obtain ⟨Cte, gte, xF, xT⟩ := kl.xte
  obtain ⟨gnt, nF, nT⟩ := kl.xnt
  refine cl0 D scRef (fun _ _ _ _ _ _ us hl => match us, hl with | [_, _, _, _, _, _], _ => rfl) (fun vs H Q E h => ?_) fun f cdv A outer s H vs Q E hr h => ?_
  · obtain ⟨v, c, x, sx, wy, du, rfl, _⟩ := h
    rfl
  obtain ⟨v, c, x, sx, wy, du, rfl, hcase, q⟩ := h
  refine ⟨_, pss_cons (ps_set (i := 6) nd rfl (.inl rfl) pe_non) (pss_cons (ps_set (i := 7) nd rfl (.inl rfl) pe_non)
    (pss_cons (ps_try_keep rfl rfl rfl nd takes_none5 (fun W pn xe tk po => pss_one (ps_expr (pe_clS GD hr tk (pa_cons (pv 0) (pa_cons (pv 1) (pa_cons (pv 2) (pa_cons (pv 3) (pa_cons (pv 4) pa_nil))))))))
      (.keep (i := 8) rfl rfl ⟨rfl, by decide, .inl gnt⟩ (fun a oe cls d pn hz hf => pss_cons (ps_set (i := 6) nd rfl (.inl rfl) (pv 8)) (pss_one (ps_set (i := 7) nd rfl (.inl rfl) (pv 8))))
        (.keep (i := 8) rfl rfl ⟨rfl, by decide, .inl gte⟩ (fun a oe cls d pn hz hf => pss_one (ps_set (i := 6) nd rfl (.inl rfl) (pv 8))) .nil)))
    (pss_cons (ps_if (pt_cmpR (op_neD hr.units) (pe_cl GW hr (pa_cons (pv 6) pa_nil)) (pe_op op_cat (pe_lst (pa_cons pe_str pa_nil)) (pv 5)) (nomark _)) (pss_one (ps_ret pe_bl)) pss_nil)
    (pss_cons (ps_if (pt_cmp (pc_isN (pv 7))) (pss_one (ps_ret (pe_cmpR (op_eqD hr.units) (pv 5) (pe_lst (pa_cons pe_str pa_nil)) (nomark _)))) pss_nil)
    (pss_one (ps_ret (pe_and (pe_cl GS hr (pa_cons (pe_cf kl.xt ex.f1 (pv 7)) (pa_cons (pv 2) pa_nil))) (pe_and (pe_cmp (pc_isN (pe_cf kl.xt ex.f2 (pv 7)))) (pe_one (pe_cmp (pc_isN (pe_cf kl.xt ex.f3 (pv 7))))))))))))), ?_⟩
  rcases hcase with ⟨hdu, hd⟩ | ⟨hdu, hd⟩
  · refine ⟨_, rfl, _, rfl, _, rfl, _, rfl, _, rfl, hd _ _ fun H1 l1 => ?_⟩
    refine ⟨false, nF, (fun z => by cases z), fun _ => ⟨true, xF, fun _ a ha => ?_, (fun z => by cases z)⟩⟩
    refine ⟨_, rfl, ?_⟩
    have l2 : Lv T H (upd H1 a (Cau a (.ref CF) none)) := l1.add ha
    have e2 : (upd H1 a (Cau a (.ref CF) none)) a = some (Cau a (.ref CF) none) := upd_same
    refine ⟨_, rfl, a, CF, none, _, rfl, e2, (fun dd z => by cases z), .inl ⟨rfl, rfl⟩, fun p H3 l3 e3 => ?_⟩
    have l03 := l2.trans l3
    refine ⟨one_line, fun m hm => ?_⟩
    have l4 : Lv T H3 (upd H3 m (.lst [.str "any"])) := Lv.new hm
    refine ⟨_, rfl, m, du, _, _, rfl, rfl, upd_same, (l03.trans l4).at hdu, two_line, fun r hr' => ?_⟩
    have l5 : Lv T H3 (upd (upd H3 m (.lst [.str "any"])) r (.lst ([.str "any"] ++ [.str "form"]))) := l4.add hr'
    refine ⟨_, _, dp_strs (l5.at e3), dp_strs (ws := ["any", "form"]) upd_same, by decide +kernel, by decide +kernel, _, rfl, ?_⟩
    refine ifF (by decide +kernel) ⟨_, rfl, _, rfl, ifT rfl ?_⟩
    refine ⟨_, rfl, one_line, fun m2 hm2 => ?_⟩
    have l6 := (l03.trans l5).add (o := .lst [.str "form"]) hm2
    refine ⟨_, _, dp_strs (ws := ["form"]) (l6.at hdu), dp_strs (ws := ["form"]) upd_same, by decide +kernel, by decide +kernel, ?_⟩
    have e : PyData.eqv (.list ((["form"] : List Str).map PyData.str)) (.list ((["form"] : List Str).map PyData.str)) = true := by decide +kernel
    rw [e]
    exact q _ l6
  · refine ⟨_, rfl, _, rfl, _, rfl, _, rfl, _, rfl, hd _ _ fun dd H1 h1 => ?_⟩
    obtain ⟨l1, hdd, hnd⟩ := h1
    refine ⟨true, nT, fun _ a ha => ?_, (fun z => by cases z)⟩
    refine ⟨_, rfl, _, rfl, ?_⟩
    have l2' : Lv T H1 (upd H1 a (Cau a (.ref CT) (some dd))) := Lv.new ha
    have l2 := l1.trans l2'
    have e2 : (upd H1 a (Cau a (.ref CT) (some dd))) a = some (Cau a (.ref CT) (some dd)) := upd_same
    have d2 := l2'.at hdd
    refine ⟨_, rfl, a, CT, some dd, _, rfl, e2, (fun x z => by cases z; exact ⟨_, d2⟩), .inr ⟨rfl, rfl⟩, fun p H3 l3 e3 => ?_⟩
    have l03 := l2.trans l3
    refine ⟨one_line, fun m hm => ?_⟩
    have l4 : Lv T H3 (upd H3 m (.lst [.str "any"])) := Lv.new hm
    refine ⟨_, rfl, m, du, _, _, rfl, rfl, upd_same, (l03.trans l4).at hdu, by show 3 ≤ sizeLine; rw [sizeLine_eq]; decide, fun r hr' => ?_⟩
    have l5 : Lv T H3 (upd (upd H3 m (.lst [.str "any"])) r (.lst ([.str "any"] ++ [.str "step", .str "table"]))) := l4.add hr'
    refine ⟨_, _, dp_strs (l5.at e3), dp_strs (ws := ["any", "step", "table"]) upd_same, by decide +kernel, by decide +kernel, _, rfl, ?_⟩
    refine ifF (by decide +kernel) ⟨_, rfl, _, rfl, ifF rfl ?_⟩
    have l35 := l3.trans l5
    refine ⟨_, rfl, a, dd, _, .str x, rfl, l35.at e2, l35.at d2, rfl, _, rfl, .str x, .str x, .str x, rfl, .str x, .str x, rfl, Nat.le_refl _, fun H6 l6 => ?_⟩
    have l36 := l35.trans l6
    refine ⟨true, rfl, iteT ⟨_, rfl, a, dd, _, .non, rfl, l36.at e2, l36.at d2, rfl, _, rfl, ifT rfl ?_⟩⟩
    refine ⟨_, rfl, a, dd, _, .non, rfl, l36.at e2, l36.at d2, rfl, ?_⟩
    exact q _ (l2.trans l36)
end
end HM
set_option Elab.async false
set_option linter.all false
set_option maxRecDepth 100000
set_option maxHeartbeats 4000000
namespace HM
open PySem PySem.Spec PyProof.Rows L2
/-! ### what is no form -/
theorem bad_any {n : Int} {ps : List Part} (h : anyBad [] true ps = true) : formBad n ps = true := by
  unfold formBad
  rw [h, Bool.or_true]
theorem bad_mem {n : Int} {ps : List Part} {p : Part} (hp : p ∈ ps) (h : isNameB p.1 = false ∨ SORTS4.contains p.2.1 = false ∨ colsBad p.2.2 = true) : formBad n ps = true := by
  obtain ⟨pre, post, rfl⟩ := List.append_of_mem hp
  refine bad_any (anyBad_of ?_)
  unfold partBad
  rcases h with h | h | h
  · rw [h]
    simp
  · rw [h]
    simp
  · rw [h]
    simp
theorem bad_last {n : Int} {ps : List Part} {p : Part} (h : p.1 ∈ ps.map (·.1) ∨ (ps ≠ [] ∧ p.2.1 = "head")) : formBad n (ps ++ [p]) = true := by
  refine bad_any (anyBad_of (post := []) ?_)
  unfold partBad
  rcases h with h | ⟨h1, h2⟩
  · rw [List.nil_append, List.contains_iff_mem.mpr h]
    simp
  · have e : ps.isEmpty = false := by
      cases ps with
      | nil => exact absurd rfl h1
      | cons _ _ => rfl
    rw [h2, e, decide_eq_true rfl]
    simp
theorem bad_headless {n : Int} {k : Part} {r : List Part} (h : WF (k :: r)) : formBad n (dropN k.1 (k :: r)) = true := by
  obtain ⟨k', r', e, hk, hr⟩ := h.hd
  injection e with e1 e2
  subst e1 e2
  have hnd := h.nd
  rw [List.map_cons, List.nodup_cons] at hnd
  have e2 : dropN k.1 (k :: r) = r := by
    unfold dropN
    rw [List.filter_cons_of_neg (by simp)]
    refine List.filter_eq_self.mpr fun q hq => decide_eq_true fun z => hnd.1 (z ▸ List.mem_map_of_mem hq)
  rw [e2]
  cases r with
  | nil =>
    unfold formBad
    simp
  | cons q r =>
    refine bad_any ?_
    have h1 := (side_sort (hr q List.mem_cons_self)).2
    show (partBad [] true q || anyBad ([] ++ [q.1]) false r) = true
    unfold partBad
    rw [h1]
    simp
theorem bad_setC {n : Int} {ps : List Part} {x : Str} {cs : Cols} (hx : x ∈ ps.map (·.1)) (h : colsBad cs = true) : formBad n (ps.map (setC x cs)) = true := by
  obtain ⟨q, hq, e⟩ := List.mem_map.mp hx
  refine bad_mem (List.mem_map_of_mem hq) (.inr (.inr ?_))
  unfold setC
  rw [if_pos e]
  exact h
theorem name_space {z : Str} : isNameB (z ++ (" " : Str)) = false := by
  unfold isNameB
  rw [Bool.and_eq_false_iff]
  refine .inr (List.all_eq_false.mpr ⟨32, ?_, by decide +kernel⟩)
  show 32 ∈ tl (z ++ (" " : Str))
  rw [tl_add]
  exact List.mem_append_right _ (by decide +kernel)
theorem then_bad {T : Tb} {K : PySem.W.Frag} {CF : Addr} {n : Int} {ps : List Part} {D : Addr → Prop} {H : Hp} {Q : VK} {E : XK} (h : formBad n ps = true) (e : ∀ H', LvX T D H H' → E (.ref CF) none H') : Then T K CF n ps D H Q E :=
  ⟨fun g => absurd (h.symm.trans g) (by decide), fun _ => e⟩
theorem cok_nil : COk [] := ⟨(fun c hc => by cases hc), List.nodup_nil, by decide⟩
theorem cok_one {z w : Str} (hz : z.length ≤ sizeLine) (hw : PyData.strOk w = true) : COk [(z, .pl (.one w))] :=
  ⟨(fun c hc => by
    rw [List.mem_singleton.mp hc]
    exact ⟨hz, sh_one hw, Nat.zero_le _, .inl ⟨w, rfl⟩⟩), by simp, by show 1 < 64; decide⟩
section
variable {P : Program} {w : World} {K : PySem.W.Frag} {mg : Str → Option Value} {base : Heap} {CF CT fI : Addr}
/-! ### _law_no_table -/
def spNoTable (T : Tb) (K : PySem.W.Frag) : Sp := fun vs H Q _ => ∃ (v : V) (x : Str) (wy n : Int) (qs : List Part), vs = [v, .str x, .int wy] ∧ FormAt K H v n qs ∧ WF qs ∧ qs.length < 900 ∧ LamX.Tabs T H ∧ (∀ q ∈ qs, q.1 ≠ x) ∧ ∀ H', Lv T H H' → Q (.bl true) H'
abbrev NNt : List Str := ["_law_form_here", "_law_name", "_law_way", "_law_caught", "e"]
theorem scNt : FnScope NNt ["_law_form_here", "_law_name", "_law_way"] (defScope sNoTable) := ⟨rfl, rfl, rfl, by decide +kernel, rfl, by decide +kernel, by decide +kernel⟩
theorem ok_no_table (T : Tb) (D : DefAt K mg "_law_no_table" sNoTable) (ex : Ex K mg CF CT fI) (kl : Kl K mg CF CT) (G1 : Cl P w K mg base (L2.CX P w) 4 "sort_of" (spMiss T K CT)) (G2 : Cl P w K mg base (L2.CX P w) 4 "columns_of" (spMiss T K CT))
    (G3 : Cl P w K mg base (L2.CX P w) 6 "with_columns" (spWithCols T K CF CT)) (G4 : Cl P w K mg base (L2.CX P w) 6 "without_table" (spWithout T K CF CT)) (GW : Cl P w K mg base CX0 1 "_law_words" (spWords T K CF CT)) (GS : Cl P w K mg base CX0 2 "_law_same" (spSame T K 0)) :
    Cl P w K mg base CX0 7 "_law_no_table" (spNoTable T K) := by
  have nd := scNt.nd
  obtain ⟨Cte, gte, xF, xT⟩ := kl.xte
  obtain ⟨gnt, nF, nT⟩ := kl.xnt
  refine cl0 D scNt (fun _ _ _ _ _ _ us hl => match us, hl with | [_, _, _], _ => rfl) (fun vs H Q E h => ?_) fun f cdv A outer s H vs Q E hr h => ?_
  · obtain ⟨v, x, wy, n, qs, rfl, _⟩ := h
    rfl
  obtain ⟨v, x, wy, n, qs, rfl, hF, hWF, hlen, hTH, hne, q⟩ := h
  refine ⟨_, pss_cons (ps_set (i := 3) nd rfl (.inl rfl) pe_non)
    (C8.pss_cut (ps_try_keep rfl rfl rfl nd takes_none5 (fun W pn xe tk po => pss_one (ps_if (pt_cmpR op_eq (pv 2) pe_int (nomark _)) (pss_one (ps_expr (pe_clS G1 hr tk (pa_cons (pv 0) (pa_cons (pv 1) pa_nil)))))
        (pss_one (ps_if (pt_cmpR op_eq (pv 2) pe_int (nomark _)) (pss_one (ps_expr (pe_clS G2 hr tk (pa_cons (pv 0) (pa_cons (pv 1) pa_nil)))))
          (pss_one (ps_if (pt_cmpR op_eq (pv 2) pe_int (nomark _)) (pss_one (ps_expr (pe_clS G3 hr tk (pa_cons (pv 0) (pa_cons (pv 1) (pa_cons (pe_disp (pps_cons pe_str pe_non pps_nil) rfl rfl (by simp) (by decide)) pa_nil))))))
            (pss_one (ps_expr (pe_clS G4 hr tk (pa_cons (pv 0) (pa_cons (pv 1) pa_nil)))))))))))
      (.keep (i := 4) rfl rfl ⟨rfl, by decide, .inl gnt⟩ (fun a oe cls d pn hz hf => pss_one (ps_set (i := 3) nd rfl (.inl rfl) (pv 4)))
        (.plain ⟨rfl, by decide, .inl gte⟩ (fun a oe cls d pn hz hf => pss_one (ps_ret pe_bl)) .nil)))
    (pss_cons (ps_if (PW.pt (pw_or (pt_cmp (pc_isN (pv 3))) (pw_or1 (pt_cmpR (op_neD hr.units) (pe_cl GW hr (pa_cons (pv 3) pa_nil)) (pe_lst (pa_cons pe_str (pa_cons pe_str (pa_cons pe_str pa_nil)))) (nomark _))))) (pss_one (ps_ret pe_bl)) pss_nil)
    (pss_one (ps_ret (pe_and (pe_cl GS hr (pa_cons (pe_cf kl.xt ex.f1 (pv 3)) (pa_cons (pv 1) pa_nil))) (pe_and (pe_cmp (pc_isN (pe_cf kl.xt ex.f2 (pv 3)))) (pe_one (pe_cmp (pc_isN (pe_cf kl.xt ex.f3 (pv 3))))))))))), ?_⟩
  refine ⟨fun σ' H' => ∃ a dd, σ' = [some v, some (.str x), some (.int wy), some (.ref a), none] ∧ Lv T H H' ∧ H' a = some (Cau a (.ref CT) (some dd)) ∧ H' dd = some (.xd (ntFields x)), ?_, ?_⟩
  · refine ⟨_, rfl, rfl, _, rfl, ?_⟩
    rw [dI]
    by_cases h0 : wy = 0
    · rw [decide_eq_true h0]
      refine iteT ⟨_, rfl, _, rfl, v, x, n, qs, rfl, hF, hne, fun dd H1 h1 => ⟨true, nT, fun _ a ha => ⟨_, rfl, a, dd, rfl, h1.1.add ha, upd_same, ?_⟩, (fun z => by cases z)⟩⟩
      rw [upd_ne (ne_none h1.2.1 ha)]
      exact h1.2.1
    rw [decide_eq_false h0]
    refine iteF ⟨_, rfl, rfl, _, rfl, ?_⟩
    rw [dI]
    by_cases h1 : wy = 1
    · rw [decide_eq_true h1]
      refine iteT ⟨_, rfl, _, rfl, v, x, n, qs, rfl, hF, hne, fun dd H1 h1 => ⟨true, nT, fun _ a ha => ⟨_, rfl, a, dd, rfl, h1.1.add ha, upd_same, ?_⟩, (fun z => by cases z)⟩⟩
      rw [upd_ne (ne_none h1.2.1 ha)]
      exact h1.2.1
    rw [decide_eq_false h1]
    refine iteF ⟨_, rfl, rfl, _, rfl, ?_⟩
    rw [dI]
    by_cases h2 : wy = 2
    · rw [decide_eq_true h2]
      refine iteT ⟨_, rfl, _, rfl, fun p hp => ⟨upd_same, [(Sum.inr "Bad", .non)], rfl, by show 1 ≤ 15; decide, ?_⟩⟩
      have l1 : Lv T H (upd (upd H p (.dK [])) p (.dK (mergeK [] [(Sum.inr "Bad", V.non)]))) := (Lv.new hp).putN (.of hp) upd_same True.intro
      refine ⟨v, _, x, n, qs, rfl, l1.form hF, hWF, hlen, l1.tab hTH, fun _ dd H1 h1 => ⟨true, nT, fun _ a ha => ⟨_, rfl, a, dd, rfl, (l1.trans h1.1).add ha, upd_same, ?_⟩, (fun z => by cases z)⟩, fun ⟨q0, hq0, e0⟩ => absurd e0 (hne q0 hq0)⟩
      rw [upd_ne (ne_none h1.2.1 ha)]
      exact h1.2.1
    rw [decide_eq_false h2]
    refine iteF ⟨_, rfl, _, rfl, v, x, n, qs, rfl, hF, hWF, hlen, hTH, fun _ dd H1 h1 => ⟨true, nT, fun _ a ha => ⟨_, rfl, a, dd, rfl, h1.1.add ha, upd_same, ?_⟩, (fun z => by cases z)⟩, fun ⟨q0, hq0, e0⟩ => absurd e0 (hne q0 hq0)⟩
    rw [upd_ne (ne_none h1.2.1 ha)]
    exact h1.2.1
  · rintro σ' H1 ⟨a, dd, rfl, l1, e1, e2⟩
    refine ⟨_, rfl, _, rfl, ifF rfl ?_⟩
    refine ⟨_, rfl, a, CT, some dd, _, rfl, e1, (fun x z => by cases z; exact ⟨_, e2⟩), .inr ⟨rfl, rfl⟩, fun p H3 l3 e3 => ?_⟩
    refine ⟨by show 3 ≤ sizeLine; rw [sizeLine_eq]; decide, fun m hm => ?_⟩
    have l4 : Lv T H3 (upd H3 m (.lst [.str "any", .str "step", .str "table"])) := Lv.new hm
    refine ⟨_, _, dp_strs (l4.at e3), dp_strs (ws := ["any", "step", "table"]) upd_same, by decide +kernel, by decide +kernel, _, rfl, ?_⟩
    refine ifF (by decide +kernel) ?_
    have l14 := l3.trans l4
    refine ⟨_, rfl, a, dd, _, .str x, rfl, l14.at e1, l14.at e2, rfl, _, rfl, .str x, .str x, .str x, rfl, .str x, .str x, rfl, Nat.le_refl _, fun H6 l6 => ?_⟩
    have l16 := l14.trans l6
    refine ⟨true, rfl, iteT ⟨_, rfl, a, dd, _, .non, rfl, l16.at e1, l16.at e2, rfl, _, rfl, ifT rfl ?_⟩⟩
    refine ⟨_, rfl, a, dd, _, .non, rfl, l16.at e1, l16.at e2, rfl, ?_⟩
    exact q _ (l1.trans l16)
/-! ### _law_no_form -/
def spNoForm (T : Tb) (K : PySem.W.Frag) : Sp := fun vs H Q _ => ∃ (v : V) (th fr : Str) (wy n : Int) (qs : List Part), vs = [v, .str th, .str fr, .int wy] ∧ FormAt K H v n qs ∧ WF qs ∧ qs.length < 900 ∧ LamX.Tabs T H ∧ th ∈ qs.map (·.1) ∧ isNameB fr = true ∧ ∀ H', Lv T H H' → Q (.bl true) H'
abbrev NNf : List Str := ["_law_form_here", "_law_there", "_law_fresh", "_law_way", "_law_caught", "e"]
theorem scNf : FnScope NNf ["_law_form_here", "_law_there", "_law_fresh", "_law_way"] (defScope sNoForm) := ⟨rfl, rfl, rfl, by decide +kernel, rfl, by decide +kernel, by decide +kernel⟩
theorem ok_no_form (T : Tb) (D : DefAt K mg "_law_no_form" sNoForm) (kl : Kl K mg CF CT) (G1 : Cl P w K mg base (L2.CX P w) 6 "with_table" (spWithTab T K CF))
    (G3 : Cl P w K mg base (L2.CX P w) 6 "with_columns" (spWithCols T K CF CT)) (G4 : Cl P w K mg base (L2.CX P w) 6 "without_table" (spWithout T K CF CT)) (GW : Cl P w K mg base CX0 1 "_law_words" (spWords T K CF CT)) :
    Cl P w K mg base CX0 7 "_law_no_form" (spNoForm T K) := by
  have nd := scNf.nd
  obtain ⟨Cte, gte, xF, xT⟩ := kl.xte
  refine cl0 D scNf (fun _ _ _ _ _ _ us hl => match us, hl with | [_, _, _, _], _ => rfl) (fun vs H Q E h => ?_) fun f cdv A outer s H vs Q E hr h => ?_
  · obtain ⟨v, th, fr, wy, n, qs, rfl, _⟩ := h
    rfl
  obtain ⟨v, th, fr, wy, n, qs, rfl, hF, hWF, hlen, hTH, hth, hfr, q⟩ := h
  refine ⟨_, pss_cons (ps_set (i := 4) nd rfl (.inl rfl) pe_non)
    (C8.pss_cut (ps_try_keep rfl rfl rfl nd takes_none5 (fun W pn xe tk po => pss_one (ps_if (pt_cmpR op_eq (pv 3) pe_int (nomark _)) (pss_one (ps_expr (pe_clS G1 hr tk (pa_cons (pv 0) (pa_cons (pv 1) (pa_cons pe_str (pa_cons pe_dnewK pa_nil)))))))
        (pss_one (ps_if (pt_cmpR op_eq (pv 3) pe_int (nomark _)) (pss_one (ps_expr (pe_clS G1 hr tk (pa_cons (pv 0) (pa_cons (pv 2) (pa_cons pe_str (pa_cons pe_dnewK pa_nil)))))))
          (pss_one (ps_if (pt_cmpR op_eq (pv 3) pe_int (nomark _)) (pss_one (ps_expr (pe_clS G4 hr tk (pa_cons (pv 0) (pa_cons (pe_ix (ix_tupB (K0 := K) rfl) (pe_ix (ix_tupB (K0 := K) rfl) (pe_ix (ix_tupB (K0 := K) rfl) (pv 0) pe_int (fun _ _ => rfl)) pe_int (fun _ _ => rfl)) pe_int (fun _ _ => rfl)) pa_nil)))))
            (pss_one (ps_if (pt_cmpR op_eq (pv 3) pe_int (nomark _)) (pss_one (ps_expr (pe_clS G3 hr tk (pa_cons (pv 0) (pa_cons (pv 1) (pa_cons (pe_disp (pps_cons pe_str (pe_tup (pa_cons pe_str pa_nil)) pps_nil) rfl rfl (by simp) (by decide)) pa_nil))))))
              (pss_one (ps_if (pt_cmpR op_eq (pv 3) pe_int (nomark _)) (pss_one (ps_expr (pe_clS G3 hr tk (pa_cons (pv 0) (pa_cons (pv 1) (pa_cons (pe_disp (pps_cons pe_str (pe_tup (pa_cons pe_str pa_nil)) pps_nil) rfl rfl (by simp) (by decide)) pa_nil))))))
                (pss_one (ps_if (pt_cmpR op_eq (pv 3) pe_int (nomark _)) (pss_one (ps_expr (pe_clS G1 hr tk (pa_cons (pv 0) (pa_cons (pe_op op_add_str (pv 2) pe_str) (pa_cons pe_str (pa_cons pe_dnewK pa_nil)))))))
                  (pss_one (ps_expr (pe_clS G1 hr tk (pa_cons (pv 0) (pa_cons (pv 2) (pa_cons pe_str (pa_cons pe_dnewK pa_nil)))))))))))))))))))
      (.keep (i := 5) rfl rfl ⟨rfl, by decide, .inl gte⟩ (fun a oe cls d pn hz hf => pss_one (ps_set (i := 4) nd rfl (.inl rfl) (pv 5))) .nil))
    (pss_one (ps_ret (pe_cmpR (op_eqD hr.units) (pe_cl GW hr (pa_cons (pv 4) pa_nil)) (pe_lst (pa_cons pe_str (pa_cons pe_str pa_nil))) (nomark _))))), ?_⟩
  refine ⟨fun σ' H' => ∃ a, σ' = [some v, some (.str th), some (.str fr), some (.int wy), some (.ref a), none] ∧ Lv T H H' ∧ H' a = some (Cau a (.ref CF) none), ?_, ?_⟩
  · have hthl : th.length ≤ sizeLine := by
      obtain ⟨q0, hq0, e0⟩ := List.mem_map.mp hth
      rw [← e0]
      exact name_line (hWF.ok q0 hq0).1
    have hthx : ∃ q ∈ qs, q.1 = th := by
      obtain ⟨q0, hq0, e0⟩ := List.mem_map.mp hth
      exact ⟨q0, hq0, e0⟩
    have hqs : qs ≠ [] := fun z => by
      obtain ⟨q0, hq0, _⟩ := hthx
      rw [z] at hq0
      cases hq0
    refine ⟨_, rfl, rfl, _, rfl, ?_⟩
    rw [dI]
    by_cases h0 : wy = 0
    · rw [decide_eq_true h0]
      refine iteT ⟨_, rfl, _, rfl, fun p hp => ?_⟩
      have l1 : Lv T H (upd H p (.dK [])) := Lv.new hp
      exact ⟨v, p, th, "many", n, qs, [], fun _ => False, rfl, l1.form hF, hWF, hlen, l1.tab hTH, ⟨[], upd_same, .nil⟩, (fun z => by cases z), cok_nil, hthl, then_bad (bad_last (.inl hth)) fun H2 l2 =>
        ⟨true, xF, fun _ a ha => ⟨_, rfl, a, rfl, (l1.new_of l2 (fun d hd => hd.elim)).add ha, upd_same⟩, (fun z => by cases z)⟩⟩
    rw [decide_eq_false h0]
    refine iteF ⟨_, rfl, rfl, _, rfl, ?_⟩
    rw [dI]
    by_cases h1 : wy = 1
    · rw [decide_eq_true h1]
      refine iteT ⟨_, rfl, _, rfl, fun p hp => ?_⟩
      have l1 : Lv T H (upd H p (.dK [])) := Lv.new hp
      exact ⟨v, p, fr, "head", n, qs, [], fun _ => False, rfl, l1.form hF, hWF, hlen, l1.tab hTH, ⟨[], upd_same, .nil⟩, (fun z => by cases z), cok_nil, name_line hfr, then_bad (bad_last (.inr ⟨hqs, rfl⟩)) fun H2 l2 =>
        ⟨true, xF, fun _ a ha => ⟨_, rfl, a, rfl, (l1.new_of l2 (fun d hd => hd.elim)).add ha, upd_same⟩, (fun z => by cases z)⟩⟩
    rw [decide_eq_false h1]
    refine iteF ⟨_, rfl, rfl, _, rfl, ?_⟩
    rw [dI]
    by_cases h2 : wy = 2
    · rw [decide_eq_true h2]
      obtain ⟨k, r, rfl, hk, hr2⟩ := hWF.hd
      obtain ⟨fa, ra, xs, ev, f1, f2, f3⟩ := id hF
      obtain ⟨u, hu, ut, uc, rfl, u1, u2⟩ := Paired.getR (i := 0) f3 rfl
      refine iteT ⟨_, rfl, _, rfl, fa, _, 1, .ref ra, ev, rfl, f1, atI_nat (j := 1) rfl, ra, _, 0, _, rfl, rfl, f2, atI_nat (j := 0) hu, ut, _, 0, .str k.1, rfl, rfl, u1, atI_nat (j := 0) rfl, ?_⟩
      exact ⟨v, k.1, n, k :: r, rfl, hF, hWF, hlen, hTH, fun hne => absurd rfl (hne k List.mem_cons_self), fun _ => then_bad (bad_headless hWF) fun H2 l2 =>
        ⟨true, xF, fun _ a ha => ⟨_, rfl, a, rfl, ((Lv.refl (T := T)).new_of l2 (fun d hd => hd.elim)).add ha, upd_same⟩, (fun z => by cases z)⟩⟩
    rw [decide_eq_false h2]
    refine iteF ⟨_, rfl, rfl, _, rfl, ?_⟩
    rw [dI]
    have dict1 : ∀ (z w0 : Str) (hz : z.length ≤ sizeLine) (hw : PyData.strOk w0 = true) (hb : colsBad [(z, .pl (.one w0))] = true) (p t : Addr) (hp : H p = none) (ht : (upd H p (.dK [])) t = none) (Q1 : VK) (E1 : XK) (hE : ∀ H', Lv T H H' → E1 (.ref CF) none H'),
        spWithCols T K CF CT [v, .str th, .ref p] (upd (upd (upd H p (.dK [])) t (.tup [.str w0])) p (.dK (mergeK [] [(Sum.inr z, V.ref t)]))) Q1 E1 := fun z w0 hz hw hb p t hp ht Q1 E1 hE => by
      have l1 : Lv T H (upd (upd H p (.dK [])) t (.tup [.str w0])) := (Lv.new hp).add ht
      have htp : t ≠ p := fun e => by
        rw [e, upd_same] at ht
        cases ht
      have ep : (upd (upd H p (.dK [])) t (.tup [.str w0])) p = some (.dK []) := by rw [upd_ne (Ne.symm htp), upd_same]
      have et : (upd (upd H p (.dK [])) t (.tup [.str w0])) t = some (.tup [.str w0]) := upd_same
      have l2 : Lv T H (upd (upd (upd H p (.dK [])) t (.tup [.str w0])) p (.dK (mergeK [] [(Sum.inr z, V.ref t)]))) := l1.putN (.of hp) ep True.intro
      refine ⟨v, _, th, n, qs, rfl, l2.form hF, hWF, hlen, l2.tab hTH, fun hne => ?_, fun _ => ⟨p, [(z, .pl (.one w0))], fun b => b = p, rfl, ⟨[(Sum.inr z, V.ref t)], upd_same, .cons ⟨rfl, .tup (.inl (.inl ?_)) (.cons (.str _) .nil)⟩ .nil⟩, fun _ => rfl, cok_one hz hw, then_bad (bad_setC hth hb) fun H2 lx => hE H2 (l2.new_of lx fun d hd => ?_)⟩⟩
      · obtain ⟨q0, hq0, e0⟩ := hthx
        exact absurd e0 (hne q0 hq0)
      · rw [upd_ne htp]
        exact et
      · rw [hd]
        exact hp
    by_cases h3 : wy = 3
    · rw [decide_eq_true h3]
      refine iteT ⟨_, rfl, _, rfl, fun p hp => ⟨one_line, fun t ht => ?_⟩⟩
      have htp : p ≠ t := fun e => by
        rw [← e, upd_same] at ht
        cases ht
      refine ⟨by rw [upd_ne htp, upd_same], [(Sum.inr "", .ref t)], rfl, by show 1 ≤ 15; decide, ?_⟩
      exact dict1 "" "word" (Nat.zero_le _) (by decide +kernel) (by decide +kernel) p t hp ht _ _ fun H2 l2 =>
        ⟨true, xF, fun _ a ha => ⟨_, rfl, a, rfl, l2.add ha, upd_same⟩, (fun z => by cases z)⟩
    rw [decide_eq_false h3]
    refine iteF ⟨_, rfl, rfl, _, rfl, ?_⟩
    rw [dI]
    by_cases h4 : wy = 4
    · rw [decide_eq_true h4]
      refine iteT ⟨_, rfl, _, rfl, fun p hp => ⟨one_line, fun t ht => ?_⟩⟩
      have htp : p ≠ t := fun e => by
        rw [← e, upd_same] at ht
        cases ht
      refine ⟨by rw [upd_ne htp, upd_same], [(Sum.inr "a", .ref t)], rfl, by show 1 ≤ 15; decide, ?_⟩
      exact dict1 "a" "words" one_line (by decide +kernel) (by decide +kernel) p t hp ht _ _ fun H2 l2 =>
        ⟨true, xF, fun _ a ha => ⟨_, rfl, a, rfl, l2.add ha, upd_same⟩, (fun z => by cases z)⟩
    rw [decide_eq_false h4]
    refine iteF ⟨_, rfl, rfl, _, rfl, ?_⟩
    rw [dI]
    by_cases h5 : wy = 5
    · rw [decide_eq_true h5]
      have hl : fr.length + (" " : Str).length ≤ sizeLine := by
        have h1 := name_len hfr
        have h2 : (" " : Str).length = 1 := by decide +kernel
        rw [h2, sizeLine_eq]
        omega
      refine iteT ⟨_, rfl, _, rfl, fr, _, rfl, rfl, hl, fun p hp => ?_⟩
      have l1 : Lv T H (upd H p (.dK [])) := Lv.new hp
      refine ⟨v, p, fr ++ (" " : Str), "many", n, qs, [], fun _ => False, rfl, l1.form hF, hWF, hlen, l1.tab hTH, ⟨[], upd_same, .nil⟩, (fun z => by cases z), cok_nil, ?_, then_bad (bad_mem (List.mem_append_right _ List.mem_cons_self) (.inl name_space)) fun H2 l2 =>
        ⟨true, xF, fun _ a ha => ⟨_, rfl, a, rfl, (l1.new_of l2 (fun d hd => hd.elim)).add ha, upd_same⟩, (fun z => by cases z)⟩⟩
      have e : (fr ++ (" " : Str)).length = fr.length + (" " : Str).length := by rw [len_tl, tl_add, List.length_append, len_tl, len_tl]
      rw [e]
      exact hl
    rw [decide_eq_false h5]
    refine iteF ⟨_, rfl, _, rfl, fun p hp => ?_⟩
    have l1 : Lv T H (upd H p (.dK [])) := Lv.new hp
    exact ⟨v, p, fr, "lots", n, qs, [], fun _ => False, rfl, l1.form hF, hWF, hlen, l1.tab hTH, ⟨[], upd_same, .nil⟩, (fun z => by cases z), cok_nil, name_line hfr, then_bad (bad_mem (List.mem_append_right _ List.mem_cons_self) (.inr (.inl (show SORTS4.contains ("lots" : Str) = false by decide +kernel)))) fun H2 l2 =>
      ⟨true, xF, fun _ a ha => ⟨_, rfl, a, rfl, (l1.new_of l2 (fun d hd => hd.elim)).add ha, upd_same⟩, (fun z => by cases z)⟩⟩
  · rintro σ' H1 ⟨a, rfl, l1, e1⟩
    refine ⟨_, rfl, a, CF, none, _, rfl, e1, (fun x z => by cases z), .inl ⟨rfl, rfl⟩, fun p H3 l3 e3 => ?_⟩
    refine ⟨two_line, fun m hm => ?_⟩
    have l4 : Lv T H3 (upd H3 m (.lst [.str "any", .str "form"])) := Lv.new hm
    refine ⟨_, _, dp_strs (l4.at e3), dp_strs (ws := ["any", "form"]) upd_same, by decide +kernel, by decide +kernel, ?_⟩
    have e : PyData.eqv (.list ((["any", "form"] : List Str).map PyData.str)) (.list ((["any", "form"] : List Str).map PyData.str)) = true := by decide +kernel
    rw [e]
    exact q _ ((l1.trans l3).trans l4)
end
end HM
set_option Elab.async false
set_option linter.all false
set_option maxRecDepth 100000
set_option maxHeartbeats 4000000
namespace HM
open PySem PySem.Spec PyProof.Rows L2
section
variable {X : Cx} {K0 : PySem.W.Frag}
theorem op_notIn_seqB (hK : X.K = K0) : OpR X (compareOp .NotIn) (rIn K0 true) := by
  subst hK
  exact op_notIn_seq
end
theorem filt_t {th : List Str} {z : Str} (h : th.contains z = true) : ([z].filter fun z => !th.contains z) = [] := by simp only [List.filter, h, Bool.not_true]
theorem filt_f {th : List Str} {z : Str} (h : th.contains z = false) : ([z].filter fun z => !th.contains z) = [z] := by simp only [List.filter, h, Bool.not_false]
theorem flat_strs : ∀ xs : List Str, (xs.map V.str).all flatV = true
  | [] => rfl
  | x :: r => flat_strs r
section
variable {P : Program} {w : World} {K : PySem.W.Frag} {mg : Str → Option Value} {base : Heap} {CF CT fI : Addr}
/-! ### _law_other_refusals -/
def spOther (T : Tb) (K : PySem.W.Frag) : Sp := fun vs H Q _ => ∃ (v : V) (nm : Addr) (c n : Int) (qs : List Part) (zs : List Str), vs = [v, .ref nm, .int c] ∧ FormAt K H v n qs ∧ WF qs ∧ qs.length < 900 ∧ LamX.Tabs T H ∧ H nm = some (.lst (zs.map V.str)) ∧ (∀ z ∈ zs, isNameB z = true) ∧ zs.length ≤ 8 ∧ ∀ H', Lv T H H' → Q (.bl true) H'
abbrev NOther : List Str := ["_law_form_here", "_law_names_here", "_law_cell_here", "_law_there", "_law_fresh", "_law_way", "_law_part", "_law_name"]
theorem scOther : FnScope NOther ["_law_form_here", "_law_names_here", "_law_cell_here"] (defScope sOther) := ⟨rfl, rfl, rfl, by decide +kernel, rfl, by decide +kernel, by decide +kernel⟩
theorem ok_other (T : Tb) (D : DefAt K mg "_law_other_refusals" sOther) (GT : Cl P w K mg base CX0 7 "_law_no_table" (spNoTable T K)) (GF : Cl P w K mg base CX0 7 "_law_no_form" (spNoForm T K)) (B : Bt mg) : Cl P w K mg base CX0 8 "_law_other_refusals" (spOther T K) := by
  have nd := scOther.nd
  refine cl0 D scOther (fun _ _ _ _ _ _ us hl => match us, hl with | [_, _, _], _ => rfl) (fun vs H Q E h => ?_) fun f cdv A outer s H vs Q E hr h => ?_
  · obtain ⟨v, nm, c, n, qs, zs, rfl, _⟩ := h
    rfl
  obtain ⟨v, nm, c, n, qs, zs, rfl, hF, hWF, hlen, hTH, hnm, hzn, hzl, q⟩ := h
  refine ⟨_, pss_cons (ps_set (i := 3) nd rfl (.inr rfl) (pe_lc (own := [("_law_part", 6)]) rfl nd (pi_tup (pe_ix ix_tup (pv 0) pe_int (fun _ _ => rfl))) (blk_of (N := NOther) (sc := defScope sOther) rfl (by decide +kernel)) (fun s H C cl fp => pg_name (i := 6) nd rfl (.inl rfl)) (fun s H C cl fp => pts_nil)
      (fun s H C cl fp => pe_ix (ix_tupB (K0 := K) rfl) (pv 6) pe_int (fun _ _ => rfl))))
    (pss_cons (ps_setLc (i := 4) (own := [("_law_name", 7)]) rfl nd rfl rfl rfl (pi_list (pv 1)) (blk_of (N := NOther) (sc := defScope sOther) rfl (by decide +kernel)) (fun s H C cl fp => pg_name (i := 7) nd rfl (.inl rfl))
      (fun s H C cl fp => pts_one (pt_cmpR (op_notIn_seqB (K0 := K) rfl) (pv 7) (pv 3) (by rfl))) (fun s H C cl fp => pv 7))
    (pss_cons (ps_if (pt_cmpR (op_eqD hr.units) (pv 4) (pe_lst pa_nil) (nomark _)) (pss_one (ps_ret pe_bl)) pss_nil)
    (pss_cons (ps_for PassesOwn.never rfl (pi_range1 rfl B.range (pa_cons pe_int pa_nil)) (pg_name (i := 5) nd rfl (.inl rfl))
      (pss_one (ps_if (pt_not (pt_val (pe_cl GT hr (pa_cons (pv 0) (pa_cons (pe_ix ix_list (pv 4) pe_int (fun _ _ => rfl)) (pa_cons (pv 5) pa_nil)))))) (pss_one (ps_ret pe_bl)) pss_nil)))
    (pss_cons (ps_for PassesOwn.never rfl (pi_range1 rfl B.range (pa_cons pe_int pa_nil)) (pg_name (i := 5) nd rfl (.inl rfl))
      (pss_one (ps_if (pt_not (pt_val (pe_cl GF hr (pa_cons (pv 0) (pa_cons (pe_ix ix_list (pv 3) (pe_op op_mod (pv 2) (pe_callB call_len_seq (by rfl) B.len PySem.boot_len (pa_cons (pv 3) pa_nil))) (fun _ _ => rfl)) (pa_cons (pe_ix ix_list (pv 4) pe_int (fun _ _ => rfl)) (pa_cons (pv 5) pa_nil))))))) (pss_one (ps_ret pe_bl)) pss_nil)))
    (pss_one (ps_ret pe_bl)))))), ?_⟩
  obtain ⟨a, r, xs, ev, f1, f2, f3⟩ := id hF
  refine ⟨_, rfl, a, _, 1, .ref r, ev, rfl, f1, atI_nat (j := 1) rfl, r, rfl, ⟨xs, f2⟩, fun L hL => ?_⟩
  refine lc_by xs.length (fun i H' => H' L = some (.lst (((qs.take i).map (·.1)).map V.str)) ∧ Lv T H H') ⟨upd_same, Lv.new hL⟩ (fun i H' hi hP => ?_) (fun H' hP => ?_) (fun i y H' H2 hi hP hy => ?_) fun H1 hP => ?_
  · obtain ⟨e1, l1⟩ := hP
    exact ⟨xs, _, l1.tup f2, List.getElem?_eq_getElem hi⟩
  · obtain ⟨e1, l1⟩ := hP
    exact ⟨xs, l1.tup f2, Nat.le_refl _⟩
  · obtain ⟨e1, l1⟩ := hP
    obtain ⟨rfl, hy⟩ := hy
    have hx := hy xs (l1.tup f2)
    obtain ⟨p, hp, hT⟩ := Paired.getL f3 hx
    obtain ⟨t, c, e, t1, t2⟩ := id hT
    subst e
    refine ⟨rfl, yesT (iteT ⟨_, rfl, t, _, 0, .str p.1, rfl, rfl, l1.tup t1, atI_nat (j := 0) rfl, _, e1, ?_, ?_, ?_⟩)⟩
    · rw [List.length_map, List.length_map, List.length_take, sizeLine_eq]
      omega
    · rw [upd_same, List.take_add_one, hp, List.map_append, List.map_append]
      rfl
    · exact l1.putN (.of hL) e1 True.intro
  obtain ⟨e1, l1⟩ := hP
  rw [Paired.len f3, List.take_of_length_le (Nat.le_refl _)] at e1
  generalize hth : qs.map (·.1) = th at e1
  have hnm1 := l1.at hnm
  refine ⟨_, rfl, nm, rfl, ⟨_, .inl (.inl hnm1)⟩, fun M hM => ?_⟩
  have hnmM := ne_none hnm1 hM
  have hLM := ne_none e1 hM
  refine lc_by zs.length (fun i H' => H' M = some (.lst (((zs.take i).filter fun z => !th.contains z).map V.str)) ∧ H' L = some (.lst (th.map V.str)) ∧ H' nm = some (.lst (zs.map V.str)) ∧ Lv T H H') ⟨upd_same, by rw [upd_ne hLM]; exact e1, by rw [upd_ne hnmM]; exact hnm1, l1.add hM⟩
    (fun i H' hi hP => ?_) (fun H' hP => ?_) (fun i y H' H2 hi hP hy => ?_) fun H2 hP => ?_
  · obtain ⟨k1, k2, k3, k4⟩ := hP
    exact ⟨_, _, .inl (.inl k3), List.getElem?_eq_getElem (by rw [List.length_map]; exact hi)⟩
  · obtain ⟨k1, k2, k3, k4⟩ := hP
    exact ⟨_, .inl (.inl k3), by rw [List.length_map]; exact Nat.le_refl _⟩
  · obtain ⟨k1, k2, k3, k4⟩ := hP
    obtain ⟨rfl, hy⟩ := hy
    have hx := hy _ (.inl (.inl k3))
    have hzi : zs[i]? = some (zs[i]) := List.getElem?_eq_getElem hi
    generalize zs[i] = z at hzi
    rw [List.getElem?_map, hzi] at hx
    obtain rfl : V.str z = y := Option.some.inj hx
    have etk : zs.take (i + 1) = zs.take i ++ [z] := by rw [List.take_add_one, hzi]; rfl
    refine ⟨rfl, _, rfl, _, rfl, L, _, rfl, .inl (.inl (.inl k2)), rfl, flat_strs th, _, rfl, ?_⟩
    rw [inV_strs]
    cases hc : th.contains z with
    | true =>
      refine iteF ⟨?_, k2, k3, k4⟩
      rw [etk, List.filter_append, filt_t hc, List.append_nil]
      exact k1
    | false =>
      refine iteT ⟨_, rfl, _, k1, ?_, ?_, ?_, ?_, k4.putN (l1.nw (.of hM)) k1 True.intro⟩
      · have := List.length_filter_le (fun z => !th.contains z) (zs.take i)
        rw [List.length_take] at this
        rw [List.length_map, sizeLine_eq]
        omega
      · rw [upd_same, etk, List.filter_append, filt_f hc, List.map_append]
        rfl
      · rw [upd_ne hLM]
        exact k2
      · rw [upd_ne hnmM]
        exact k3
  obtain ⟨k1, k2, k3, k4⟩ := hP
  rw [List.take_of_length_le (Nat.le_refl _)] at k1
  have hfm : ∀ z ∈ zs.filter fun z => !th.contains z, z ∈ zs ∧ z ∉ th := fun z hz => by
    obtain ⟨h1, h2⟩ := List.mem_filter.mp hz
    refine ⟨h1, fun hm => ?_⟩
    rw [List.contains_iff_mem.mpr hm] at h2
    cases h2
  generalize (zs.filter fun z => !th.contains z) = fr at k1 hfm
  refine ⟨_, rfl, by show 0 ≤ sizeLine; exact Nat.zero_le _, fun m hm => ?_⟩
  have l3 : Lv T H2 (upd H2 m (.lst [])) := Lv.new hm
  have lA := k4.trans l3
  have kM := l3.at k1
  have kL := l3.at k2
  have em : (upd H2 m (.lst [])) m = some (.lst (([] : List Str).map V.str)) := upd_same
  generalize upd H2 m (.lst []) = H3 at l3 lA kM kL em ⊢
  have sh : ∀ l : List Str, (∀ z ∈ l, isNameB z = true) → SeqAt.shaped (.list (l.map PyData.str)) = true := fun l hl => by
    have e1 : PyData.canLayAll0 (l.map PyData.str) = true := by
      induction l with
      | nil => rfl
      | cons z l ih =>
        have hz : PyData.strOk z = true := by
          have h1 := hl z List.mem_cons_self
          unfold isNameB at h1
          rw [Bool.and_eq_true, List.all_eq_true] at h1
          show z.cps.all (· < 0x110000) = true
          rw [Array.all_eq_true_iff_forall_mem]
          intro c hc
          have h2 := of_decide_eq_true (h1.2 c (Array.mem_toList_iff.mpr hc))
          have h3 : ∀ c ∈ LET.cps.toList, c < 0x110000 := by decide +kernel
          exact decide_eq_true (h3 c h2)
        show (PyData.strOk z && PyData.canLayAll0 (l.map PyData.str)) = true
        rw [hz, ih fun y hy => hl y (List.mem_cons_of_mem _ hy)]
        rfl
    have e2 : PyData.depthAll (l.map PyData.str) ≤ 0 := depth_all fun z _ => Nat.le_refl _
    have e3 : PyData.depth (.list (l.map PyData.str)) ≤ 64 := by
      show PyData.depthAll (l.map PyData.str) + 1 ≤ 64
      omega
    unfold SeqAt.shaped
    rw [show PyData.canLay0 (.list (l.map PyData.str)) = true from e1, decide_eq_true e3]
    rfl
  refine ⟨_, _, dp_strs kM, dp_strs em, sh fr fun z hz => hzn z (hfm z hz).1, by decide +kernel, _, rfl, ?_⟩
  cases fr with
  | nil => exact ifT (by decide +kernel) (q _ lA)
  | cons z0 fr =>
    have hz0 := hfm z0 List.mem_cons_self
    have hzb := hzn z0 hz0.1
    have hne0 : ∀ q ∈ qs, q.1 ≠ z0 := fun q0 hq0 e0 => hz0.2 (by
      rw [← hth, ← e0]
      exact List.mem_map_of_mem hq0)
    refine ifF rfl ⟨4, rfl, by decide, by decide, ?_⟩
    refine for_by 4 (fun i σ H' => ∃ y, σ = [some v, some (.ref nm), some (.int c), some (.ref L), some (.ref M), y, none, none] ∧ Lv T H H' ∧ H' L = some (.lst (th.map V.str)) ∧ H' M = some (.lst ((z0 :: fr).map V.str))) ⟨none, rfl, lA, kL, kM⟩
      (fun i σ H' hi hP => hi) (fun σ H' hP => Nat.le_refl _) (fun i x σ H' H4 hi hP hy => ?_) fun σ H4 hP => ?_
    · obtain ⟨y, rfl, lB, eL, eM⟩ := hP
      obtain ⟨rfl, rfl⟩ := hy
      refine ⟨_, rfl, _, rfl, M, _, 0, .str z0, rfl, rfl, .inl (.inl eM), atI_nat (j := 0) rfl, _, rfl, v, z0, _, n, qs, rfl, lB.form hF, hWF, hlen, lB.tab hTH, hne0, fun H5 l5 => ⟨_, rfl, iteF ⟨_, rfl, lB.trans l5, l5.at eL, l5.at eM⟩⟩⟩
    · obtain ⟨y, rfl, lB, eL, eM⟩ := hP
      refine ⟨7, rfl, by decide, by decide, ?_⟩
      refine for_by 7 (fun i σ H' => ∃ y, σ = [some v, some (.ref nm), some (.int c), some (.ref L), some (.ref M), y, none, none] ∧ Lv T H H' ∧ H' L = some (.lst (th.map V.str)) ∧ H' M = some (.lst ((z0 :: fr).map V.str))) ⟨_, rfl, lB, eL, eM⟩
        (fun i σ H' hi hP => hi) (fun σ H' hP => Nat.le_refl _) (fun i x σ H' H5 hi hP hy => ?_) fun σ H5 hP => ?_
      · obtain ⟨y, rfl, lB, eL, eM⟩ := hP
        obtain ⟨rfl, rfl⟩ := hy
        have hthl : 0 < th.length := by
          obtain ⟨k, r, rfl, _⟩ := hWF.hd
          rw [← hth]
          exact Nat.succ_pos _
        have hpos : (0 : Int) < ((th.map V.str).length : Nat) := by
          rw [List.length_map]
          omega
        have h1 := Int.emod_nonneg c (show (((th.map V.str).length : Nat) : Int) ≠ 0 by omega)
        have h2 := Int.emod_lt_of_pos c hpos
        obtain ⟨j, ej⟩ : ∃ j : Nat, c % ((th.map V.str).length : Nat) = (j : Int) := ⟨_, (Int.toNat_of_nonneg h1).symm⟩
        have hj : j < th.length := by
          rw [List.length_map] at h2 ej
          omega
        have ez : (th.map V.str)[j]? = some (V.str th[j]) := by rw [List.getElem?_map, List.getElem?_eq_getElem hj]; rfl
        refine ⟨_, rfl, _, rfl, _, rfl, _, rfl, L, _, rfl, .inl (.inl (.inl eL)), _, _, rfl, rfl, hpos, L, _, _, .str th[j], rfl, rfl, .inl (.inl eL), by rw [ej]; exact atI_nat ez, _, rfl, M, _, 0, .str z0, rfl, rfl, .inl (.inl eM), atI_nat (j := 0) rfl, _, rfl, v, th[j], z0, _, n, qs, rfl, lB.form hF, hWF, hlen, lB.tab hTH, ?_, hzb, fun H6 l6 => ⟨_, rfl, iteF ⟨_, rfl, lB.trans l6, l6.at eL, l6.at eM⟩⟩⟩
        rw [hth]
        exact List.getElem_mem hj
      · obtain ⟨y, rfl, lB, eL, eM⟩ := hP
        exact q _ lB
end
end HM
set_option Elab.async false
set_option linter.all false
set_option maxRecDepth 100000
set_option maxHeartbeats 4000000
namespace HM
open PySem PySem.Spec PyProof.Rows L2
abbrev rDictD : List V → Hp → VK → Prop := fun xs H Q => ∃ (a : Addr) (kvs : List (Key × V)), xs = [.ref a] ∧ Rd H a (.dK kvs) ∧ ∀ p, H p = none → Q (.ref p) (upd H p (.dK kvs))
theorem WF.rev {k : Part} {r : List Part} (h : WF (k :: r)) : WF (k :: r.reverse) := by
  obtain ⟨k', r', e, hk, hr⟩ := h.hd
  injection e with e1 e2
  subst e1 e2
  refine ⟨⟨k, r.reverse, rfl, hk, fun p hp => hr p (List.mem_reverse.mp hp)⟩, fun p hp => h.ok p ?_, ?_⟩
  · rcases List.mem_cons.mp hp with rfl | hp
    · exact List.mem_cons_self
    · exact List.mem_cons_of_mem _ (List.mem_reverse.mp hp)
  · exact ((((List.reverse_perm r).cons k).map (·.1)).nodup_iff).mpr h.nd
section
variable {P : Program} {w : World} {K : PySem.W.Frag} {mg : Str → Option Value} {base : Heap} {CF CT fI : Addr}
/-! ### _law_same_at_once -/
def spOnce (T : Tb) (K : PySem.W.Frag) : Sp := fun vs H Q _ => ∃ (v : V) (a : Addr) (n : Int) (ps : List Part) (ws : List V), vs = [.int n, v, .ref a] ∧ FormAt K H v n (nrm ps) ∧ WF ps ∧ ps.length < 900 ∧ 1 ≤ n ∧ SqL K H a ws ∧ Paired (PartAt K H fun _ => False) ws ps ∧ LamX.Tabs T H ∧ ∀ H', Lv T H H' → Q (.bl true) H'
abbrev NOnce : List Str := ["_law_size", "_law_form_here", "_law_parts_here", "_law_turned", "_law_head", "_law_name", "_law_sort", "_law_columns_here"]
theorem scOnce : FnScope NOnce ["_law_size", "_law_form_here", "_law_parts_here"] (defScope sAtOnce) := ⟨rfl, rfl, rfl, by decide +kernel, rfl, by decide +kernel, by decide +kernel⟩
theorem ok_once (T : Tb) (D : DefAt K mg "_law_same_at_once" sAtOnce) (GF : Cl P w K mg base (L2.CX P w) 5 "form_of" (spFormOf T K CF)) (GT : Cl P w K mg base CX0 1 "tables_of" (spTablesOf T K)) (GL : Cl P w K mg base CX0 2 "_law_form" (spLForm T K)) (GS : Cl P w K mg base CX0 9 "_law_same" (spSame T K 7)) (B : Bt mg) :
    Cl P w K mg base CX0 10 "_law_same_at_once" (spOnce T K) := by
  have nd := scOnce.nd
  refine cl0 D scOnce (fun _ _ _ _ _ _ us hl => match us, hl with | [_, _, _], _ => rfl) (fun vs H Q E h => ?_) fun f cdv A outer s H vs Q E hr h => ?_
  · obtain ⟨v, a, n, ps, ws, rfl, _⟩ := h
    rfl
  obtain ⟨v, a, n, ps, ws, rfl, hF, hWF, hlen, hn, hL, hP, hTH, q⟩ := h
  refine ⟨_, pss_cons (ps_setLc (i := 3) (own := [("_law_name", 5), ("_law_sort", 6), ("_law_columns_here", 7)]) rfl nd rfl rfl rfl (RT.pi_revA rfl B.rev (pe_slice sl_list (pv 2) (po_some pe_int) po_none)) (blk_of (N := NOnce) (sc := defScope sAtOnce) rfl (by decide +kernel))
      (fun s H C cl fp => pg_tupB (K0 := K) (n := 3) rfl rfl (pgs_cons (pg_name (i := 5) nd rfl (.inl rfl)) (pgs_cons (pg_name (i := 6) nd rfl (.inl rfl)) (pgs_cons (pg_name (i := 7) nd rfl (.inl rfl)) pgs_nil)))) (fun s H C cl fp => pts_nil)
      (fun s H C cl fp => pe_tup (pa_cons (pv 5) (pa_cons (pv 6) (pa_cons (pe_callTy (T := "dict") (r := rDictD) call_dictD rfl B.dict (by decide +kernel) (pa_cons (pv 7) pa_nil)) pa_nil)))))
    (pss_cons (ps_set (i := 4) nd rfl (.inl rfl) (pe_tup (pa_cons (pe_ix ix_tup (pe_ix ix_list (pv 2) pe_int (fun _ _ => rfl)) pe_int (fun _ _ => rfl)) (pa_cons pe_str (pa_cons (pe_callTy (T := "dict") (r := rDictD) call_dictD rfl B.dict (by decide +kernel) (pa_cons (pe_ix ix_tup (pe_ix ix_list (pv 2) pe_int (fun _ _ => rfl)) pe_int (fun _ _ => rfl)) pa_nil)) pa_nil)))))
    (pss_cons (ps_if (PW.pt (pw_or (pt_not (pt_val (pe_cl GS hr (pa_cons (pe_clX (E := fun _ _ _ => False) GF hr (passes_call takes_none5 fun _ _ _ _ h => h) (pa_cons (pv 0) (pa_cons (pe_op op_cat (pe_lst (pa_cons (pv 4) pa_nil)) (pv 3)) pa_nil))) (pa_cons (pv 1) pa_nil)))))
        (pw_or1 (pt_cmpR op_ne (pe_callB call_len_seq (by rfl) B.len PySem.boot_len (pa_cons (pe_cl GT hr (pa_cons (pv 1) pa_nil)) pa_nil)) (pe_callB call_len_seq (by rfl) B.len PySem.boot_len (pa_cons (pv 2) pa_nil)) (nomark _))))) (pss_one (ps_ret pe_bl)) pss_nil)
    (pss_one (ps_ret (pe_cl GS hr (pa_cons (pv 1) (pa_cons (pe_cl GL hr (pa_cons (pv 0) (pa_cons (pv 2) pa_nil))) pa_nil))))))), ?_⟩
  obtain ⟨k, r, rfl, hk, hr2⟩ := hWF.hd
  cases hP with
  | @cons w0 _ wr _ hw0 hwr =>
    refine ⟨_, rfl, 1, rfl, a, _, rfl, hL, fun s1 hs1 => ?_⟩
    rw [show cutV (w0 :: wr) (some 1) none = (w0 :: wr).drop 1 from cut_from 1]
    have e1 : (upd H s1 (.lst (List.drop 1 (w0 :: wr)))) s1 = some (.lst wr) := upd_same
    have l1 : Lv T H (upd H s1 (.lst (List.drop 1 (w0 :: wr)))) := Lv.new hs1
    refine ⟨s1, wr, rfl, .inl ⟨.inl (.inl e1), ?_⟩⟩
    generalize upd H s1 (.lst (List.drop 1 (w0 :: wr))) = H1 at e1 l1 ⊢
    intro M hM
    have hs1M := ne_none e1 hM
    refine lc_by wr.length (fun i H' => ∃ us, H' M = some (.lst us) ∧ H' s1 = some (.lst wr) ∧ Paired (PartAt K H' fun _ => False) us (r.reverse.take i) ∧ Lv T H H') ⟨[], upd_same, by rw [upd_ne hs1M]; exact e1, .nil, l1.add hM⟩
      (fun i H' hi hPv => ?_) (fun H' hPv => ?_) (fun i y H' H2 hi hPv hy => ?_) fun H2 hPv => ?_
    · obtain ⟨us, k1, k2, k3, k4⟩ := hPv
      exact ⟨hi, wr, _, .inl (.inl k2), List.getElem?_eq_getElem (by omega)⟩
    · exact Nat.le_refl _
    · obtain ⟨us, k1, k2, k3, k4⟩ := hPv
      obtain ⟨rfl, hy⟩ := hy
      have hx := hy wr (.inl (.inl k2))
      have hrl := Paired.len hwr
      obtain ⟨p, hp, hPt⟩ := Paired.getL hwr hx
      have hrev : r.reverse[i]? = some p := by
        rw [List.getElem?_reverse (by omega), ← hrl]
        exact hp
      obtain ⟨t, d, e, t1, t2, t3⟩ := k4.part hPt
      subst e
      obtain ⟨kvs, d1, d2⟩ := t2
      refine ⟨t, _, rfl, t1, rfl, _, _, rfl, _, _, rfl, _, _, rfl, rfl, rfl, yesT (iteT ?_)⟩
      refine ⟨_, rfl, _, rfl, _, rfl, d, kvs, rfl, .inl d1, fun dd hdd => ⟨by show 3 ≤ sizeLine; rw [sizeLine_eq]; decide, fun t' ht' => ?_⟩⟩
      have kM := ne_none k1 hdd
      have m2 : (upd H2 dd (.dK kvs)) M = some (.lst us) := by rw [upd_ne kM]; exact k1
      have kM' := ne_none m2 ht'
      have m3 : (upd (upd H2 dd (.dK kvs)) t' (.tup [.str p.1, .str p.2.1, .ref dd])) M = some (.lst us) := by rw [upd_ne kM']; exact m2
      have kq : Kq H2 (upd (upd (upd H2 dd (.dK kvs)) t' (.tup [.str p.1, .str p.2.1, .ref dd])) M (.lst (us ++ [.ref t']))) := ((Kq.new hdd).trans (Kq.new ht')).trans (Kq.upd m3 (fun z => z))
      have n1 : (upd H2 dd (.dK kvs)) s1 = some (.lst wr) := by rw [upd_ne (ne_none k2 hdd)]; exact k2
      refine ⟨us, m3, ?_, us ++ [.ref t'], upd_same, ?_, ?_, ((k4.add hdd).add ht').putN (l1.nw (.of hM)) m3 True.intro⟩
      · rw [Paired.len k3, List.length_take, List.length_reverse, sizeLine_eq]
        simp only [List.length_cons] at hlen
        omega
      · rw [upd_ne hs1M, upd_ne (ne_none n1 ht')]
        exact n1
      · refine paired_snoc (Paired.imp (fun v q z => kq.part z) k3) hrev ⟨t', dd, rfl, .inl (.inl ?_), ⟨kvs, ?_, Paired.imp (fun a b z => ⟨z.1, kq.kt.kd z.2⟩) d2⟩, t3⟩
        · rw [upd_ne (Ne.symm kM'), upd_same]
        · rw [upd_ne (Ne.symm kM), upd_ne (ne_none upd_same ht'), upd_same]
    · obtain ⟨us, k1, k2, k3, k4⟩ := hPv
      rw [List.take_of_length_le (by rw [List.length_reverse, Paired.len hwr]; exact Nat.le_refl _)] at k3
      obtain ⟨t, d, e, t1, t2, t3⟩ := k4.part hw0
      subst e
      obtain ⟨kvs, d1, d2⟩ := t2
      have hL2 := k4.seq hL
      refine ⟨_, rfl, a, _, 0, .ref t, rfl, rfl, hL2, atI_nat (j := 0) rfl, t, _, 0, .str k.1, rfl, rfl, t1, atI_nat (j := 0) rfl, _, rfl, a, _, 0, .ref t, rfl, rfl, hL2, atI_nat (j := 0) rfl, t, _, 2, .ref d, rfl, rfl, t1, atI_nat (j := 2) rfl, d, kvs, rfl, .inl d1, fun dd hdd =>
        ⟨by show 3 ≤ sizeLine; rw [sizeLine_eq]; decide, fun t' ht' => ?_⟩⟩
      have l3 : Lv T H2 (upd (upd H2 dd (.dK kvs)) t' (.tup [.str k.1, .str "head", .ref dd])) := (Lv.new hdd).add ht'
      have et : (upd (upd H2 dd (.dK kvs)) t' (.tup [.str k.1, .str "head", .ref dd])) t' = some (.tup [.str k.1, .str "head", .ref dd]) := upd_same
      have ed : (upd (upd H2 dd (.dK kvs)) t' (.tup [.str k.1, .str "head", .ref dd])) dd = some (.dK kvs) := by rw [upd_ne (ne_none upd_same ht'), upd_same]
      generalize upd (upd H2 dd (.dK kvs)) t' (.tup [.str k.1, .str "head", .ref dd]) = H3 at l3 et ed ⊢
      refine ⟨_, rfl, _, rfl, one_line, fun m hm => ?_⟩
      have em3 := l3.at k1
      refine ⟨_, rfl, m, M, _, _, rfl, rfl, upd_same, by rw [upd_ne (ne_none em3 hm)]; exact em3, ?_, fun b hb => ?_⟩
      · rw [Paired.len k3, List.length_reverse, List.length_singleton, sizeLine_eq]
        simp only [List.length_cons] at hlen
        omega
      have l5 : Lv T H3 (upd (upd H3 m (.lst [.ref t'])) b (.lst ([.ref t'] ++ us))) := (Lv.new hm).add hb
      have l25 := l3.trans l5
      have l05 := k4.trans l25
      have hpart : PartAt K (upd (upd H3 m (.lst [.ref t'])) b (.lst ([.ref t'] ++ us))) (fun _ => False) (.ref t') k := by
        refine ⟨t', dd, rfl, .inl (.inl ?_), ⟨kvs, l5.at ed, Paired.imp (fun a b z => ⟨z.1, l25.dp z.2⟩) d2⟩, t3⟩
        rw [hk]
        exact l5.at et
      have hall : Paired (PartAt K (upd (upd H3 m (.lst [.ref t'])) b (.lst ([.ref t'] ++ us))) fun _ => False) ([.ref t'] ++ us) (k :: r.reverse) := .cons hpart (Paired.imp (fun v p z => l25.part z) k3)
      have hWr := hWF.rev
      refine ⟨b, n, _, _, _, rfl, .inl (.inl upd_same), hall, hWr.rok, ?_, l05.tab hTH, fun _ v2 H6 l6 hF2 => ?_, fun hb => ?_⟩
      · simp only [List.length_cons, List.length_reverse] at hlen ⊢
        omega
      · have hnd := hWF.nd
        rw [List.map_cons, List.nodup_cons] at hnd
        rw [nrm_reverse hnd.2] at hF2
        have l06 := l05.trans l6
        refine ⟨_, rfl, v2, v, formD n (nrm (k :: r)), rfl, hF2.dp, (l06.form hF).dp, leafy_form _ _, depth_form _ _, fun H7 l7 => ?_⟩
        have l07 := l06.trans l7
        refine ⟨true, rfl, iteF ⟨_, rfl, v, n, _, rfl, l07.form hF, by rw [nrm_length]; exact Nat.lt_trans hlen (by decide), fun p H8 l8 e8 => ?_⟩⟩
        have l08 := l07.trans l8
        refine ⟨p, _, rfl, .inl (.inl (.inl e8)), _, rfl, a, _, rfl, .inl (l08.seq hL), rfl, _, rfl, ?_⟩
        rw [dI]
        have elen : ((((nrm (k :: r)).map (·.1)).map V.str).length : Int) = (((V.ref t :: wr).length : Nat) : Int) := by
          rw [List.length_map, List.length_map, nrm_length, List.length_cons, List.length_cons, Paired.len hwr]
        rw [decide_eq_true elen]
        refine iteF ⟨_, rfl, _, rfl, _, rfl, a, n, _, k :: r, _, rfl, l08.seq hL, .cons (l08.part hw0) (Paired.imp (fun v p z => l08.part z) hwr), fun p hp => ⟨(hWF.ok p hp).2.nd, (hWF.rok p hp).len⟩, Nat.lt_trans hlen (by decide), l08.tab hTH, fun v3 H9 l9 hF3 => ?_⟩
        have l09 := l08.trans l9
        exact ⟨v, v3, formD n (nrm (k :: r)), rfl, (l09.form hF).dp, hF3.dp, leafy_form _ _, depth_form _ _, fun H10 l10 => q _ (l09.trans l10)⟩
      · rw [hWr.good hn] at hb
        cases hb
end
end HM
set_option Elab.async false
set_option linter.all false
set_option maxRecDepth 100000
set_option maxHeartbeats 4000000
namespace HM
open PySem PySem.Spec PyProof.Rows L2
/-! ### the parts by deeds -/
theorem split_at {α : Type} {ps : List α} {i : Nat} {p : α} (h : ps[i]? = some p) : ps = ps.take i ++ p :: ps.drop (i + 1) := by
  obtain ⟨hi, e⟩ := List.getElem?_eq_some_iff.mp h
  rw [← e, List.getElem_cons_drop, List.take_append_drop]
theorem apart {pre post : List Part} {p : Part} (nd : ((pre ++ p :: post).map (·.1)).Nodup) : (∀ q ∈ pre, q.1 ≠ p.1) ∧ ∀ q ∈ post, q.1 ≠ p.1 := by
  rw [List.map_append, List.map_cons, List.nodup_append, List.nodup_cons] at nd
  obtain ⟨h1, ⟨h2, h3⟩, h4⟩ := nd
  exact ⟨fun q hq e => h4 q.1 (List.mem_map_of_mem hq) p.1 List.mem_cons_self e, fun q hq e => h2 (e ▸ List.mem_map_of_mem hq)⟩
theorem setC_out {x : Str} {cs : Cols} : ∀ {l : List Part}, (∀ q ∈ l, q.1 ≠ x) → l.map (setC x cs) = l
  | [], _ => rfl
  | q :: l, h => by
    rw [List.map_cons, setC_out fun y hy => h y (List.mem_cons_of_mem _ hy)]
    have e : setC x cs q = q := if_neg (h q List.mem_cons_self)
    rw [e]
theorem dropN_out {x : Str} {l : List Part} (h : ∀ q ∈ l, q.1 ≠ x) : dropN x l = l := List.filter_eq_self.mpr fun q hq => decide_eq_true (h q hq)
theorem setC_split {ps : List Part} {i : Nat} {p : Part} {x : Str} {cs : Cols} (nd : (ps.map (·.1)).Nodup) (h : ps[i]? = some p) (hx : p.1 = x) : ps.map (setC x cs) = ps.take i ++ [(x, p.2.1, cs)] ++ ps.drop (i + 1) := by
  have e := split_at h
  rw [e] at nd
  obtain ⟨h1, h2⟩ := apart nd
  rw [hx] at h1 h2
  have e2 : setC x cs p = (x, p.2.1, cs) := by
    unfold setC
    rw [if_pos hx, hx]
  have e3 : ps.map (setC x cs) = (ps.take i ++ p :: ps.drop (i + 1)).map (setC x cs) := congrArg _ e
  rw [e3, List.map_append, List.map_cons, setC_out h1, setC_out h2, e2, List.append_assoc]
  rfl
theorem dropN_split {ps : List Part} {i : Nat} {p : Part} {x : Str} (nd : (ps.map (·.1)).Nodup) (h : ps[i]? = some p) (hx : p.1 = x) : dropN x ps = ps.take i ++ ps.drop (i + 1) := by
  have e := split_at h
  rw [e] at nd
  obtain ⟨h1, h2⟩ := apart nd
  rw [hx] at h1 h2
  have e3 : dropN x ps = dropN x (ps.take i ++ p :: ps.drop (i + 1)) := congrArg _ e
  have e4 : dropN x (p :: ps.drop (i + 1)) = dropN x (ps.drop (i + 1)) := by
    unfold dropN
    exact List.filter_cons_of_neg (p := fun q : Part => decide (q.1 ≠ x)) (by simp [hx])
  rw [e3]
  have e5 : dropN x (ps.take i ++ p :: ps.drop (i + 1)) = dropN x (ps.take i) ++ dropN x (p :: ps.drop (i + 1)) := List.filter_append ..
  rw [e5, e4, dropN_out h1, dropN_out h2]
theorem ColsOk.cok {cs : Cols} (h : ColsOk cs) : COk cs := ⟨fun c hc => ⟨name_line (h.all c hc).1, (h.all c hc).2.2⟩, h.nd, Nat.lt_of_le_of_lt h.len (by decide)⟩
/-! ### the deeds -/
structure Dn (T : Tb) (K : PySem.W.Frag) (H : Hp) (v : V) (n : Int) (ps : List Part) (x : Str) (cs : Cols) (d : Addr) : Prop where
  f : FormAt K H v n (nrm ps)
  wf : WF ps
  len : ps.length < 800
  n1 : 1 ≤ n
  tb : LamX.Tabs T H
  c : ColsAt K H d cs
  ok : ColsOk cs
  nm : isNameB x = true
section
variable {T : Tb} {K : PySem.W.Frag} {H : Hp} {v : V} {n : Int} {ps : List Part} {x sx : Str} {cs : Cols} {d CF CT : Addr}
theorem nrm_mem : x ∈ (nrm ps).map (·.1) ↔ x ∈ ps.map (·.1) := (nrm_names_perm ps).mem_iff
theorem nrm_no (h : ∀ p ∈ ps, p.1 ≠ x) : ∀ q ∈ nrm ps, q.1 ≠ x := fun q hq e => by
  have h1 : x ∈ (nrm ps).map (·.1) := e ▸ List.mem_map_of_mem hq
  obtain ⟨p, hp, e2⟩ := List.mem_map.mp (nrm_mem.mp h1)
  exact h p hp e2
theorem nrm_yes {p : Part} (hp : p ∈ ps) (hx : p.1 = x) : ∃ q ∈ nrm ps, q.1 = x := by
  have h1 : x ∈ (nrm ps).map (·.1) := nrm_mem.mpr (hx ▸ List.mem_map_of_mem hp)
  obtain ⟨q, hq, e⟩ := List.mem_map.mp h1
  exact ⟨q, hq, e⟩
theorem Dn.nlen (h : Dn T K H v n ps x cs d) : (nrm ps).length < 900 := by
  rw [nrm_length]
  exact Nat.lt_trans h.len (by decide)
theorem dA (h : Dn T K H v n ps x cs d) (hx : x ∈ ps.map (·.1)) : DoneF T K CF CT [v, .int 0, .str x, .str sx, .ref d] H := fun Q E e =>
  ⟨v, .ref d, x, sx, 0, rfl, .inl ⟨rfl, v, d, x, sx, n, nrm ps, cs, fun _ => False, rfl, h.f, h.wf.nrm, h.nlen, h.tb, h.c, (fun z => by rw [h.ok.good] at z; cases z), h.ok.cok, name_line h.nm,
    then_bad (bad_last (.inl (nrm_mem.mpr hx))) fun H' lx => e H' (Lv.refl.new_of lx fun b hb => hb.elim)⟩⟩
theorem dE {k : Part} {r : List Part} (h : Dn T K H v n (k :: r) x cs d) (hx : k.1 = x) : DoneF T K CF CT [v, .int 2, .str x, .str sx, .ref d] H := fun Q E e => by
  refine ⟨v, .ref d, x, sx, 2, rfl, .inr (.inr ⟨rfl, v, x, n, nrm (k :: r), rfl, h.f, h.wf.nrm, h.nlen, h.tb, fun hne => ?_, fun _ => ?_⟩)⟩
  · obtain ⟨q, hq, eq⟩ := nrm_yes (ps := k :: r) List.mem_cons_self hx
    exact absurd eq (hne q hq)
  · have h1 := h.wf.nrm
    rw [nrm_cons] at h1 ⊢
    have h2 := bad_headless (n := n) h1
    have h3 : (nc k).1 = x := hx
    rw [h3] at h2
    exact then_bad h2 fun H' lx => e H' (Lv.refl.new_of lx fun b hb => hb.elim)
theorem dD (h : Dn T K H v n ps x cs d) (hx : ∀ p ∈ ps, p.1 ≠ x) : DoneT T K CF CT x [v, .int 1, .str x, .str sx, .ref d] H := fun Q E e =>
  ⟨v, .ref d, x, sx, 1, rfl, .inr (.inl ⟨rfl, v, .ref d, x, n, nrm ps, rfl, h.f, h.wf.nrm, h.nlen, h.tb, fun _ => e, fun ⟨q, hq, eq⟩ => absurd eq (nrm_no hx q hq)⟩)⟩
theorem dG (h : Dn T K H v n ps x cs d) (hx : ∀ p ∈ ps, p.1 ≠ x) : DoneT T K CF CT x [v, .int 2, .str x, .str sx, .ref d] H := fun Q E e =>
  ⟨v, .ref d, x, sx, 2, rfl, .inr (.inr ⟨rfl, v, x, n, nrm ps, rfl, h.f, h.wf.nrm, h.nlen, h.tb, fun _ => e, fun ⟨q, hq, eq⟩ => absurd eq (nrm_no hx q hq)⟩)⟩
/-- the deed is done -/
def DoneOk (T : Tb) (K : PySem.W.Frag) (CF CT : Addr) (n : Int) (xs : List V) (H : Hp) (ps' : List Part) : Prop := ∀ (Q : VK) (E : XK), (∀ v' H', Lv T H H' → FormAt K H' v' n (nrm ps') → Q v' H') → spDone T K CF CT xs H Q E
theorem okB (h : Dn T K H v n ps x cs d) (hx : ∀ p ∈ ps, p.1 ≠ x) (hs : sx = "twin" ∨ sx = "many" ∨ sx = "some") : DoneOk T K CF CT n [v, .int 0, .str x, .str sx, .ref d] H (ps ++ [(x, sx, cs)]) ∧ WF (ps ++ [(x, sx, cs)]) := by
  have hno : x ∉ ps.map (·.1) := fun hm => by
    obtain ⟨p, hp, e⟩ := List.mem_map.mp hm
    exact hx p hp e
  have W1 : WF (ps ++ [(x, sx, cs)]) := h.wf.snoc (p := (x, sx, cs)) ⟨h.nm, h.ok⟩ hs hno
  refine ⟨fun Q E e => ?_, W1⟩
  obtain ⟨k, r, rfl, _⟩ := id h.wf.hd
  have W2 : WF (nrm (k :: r) ++ [(x, sx, cs)]) := h.wf.nrm.snoc (p := (x, sx, cs)) ⟨h.nm, h.ok⟩ hs fun hm => hno (nrm_mem.mp hm)
  have hnd := W1.nd
  rw [List.cons_append, List.map_cons, List.nodup_cons] at hnd
  refine ⟨v, .ref d, x, sx, 0, rfl, .inl ⟨rfl, v, d, x, sx, n, nrm (k :: r), cs, fun _ => False, rfl, h.f, h.wf.nrm, h.nlen, h.tb, h.c, (fun z => by rw [h.ok.good] at z; cases z), h.ok.cok, name_line h.nm, fun _ v' H' l' f' => e v' H' l' ?_, fun z => ?_⟩⟩
  · rw [nrm_snoc _ hnd.2] at f'
    exact f'
  · rw [W2.good h.n1] at z
    cases z
theorem okC {i : Nat} {p : Part} (h : Dn T K H v n ps x cs d) (hp : ps[i]? = some p) (hx : p.1 = x) : DoneOk T K CF CT n [v, .int 1, .str x, .str sx, .ref d] H (ps.map (setC x cs)) ∧ WF (ps.map (setC x cs)) := by
  have W1 : WF (ps.map (setC x cs)) := h.wf.setC h.ok
  refine ⟨fun Q E e => ?_, W1⟩
  have hy := nrm_yes (List.mem_of_getElem? hp) hx
  obtain ⟨k, r, rfl, _⟩ := id h.wf.hd
  have W2 : WF ((nrm (k :: r)).map (setC x cs)) := h.wf.nrm.setC h.ok
  have hnd := h.wf.nd
  rw [List.map_cons, List.nodup_cons] at hnd
  refine ⟨v, .ref d, x, sx, 1, rfl, .inr (.inl ⟨rfl, v, .ref d, x, n, nrm (k :: r), rfl, h.f, h.wf.nrm, h.nlen, h.tb, fun hne => ?_, fun _ => ⟨d, cs, fun _ => False, rfl, h.c, (fun z => by rw [h.ok.good] at z; cases z), h.ok.cok, fun _ v' H' l' f' => e v' H' l' ?_, fun z => ?_⟩⟩)⟩
  · obtain ⟨q, hq, eq⟩ := hy
    exact absurd eq (hne q hq)
  · rw [nrm_setC x cs hnd.2] at f'
    exact f'
  · rw [W2.good h.n1] at z
    cases z
theorem okF {i : Nat} {p : Part} (h : Dn T K H v n ps x cs d) (hp : ps[i]? = some p) (hx : p.1 = x) (hi : 0 < i) : DoneOk T K CF CT n [v, .int 2, .str x, .str sx, .ref d] H (dropN x ps) ∧ WF (dropN x ps) := by
  have hy := nrm_yes (List.mem_of_getElem? hp) hx
  obtain ⟨k, r, rfl, _⟩ := id h.wf.hd
  have hkx : k.1 ≠ x := fun e => by
    have h1 : ((k :: r).map (·.1))[0]? = some x := by rw [List.getElem?_map]; exact congrArg some e
    have h2 : ((k :: r).map (·.1))[i]? = some x := by rw [List.getElem?_map, hp]; exact congrArg some hx
    have := nd_ix h.wf.nd h1 h2
    omega
  have W1 : WF (dropN x (k :: r)) := h.wf.drop hkx
  refine ⟨fun Q E e => ?_, W1⟩
  have W2 : WF (dropN x (nrm (k :: r))) := by
    rw [nrm_cons]
    have := h.wf.nrm
    rw [nrm_cons] at this
    exact this.drop hkx
  have hnd := h.wf.nd
  rw [List.map_cons, List.nodup_cons] at hnd
  refine ⟨v, .ref d, x, sx, 2, rfl, .inr (.inr ⟨rfl, v, x, n, nrm (k :: r), rfl, h.f, h.wf.nrm, h.nlen, h.tb, fun hne => ?_, fun _ => ⟨fun _ v' H' l' f' => e v' H' l' ?_, fun z => ?_⟩⟩)⟩
  · obtain ⟨q, hq, eq⟩ := hy
    exact absurd eq (hne q hq)
  · rw [nrm_drop x hkx hnd.2] at f'
    exact f'
  · rw [W2.good h.n1] at z
    cases z
end
end HM
set_option Elab.async false
set_option linter.all false
set_option maxRecDepth 100000
set_option maxHeartbeats 4000000
namespace HM
open PySem PySem.Spec PyProof.Rows L2
theorem tnil_of {σ : L2.St} {H : Hp} {Q : List V → Hp → Prop} (h : Q [] H) : tNil σ H Q := h
theorem zero_line : 0 ≤ sizeLine := Nat.zero_le _
theorem three_line : 3 ≤ sizeLine := by
  rw [sizeLine_eq]
  decide
/-- what stands between the turns -/
structure LI (T : Tb) (K : PySem.W.Frag) (H H' : Hp) (n : Int) (sc nm : Addr) (ns : List Int) (zs : List Str) (a : Addr) (vf vo vs : V) (ps : List Part) (ws : List V) (d : PyData) (m : Nat) : Prop where
  l : Lv T H H'
  tb : LamX.Tabs T H'
  n1 : 1 ≤ n
  sc : SqL K H' sc (ns.map V.int)
  nm : H' nm = some (.lst (zs.map V.str))
  zl : zs.length = 8
  zn : ∀ z ∈ zs, isNameB z = true
  wf : WF ps
  len : ps.length ≤ m
  f : FormAt K H' vf n (nrm ps)
  a : H' a = some (.lst ws)
  p : Paired (PartAt K H' fun _ => False) ws ps
  d1 : Dp K H' vo d
  d2 : Dp K H' vs d
  lf : leafy d = true
  dp : d.depth ≤ 7
theorem LI.at {T : Tb} {K : PySem.W.Frag} {H H' H2 : Hp} {n : Int} {sc nm : Addr} {ns : List Int} {zs : List Str} {a : Addr} {vf vo vs : V} {ps : List Part} {ws : List V} {d : PyData} {m : Nat} (h : LI T K H H' n sc nm ns zs a vf vo vs ps ws d m) (l : Lv T H' H2) : LI T K H H2 n sc nm ns zs a vf vo vs ps ws d m :=
  ⟨h.l.trans l, l.tab h.tb, h.n1, l.seq h.sc, l.at h.nm, h.zl, h.zn, h.wf, h.len, l.form h.f, l.at h.a, Paired.imp (fun v p z => l.part z) h.p, l.dp h.d1, l.dp h.d2, h.lf, h.dp⟩
theorem Dn.at {T : Tb} {K : PySem.W.Frag} {H H2 : Hp} {v : V} {n : Int} {ps : List Part} {x : Str} {cs : Cols} {d : Addr} (h : Dn T K H v n ps x cs d) (l : Lv T H H2) : Dn T K H2 v n ps x cs d :=
  ⟨l.form h.f, h.wf, h.len, h.n1, l.tab h.tb, l.cols h.c, h.ok, h.nm⟩
/-- the list's parts, wherever the heap has kept what is older, and the tuples -/
def Rb (T : Tb) (K : PySem.W.Frag) (H4 H' : Hp) (ws : List V) (ps : List Part) : Prop := ∀ H2, Lv T H4 H2 → Kt H' H2 → Paired (PartAt K H2 fun _ => False) ws ps
theorem tri {T : Tb} {K : PySem.W.Frag} {CF CT : Addr} {H4 H7 : Hp} {vf : V} {n k : Int} {ps : List Part} {ws : List V} {x sx : Str} {cs : Cols} {a d1 d2 : Addr} (c : Int) (h : Dn T K H7 vf n ps x cs d2) (l4 : Lv T H4 H7) (hP : Paired (PartAt K H4 fun _ => False) ws ps) (hC : ColsAt K H4 d1 cs)
    (ha : H4 a = some (.lst ws)) (hs : sx = "twin" ∨ sx = "many" ∨ sx = "some") (hk : (∃ (i : Nat) (p : Part), k = i ∧ ps[i]? = some p ∧ p.1 = x) ∨ (k = -1 ∧ ∀ p ∈ ps, p.1 ≠ x)) :
    (dueL (c % 3) k = [("form" : Str)] ∧ DoneF T K CF CT [vf, .int (c % 3), .str x, .str sx, .ref d2] H7) ∨ (dueL (c % 3) k = [("step" : Str), ("table" : Str)] ∧ DoneT T K CF CT x [vf, .int (c % 3), .str x, .str sx, .ref d2] H7) ∨
    (dueL (c % 3) k = [] ∧ ∃ ps', (∀ H8, Lv T H7 H8 → DoneOk T K CF CT n [vf, .int (c % 3), .str x, .str sx, .ref d2] H8 ps') ∧ WF ps' ∧ ps'.length ≤ ps.length + 1 ∧
      ∀ (Qp : VK) (E : XK), (∀ r H' ws', Lv T H7 H' → H' r = some (.lst ws') → Rb T K H4 H' ws' ps' → Qp (.ref r) H') → spParts T K [.ref a, .int (c % 3), .int k, .str x, .str sx, .ref d1] H7 Qp E) := by
  have hP7 : Paired (PartAt K H7 fun _ => False) ws ps := Paired.imp (fun v p z => l4.part z) hP
  have hS7 : SqL K H7 a ws := .inl (.inl (l4.at ha))
  have hl := h.len
  have h3 : c % 3 = 0 ∨ c % 3 = 1 ∨ c % 3 = 2 := by omega
  have new : ∀ {H2 : Hp} {t : Addr} {so : Str}, Lv T H4 H2 → SqT K H2 t [.str x, .str so, .ref d1] → PartAt K H2 (fun _ => False) (.ref t) (x, so, cs) := fun {H2 t so} l ht =>
    ⟨t, d1, rfl, ht, l.cols hC, fun z => by
      have z' : colsBad cs = true := z
      rw [h.ok.good] at z'
      cases z'⟩
  rcases h3 with e3 | e3 | e3 <;> rw [e3]
  · rcases hk with ⟨i, p, rfl, hp, hx⟩ | ⟨rfl, hx⟩
    · exact .inl ⟨if_pos (.inl ⟨rfl, by omega⟩), dA h (hx ▸ List.mem_map_of_mem (List.mem_of_getElem? hp))⟩
    · refine .inr (.inr ⟨?_, ps ++ [(x, sx, cs)], fun H8 l8 => (okB (h.at l8) hx hs).1, (okB (CF := CF) (CT := CT) h hx hs).2, by rw [List.length_append]; exact Nat.le_refl _, fun Qp E q => ?_⟩)
      · unfold dueL
        rw [if_neg (by omega), if_neg (by omega)]
      · refine ⟨a, d1, x, sx, 0, -1, ws, ps, _, rfl, hS7, hP7, by omega, .inl ⟨rfl, l4.at ha, fun r t H' l er et => q r H' _ l er fun H2 l2 kt => ?_⟩⟩
        exact Paired.append' (Paired.imp (fun v p z => l2.part z) hP) (.cons (new l2 (kt.tup (.inl (.inl et)))) .nil)
  · rcases hk with ⟨i, p, rfl, hp, hx⟩ | ⟨rfl, hx⟩
    · refine .inr (.inr ⟨?_, ps.map (setC x cs), fun H8 l8 => (okC (h.at l8) hp hx).1, (okC (CF := CF) (CT := CT) (sx := sx) h hp hx).2, by rw [List.length_map]; exact Nat.le_succ _, fun Qp E q => ?_⟩)
      · unfold dueL
        rw [if_neg (by omega), if_neg (by omega)]
      · refine ⟨a, d1, x, sx, 1, i, ws, ps, _, rfl, hS7, hP7, by omega, .inr (.inl ⟨i, p, rfl, hp, rfl, fun r t H' l er et => q r H' _ l er fun H2 l2 kt => ?_⟩)⟩
        have hP2 := Paired.imp (fun v p z => l2.part z) hP
        rw [setC_split h.wf.nd hp hx]
        exact Paired.append' (Paired.append' (Paired.take' i hP2) (.cons (new l2 (kt.tup (.inl (.inl et)))) .nil)) (Paired.drop' (i + 1) hP2)
    · refine .inr (.inl ⟨?_, dD h hx⟩)
      unfold dueL
      rw [if_neg (by omega), if_pos (by omega)]
  · rcases hk with ⟨i, p, rfl, hp, hx⟩ | ⟨rfl, hx⟩
    · by_cases hi : i = 0
      · subst hi
        cases ps with
        | nil => simp at hp
        | cons k r =>
          have e : k = p := Option.some.inj hp
          exact .inl ⟨if_pos (.inr ⟨rfl, rfl⟩), dE h (e ▸ hx)⟩
      · refine .inr (.inr ⟨?_, dropN x ps, fun H8 l8 => (okF (h.at l8) hp hx (by omega)).1, (okF (CF := CF) (CT := CT) (sx := sx) h hp hx (by omega)).2, Nat.le_succ_of_le dropN_len, fun Qp E q => ?_⟩)
        · unfold dueL
          rw [if_neg (by omega), if_neg (by omega)]
        · refine ⟨a, d1, x, sx, 2, i, ws, ps, _, rfl, hS7, hP7, by omega, .inr (.inr ⟨i, rfl, rfl, fun r H' l er => q r H' _ l er fun H2 l2 kt => ?_⟩)⟩
          have hP2 := Paired.imp (fun v p z => l2.part z) hP
          rw [dropN_split h.wf.nd hp hx]
          exact Paired.append' (Paired.take' i hP2) (Paired.drop' (i + 1) hP2)
    · refine .inr (.inl ⟨?_, dG h hx⟩)
      unfold dueL
      rw [if_neg (by omega), if_pos (by omega)]
theorem kvs_refs {K : PySem.W.Frag} {H : Hp} : ∀ {kvs : List (Key × V)} {cs : Cols}, Paired (fun kv c => kv.1 = Sum.inr c.1 ∧ Dp K H kv.2 c.2.d) kvs cs → ∀ p ∈ kvs, ∃ t : Addr, p.2 = V.ref t
  | _, _, .nil, p, hp => by cases hp
  | _, _, @Paired.cons _ _ _ kv c _ _ h t, p, hp => by
    rcases List.mem_cons.mp hp with rfl | hp
    · obtain ⟨w0, r0, e⟩ := kd_tup c.2
      have h2 := h.2
      rw [e] at h2
      obtain ⟨a, _, e2, _⟩ := dp_tup h2
      exact ⟨a, e2⟩
    · exact kvs_refs t p hp
theorem cut_items {α : Type} (f : α → V) (xs : List α) : ∃ ys : List α, cutV (xs.map f) (some 3) (some 63) = ys.map f ∧ ys.length ≤ 60 := by
  unfold cutV
  rw [show (some (3 : Int)) = some ((3 : Nat) : Int) from rfl, show (some (63 : Int)) = some ((63 : Nat) : Int) from rfl, HT.sIx_nat, HT.sIx_nat, List.length_map]
  refine ⟨(xs.drop (min 3 xs.length)).take (min 63 xs.length - min 3 xs.length), by rw [List.map_take, List.map_drop], ?_⟩
  rw [List.length_take]
  omega
def spLaw (T : Tb) (K : PySem.W.Frag) : Sp := fun xs H Q _ => ∃ (a : Addr) (ns : List Int), xs = [.ref a] ∧ SqL K H a (ns.map V.int) ∧ LamX.Tabs T H ∧ ∀ H', Q (.bl true) H'
abbrev NLaw : List Str := ["_law_script", "_law_size", "_law_names_here", "_law_parts_here", "_law_form_here", "_law_old", "_law_stood", "_law_cell_here", "_law_way", "_law_name", "_law_sort", "_law_columns_here", "_law_handed", "_law_at_here", "_law_due_here"]
theorem scLaw : FnScope NLaw ["_law_script"] (defScope sLaw) := ⟨rfl, rfl, rfl, by decide +kernel, rfl, by decide +kernel, by decide +kernel⟩
section
variable {P : Program} {w : World} {K : PySem.W.Frag} {mg : Str → Option Value} {base : Heap} {CF CT fI : Addr}
/-- a def that lets nothing out, by its own function -/
theorem fn0 {x : Str} {st : Stmt} {N ps : List Str} {k : Nat} {sp : Sp} {f : Addr} {fd : FuncData} (F : FnP K x st f fd) (S : FnScope N ps (defScope st)) (len : ∀ vs H Q E, sp vs H Q E → vs.length = ps.length)
    (hbody : ∀ (f : Addr) (cdv : Value) (A : Around) (outer : List Env) (s : Shared) (H : Hp) (vs : List V) (Q : VK) (E : XK), Room k (A.deeper (envOfC x (defScope st) s.heap.objs.size f cdv)) → sp vs H Q E →
      ∃ t, PSs (cxOf CX0 P w K mg base N x (defScope st) f cdv A outer s H E).nox (defBody st) t ∧ t { nx := fun _ H' => Q .non H', rt := Q } (start N vs) H) : FnOk P w K mg base CX0 (k + 1) f fd ps sp :=
  F.ok S len fun cdv A outer s H vs Q E hr h => by
    obtain ⟨t, h1, h2⟩ := hbody f cdv A outer s H vs Q E hr h
    exact ⟨t, h1.nox, h2⟩
theorem ok_law (T : Tb) {fL : Addr} {fdL : FuncData} (F : FnP K "law" sLaw fL fdL) (GC : Cl P w K mg base CX0 1 "_law_cell" (spCell K)) (GN : Cl P w K mg base CX0 2 "_law_names" (spNames T)) (GF : Cl P w K mg base (L2.CX P w) 5 "form_of" (spFormOf T K CF)) (GL : Cl P w K mg base CX0 2 "_law_form" (spLForm T K))
    (GK : Cl P w K mg base CX0 3 "_law_columns" (spLCols T K)) (GA : Cl P w K mg base CX0 1 "_law_at" (spAt T K)) (GU : Cl P w K mg base CX0 1 "_law_due" (spDue T)) (GR : Cl P w K mg base CX0 8 "_law_refused" (spRefused T K CF CT)) (GP : Cl P w K mg base CX0 1 "_law_parts" (spParts T K))
    (GD : Cl P w K mg base (L2.CX P w) 7 "_law_done" (spDone T K CF CT)) (GS : Cl P w K mg base CX0 9 "_law_same" (spSame T K 7)) (GO : Cl P w K mg base CX0 8 "_law_other_refusals" (spOther T K)) (GE : Cl P w K mg base CX0 10 "_law_same_at_once" (spOnce T K)) (B : Bt mg) :
    FnOk P w K mg base CX0 11 fL fdL ["_law_script"] (spLaw T K) := by
  have nd := scLaw.nd
  refine fn0 F scLaw (fun vs H Q E h => ?_) fun f cdv A outer s H vs Q E hr h => ?_
  · obtain ⟨a, ns, rfl, _⟩ := h
    rfl
  obtain ⟨sc, ns, rfl, hL, hTH, q⟩ := h
  refine ⟨_, pss_cons (ps_set (i := 1) nd rfl (.inl rfl) (pe_op op_add pe_int (pe_op op_mod (pe_op op_fdiv (pe_cl GC hr (pa_cons (pv 0) (pa_cons pe_int pa_nil))) pe_int) (pe_ix ix_list (pe_lst (pa_cons pe_int (pa_cons (pe_op op_pow pe_int pe_int) pa_nil))) (pe_op op_mod (pe_cl GC hr (pa_cons (pv 0) (pa_cons pe_int pa_nil))) pe_int) (fun _ _ => rfl)))))
    (pss_cons (ps_set (i := 2) nd rfl (.inl rfl) (pe_cl GN hr (pa_cons (pe_cl GC hr (pa_cons (pv 0) (pa_cons pe_int pa_nil))) (pa_cons pe_int pa_nil))))
    (pss_cons (ps_set (i := 3) nd rfl (.inl rfl) (pe_lst (pa_cons (pe_tup (pa_cons (pe_ix ix_list (pv 2) pe_int (fun _ _ => rfl)) (pa_cons pe_str (pa_cons pe_dnewK pa_nil)))) pa_nil)))
    (pss_cons (ps_set (i := 4) nd rfl (.inl rfl) (pe_clX (E := fun _ _ _ => False) GF hr (passes_call takes_none5 fun _ _ _ _ h => h) (pa_cons (pv 1) (pa_cons (pe_lst (pa_cons (pe_tup (pa_cons (pe_ix ix_list (pv 2) pe_int (fun _ _ => rfl)) (pa_cons pe_str (pa_cons pe_dnewK pa_nil)))) pa_nil)) pa_nil))))
    (pss_cons (ps_set (i := 5) nd rfl (.inl rfl) (pv 4))
    (pss_cons (ps_set (i := 6) nd rfl (.inl rfl) (pe_cl GL hr (pa_cons (pv 1) (pa_cons (pv 3) pa_nil))))
    (pss_cons (ps_for PassesOwn.never rfl (pi_list (pe_slice sl_list (pv 0) (po_some pe_int) (po_some pe_int))) (pg_name (i := 7) nd rfl (.inl rfl))
      (pss_cons (ps_set (i := 8) nd rfl (.inl rfl) (pe_op op_mod (pv 7) pe_int))
      (pss_cons (ps_set (i := 9) nd rfl (.inl rfl) (pe_ix ix_list (pv 2) (pe_op op_mod (pe_op op_fdiv (pv 7) pe_int) pe_int) (fun _ _ => rfl)))
      (pss_cons (ps_set (i := 10) nd rfl (.inl rfl) (pe_ix ix_list (pe_lst (pa_cons pe_str (pa_cons pe_str (pa_cons pe_str pa_nil)))) (pe_op op_mod (pe_op op_fdiv (pv 7) pe_int) pe_int) (fun _ _ => rfl)))
      (pss_cons (ps_set (i := 11) nd rfl (.inl rfl) (pe_cl GK hr (pa_cons (pe_op op_fdiv (pv 7) pe_int) (pa_cons pe_int pa_nil))))
      (pss_cons (ps_set (i := 12) nd rfl (.inl rfl) (pe_callTy (T := "dict") (r := rDictD) call_dictD rfl B.dict (by decide +kernel) (pa_cons (pv 11) pa_nil)))
      (C8.pss_cut (ps_set (i := 13) nd rfl (.inl rfl) (pe_cl GA hr (pa_cons (pv 3) (pa_cons (pv 9) pa_nil))))
      (pss_cons (ps_set (i := 14) nd rfl (.inl rfl) (pe_cl GU hr (pa_cons (pv 8) (pa_cons (pv 13) pa_nil))))
      (C8.pss_cut (ps_if (pt_cmpR (op_neD hr.units) (pv 14) (pe_lst pa_nil) (nomark _))
          (pss_one (ps_if (pt_not (pt_val (pe_cl GR hr (pa_cons (pv 4) (pa_cons (pv 8) (pa_cons (pv 9) (pa_cons (pv 10) (pa_cons (pv 12) (pa_cons (pv 14) pa_nil))))))))) (pss_one (ps_ret pe_bl)) pss_nil))
          (pss_cons (ps_set (i := 3) nd rfl (.inl rfl) (pe_cl GP hr (pa_cons (pv 3) (pa_cons (pv 8) (pa_cons (pv 13) (pa_cons (pv 9) (pa_cons (pv 10) (pa_cons (pv 11) pa_nil))))))))
          (pss_one (ps_set (i := 4) nd rfl (.inl rfl) (pe_clX (E := fun _ _ _ => False) GD hr (passes_call takes_none5 fun _ _ _ _ h => h) (pa_cons (pv 4) (pa_cons (pv 8) (pa_cons (pv 9) (pa_cons (pv 10) (pa_cons (pv 12) pa_nil))))))))))
      (pss_cons (ps_if (pt_cmpR (op_ne_same hr.units0) (pv 12) (pv 11) (nomark _)) (pss_one (ps_ret pe_bl)) pss_nil)
      (pss_cons (ps_expr (pe_dclear (pv 12)))
      (pss_cons (ps_if (pt_not (pt_val (pe_cl GS hr (pa_cons (pv 4) (pa_cons (pe_cl GL hr (pa_cons (pv 1) (pa_cons (pv 3) pa_nil))) pa_nil))))) (pss_one (ps_ret pe_bl)) pss_nil)
      (pss_one (ps_if (pt_cmpR op_eq (pe_op op_mod (pe_op op_fdiv (pv 7) pe_int) pe_int) pe_int (nomark _))
        (pss_cons (ps_if (pt_not (pt_val (pe_cl GS hr (pa_cons (pv 5) (pa_cons (pv 6) pa_nil))))) (pss_one (ps_ret pe_bl)) pss_nil)
        (pss_cons (ps_set (i := 5) nd rfl (.inl rfl) (pv 4))
        (pss_one (ps_set (i := 6) nd rfl (.inl rfl) (pe_cl GL hr (pa_cons (pv 1) (pa_cons (pv 3) pa_nil))))))) pss_nil))))))))))))))
    (pss_cons (ps_if (PW.pt (pw_or (pt_not (pt_val (pe_cl GO hr (pa_cons (pv 4) (pa_cons (pv 2) (pa_cons (pe_cl GC hr (pa_cons (pv 0) (pa_cons pe_int pa_nil))) pa_nil)))))) (pw_or1 (pt_not (pt_val (pe_cl GS hr (pa_cons (pv 5) (pa_cons (pv 6) pa_nil)))))))) (pss_one (ps_ret pe_bl)) pss_nil)
    (pss_one (ps_ret (pe_cl GE hr (pa_cons (pv 1) (pa_cons (pv 4) (pa_cons (pv 3) pa_nil))))))))))))), ?_⟩
  have pos2 : CDiv 1 2 := ⟨by decide, by decide⟩
  have cd : ∀ (c : Int) (m : Int), 0 < m → m < 1073741824 → CDiv c m := fun c m h1 h2 => ⟨h1, h2⟩
  -- the size
  refine ⟨_, rfl, sc, ns, 0, rfl, hL, by decide, fun z1 => ⟨_, _, rfl, rfl, cd _ 2 (by decide) (by decide), _, _, rfl, rfl, ⟨by decide, by decide, by decide⟩, two_line, fun p1 hp1 => ?_⟩⟩
  have l1 : Lv T H (upd H p1 (.lst [.int 9, .int (10 ^ 12)])) := Lv.new hp1
  refine ⟨_, rfl, sc, ns, 0, rfl, l1.seq hL, by decide, fun z2 => ⟨_, _, rfl, rfl, (show (0 : Int) < 2 by decide), ?_⟩⟩
  obtain ⟨jv, hj0, hjv⟩ : ∃ jv : Int, 0 < jv ∧ atI [V.int 9, V.int (10 ^ 12)] (z2 % 2) = some (.int jv) := by
    have h1 : z2 % 2 = 0 ∨ z2 % 2 = 1 := by omega
    rcases h1 with e | e <;> rw [e]
    · exact ⟨9, by decide, rfl⟩
    · exact ⟨10 ^ 12, by decide, rfl⟩
  refine ⟨p1, _, _, .int jv, rfl, rfl, .inl (.inl upd_same), hjv, _, _, rfl, rfl, hj0, _, _, rfl, rfl, ?_⟩
  have hn1 : 1 ≤ 1 + z1 / 2 % jv := by
    have := Int.emod_nonneg (z1 / 2) (show jv ≠ 0 by omega)
    omega
  -- the names
  refine ⟨_, rfl, sc, ns, 1, rfl, l1.seq hL, by decide, fun z3 => ⟨z3, 8, rfl, by decide, fun nm H2 zs l2 e2 hzl hzn hznd => ?_⟩⟩
  have l12 := l1.trans l2
  obtain ⟨z0, ez0, hz0⟩ : ∃ z0, (zs.map V.str)[0]? = some (V.str z0) ∧ z0 ∈ zs := ⟨zs[0]'(by omega), by rw [List.getElem?_map, List.getElem?_eq_getElem (by omega)]; rfl, List.getElem_mem _⟩
  have hz0n := hzn z0 hz0
  have W0 : WF [(z0, "head", [])] := ⟨⟨_, [], rfl, rfl, fun p hp => by cases hp⟩, fun p hp => by rw [List.mem_singleton.mp hp]; exact ⟨hz0n, ColsOk.nil⟩, by simp⟩
  -- the parts
  refine ⟨_, rfl, nm, _, 0, .str z0, rfl, rfl, .inl (.inl e2), atI_nat (j := 0) ez0, fun dp hdp => ⟨three_line, fun t ht => ⟨one_line, fun pa hpa => ?_⟩⟩⟩
  have l3 : Lv T H2 (upd (upd (upd H2 dp (.dK [])) t (.tup [.str z0, .str "head", .ref dp])) pa (.lst [.ref t])) := ((Lv.new hdp).add ht).add hpa
  have epa : (upd (upd (upd H2 dp (.dK [])) t (.tup [.str z0, .str "head", .ref dp])) pa (.lst [.ref t])) pa = some (.lst [.ref t]) := upd_same
  have hpt : PartAt K (upd (upd (upd H2 dp (.dK [])) t (.tup [.str z0, .str "head", .ref dp])) pa (.lst [.ref t])) (fun _ => False) (.ref t) (z0, "head", []) := by
    have a1 : (upd (upd H2 dp (.dK [])) t (.tup [.str z0, .str "head", .ref dp])) t = some (.tup [.str z0, .str "head", .ref dp]) := upd_same
    have a2 : (upd (upd H2 dp (.dK [])) t (.tup [.str z0, .str "head", .ref dp])) dp = some (.dK []) := by rw [upd_ne (ne_none upd_same ht), upd_same]
    exact ⟨t, dp, rfl, .inl (.inl (by rw [upd_ne (ne_none a1 hpa)]; exact a1)), ⟨[], by rw [upd_ne (ne_none a2 hpa)]; exact a2, .nil⟩, fun z => by cases z⟩
  generalize upd (upd (upd H2 dp (.dK [])) t (.tup [.str z0, .str "head", .ref dp])) pa (.lst [.ref t]) = H3 at l3 epa hpt ⊢
  have l13 := l12.trans l3
  -- the form
  refine ⟨_, rfl, _, rfl, nm, _, 0, .str z0, rfl, rfl, .inl (.inl (l3.at e2)), atI_nat (j := 0) ez0, fun dq hdq => ⟨three_line, fun t2 ht2 => ⟨one_line, fun pb hpb => ?_⟩⟩⟩
  have l4 : Lv T H3 (upd (upd (upd H3 dq (.dK [])) t2 (.tup [.str z0, .str "head", .ref dq])) pb (.lst [.ref t2])) := ((Lv.new hdq).add ht2).add hpb
  have epb : (upd (upd (upd H3 dq (.dK [])) t2 (.tup [.str z0, .str "head", .ref dq])) pb (.lst [.ref t2])) pb = some (.lst [.ref t2]) := upd_same
  have hpt2 : PartAt K (upd (upd (upd H3 dq (.dK [])) t2 (.tup [.str z0, .str "head", .ref dq])) pb (.lst [.ref t2])) (fun _ => False) (.ref t2) (z0, "head", []) := by
    have a1 : (upd (upd H3 dq (.dK [])) t2 (.tup [.str z0, .str "head", .ref dq])) t2 = some (.tup [.str z0, .str "head", .ref dq]) := upd_same
    have a2 : (upd (upd H3 dq (.dK [])) t2 (.tup [.str z0, .str "head", .ref dq])) dq = some (.dK []) := by rw [upd_ne (ne_none upd_same ht2), upd_same]
    exact ⟨t2, dq, rfl, .inl (.inl (by rw [upd_ne (ne_none a1 hpb)]; exact a1)), ⟨[], by rw [upd_ne (ne_none a2 hpb)]; exact a2, .nil⟩, fun z => by cases z⟩
  generalize upd (upd (upd H3 dq (.dK [])) t2 (.tup [.str z0, .str "head", .ref dq])) pb (.lst [.ref t2]) = H4 at l4 epb hpt2 ⊢
  have l14 := l13.trans l4
  refine ⟨pb, _, [.ref t2], [(z0, "head", [])], _, rfl, .inl (.inl epb), .cons hpt2 .nil, W0.rok, by show 1 < 1000; decide, l14.tab hTH, fun _ vf H5 l5 hF => ?_, fun hb => absurd ((W0.good hn1).symm.trans hb) (by decide)⟩
  have l15 := l14.trans l5
  have l35 := l4.trans l5
  refine ⟨_, rfl, ?_⟩
  refine ⟨_, rfl, _, rfl, pa, _, [.ref t], [(z0, "head", [])], _, rfl, .inl (.inl (l35.at epa)), .cons (l35.part hpt) .nil, fun p hp => ⟨(W0.ok p hp).2.nd, (W0.rok p hp).len⟩, by show 1 < 1000; decide, l15.tab hTH, fun vs H6 l6 hF2 => ?_⟩
  have l36 := l35.trans l6
  have l16 := l15.trans l6
  have I0 : LI T K H H6 (1 + z1 / 2 % jv) sc nm ns zs pa vf vf vs [(z0, "head", [])] [.ref t] (formD (1 + z1 / 2 % jv) (nrm [(z0, "head", [])])) 1 :=
    ⟨l16, l16.tab hTH, hn1, l16.seq hL, (l3.trans l36).at e2, hzl, hzn, W0, Nat.le_refl _, l6.form hF, l36.at epa, .cons (l36.part hpt) .nil, (l6.form hF).dp, hF2.dp, leafy_form _ _, depth_form _ _⟩
  generalize formD (1 + z1 / 2 % jv) (nrm [(z0, "head", [])]) = d0 at I0
  generalize [(z0, ("head" : Str), ([] : Cols))] = ps0 at I0
  generalize [V.ref t] = ws0 at I0
  -- the loop
  refine ⟨_, rfl, 3, rfl, 63, rfl, sc, _, rfl, I0.sc, fun L hLn => ?_⟩
  obtain ⟨cells, ecut, hcl⟩ := cut_items V.int ns
  rw [ecut]
  refine ⟨L, rfl, ⟨_, .inl (.inl upd_same)⟩, ?_⟩
  refine for_by cells.length (fun i σ H' => ∃ a vf vo vs ps ws d y7 y8 y9 y10 y11 y12 y13 y14, σ = [some (.ref sc), some (.int (1 + z1 / 2 % jv)), some (.ref nm), some (.ref a), some vf, some vo, some vs, y7, y8, y9, y10, y11, y12, y13, y14] ∧
      LI T K H H' (1 + z1 / 2 % jv) sc nm ns zs a vf vo vs ps ws d (i + 1) ∧ H' L = some (.lst (cells.map V.int)))
    ⟨pa, vf, vf, vs, ps0, ws0, d0, none, none, none, none, none, none, none, none, rfl, I0.at (Lv.new hLn), upd_same⟩ (fun i σ H' hi hP => ?_) (fun σ H' hP => ?_) (fun i xc σ H' H7 hi hP hy => ?_) fun σ H7 hP => ?_
  · obtain ⟨a, vf, vo, vs, ps, ws, d, y7, y8, y9, y10, y11, y12, y13, y14, rfl, I, eL⟩ := hP
    exact ⟨_, _, .inl (.inl eL), List.getElem?_eq_getElem (by rw [List.length_map]; exact hi)⟩
  · obtain ⟨a, vf, vo, vs, ps, ws, d, y7, y8, y9, y10, y11, y12, y13, y14, rfl, I, eL⟩ := hP
    exact ⟨_, .inl (.inl eL), by rw [List.length_map]; exact Nat.le_refl _⟩
  · obtain ⟨a, vf, vo, vs, ps, ws, d, y7, y8, y9, y10, y11, y12, y13, y14, rfl, I, eL⟩ := hP
    obtain ⟨rfl, hy⟩ := hy
    have hx := hy _ (.inl (.inl eL))
    rw [List.getElem?_map, List.getElem?_eq_getElem hi] at hx
    obtain rfl : V.int cells[i] = xc := Option.some.inj hx
    generalize cells[i] = c
    generalize 1 + z1 / 2 % jv = n at I hn1 ⊢
    -- way, name, sort, columns, handed
    obtain ⟨j, hj, ej⟩ : ∃ j : Nat, j < 8 ∧ c / 3 % 8 = (j : Int) := ⟨(c / 3 % 8).toNat, by omega, by omega⟩
    obtain ⟨x, ex, hxz⟩ : ∃ x, (zs.map V.str)[j]? = some (V.str x) ∧ x ∈ zs := ⟨zs[j]'(by omega), by rw [List.getElem?_map, List.getElem?_eq_getElem (by omega)]; rfl, List.getElem_mem _⟩
    obtain ⟨sx, esx, hs⟩ : ∃ sx : Str, atI [V.str "twin", V.str "many", V.str "some"] (c / 24 % 3) = some (.str sx) ∧ (sx = "twin" ∨ sx = "many" ∨ sx = "some") := by
      have h1 : c / 24 % 3 = 0 ∨ c / 24 % 3 = 1 ∨ c / 24 % 3 = 2 := by omega
      rcases h1 with e | e | e <;> rw [e]
      · exact ⟨_, rfl, .inl rfl⟩
      · exact ⟨_, rfl, .inr (.inl rfl)⟩
      · exact ⟨_, rfl, .inr (.inr rfl)⟩
    refine ⟨_, rfl, _, _, rfl, rfl, (show (0 : Int) < 3 by decide), ?_⟩
    refine ⟨_, rfl, _, rfl, _, _, rfl, rfl, cd _ 3 (by decide) (by decide), _, _, rfl, rfl, (show (0 : Int) < 8 by decide), nm, _, _, .str x, rfl, rfl, .inl (.inl I.nm), by rw [ej]; exact atI_nat ex, ?_⟩
    refine ⟨three_line, fun p3 hp3 => ⟨_, rfl, _, _, rfl, rfl, cd _ 24 (by decide) (by decide), _, _, rfl, rfl, (show (0 : Int) < 3 by decide), p3, _, _, .str sx, rfl, rfl, .inl (.inl upd_same), esx, ?_⟩⟩
    have l8 : Lv T H7 (upd H7 p3 (.lst [.str "twin", .str "many", .str "some"])) := Lv.new hp3
    refine ⟨_, rfl, _, _, rfl, rfl, cd _ 72 (by decide) (by decide), _, rfl, fun d1 H9 cs l9 nw1 hC hok => ?_⟩
    have l79 := l8.trans l9
    have I9 := I.at l79
    have eL9 := l79.at eL
    obtain ⟨kvs, k1, k2⟩ := id hC
    refine ⟨_, rfl, d1, kvs, rfl, .inl k1, fun d2 hd2 => ?_⟩
    have nw2 : Nw H9 d2 := .of hd2
    have l10 : Lv T H9 (upd H9 d2 (.dK kvs)) := Lv.new hd2
    have e10 : (upd H9 d2 (.dK kvs)) d2 = some (.dK kvs) := upd_same
    generalize upd H9 d2 (.dK kvs) = H10 at l10 e10 ⊢
    -- at, due
    refine ⟨fun σ' H11 => ∃ k : Int, σ' = [some (.ref sc), some (.int n), some (.ref nm), some (.ref a), some vf, some vo, some vs, some (.int c), some (.int (c % 3)), some (.str x), some (.str sx), some (.ref d1), some (.ref d2), some (.int k), y14] ∧ Lv T H10 H11 ∧
      ((∃ (i : Nat) (p : Part), k = i ∧ ps[i]? = some p ∧ p.1 = x) ∨ (k = -1 ∧ ∀ p ∈ ps, p.1 ≠ x)), ?_, ?_⟩
    · exact ⟨_, rfl, _, rfl, a, x, ws, ps, _, rfl, .inl (.inl (l10.at I9.a)), Paired.imp (fun v p z => l10.part z) I9.p, fun i p H11 hp hpx l11 => ⟨i, rfl, l11, .inl ⟨i, p, rfl, hp, hpx⟩⟩, fun hne H11 l11 => ⟨-1, rfl, l11, .inr ⟨rfl, hne⟩⟩⟩
    rintro σ' H11 ⟨k, rfl, l11, hk⟩
    refine ⟨_, rfl, _, rfl, _, _, rfl, fun du H12 l12 e12 => ?_⟩
    have l912 := (l10.trans l11).trans l12
    have e2 : H12 d2 = some (.dK kvs) := l12.at (l11.at e10)
    -- refused, or done
    refine ⟨fun σ' H13 => ∃ (a' : Addr) (vf' : V) (ps' : List Part) (ws' : List V), σ' = [some (.ref sc), some (.int n), some (.ref nm), some (.ref a'), some vf', some vo, some vs, some (.int c), some (.int (c % 3)), some (.str x), some (.str sx), some (.ref d1), some (.ref d2), some (.int k), some (.ref du)] ∧
      Lv T H9 H13 ∧ H13 d2 = some (.dK kvs) ∧ FormAt K H13 vf' n (nrm ps') ∧ WF ps' ∧ ps'.length ≤ ps.length + 1 ∧ H13 a' = some (.lst ws') ∧ Rb T K H9 H13 ws' ps', ?_, ?_⟩
    · refine ⟨_, rfl, zero_line, fun m hm => ?_⟩
      have l13 : Lv T H12 (upd H12 m (.lst [])) := Lv.new hm
      have em : (upd H12 m (.lst [])) m = some (.lst (([] : List Str).map V.str)) := upd_same
      generalize upd H12 m (.lst []) = H13 at l13 em ⊢
      have l913 := l912.trans l13
      have e13 := l13.at e12
      have e2b := l13.at e2
      have D13 : Dn T K H13 vf n ps x cs d2 := ⟨l913.form I9.f, I9.wf, Nat.lt_of_le_of_lt I9.len (by omega), I9.n1, l913.tab I9.tb, ⟨kvs, e2b, Paired.imp (fun a b z => ⟨z.1, l913.dp z.2⟩) k2⟩, hok, hzn x hxz⟩
      rcases tri (CF := CF) (CT := CT) c D13 l913 I9.p hC I9.a hs hk with ⟨hd, hF⟩ | ⟨hd, hT⟩ | ⟨hd, ps', hDo, hW', hlen', hPa⟩
      · rw [hd] at e13
        refine ⟨_, _, dp_strs e13, dp_strs em, by decide +kernel, by decide +kernel, _, rfl, ifT (by decide +kernel) ?_⟩
        refine ⟨_, rfl, _, rfl, _, rfl, _, rfl, _, rfl, _, rfl, vf, .ref d2, x, sx, c % 3, du, rfl, .inl ⟨e13, hF⟩, fun H14 l14 => ⟨true, rfl, iteF ?_⟩⟩
        exact ⟨a, vf, ps, ws, rfl, l913.trans l14, l14.at e2b, l14.form D13.f, I9.wf, Nat.le_succ _, (l913.trans l14).at I9.a, fun H2 l2 kt => Paired.imp (fun v p z => l2.part z) I9.p⟩
      · rw [hd] at e13
        refine ⟨_, _, dp_strs e13, dp_strs em, by decide +kernel, by decide +kernel, _, rfl, ifT (by decide +kernel) ?_⟩
        refine ⟨_, rfl, _, rfl, _, rfl, _, rfl, _, rfl, _, rfl, vf, .ref d2, x, sx, c % 3, du, rfl, .inr ⟨e13, hT⟩, fun H14 l14 => ⟨true, rfl, iteF ?_⟩⟩
        exact ⟨a, vf, ps, ws, rfl, l913.trans l14, l14.at e2b, l14.form D13.f, I9.wf, Nat.le_succ _, (l913.trans l14).at I9.a, fun H2 l2 kt => Paired.imp (fun v p z => l2.part z) I9.p⟩
      · rw [hd] at e13
        refine ⟨_, _, dp_strs e13, dp_strs em, by decide +kernel, by decide +kernel, _, rfl, ifF (by decide +kernel) ?_⟩
        refine ⟨_, rfl, _, rfl, _, rfl, _, rfl, _, rfl, _, rfl, ?_⟩
        refine tnil_of ?_
        show spParts T K [.ref a, .int (c % 3), .int k, .str x, .str sx, .ref d1] H13 _ _
        refine hPa _ _ fun r H14 ws' l14 er hRb => ?_
        refine ⟨_, rfl, _, rfl, _, rfl, _, rfl, _, rfl, ?_⟩
        refine tnil_of ?_
        show spDone T K CF CT [vf, .int (c % 3), .str x, .str sx, .ref d2] H14 _ _
        refine hDo H14 l14 _ _ fun vf' H15 l15 f15 => ?_
        exact ⟨r, vf', ps', ws', rfl, (l913.trans l14).trans l15, (l14.trans l15).at e2b, f15, hW', hlen', l15.at er, fun H2 l2 kt => hRb H2 l2 (l15.kt.trans kt)⟩
    rintro σ' H13 ⟨a', vf', ps', ws', rfl, l913, e2b, f13, W', hlen', ea', hRb⟩
    -- handed stands; it is cleared
    refine ⟨_, rfl, _, rfl, d2, d1, kvs, rfl, rfl, e2b, l913.at k1, by rw [cols_keys k2]; exact nodup_inr hok.nd, kvs_refs k2, _, rfl, iteF ?_⟩
    refine ⟨_, rfl, .inr (.inr (.inl ⟨rfl, .inl ⟨kvs, e2b⟩⟩)), d2, kvs, rfl, rfl, e2b, ?_⟩
    have l914 : Lv T H9 (upd H13 d2 (.dK [])) := l913.putN nw2 e2b True.intro
    have kt : Kt H13 (upd H13 d2 (.dK [])) := Kt.upd e2b (fun z => z)
    have ea14 : (upd H13 d2 (.dK [])) a' = some (.lst ws') := by
      rw [upd_ne (ne_at ea' e2b (fun z => by cases z))]
      exact ea'
    generalize upd H13 d2 (.dK []) = H14 at l914 kt ea14 ⊢
    have I14 : LI T K H H14 n sc nm ns zs a' vf' vo vs ps' ws' d (i + 1 + 1) :=
      ⟨I9.l.trans l914, l914.tab I9.tb, I9.n1, l914.seq I9.sc, l914.at I9.nm, I9.zl, I9.zn, W', Nat.le_trans hlen' (Nat.succ_le_succ I9.len), kt.form f13, ea14, hRb H14 l914 kt, l914.dp I9.d1, l914.dp I9.d2, I9.lf, I9.dp⟩
    have eL14 := l914.at eL9
    have hps' : ps'.length < 1000 := Nat.lt_of_le_of_lt I14.len (by omega)
    have hcols : ∀ p ∈ ps', (p.2.2.map (·.1)).Nodup ∧ p.2.2.length < 64 := fun p hp => ⟨(W'.ok p hp).2.nd, (W'.rok p hp).len⟩
    refine ⟨_, rfl, _, rfl, _, rfl, a', n, ws', ps', _, rfl, .inl (.inl I14.a), I14.p, hcols, hps', I14.tb, fun v2 H15 l15 f15 => ?_⟩
    refine ⟨vf', v2, formD n (nrm ps'), rfl, (l15.form I14.f).dp, f15.dp, leafy_form _ _, depth_form _ _, fun H16 l16 => ⟨true, rfl, iteF ?_⟩⟩
    have I16 := I14.at (l15.trans l16)
    have eL16 := (l15.trans l16).at eL14
    refine ⟨_, rfl, _, _, rfl, rfl, cd _ 72 (by decide) (by decide), _, _, rfl, rfl, (show (0 : Int) < 16 by decide), rfl, _, rfl, ?_⟩
    rw [dI]
    by_cases h16 : c / 72 % 16 = 3
    · rw [decide_eq_true h16]
      refine iteT ⟨_, rfl, _, rfl, vo, vs, d, rfl, I16.d1, I16.d2, I16.lf, I16.dp, fun H17 l17 => ⟨true, rfl, iteF ?_⟩⟩
      have I17 := I16.at l17
      refine ⟨_, rfl, _, rfl, _, rfl, a', n, ws', ps', _, rfl, .inl (.inl I17.a), I17.p, hcols, hps', I17.tb, fun v3 H18 l18 f18 => ?_⟩
      have I18 := I17.at l18
      exact ⟨a', vf', vf', v3, ps', ws', formD n (nrm ps'), _, _, _, _, _, _, _, _, rfl, { I18 with d1 := I18.f.dp, d2 := f18.dp, lf := leafy_form _ _, dp := depth_form _ _ }, (l17.trans l18).at eL16⟩
    · rw [decide_eq_false h16]
      exact iteF ⟨a', vf', vo, vs, ps', ws', d, _, _, _, _, _, _, _, _, rfl, I16, eL16⟩
  · obtain ⟨a, vf, vo, vs, ps, ws, d, y7, y8, y9, y10, y11, y12, y13, y14, rfl, I, eL⟩ := hP
    have hlen : ps.length < 800 := Nat.lt_of_le_of_lt I.len (by omega)
    refine ⟨_, rfl, _, rfl, _, rfl, sc, ns, 2, rfl, I.sc, by decide, fun z5 => ?_⟩
    refine ⟨vf, nm, z5, _, nrm ps, zs, rfl, I.f, I.wf.nrm, by rw [nrm_length]; omega, I.tb, I.nm, I.zn, by rw [I.zl]; exact Nat.le_refl _, fun H8 l8 => ?_⟩
    have I8 := I.at l8
    refine ⟨true, rfl, iteF ⟨_, rfl, _, rfl, vo, vs, d, rfl, I8.d1, I8.d2, I8.lf, I8.dp, fun H9 l9 => ⟨true, rfl, iteF ?_⟩⟩⟩
    have I9 := I8.at l9
    exact ⟨_, rfl, _, rfl, _, rfl, vf, a, _, ps, ws, rfl, I9.f, I9.wf, by omega, I9.n1, .inl (.inl I9.a), I9.p, I9.tb, fun H10 l10 => q H10⟩
end
end HM
set_option Elab.async false
set_option linter.all false
set_option maxRecDepth 100000
set_option maxHeartbeats 0
namespace HM
open PySem PySem.Spec PyProof.Rows L2
/-! ### the head: what is told -/
def dOf (x : Str) (s : Stmt) : He.DefD := ⟨(x, none), x, x, defArgs s, defBody s, defScope s, [], []⟩
def dInit : He.DefD := ⟨("StepError", some "__init__"), "__init__", "StepError.__init__", defArgs sInit, defBody sInit, defScope sInit, [], []⟩
def defl_0 : List (Str × Stmt) := [("is_whole", sIsWhole), ("is_name", sIsName), ("is_plain", sIsPlain), ("is_kind", sIsKind), ("need_columns", sNeed), ("form_of", sFormOf), ("table_at", sTableAt), ("tables_of", sTablesOf), ("sort_of", sSortOf), ("columns_of", sColumnsOf), ("parts_of", sPartsOf), ("with_columns", sWithCols)]
def defl_1 : List (Str × Stmt) := [("with_table", sWithTab), ("without_table", sWithout), ("_law_cell", sCell), ("_law_stream", sStream), ("_law_letter", sLetter), ("_law_names", sNames), ("_law_plain", sPlain), ("_law_kind", sKind), ("_law_columns", sColumns), ("_law_same", sSame), ("_law_form", sForm), ("_law_words", sWords)]
def defl_2 : List (Str × Stmt) := [("_law_at", sAt), ("_law_done", sDone), ("_law_refused", sRefused), ("_law_parts", sParts), ("_law_due", sDue), ("_law_no_table", sNoTable), ("_law_no_form", sNoForm), ("_law_other_refusals", sOther), ("_law_same_at_once", sAtOnce), ("law", sLaw)]
def defl : List (Str × Stmt) := defl_0 ++ defl_1 ++ defl_2
def fns : List He.DefD := dInit :: defl.map fun q => dOf q.1 q.2
def gnames_0 : List Str := ["is_whole", "is_name", "is_plain", "is_kind", "need_columns", "form_of", "table_at", "tables_of", "sort_of", "columns_of", "parts_of", "with_columns"]
def gnames_1 : List Str := ["with_table", "without_table", "_law_cell", "_law_stream", "_law_letter", "_law_names", "_law_plain", "_law_kind", "_law_columns", "_law_same", "_law_form", "_law_words"]
def gnames_2 : List Str := ["_law_at", "_law_done", "_law_refused", "_law_parts", "_law_due", "_law_no_table", "_law_no_form", "_law_other_refusals", "_law_same_at_once", "law", "TableError", "StepError"]
def gnames_3 : List Str := ["NoTable", "BadRow", "Taken", "Missing", "Lone", "Gap", "Twice", "Nowhere", "NoForm", "NoMove", "NoText", "TooMany"]
def gnames_4 : List Str := ["NotDone", "NoRow", "SORTS"]
def gnames : List Str := gnames_0 ++ gnames_1 ++ gnames_2 ++ gnames_3 ++ gnames_4
def fnames_0 : List Str := ["isinstance", "len", "int", "bool", "str", "tuple", "enumerate", "sorted", "dict", "range", "zip", "reversed"]
def fnames_1 : List Str := ["ValueError"]
def fnames : List Str := fnames_0 ++ fnames_1
def facs : List He.Fa := [.int "LONGEST" 8, .str "LETTERS" LET, .exc "NoForm", .exm "NoForm" "TableError" true, .exm "NoTable" "TableError" true, .exm "NoForm" "NoTable" false, .exm "NoTable" "NoTable" true] ++ (gnames.map He.Fa.glo ++ fnames.map He.Fa.free)
def kitl_0 : List (Str × Bool × Bool) := [("TableError", true, true), ("NoForm", true, false), ("StepError", false, true), ("NoTable", false, true), ("NoMove", false, false), ("NoRow", false, false), ("NoText", false, false), ("NotDone", false, false), ("TooMany", false, false), ("BadRow", false, false), ("Taken", false, false), ("Missing", false, false)]
def kitl_1 : List (Str × Bool × Bool) := [("Lone", false, false), ("Gap", false, false), ("Twice", false, false), ("Nowhere", false, false)]
def kitl : List (Str × Bool × Bool) := kitl_0 ++ kitl_1
def oexB (K : PySem.W.Frag) (C : Addr) : Bool := (match K.lookup C with
    | some ⟨.type t, _, .cls cd, sl⟩ => decide (t = "type") && (match cd.mro, sl.toList with
      | .ref C' :: bm, [_, _, _, _, some (.builtin n), _] => decide (C' = C) && (cd.hasDict && (!cd.hasDel && (PySem.HandSPX.refsVE bm && decide (n = "ValueError.__new__"))))
      | _, _ => false)
    | _ => false) && (decide (PySem.W.findIn K (.ref C) "__setattr__" = some (some (.builtin "object.__setattr__"))) && (decide (PySem.W.subIn K (.ref C) (.type "BaseException") = some true) && (decide (PySem.W.typeIn K (.ref C) = some (.type "type")) && PySem.W.keepIn K (.ref C))))
def excCB (K : PySem.W.Frag) (D : Addr) : Bool := decide (PySem.W.findIn K (.ref D) "__getattribute__" = some (some (.builtin "BaseException.__getattribute__"))) && (decide (PySem.W.findIn K (.ref D) "__getattr__" = some none) && (decide (PySem.W.subIn K (.ref D) (.type "BaseException") = some true) && (PySem.W.hasDictIn K D &&
  (decide (PySem.W.findIn K (.ref D) "__class__" = some (some (.builtin "object.__class__"))) && (decide (PySem.W.specialIn K (.builtin "object.__class__") "__get__" = some (some (.builtin "getset_descriptor.__get__"))) && (decide (PySem.W.takesIn K (.builtin "object.__class__") = some true) && decide (PySem.W.mroIn K D (.type "object") = some true)))))))
def kitB2 (K : PySem.W.Frag) (q : Str × Bool × Bool) : Bool := decide (PySem.W.kitOne K (.ref (He.ga K "NoForm")) (.ref (He.ga K q.1)) = some q.2.1) && decide (PySem.W.kitOne K (.ref (He.ga K "NoTable")) (.ref (He.ga K q.1)) = some q.2.2)
def tfs : List He.Defn := [("form_of", none), ("_law_form", none)]
def exB (K : PySem.W.Frag) : Bool := He.tupB K "SORTS" [.str "head", .str "twin", .str "many", .str "some"] && (oexB K (He.ga K "NoTable") && (excCB K (He.ga K "NoForm") && (excCB K (He.ga K "NoTable") && (kitl.all (kitB2 K) &&
  (decide (PySem.W.kitOne K (.ref (He.ga K "NoForm")) (.type "ValueError") = some true) && (decide (PySem.W.kitOne K (.ref (He.ga K "NoTable")) (.type "ValueError") = some true) &&
  (decide (PySem.W.findIn K (.ref (He.ga K "NoTable")) "__init__" = some (some (.ref (He.fAd K ("StepError", some "__init__"))))) && (decide (PySem.W.typeIn K (.ref (He.fAd K ("StepError", some "__init__"))) = some (.type "function")) &&
  (decide (PySem.W.findIn K (.ref (He.ga K "NoTable")) "table" = some none) && (decide (PySem.W.findIn K (.ref (He.ga K "NoTable")) "key" = some none) && (decide (PySem.W.findIn K (.ref (He.ga K "NoTable")) "place" = some none) &&
  decide ((He.cT K ("form_of", none)).2 ≠ (He.cT K ("_law_form", none)).2))))))))))))
abbrev R : PySem.W.OpenRow := PySem.W.OpenLaw.row PySem.Challenge.rw_halfmoved_k09_whole_forms_by_deeds
abbrev hk : PySem.W.Hook := He.hookX 4 facs fns [] tfs exB
def ob (s : PySem.W.SharedT) : He.AlX := He.obsX 4 facs fns [] tfs exB (HandSHeadRun.getT s)
theorem ob_eq (s : PySem.W.SharedT) : ob s = hk.obs s.abs := He.obsX_eq (HandSHeadRun.getT_eq s)
def loose1_0 : List PySem.Str := ["TableError", "StepError", "NoTable", "BadRow", "Taken", "Missing", "Lone", "Gap", "Twice", "Nowhere", "NoForm", "NoMove"]
def loose1_1 : List PySem.Str := ["NoText", "TooMany", "NotDone", "NoRow", "LETTERS", "LONGEST", "is_whole", "is_name", "is_plain", "is_kind", "SORTS"]
def loose1 : List PySem.Str := loose1_0 ++ loose1_1
def loose2_0 : List PySem.Str := ["need_columns", "form_of", "table_at", "tables_of", "sort_of", "columns_of", "parts_of", "with_columns", "with_table", "without_table", "_law_cell", "_law_stream"]
def loose2_1 : List PySem.Str := ["_law_letter", "_law_names", "_law_plain", "_law_kind", "_law_columns", "_law_same", "_law_form", "_law_words", "_law_at", "_law_done", "_law_refused", "_law_parts"]
def loose2_2 : List PySem.Str := ["_law_due", "_law_no_table", "_law_no_form", "_law_other_refusals", "_law_same_at_once"]
def loose2 : List PySem.Str := loose2_0 ++ loose2_1 ++ loose2_2
def loose : List PySem.Str := loose1 ++ loose2
theorem run (w : World) : HandSHeadRun.RunEq R (PySem.W.view R.prog [56]) hk ob 60000 loose w := by
  intro os
  kernel_rfl
end HM
set_option Elab.async false
set_option linter.all false
set_option maxRecDepth 100000
set_option maxHeartbeats 4000000
namespace HM
open PySem PySem.Spec PyProof.Rows L2
/-! ### what the head tells, read -/
theorem oexB_ok {K : PySem.W.Frag} {C : Addr} (h : oexB K C = true) : OexC K C := by
  obtain ⟨h1, h⟩ := He.ba h
  obtain ⟨h2, h⟩ := He.ba h
  obtain ⟨h3, h⟩ := He.ba h
  obtain ⟨h4, h5⟩ := He.ba h
  refine ⟨?_, of_decide_eq_true h2, of_decide_eq_true h3, of_decide_eq_true h4, h5⟩
  split at h1
  · rename_i t dd cd sl ho
    obtain ⟨e1, q⟩ := He.ba h1
    have e1' := of_decide_eq_true e1
    subst e1'
    split at q
    · rename_i C' bm k0 k1 k2 k3 n k5 hm hs
      obtain ⟨q1, q⟩ := He.ba q
      obtain ⟨q2, q⟩ := He.ba q
      obtain ⟨q3, q⟩ := He.ba q
      obtain ⟨q4, q5⟩ := He.ba q
      have q1' := of_decide_eq_true q1
      have q5' := of_decide_eq_true q5
      subst q1' q5'
      obtain ⟨nm, bs, mro, ns, qn, hd, sn, sub, ab, col, del⟩ := cd
      dsimp only at hm q2 q3
      have q3' : del = false := by
        cases del with
        | false => rfl
        | true => cases q3
      subst hm q2 q3'
      have hsl : sl = #[k0, k1, k2, k3, some (.builtin "ValueError.__new__"), k5] := by
        obtain ⟨l⟩ := sl
        simp only at hs
        rw [hs]
      subst hsl
      exact ⟨nm, qn, ns, bs, bm, sn, sub, ab, col, dd, k0, k1, k2, k3, k5, ho, q4⟩
    · cases q
  · cases h1
theorem excCB_ok {K : PySem.W.Frag} {D : Addr} (h : excCB K D = true) : ExcC K D := by
  obtain ⟨h1, h⟩ := He.ba h
  obtain ⟨h2, h⟩ := He.ba h
  obtain ⟨h3, h⟩ := He.ba h
  obtain ⟨h4, h⟩ := He.ba h
  obtain ⟨h5, h⟩ := He.ba h
  obtain ⟨h6, h⟩ := He.ba h
  obtain ⟨h7, h8⟩ := He.ba h
  exact ⟨of_decide_eq_true h1, of_decide_eq_true h2, of_decide_eq_true h3, h4, of_decide_eq_true h5, of_decide_eq_true h6, of_decide_eq_true h7, of_decide_eq_true h8⟩
theorem gfac {x : Str} (h : x ∈ gnames) : He.Fa.glo x ∈ facs := List.mem_append_right _ (List.mem_append_left _ (List.mem_map_of_mem h))
theorem ffac {x : Str} (h : x ∈ fnames) : He.Fa.free x ∈ facs := List.mem_append_right _ (List.mem_append_right _ (List.mem_map_of_mem h))
section
variable {P : Program} {w : World} {K : PySem.W.Frag} {h : Heap} {mg : Str → Option Value}
theorem def_at (X : K.In h) (G : h.Ns mainGlobals mg) (c : He.SaysD facs fns K) (k : Nat) {x : Str} {st : Stmt} (hk : defl[k]? = some (x, st)) (hx : x ∈ gnames) : DefAt K mg x st := by
  obtain ⟨fd, F⟩ := c.defs (d := dOf x st) (List.mem_cons_of_mem _ (List.mem_map_of_mem (f := fun q : Str × Stmt => dOf q.1 q.2) (List.mem_of_getElem? hk)))
  exact ⟨He.ga K x, fd, F, He.glo_ok X G (c.facts (gfac hx))⟩
theorem def_c (X : K.In h) (G : h.Ns mainGlobals mg) (c : He.SaysD facs fns K) (k : Nat) {x : Str} {st : Stmt} (hk : defl[k]? = some (x, st)) (hx : x ∈ gnames) : DefC K mg x st (He.cT K (x, none)).1 := by
  obtain ⟨fd, F⟩ := c.defs (d := dOf x st) (List.mem_cons_of_mem _ (List.mem_map_of_mem (f := fun q : Str × Stmt => dOf q.1 q.2) (List.mem_of_getElem? hk)))
  obtain ⟨oc, od, dV, kV, doc, pm, an, cdv, ct, osl, rfl, lk, hcd, hD, hK⟩ := F.ex
  obtain ⟨c0, rfl⟩ := He.codeIn_ref hcd
  have ec : He.codeOf K (x, none) = c0 := He.codeOf_eq (p := (x, none)) lk rfl
  rcases hD with ⟨_, rfl⟩ | ⟨e, _⟩
  · show DefC K mg x st (He.codeOf K (x, none))
    rw [ec]
    exact ⟨He.ga K x, oc, od, kV, doc, pm, an, ct, osl, lk, hcd, F.kp, He.glo_ok X G (c.facts (gfac hx))⟩
  · exact absurd rfl e
theorem kt2 (X : K.In h) (G : h.Ns mainGlobals mg) (c : He.SaysD facs fns K) (hk : kitl.all (kitB2 K) = true) {x : Str} {bF bT : Bool} (hm : (x, bF, bT) ∈ kitl) (hx : x ∈ gnames) : Kt2 K mg (He.ga K "NoForm") (He.ga K "NoTable") x bF bT := by
  obtain ⟨h1, h2⟩ := He.ba (List.all_eq_true.mp hk _ hm)
  exact ⟨He.ga K x, He.glo_ok X G (c.facts (gfac hx)), of_decide_eq_true h1, of_decide_eq_true h2⟩
theorem facts {f : Addr} (X : K.In h) (G : h.Ns mainGlobals mg) (hfa : mg ("law" : Str) = some (.ref f)) (c : He.SaysX facs fns [] tfs exB w h K) (l : PySem.W.OpenLaw) (hl : l.prog = P) :
    LamX.LawAtS l w K L2.CX0 11 63 "_law_script" mg f h := by
  have cd := c.t.d
  obtain ⟨x1, x⟩ := He.ba c.more
  obtain ⟨x2, x⟩ := He.ba x
  obtain ⟨x3, x⟩ := He.ba x
  obtain ⟨x4, x⟩ := He.ba x
  obtain ⟨x5, x⟩ := He.ba x
  obtain ⟨x6, x⟩ := He.ba x
  obtain ⟨x7, x⟩ := He.ba x
  obtain ⟨x8, x⟩ := He.ba x
  obtain ⟨x9, x⟩ := He.ba x
  obtain ⟨x10, x⟩ := He.ba x
  obtain ⟨x11, x⟩ := He.ba x
  obtain ⟨x12, x13⟩ := He.ba x
  have g : ∀ x : Str, x ∈ gnames → mg x = some (.ref (He.ga K x)) := fun x hx => He.glo_ok X G (cd.facts (gfac hx))
  have fr : ∀ x : Str, x ∈ fnames → mg x = none := fun x hx => He.free_ok X G (cd.facts (ffac hx))
  have B : Bt mg := ⟨fr _ (by decide +kernel), fr _ (by decide +kernel), fr _ (by decide +kernel), fr _ (by decide +kernel), fr _ (by decide +kernel), fr _ (by decide +kernel), fr _ (by decide +kernel), fr _ (by decide +kernel), fr _ (by decide +kernel), fr _ (by decide +kernel), fr _ (by decide +kernel),
    fr _ (by decide +kernel), fr _ (by decide +kernel), He.int_ok X G (cd.fact 0 (f := .int "LONGEST" 8) rfl), He.str_ok X G (cd.fact 1 (f := .str "LETTERS" LET) rfl)⟩
  obtain ⟨qF, kF, sF, tF⟩ := He.exc_ok (cd.fact 2 (f := .exc "NoForm") rfl)
  obtain ⟨fdI, FI⟩ := cd.defs (d := dInit) List.mem_cons_self
  have ex : Ex K mg (He.ga K "NoForm") (He.ga K "NoTable") (He.fAd K ("StepError", some "__init__")) :=
    ⟨g _ (by decide +kernel), qF, kF, sF, tF, g _ (by decide +kernel), oexB_ok x2, of_decide_eq_true x8, of_decide_eq_true x9, ⟨fdI, FI⟩, of_decide_eq_true x10, of_decide_eq_true x11, of_decide_eq_true x12⟩
  have eT := excCB_ok x4
  have kt : ∀ (x : Str) (bF bT : Bool), (x, bF, bT) ∈ kitl → x ∈ gnames → Kt2 K mg (He.ga K "NoForm") (He.ga K "NoTable") x bF bT := fun x bF bT hm hx => kt2 X G cd x5 hm hx
  have kl : Kl K mg (He.ga K "NoForm") (He.ga K "NoTable") :=
    { ef := excCB_ok x3, et := eT, xt := ⟨eT.hg, eT.hk, eT.hs, eT.hd⟩, veF := of_decide_eq_true x6, veT := of_decide_eq_true x7
      te := kt _ _ _ (by decide +kernel) (by decide +kernel), nf := kt _ _ _ (by decide +kernel) (by decide +kernel), se := kt _ _ _ (by decide +kernel) (by decide +kernel), nt := kt _ _ _ (by decide +kernel) (by decide +kernel)
      noMove := kt _ _ _ (by decide +kernel) (by decide +kernel), noRow := kt _ _ _ (by decide +kernel) (by decide +kernel), noText := kt _ _ _ (by decide +kernel) (by decide +kernel), notDone := kt _ _ _ (by decide +kernel) (by decide +kernel), tooMany := kt _ _ _ (by decide +kernel) (by decide +kernel)
      badRow := kt _ _ _ (by decide +kernel) (by decide +kernel), taken := kt _ _ _ (by decide +kernel) (by decide +kernel), missing := kt _ _ _ (by decide +kernel) (by decide +kernel), lone := kt _ _ _ (by decide +kernel) (by decide +kernel), gap := kt _ _ _ (by decide +kernel) (by decide +kernel), twice := kt _ _ _ (by decide +kernel) (by decide +kernel), nowhere := kt _ _ _ (by decide +kernel) (by decide +kernel)
      xte := ⟨_, g _ (by decide +kernel), He.exm_ok (cd.fact 3 (f := .exm "NoForm" "TableError" true) rfl), He.exm_ok (cd.fact 4 (f := .exm "NoTable" "TableError" true) rfl)⟩
      xnt := ⟨g _ (by decide +kernel), He.exm_ok (cd.fact 5 (f := .exm "NoForm" "NoTable" false) rfl), He.exm_ok (cd.fact 6 (f := .exm "NoTable" "NoTable" true) rfl)⟩ }
  have hSORTS : ∀ H, SqT K H (He.ga K "SORTS") (SORTS4.map V.str) := fun H => He.tupB_ok x1 H
  have hne : (He.cT K ("form_of", none)).2 ≠ (He.cT K ("_law_form", none)).2 := of_decide_eq_true x13
  obtain ⟨fdL, FL⟩ := cd.defs (d := dOf "law" sLaw) (List.mem_cons_of_mem _ (List.mem_map_of_mem (f := fun q : Str × Stmt => dOf q.1 q.2) (List.mem_of_getElem? (i := 33) (show defl[33]? = some (("law" : Str), sLaw) from rfl))))
  have efa : He.ga K "law" = f := by
    have := (g "law" (by decide +kernel)).symm.trans hfa
    cases this
    rfl
  have FL' : FnP K "law" sLaw f fdL := efa ▸ FL
  subst hl
  have m1 : (("form_of", none) : He.Defn) ∈ tfs := List.mem_cons_self
  have m2 : (("_law_form", none) : He.Defn) ∈ tfs := List.mem_cons_of_mem _ List.mem_cons_self
  refine ⟨fdL, tfs.map (He.cT K), spLaw [((He.cT K ("form_of", none)).2, "form_of.<locals>.<lambda>"), ((He.cT K ("_law_form", none)).2, "_law_form.<locals>.<lambda>")] K, fun p hp => ?_, fun p hp => ?_, fun p hp => ?_, fun s u => ?_, fun H a ns hlen hbits hH hS => ?_, fun base kb gb tb => ?_⟩
  · obtain ⟨q, hq, rfl⟩ := List.mem_map.mp hp
    exact c.empty q hq
  · obtain ⟨q, hq, rfl⟩ := List.mem_map.mp hp
    exact c.out q hq
  · obtain ⟨q, hq, rfl⟩ := List.mem_map.mp hp
    exact PySem.W.codeHd_of_K X (c.hd q hq)
  · exact FunD.bindsA (ps := ["_law_script"]) FL' (fun _ _ _ _ _ _ us hl => match us, hl with | [_], _ => rfl) s [u] rfl
  · refine ⟨a, ns, rfl, hS, fun q hq => ?_, fun _ => rfl⟩
    rcases List.mem_cons.mp hq with rfl | hq
    · exact LamX.TabS.nil (hH _ (List.mem_map_of_mem m1))
    · rw [List.mem_singleton.mp hq]
      exact LamX.TabS.nil (hH _ (List.mem_map_of_mem m2))
  · have d : ∀ (k : Nat) (x : Str) (st : Stmt), defl[k]? = some (x, st) → x ∈ gnames → DefAt K mg x st := fun k x st hk hx => def_at X G cd k hk hx
    generalize hT : ([((He.cT K ("form_of", none)).2, ("form_of.<locals>.<lambda>" : Str)), ((He.cT K ("_law_form", none)).2, ("_law_form.<locals>.<lambda>" : Str))] : Tb) = T
    have T1 : ((He.cT K ("form_of", none)).2, ("form_of.<locals>.<lambda>" : Str)) ∈ T := hT ▸ List.mem_cons_self
    have T2 : ((He.cT K ("_law_form", none)).2, ("_law_form.<locals>.<lambda>" : Str)) ∈ T := hT ▸ List.mem_cons_of_mem _ List.mem_cons_self
    have U1 : ∀ q ∈ T, q.1 = (He.cT K ("form_of", none)).2 → q.2 = ("form_of.<locals>.<lambda>" : Str) := fun q hq e => by
      rw [← hT] at hq
      rcases List.mem_cons.mp hq with rfl | hq
      · rfl
      · rw [List.mem_singleton.mp hq] at e
        exact absurd e.symm hne
    have U2 : ∀ q ∈ T, q.1 = (He.cT K ("_law_form", none)).2 → q.2 = ("_law_form.<locals>.<lambda>" : Str) := fun q hq e => by
      rw [← hT] at hq
      rcases List.mem_cons.mp hq with rfl | hq
      · exact absurd e hne
      · rw [List.mem_singleton.mp hq]
    have tb1 := tb _ (List.mem_map_of_mem m1)
    have tb2 := tb _ (List.mem_map_of_mem m2)
    have dW := d 0 "is_whole" sIsWhole rfl (by decide +kernel)
    have dN := d 1 "is_name" sIsName rfl (by decide +kernel)
    have dP := d 2 "is_plain" sIsPlain rfl (by decide +kernel)
    have dK := d 3 "is_kind" sIsKind rfl (by decide +kernel)
    have GW := ok_is_whole (P := l.prog) (w := w) (base := base) dW B
    have GN := ok_is_name (P := l.prog) (w := w) (K := K) (base := base) dN B
    have GK := ok_is_kind (P := l.prog) (w := w) (base := base) T dK dP dW B
    have GC := ok_need (P := l.prog) (w := w) (base := base) T (d 4 "need_columns" sNeed rfl (by decide +kernel)) ex GN GK B
    have GF := ok_form (P := l.prog) (w := w) T (def_c X G cd 5 (x := "form_of") (st := sFormOf) rfl (by decide +kernel)) tb1 T1 U1 ex GW GN GC B (g "SORTS" (by decide +kernel)) hSORTS
    have GTa := ok_table_at (P := l.prog) (w := w) (base := base) T (d 6 "table_at" sTableAt rfl (by decide +kernel)) ex
    have GTo := ok_tables_of (P := l.prog) (w := w) (base := base) T (d 7 "tables_of" sTablesOf rfl (by decide +kernel))
    have GSo := ok_sort_of T (d 8 "sort_of" sSortOf rfl (by decide +kernel)) GTa
    have GCo := ok_columns_of T (d 9 "columns_of" sColumnsOf rfl (by decide +kernel)) GTa B
    have GPo := ok_parts_of (P := l.prog) (w := w) (base := base) T (d 10 "parts_of" sPartsOf rfl (by decide +kernel)) B
    have GWc := ok_with_cols T (d 11 "with_columns" sWithCols rfl (by decide +kernel)) GTa GPo GF
    have GWt := ok_with_tab T (d 12 "with_table" sWithTab rfl (by decide +kernel)) GPo GF
    have GWo := ok_without T (d 13 "without_table" sWithout rfl (by decide +kernel)) GTa GPo GF
    have LC := ok_cell (P := l.prog) (w := w) (base := base) (d 14 "_law_cell" sCell rfl (by decide +kernel)) B
    have LS := ok_stream (P := l.prog) (w := w) (K := K) (base := base) T (d 15 "_law_stream" sStream rfl (by decide +kernel)) B
    have LL := ok_letter (P := l.prog) (w := w) (K := K) (base := base) (d 16 "_law_letter" sLetter rfl (by decide +kernel))
    have LN := ok_names T (d 17 "_law_names" sNames rfl (by decide +kernel)) LS LL B
    have LP := ok_lplain (P := l.prog) (w := w) (base := base) T (d 18 "_law_plain" sPlain rfl (by decide +kernel))
    have LK := ok_lkind T (d 19 "_law_kind" sKind rfl (by decide +kernel)) LP
    have LCo := ok_lcols T (d 20 "_law_columns" sColumns rfl (by decide +kernel)) LS LN LK B
    have LSa := ok_same (P := l.prog) (w := w) (base := base) T (d 21 "_law_same" sSame rfl (by decide +kernel)) B
    have LF := ok_lform (P := l.prog) (w := w) T (def_c X G cd 22 (x := "_law_form") (st := sForm) rfl (by decide +kernel)) tb2 T2 U2 B
    have LW := ok_words (P := l.prog) (w := w) (base := base) T (d 23 "_law_words" sWords rfl (by decide +kernel)) kl B
    have LA := ok_at (P := l.prog) (w := w) (base := base) T (d 24 "_law_at" sAt rfl (by decide +kernel)) B
    have LD := ok_done T (d 25 "_law_done" sDone rfl (by decide +kernel)) GWt GWc GWo
    have LR := ok_refused T (d 26 "_law_refused" sRefused rfl (by decide +kernel)) ex kl LD LW (LSa 0)
    have LPa := ok_parts (P := l.prog) (w := w) (base := base) T (d 27 "_law_parts" sParts rfl (by decide +kernel))
    have LU := ok_due (P := l.prog) (w := w) (K := K) (base := base) T (d 28 "_law_due" sDue rfl (by decide +kernel))
    have LNt := ok_no_table T (d 29 "_law_no_table" sNoTable rfl (by decide +kernel)) ex kl GSo GCo GWc GWo LW (LSa 0)
    have LNf := ok_no_form T (d 30 "_law_no_form" sNoForm rfl (by decide +kernel)) kl GWt GWc GWo LW
    have LO := ok_other T (d 31 "_law_other_refusals" sOther rfl (by decide +kernel)) LNt LNf B
    have LE := ok_once T (d 32 "_law_same_at_once" sAtOnce rfl (by decide +kernel)) GF GTo LF (LSa 7) B
    exact ok_law T FL' LC LN GF LF LCo LA LU LR LPa LD (LSa 7) LO LE B
end
end HM
open PySem PySem.W PySem.Calls PyProof.Rows
theorem PySem.Challenge.cw_halfmoved_k09_whole_forms_by_deeds_holds : PySem.Challenge.rw_halfmoved_k09_whole_forms_by_deeds.Holds := by
  w_on; o_law
  refine HandSHeadRun.head_any (r := OpenLaw.row PySem.Challenge.rw_halfmoved_k09_whole_forms_by_deeds) (q := view (OpenLaw.row PySem.Challenge.rw_halfmoved_k09_whole_forms_by_deeds).prog [56]) (H := HM.hk) (ob := HM.ob) (M := 60000) (loose := HM.loose) (d := HandSHeadRun.topDef (OpenLaw.row PySem.Challenge.rw_halfmoved_k09_whole_forms_by_deeds).prog 56) (kwd := []) HM.ob_eq
    (by kernel_rfl) (fun s => by kernel_rfl) HM.run (by kernel_rfl) (by kernel_rfl) (by kernel_rfl) (by rfl) (by first | assumption | decide +kernel) (by decide +kernel) ⟨rfl, rfl, rfl, rfl, rfl, by decide +kernel⟩ ?hw ?hc
  case hw => w_witness2
  case hc =>
    refine LamX.walk_ofTsE (l := PySem.Challenge.rw_halfmoved_k09_whole_forms_by_deeds) (n := 63) (k := 11) (x := "_law_script") (CX := fun _ => L2.CX0) rfl (by rw [sizeLine_eq]; decide) (by kernel_rfl) ⟨rfl, by decide, by decide⟩ ?F (fun _ _ _ _ _ z => z)
    intro w mg fa h Y G hmg0
    obtain ⟨K, KX, c⟩ := Y
    have hmg : mg ("law" : PySem.Str) = some (.ref fa) := by
      have e : (HandSHeadRun.topDef (OpenLaw.row PySem.Challenge.rw_halfmoved_k09_whole_forms_by_deeds).prog 56).name = ("law" : PySem.Str) := by kernel_rfl
      rw [← e]
      exact hmg0
    exact ⟨K, KX, HM.facts KX G hmg c _ rfl⟩
