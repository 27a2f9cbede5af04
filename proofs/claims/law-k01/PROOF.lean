import PyProof.Rows.All
import Wide.All
import OpenK.AllK
import Wide.FinOn
import PyProof.EqAt
import PyProof.EqKinds
import PyProof.TupleCall
import PyProof.ReprRoads
import KE.KStateDown
import KE.SortData
import KE.DataCmp
import HandS.ForMost
import HandS.ForExc
import HandS.TryMany
import HandS.TupAny
import HandS.Evl
import HandS.Conv
import HandS.Walk
import HandS.Zip
import HandS.AnyAll
import HandS.Lambda
import HandS.IsInst
import HandS.More
import HandS.Deep
import HandS.DictTup
import HandS.Defaults
import HandS.Head0
import HandS.Head1
import HandS.Head2
import HandS.HeadEnd
import HandS.HeadHook1
import HandS.HeadHook2
import HandS.HeadHook3
import HandS.HeadHook4
import HandS.HeadWalk
import HandS.EndTab
import KE.GoesEnum
import KE.KExcSuper
import HandS.ExcSuper
import KE.KDictSum
import HandS.DictEq
import PySem.Challenge.RW_everyleaf_k01_whole_the_order_of_documen
import HandS.HeadNt
set_option Elab.async false
set_option linter.all false
set_option maxRecDepth 100000
set_option maxHeartbeats 4000000
/-! Leaf A: what is kept of the heap (Kp), promises by name (Pr), data over the heap, first rules of our own. -/
namespace Lf
open PySem PySem.Spec PyProof.Rows L2

/-! ### what stays: everything but what N says -/
def Kp (N : Addr → Prop) (H H' : Hp) : Prop := ∀ a o, ¬ N a → H a = some o → H' a = some o
theorem Kp.refl {N : Addr → Prop} {H : Hp} : Kp N H H := fun _ _ _ h => h
theorem Kp.trans {N : Addr → Prop} {H H1 H2 : Hp} (a : Kp N H H1) (b : Kp N H1 H2) : Kp N H H2 := fun x o n h => b x o n (a x o n h)
theorem Kp.mono {N M : Addr → Prop} {H H1 : Hp} (a : Kp N H H1) (h : ∀ x, N x → M x) : Kp M H H1 := fun x o n e => a x o (fun z => n (h x z)) e
theorem Kp.new {N : Addr → Prop} {H : Hp} {p : Addr} {o : HO} (h : H p = none) : Kp N H (upd H p o) := fun a u _ e => by
  rw [upd_ne (ne_of_none e h)]
  exact e
theorem Kp.mut {N : Addr → Prop} {H : Hp} {p : Addr} {o : HO} (h : N p) : Kp N H (upd H p o) := fun a u n e => by
  rw [upd_ne (fun z => n (by rw [z]; exact h))]
  exact e
theorem Kp.of_none {N : Addr → Prop} {H H' : Hp} {p : Addr} (k : Kp N H H') (hn : ¬ N p) (h : H' p = none) : H p = none := by
  cases q : H p with
  | none => rfl
  | some o =>
    rw [k p o hn q] at h
    cases h

/-! ### tuples stay, whatever runs -/
def Ts (H H' : Hp) : Prop := ∀ a xs, Rd H a (.tup xs) → Rd H' a (.tup xs)
theorem Ts.refl {H : Hp} : Ts H H := fun _ _ h => h
theorem Ts.trans {H H1 H2 : Hp} (a : Ts H H1) (b : Ts H1 H2) : Ts H H2 := fun x xs h => b x xs (a x xs h)
theorem Ts.of_un {fs ex : List Addr} {H H' : Hp} {h h' : Heap} (u : Un fs ex H H' h h') : Ts H H' := fun a xs r => by
  rcases r with r | ⟨ob, r⟩
  · exact .inl (u.tups a xs r)
  · exact .inr ⟨ob, u.frzs a ob _ r⟩

/-- a def's promise where no repr runs around it: called at room k it keeps sp; tuples stay -/
structure FnG (P : Program) (w : World) (K : PySem.W.Frag) (mg : Str → Option Value) (base : Heap) (k : Nat) (f : Addr) (fd : FuncData) (ps : List Str) (sp : Sp) : Prop where
  len : ∀ vs H Q E, sp vs H Q E → vs.length = ps.length
  run : ∀ (A : Around) (outer : List Env) (s : Shared) (H : Hp) (args : Args) (us : List Value) (vs : List V) (Q : VK) (E : XK), A.guards = some [] → Room k A → Env0 P w K mg base A outer s H → BindsTo s fd args (ps.zip us) → Vals vs us →
    sp vs H Q E → codeAny (model P w) A (.call (.ref f) args) (CR (L2.CX P w) outer P w H s Q E) s
/-- the wish, told that tuples stood -/
def wT (H : Hp) (Q : VK) : VK := fun v H' => Ts H H' → Q v H'
theorem CE.ts {outer : List Env} {P : Program} {w : World} {H : Hp} {s : Shared} {Q : VK} {u : Value} {s' : Shared} (c : CE outer P w H s (wT H Q) u s') : CE outer P w H s Q u s' := by
  obtain ⟨v, H', a, b, un, d, e, q⟩ := c
  exact ⟨v, H', a, b, un, d, e, q (Ts.of_un un)⟩
/-- THE RULE for a def by its body -/
theorem fn_ofG {P : Program} {w : World} {K : PySem.W.Frag} {mg : Str → Option Value} {base : Heap} {k : Nat} {f : Addr} {x qual : Str} {st : Stmt} {fd : FuncData} {N ps : List Str} {sp : Sp} (F : Fun K x qual st f fd) (S : FnScope N ps (defScope st))
    (len : ∀ vs H Q E, sp vs H Q E → vs.length = ps.length)
    (hbody : ∀ (cdv : Value) (A : Around) (outer : List Env) (s : Shared) (H : Hp) (vs : List V) (Q : VK) (E : XK), A.guards = some [] → Room k (A.deeper (envOfC qual (defScope st) s.heap.objs.size f cdv)) → sp vs H Q E →
      ∃ t, PSs (cxOf (L2.CX P w) P w K mg base N qual (defScope st) f cdv A outer s H E) (defBody st) t ∧ t { nx := fun _ H' => Q .non H', rt := Q } (start N vs) H) : FnG P w K mg base (k + 1) f fd ps sp := by
  obtain ⟨oc, od, kV, doc, pm, an, cdv, ct, osl, rfl, lk, hcd⟩ := F.ex
  refine ⟨len, fun A outer s H args us vs Q E hG hr e0 hb r hsp => ?_⟩
  have KX : K.In s.heap := e0.mod.kin.keeps fun b o e => (e0.bs b o e).1
  have lim : s.heap.NoLimit := e0.mod.nolimit.keeps fun b o e => (e0.bs b o e).1
  have hkind : ∀ y ∈ ps.zip us, (defScope st).names.lookup y.1 = some .local ∨ ((defScope st).names.lookup y.1 = some .cell ∧ ((cellsFrom (s.heap.objs.size + 1) (defScope st).names []).lookup y.1).isSome = true) := fun y hy => by
    rcases S.par y.1 (List.of_mem_zip (show (y.1, y.2) ∈ ps.zip us from hy)).1 with q | q
    · exact .inl q
    · exact .inr ⟨q, PySem.W.cellsFrom_some _ _ _ (.inl q)⟩
  refine codeAny_call_function hr.depth (KX _ _ lk) rfl S.co S.gen rfl (PySem.W.codeRec_of KX hcd) (hb _ _ _ _ ?_)
  refine wpAny_newFunctionEnv_cells S.kind hkind fun env he s1 x1 => ?_
  subst he
  refine ⟨lim.keeps x1.toInCall.keep, codeAny_func ?_⟩
  obtain ⟨t, ht, hq⟩ := hbody cdv A outer s H vs Q E hG (hr.deeper _) hsp
  have I0 := inv_start (CX := L2.CX P w) (E := E) S hr.hd e0 (len _ _ _ _ hsp) r x1
  refine wpAny_mono (ht.run [] s1 (start N vs) H _ I0 hq) (fun fl s' hs => ?_) fun _ _ hs => hs
  cases fl with
  | ret u =>
    obtain ⟨v, σ', H', J, rv, q⟩ := hs
    exact ⟨v, H', J.os, J.bare, J.base, J.hok, rv, q⟩
  | next =>
    obtain ⟨σ', H', J, q⟩ := hs
    exact ⟨V.non, H', J.os, J.bare, J.base, J.hok, rfl, q⟩
  | brk => exact hs.elim fun _ z => z.elim fun _ z => z.2.elim
  | cont => exact hs.elim fun _ z => z.elim fun _ z => z.2.elim

/-- the promise of the def x, by its name -/
structure Pr (P : Program) (w : World) (K : PySem.W.Frag) (mg : Str → Option Value) (base : Heap) (k : Nat) (x : Str) (ps : List Str) (sp : Sp) : Prop where
  ex : ∃ (f : Addr) (fd : FuncData), mg x = some (.ref f) ∧ PySem.W.keepIn K (.ref f) = true ∧ FnG P w K mg base k f fd ps sp ∧ Binds K fd ps []
/-- f(..): the promise, told that tuples stood -/
def tC1 (sp : Sp) (E : L2.St → XK) (t : TA) : TE := fun σ H Q => t σ H fun vs H1 => sp vs H1 (wT H1 Q) (E σ)
section
variable {P : Program} {w : World} {K : PySem.W.Frag} {mg : Str → Option Value} {base : Heap} {X : Cx} {x : Str} {k j : Nat} {ps : List Str} {sp sp' : Sp} {p pos : Pos} {e : Expr} {es : List Expr} {t : TA}
theorem Pr.mono (G : Pr P w K mg base j x ps sp) (h : j ≤ k) : Pr P w K mg base k x ps sp := by
  obtain ⟨f, fd, a, b, c, d⟩ := G.ex
  exact ⟨f, fd, a, b, ⟨c.len, fun A outer s H args us vs Q E hG hr => c.run A outer s H args us vs Q E hG (hr.mono h)⟩, d⟩
theorem Pr.imp (G : Pr P w K mg base j x ps sp) (h : ∀ vs H Q E, sp' vs H Q E → sp vs H Q E) : Pr P w K mg base j x ps sp' := by
  obtain ⟨f, fd, a, b, c, d⟩ := G.ex
  exact ⟨f, fd, a, b, ⟨fun vs H Q E q => c.len vs H Q E (h _ _ _ _ q), fun A outer s H args us vs Q E hG hr he hb hv hs => c.run A outer s H args us vs Q E hG hr he hb hv (h _ _ _ _ hs)⟩, d⟩
/-- f(a, ..); E: what is wished of an error that leaves it, by the slots -/
theorem pcallE {E : L2.St → XK} (hG : X.A.guards = some []) (G : Pr X.prog X.w X.K X.mg X.base k x ps sp) (hr : Room k X.A) (hx : ∀ σ, PassesAt (L2.CX X.prog X.w) X σ (E σ)) (ha : PA X (e :: es) t) (hg : Gl X x)
    (hdb : (x == ("__debug__" : Str)) = false) (he : starEach (e :: es) X.env = (false, eval e X.env) :: starEach es X.env) (hpl : (backTo pos (starEach es X.env)).any (·.1) = false) :
    PE X (.Call (.Name x p) (e :: es) [] pos) (tC1 sp E t) := by
  obtain ⟨f, fd, hm, hk, F, hb⟩ := G.ex
  refine ⟨fun pins s σ H Q I h => ?_⟩
  refine wpAny_Call_Name_kw (ld_glob I hg hm ?_ hdb)
  refine PySem.W.callWith_K (h₀ := X.base) I.ok.mod.kin hk (thn (ha.run pos pins s σ H _ I h) fun us s1 ⟨vs, H1, I1, r, q⟩ => ⟨I1.kIn, ?_⟩) he hpl
  have hl : us.length = ps.length := by
    rw [← r.length]
    exact F.len _ _ _ _ q
  have bt := hb s1 us I1.kIn (by rw [List.append_nil]; exact hl)
  rw [List.append_nil] at bt
  refine wpAny_call (codeAny_mono (F.run X.A X.stack s1 H1 ⟨us, []⟩ us vs _ (E σ) hG hr I1.env0 bt r q) fun z s' hq => ?_)
  cases z with
  | error e => exact hx σ pins H1 s1 e s' I1 hq
  | ok fl =>
    cases fl with
    | ret u => exact I1.after (CE.ts hq)
    | next => exact False.elim hq
    | brk => exact False.elim hq
    | cont => exact False.elim hq
/-- of a def that lets nothing out -/
theorem pcall (hG : X.A.guards = some []) (G : Pr X.prog X.w X.K X.mg X.base k x ps sp) (hr : Room k X.A) (ha : PA X (e :: es) t) (hg : Gl X x := by rfl)
    (hdb : (x == ("__debug__" : Str)) = false := by decide) (he : starEach (e :: es) X.env = (false, eval e X.env) :: starEach es X.env := by rfl) (hpl : (backTo pos (starEach es X.env)).any (·.1) = false := by rfl) :
    PE X (.Call (.Name x p) (e :: es) [] pos) (tC1 sp (fun _ => E0) t) :=
  pcallE hG G hr (fun σ _ _ _ _ _ _ c => by
    obtain ⟨_, _, _, _, _, _, _, _, _, _, _, _, z⟩ := c
    exact z.elim) ha hg hdb he hpl
/-- what leaves it is taken by our own wish -/
theorem pcallX {W : WX} (hG : X.A.guards = some []) (G : Pr X.prog X.w X.K X.mg X.base k x ps sp) (hr : Room k X.A) (tk : Takes X W) (ha : PA X (e :: es) t) (hg : Gl X x := by rfl)
    (hdb : (x == ("__debug__" : Str)) = false := by decide) (he : starEach (e :: es) X.env = (false, eval e X.env) :: starEach es X.env := by rfl) (hpl : (backTo pos (starEach es X.env)).any (·.1) = false := by rfl) :
    PE X (.Call (.Name x p) (e :: es) [] pos) (tC1 sp (WE W) t) := pcallE hG G hr (fun σ => passAt tk σ) ha hg hdb he hpl
/-- a def of the text, its body, makes its promise -/
theorem Pr.of {fd : FuncData} {f : Addr} {st : Stmt} {N : List Str} (F : Fun K x x st f fd) (hm : mg x = some (.ref f)) (hb : Binds K fd ps []) (S : FnScope N ps (defScope st)) (len : ∀ vs H Q E, sp vs H Q E → vs.length = ps.length)
    (hbody : ∀ (cdv : Value) (A : Around) (outer : List Env) (s : Shared) (H : Hp) (vs : List V) (Q : VK) (E : XK), A.guards = some [] → Room k (A.deeper (envOfC x (defScope st) s.heap.objs.size f cdv)) → sp vs H Q E →
      ∃ t, PSs (cxOf (L2.CX P w) P w K mg base N x (defScope st) f cdv A outer s H E) (defBody st) t ∧ t { nx := fun _ H' => Q .non H', rt := Q } (start N vs) H) : Pr P w K mg base (k + 1) x ps sp :=
  ⟨f, fd, hm, F.kp, fn_ofG F S len hbody, hb⟩
end
end Lf

set_option Elab.async false
set_option linter.all false
set_option maxRecDepth 100000
set_option maxHeartbeats 4000000
/-! Leaf B: data over the abstract heap (Dp), kept; order, equality, repr, isinstance of data. -/
namespace Lf
open PySem PySem.Spec PyProof.Rows L2
open PySem.W (alike alikeAll dataLt)

/-! ### data stays -/
theorem rd_kp {N : Addr → Prop} {H H' : Hp} {a : Addr} {u : HO} (k : Kp N H H') (hn : ¬ N a) (h : Rd H a u) : Rd H' a u := by
  rcases h with h | ⟨o, h⟩
  · exact .inl (k a _ hn h)
  · exact .inr ⟨o, k a _ hn h⟩
/-- no list or tuple stands where N may write -/
def Clear (N : Addr → Prop) (H : Hp) : Prop := ∀ a xs, N a → ¬ Rd H a (.tup xs)
section
variable {K : PySem.W.Frag}
mutual
/-- data of tuples and plain things alone -/
inductive Dt (K : PySem.W.Frag) (H : Hp) : V → PyData → Prop
  | non : Dt K H .non .none
  | bl (b : Bool) : Dt K H (.bl b) (.bool b)
  | int (i : Int) : Dt K H (.int i) (.int i)
  | str (x : Str) : Dt K H (.str x) (.str x)
  | tup {a : Addr} {xs : List V} {ds : List PyData} : SqT K H a xs → DtAll K H xs ds → Dt K H (.ref a) (.tuple ds)
inductive DtAll (K : PySem.W.Frag) (H : Hp) : List V → List PyData → Prop
  | nil : DtAll K H [] []
  | cons {v : V} {vs : List V} {d : PyData} {ds : List PyData} : Dt K H v d → DtAll K H vs ds → DtAll K H (v :: vs) (d :: ds)
end
theorem sqT_ts {H H' : Hp} {a : Addr} {xs : List V} (k : Ts H H') (h : SqT K H a xs) : SqT K H' a xs := by
  rcases h with h | h
  · exact .inl (k a xs h)
  · exact .inr h
mutual
theorem Dt.ts {H H' : Hp} (k : Ts H H') : ∀ (d : PyData) (v : V), Dt K H v d → Dt K H' v d
  | .none, _, h => by cases h; exact .non
  | .bool b, _, h => by cases h; exact .bl b
  | .int i, _, h => by cases h; exact .int i
  | .str x, _, h => by cases h; exact .str x
  | .tuple ds, _, h => by
    cases h with
    | tup hs ha => exact .tup (sqT_ts k hs) (DtAll.ts k ds _ ha)
  | .list _, _, h => by cases h
  | .dict _, _, h => by cases h
theorem DtAll.ts {H H' : Hp} (k : Ts H H') : ∀ (ds : List PyData) (vs : List V), DtAll K H vs ds → DtAll K H' vs ds
  | [], _, h => by cases h; exact .nil
  | d :: ds, _, h => by
    cases h with
    | cons h1 h2 => exact .cons (Dt.ts k d _ h1) (DtAll.ts k ds _ h2)
end
mutual
theorem Dt.dp {H : Hp} : ∀ (d : PyData) (v : V), Dt K H v d → Dp K H v d
  | .none, _, h => by cases h; exact .non
  | .bool b, _, h => by cases h; exact .bl b
  | .int i, _, h => by cases h; exact .int i
  | .str x, _, h => by cases h; exact .str x
  | .tuple ds, _, h => by
    cases h with
    | tup hs ha => exact .tup hs (DtAll.dp ds _ ha)
  | .list _, _, h => by cases h
  | .dict _, _, h => by cases h
theorem DtAll.dp {H : Hp} : ∀ (ds : List PyData) (vs : List V), DtAll K H vs ds → DpAll K H vs ds
  | [], _, h => by cases h; exact .nil
  | d :: ds, _, h => by
    cases h with
    | cons h1 h2 => exact .cons (Dt.dp d _ h1) (DtAll.dp ds _ h2)
end
theorem DtAll.length {H : Hp} : ∀ {ds : List PyData} {vs : List V}, DtAll K H vs ds → vs.length = ds.length
  | [], _, h => by cases h; rfl
  | d :: ds, _, h => by
    cases h with
    | cons _ h2 => show _ + 1 = _ + 1; rw [DtAll.length h2]
theorem DtAll.get {H : Hp} : ∀ {ds : List PyData} {vs : List V} {i : Nat} {v : V}, DtAll K H vs ds → vs[i]? = some v → ∃ d, ds[i]? = some d ∧ Dt K H v d
  | [], _, _, _, h, e => by cases h; simp at e
  | d :: ds, _, 0, v, h, e => by
    cases h with
    | cons h1 h2 =>
      cases e
      exact ⟨d, rfl, h1⟩
  | d :: ds, _, i + 1, v, h, e => by
    cases h with
    | cons h1 h2 => exact DtAll.get (i := i) h2 (by simpa using e)
theorem DtAll.getD {H : Hp} : ∀ {ds : List PyData} {vs : List V} {i : Nat} {d : PyData}, DtAll K H vs ds → ds[i]? = some d → ∃ v, vs[i]? = some v ∧ Dt K H v d
  | [], _, _, _, h, e => by simp at e
  | d :: ds, _, 0, v, h, e => by
    cases h with
    | cons h1 h2 =>
      cases e
      exact ⟨_, rfl, h1⟩
  | d :: ds, _, i + 1, v, h, e => by
    cases h with
    | cons h1 h2 => exact DtAll.getD (i := i) h2 (by simpa using e)
theorem DtAll.append {H : Hp} : ∀ {ds es : List PyData} {vs ws : List V}, DtAll K H vs ds → DtAll K H ws es → DtAll K H (vs ++ ws) (ds ++ es)
  | [], _, _, _, h, h' => by cases h; exact h'
  | d :: ds, _, _, _, h, h' => by
    cases h with
    | cons h1 h2 => exact .cons h1 (DtAll.append h2 h')
theorem DtAll.take {H : Hp} : ∀ {ds : List PyData} {vs : List V} (n : Nat), DtAll K H vs ds → DtAll K H (vs.take n) (ds.take n)
  | [], _, n, h => by cases h; simp; exact .nil
  | d :: ds, _, 0, h => by simp; exact .nil
  | d :: ds, _, n + 1, h => by
    cases h with
    | cons h1 h2 => exact .cons h1 (DtAll.take n h2)
theorem DtAll.drop {H : Hp} : ∀ {ds : List PyData} {vs : List V} (n : Nat), DtAll K H vs ds → DtAll K H (vs.drop n) (ds.drop n)
  | [], _, n, h => by cases h; simp; exact .nil
  | d :: ds, _, 0, h => h
  | d :: ds, _, n + 1, h => by
    cases h with
    | cons h1 h2 => exact DtAll.drop n h2
theorem Kp.ts {N : Addr → Prop} {H H' : Hp} (k : Kp N H H') (c : Clear N H) : Ts H H' := fun a xs h => rd_kp k (fun n => c a xs n h) h
theorem ts_new {H : Hp} {p : Addr} {o : HO} (h : H p = none) : Ts H (upd H p o) := fun a xs r => by
  rcases r with r | ⟨ob, r⟩
  · exact .inl (by rw [upd_ne (ne_of_none r h)]; exact r)
  · exact .inr ⟨ob, by rw [upd_ne (ne_of_none r h)]; exact r⟩
/-- a list, a dict, a table is written -/
theorem ts_mut {H : Hp} {p : Addr} {o u : HO} (h : H p = some u) (hu : ∀ xs, u ≠ .tup xs) (hf : ∀ ob w, u ≠ .frz ob w) : Ts H (upd H p o) := fun a xs r => by
  rcases r with r | ⟨ob, r⟩
  · refine .inl ?_
    rw [upd_ne (fun z => by rw [z, h] at r; exact hu xs (Option.some.inj r))]
    exact r
  · refine .inr ⟨ob, ?_⟩
    rw [upd_ne (fun z => by rw [z, h] at r; exact hf ob _ (Option.some.inj r))]
    exact r
end

/-! ### rules by data -/
section
variable {X : Cx}
def rLtD (K : PySem.W.Frag) (A : Around) : R2 := fun x y H Q => ∃ d e, Dp K H x d ∧ Dp K H y e ∧ alike d e = true ∧ d ≠ .none ∧ A.units + min d.depth e.depth < cLine ∧ Q (.bl (dataLt d e)) H
theorem op_ltX : OpR X (compareOp .Lt) (rLtD X.K X.A) := by
  intro pins s σ H x y v u Q I rx ry h
  obtain ⟨d, e, hd, he, ha, hn, hu, q⟩ := h
  obtain ⟨as, r1⟩ := Dp.reads I d x v hd rx
  obtain ⟨bs, r2⟩ := Dp.reads I e y u he ry
  exact PySem.W.lt_data r1 r2 ha hn hu ⟨.bl _, H, I, rfl, q⟩
def rEqX (K : PySem.W.Frag) (A : Around) : R2 := fun x y H Q => ∃ d e, Dp K H x d ∧ Dp K H y e ∧ d.canLay0 = true ∧ e.canLay0 = true ∧ A.units + min d.depth e.depth < cLine ∧ Q (.bl (PyData.eqv d e)) H
theorem op_eqX : OpR X (compareOp .Eq) (rEqX X.K X.A) := by
  intro pins s σ H x y v u Q I rx ry h
  obtain ⟨d, e, hd, he, ha, hn, hu, q⟩ := h
  obtain ⟨as, r1⟩ := Dp.reads I d x v hd rx
  obtain ⟨bs, r2⟩ := Dp.reads I e y u he ry
  exact SeqAt.compareEq_reads r1 r2 ha hn hu ⟨.bl _, H, I, rfl, q⟩
/-- xs == [], xs != [], t == (): whatever the items are -/
def rEqL0 (K : PySem.W.Frag) : R2 := fun x y H Q => ∃ a b xs, x = .ref a ∧ y = .ref b ∧ SqL K H a xs ∧ SqL K H b [] ∧ Q (.bl xs.isEmpty) H
def rNeL0 (K : PySem.W.Frag) : R2 := fun x y H Q => ∃ a b xs, x = .ref a ∧ y = .ref b ∧ SqL K H a xs ∧ SqL K H b [] ∧ Q (.bl (!xs.isEmpty)) H
def rEqT0 (K : PySem.W.Frag) : R2 := fun x y H Q => ∃ a b xs, x = .ref a ∧ y = .ref b ∧ SqT K H a xs ∧ SqT K H b [] ∧ Q (.bl xs.isEmpty) H
theorem vals_nil_size {us : List Value} (r : Vals [] us) : us.toArray.size = 0 := by
  cases r
  rfl
theorem op_eqL0 (hu : X.A.units < cLine) : OpR X (compareOp .Eq) (rEqL0 X.K) := by
  intro pins s σ H x y v u Q I rx ry h
  obtain ⟨a, b, xs, rfl, rfl, h1, h2, q⟩ := h
  cases rx
  cases ry
  obtain ⟨i1, v1, p1, _⟩ := I.list h1
  obtain ⟨i2, v2, p2, _⟩ := I.list h2
  have z2 := vals_nil_size v2
  cases v1 with
  | nil => exact SeqAt.eq_listAt (e := fun _ => true) p1.isList p2.isList z2.symm hu (fun j h1 _ => absurd h1 (by simp)) ⟨.bl _, H, I, rfl, q⟩
  | cons r1 r2 => exact SeqAt.eq_list_lengthsAt p1.isList p2.isList (by rw [z2]; simp) hu ⟨.bl _, H, I, rfl, q⟩
theorem op_neL0 (hu : X.A.units < cLine) : OpR X (compareOp .NotEq) (rNeL0 X.K) := by
  intro pins s σ H x y v u Q I rx ry h
  obtain ⟨a, b, xs, rfl, rfl, h1, h2, q⟩ := h
  cases rx
  cases ry
  obtain ⟨i1, v1, p1, _⟩ := I.list h1
  obtain ⟨i2, v2, p2, _⟩ := I.list h2
  have z2 := vals_nil_size v2
  cases v1 with
  | nil => exact SeqAt.RcNeAt.lists (e := fun _ => true) p1.isList p2.isList z2.symm hu (fun j h1 _ => absurd h1 (by simp)) X.prog X.w X.xe _ ⟨.bl _, H, I, rfl, q⟩
  | cons r1 r2 => exact SeqAt.RcNeAt.lists_lengths p1.isList p2.isList (by rw [z2]; simp) hu X.prog X.w X.xe _ ⟨.bl _, H, I, rfl, q⟩
theorem op_eqT0 (hu : X.A.units < cLine) : OpR X (compareOp .Eq) (rEqT0 X.K) := by
  intro pins s σ H x y v u Q I rx ry h
  obtain ⟨a, b, xs, rfl, rfl, h1, h2, q⟩ := h
  cases rx
  cases ry
  obtain ⟨i1, v1, p1, _⟩ := I.tuple h1
  obtain ⟨i2, v2, p2, _⟩ := I.tuple h2
  have z2 := vals_nil_size v2
  refine SeqAt.eq_tupleAt (e := fun _ => true) (show s.heap.IsTuple a i1.toArray from p1) (show s.heap.IsTuple b i2.toArray from p2) hu (fun j _ h2 => absurd h2 (by rw [z2]; omega)) ?_
  refine ⟨.bl xs.isEmpty, H, I, ?_, q⟩
  show Value.bool _ = Value.bool _
  rw [z2]
  cases v1 with
  | nil => rfl
  | cons r1 r2 => simp
/-- isinstance of data -/
def tyD : PyData → String
  | .none => "NoneType"
  | .bool _ => "bool"
  | .int _ => "int"
  | .str _ => "str"
  | .tuple _ => "tuple"
  | .list _ => "list"
  | .dict _ => "dict"
theorem tyX_of {K : PySem.W.Frag} {H : Hp} {v : V} {d : PyData} (h : Dt K H v d) (hk : ∀ a xs, SqT K H a xs → Rd H a (.tup xs) ∨ ∃ o, K.lookup a = some o ∧ o.cls = .type "tuple") : TyX K H v (.type (tyD d)) := by
  cases h with
  | non => exact .base .non
  | bl b => exact .base (.bl b)
  | int i => exact .base (.int i)
  | str x => exact .base (.str x)
  | tup hs ha =>
    rcases hk _ _ hs with (q | ⟨o, q⟩) | ⟨o, q, c⟩
    · exact .base (.tup q)
    · exact .fTuple q
    · exact .kTuple q c
theorem sqT_kinds {K : PySem.W.Frag} {H : Hp} : ∀ a xs, SqT K H a xs → Rd H a (.tup xs) ∨ ∃ o, K.lookup a = some o ∧ o.cls = .type "tuple" := fun a xs h => by
  rcases h with h | ⟨o, its, n, hk, hc, _⟩
  · exact .inl h
  · exact .inr ⟨o, hk, hc⟩
def rIsD (K : PySem.W.Frag) : List V → Hp → VK → Prop := fun xs H Q => ∃ (x : V) (T : String) (d : PyData) (b : Bool), xs = [x, .ty T] ∧ Dt K H x d ∧ kitB (tyD d) T = some b ∧ Q (.bl b) H
theorem call_isD : CallR X (.builtin "isinstance") (rIsD X.K) := by
  intro pins s σ H xs us Q I r h
  obtain ⟨x, T, d, b, rfl, hd, hb, q⟩ := h
  exact call_isi pins s σ H _ us Q I r ⟨x, .ty T, .type (tyD d), .type T, b, rfl, .ty T, tyX_of hd sqT_kinds, kit_ty hb, q⟩
mutual
theorem dp_noDict {K : PySem.W.Frag} {H : Hp} : ∀ (d : PyData) (v : V), Dp K H v d → d.hasDict = false
  | .none, _, _ => rfl
  | .bool _, _, _ => rfl
  | .int _, _, _ => rfl
  | .str _, _, _ => rfl
  | .tuple ds, _, h => by
    cases h with
    | tup hs ha => simp only [PyData.hasDict]; exact dpAll_noDict ds _ ha
  | .list ds, _, h => by
    cases h with
    | lst hs ha => simp only [PyData.hasDict]; exact dpAll_noDict ds _ ha
  | .dict _, _, h => by cases h
theorem dpAll_noDict {K : PySem.W.Frag} {H : Hp} : ∀ (ds : List PyData) (vs : List V), DpAll K H vs ds → PyData.hasDictAll ds = false
  | [], _, _ => rfl
  | d :: ds, _, h => by
    cases h with
    | cons h1 h2 => simp only [PyData.hasDictAll]; rw [dp_noDict d _ h1, dpAll_noDict ds _ h2]; rfl
end
/-- repr of a list, a tuple of data -/
def rReprD (K : PySem.W.Frag) (A : Around) : List V → Hp → VK → Prop := fun xs H Q => ∃ (a : Addr) (d : PyData), xs = [.ref a] ∧ Dp K H (.ref a) d ∧ d.showable = true ∧ d.shown.length ≤ sizeLine ∧ A.units + (d.depth + 1) < cLine ∧ Q (.str d.shown) H
theorem call_reprD (hG : X.A.guards = some []) : CallR X (.builtin "repr") (rReprD X.K X.A) := by
  intro pins s σ H xs us Q I r h
  obtain ⟨a, d, rfl, hd, hs, hl, hu, q⟩ := h
  obtain ⟨u, rfl, ru⟩ : ∃ u, us = [u] ∧ RelV (.ref a) u := by
    cases r with
    | cons r1 r2 =>
      cases r2
      exact ⟨_, rfl, r1⟩
  cases ru
  obtain ⟨as, r1⟩ := Dp.reads I d (.ref a) (.ref a) hd rfl
  refine repr_of_reads' r1 hs (fun z => ?_) hG hu (fun _ _ e => e) (fun h' u tk hk => ?_) hl
  · rw [dp_noDict d _ hd] at z
    cases z
  · exact ⟨.str _, H, I.kept (t' := tk) hk, ⟨u, rfl⟩, q⟩
end
end Lf

set_option Elab.async false
set_option linter.all false
set_option maxRecDepth 100000
set_option maxHeartbeats 4000000
/-! Leaf E: for a, b in enumerate(t), t a tuple. -/
namespace LfE
open PySem PySem.Spec PyProof.Rows L2
open Sem (wp)
open AutoSeq1 (wpAny_loadPart')
theorem meets_enumT {v : Value} {o : Obj} {H : Heap → Prop} (B : Begins v o H) :
    Meets (Builtin.«enumerate.__new__» ⟨[.type "enumerate", v], []⟩) (fun _ R s => H s.heap ∧
      R (.ok (.ret (.ref (s.heap.push o).objs.size))) { s with heap := (s.heap.push o).push { cls := .type "enumerate", data := .fields #[.none, .bool false, .ref s.heap.objs.size, rawInt 0, .none, .none] } }) :=
  .of_wp fun prog w A R s h => by
    obtain ⟨hp, g, d, tk, os⟩ := s
    obtain ⟨h1, h⟩ := h
    have hsub := sub_enumerate
    have q1 : ∀ {A' : Around} {E : Value → Shared → Prop} {Q : Value → Shared → Prop}, Q (.ref hp.objs.size) ⟨hp.push o, g, d, tk, os⟩ → wpAny (model prog w) A' (pyIter v) Q E ⟨hp, g, d, tk, os⟩ :=
      fun q => B.iter prog w _ _ ⟨hp, g, d, tk, os⟩ _ h1 q
    wp_walk using q1
    refine wpAny_stack_any fun st => wpAny_pure ?_
    split
    · rename_i c _ _ _ _ _
      cases (c == Value.type "enumerate")
      · wp_walk using q1
        exact ⟨_, rfl, h⟩
      · wp_walk using q1
        exact ⟨_, rfl, h⟩
    · wp_walk using q1
      exact ⟨_, rfl, h⟩
section
variable {prog : Program} {w : World} {A : Around} {E : Value → Shared → Prop} {s : Shared}
theorem call_enumT {v : Value} {o : Obj} {H : Heap → Prop} {Q : Value → Shared → Prop} (B : Begins v o H) (h1 : H s.heap)
    (h : ∀ h', IsEnum h' (s.heap.objs.size + 1) s.heap.objs.size 0 .none → h'.get? s.heap.objs.size = some o → h'.objs.size = s.heap.objs.size + 2 →
      (∀ b o, s.heap.get? b = some o → h'.get? b = some o) → Q (.ref (s.heap.objs.size + 1)) { s with heap := h' }) :
    wpAny (model prog w) A (call (.type "enumerate") [v]) Q E s := by
  refine callType_new F.called_enumerate (by decide) (F.typeCall_enumerate_1 _) (F.newCall_enumerate_1 _) (fun obj => F.args_object_init_2 obj _) F.entry_enumerate_new
    (meets_enumT B) ⟨h1, ?_⟩
  have hz : (s.heap.push o).objs.size = s.heap.objs.size + 1 := Heap.size_push ..
  show _ ∧ _
  rw [hz]
  have he : IsEnum ((s.heap.push o).push { cls := .type "enumerate", data := .fields #[.none, .bool false, .ref s.heap.objs.size, rawInt 0, .none, .none] }) (s.heap.objs.size + 1) s.heap.objs.size 0 .none := by
    have q := Heap.get?_push_size (s.heap.push o) (o := { cls := .type "enumerate", data := .fields #[.none, .bool false, .ref s.heap.objs.size, rawInt 0, .none, .none] }) rfl
    rw [hz] at q
    exact q
  refine ⟨⟨_, he, rfl⟩, h _ he (Heap.get?_push_of_some _ (Heap.get?_push_size _ B.free)) (by rw [Heap.size_push, hz]) fun b o x => Heap.get?_push_of_some _ (Heap.get?_push_of_some _ x)⟩
end
/-- the tuple at a, its items with their numbers in new pairs -/
def IteT (K : PySem.W.Frag) (a : Addr) : It :=
  ⟨fun i H => ∃ (xs : List V) (x : V), SqT K H a xs ∧ xs[i]? = some x,
    fun i H v H' => ∃ T x, v = .ref T ∧ H T = none ∧ H' = upd H T (.tup [.int (i : Nat), x]) ∧ ∀ xs, SqT K H a xs → xs[i]? = some x,
    fun i H => ∃ xs : List V, SqT K H a xs ∧ xs.length ≤ i⟩
theorem turn_enumT {P : Program} {w : World} {K : PySem.W.Frag} {elts : List Expr} {kk : Nat} {tpos : Pos} (a e it : Addr) :
    Turn P w K (.Tuple elts kk tpos) (IteT K a) [e, it] e (fun i h => (∃ old, IsEnum h e it ((i : Nat) : Int) old) ∧ h.IsTupleIter it a i ∧ e ≠ it) where
  mem := by simp
  obj := fun i h st b hb => by
    obtain ⟨⟨old, he⟩, ⟨o, ho, hc, hd⟩, _⟩ := st
    have e' : b = e ∨ b = it := by simpa using hb
    rcases e' with z | z
    · rw [z]; exact ⟨_, he, fun v q => nomatch q⟩
    · rw [z]; exact ⟨o, ho, fun v q => by rw [hd] at q; cases q⟩
  keep := fun i h h' st k => let ⟨⟨old, he⟩, hi, hne⟩ := st; ⟨⟨old, k e (by simp) _ he⟩, hi.at fun o q => k it (by simp) o q, hne⟩
  item := by
    intro X hP hw hK hc i pins s σ H E I hf st hg
    subst hP hw hK
    obtain ⟨⟨old, he⟩, hit, hne⟩ := st
    obtain ⟨xs, x, hq, hx⟩ := hg
    obtain ⟨its, rv, p, hz⟩ := I.tuple hq
    obtain ⟨u, hu, ru⟩ := rv.get hx
    have pT : s.heap.IsTuple a its.toArray := p
    have hel : e < s.heap.objs.size := Heap.lt_size he
    have hil : it < s.heap.objs.size := by obtain ⟨_, q, _⟩ := hit; exact Heap.lt_size q
    have hea : e ≠ a := fun z => by
      obtain ⟨o, ho, hcl, _⟩ := pT
      rw [← z, he] at ho
      cases ho
      have hcl2 : Value.type "enumerate" = Value.type "tuple" := hcl
      exact absurd hcl2 (by decide)
    have hia : a ≠ it := fun z => by
      obtain ⟨o, ho, hcl, _⟩ := pT
      obtain ⟨o2, ho2, hc2, _⟩ := id hit
      rw [z, ho2] at ho
      cases ho
      rw [hc2] at hcl
      exact absurd hcl (by decide)
    have D := Draws.tuple (prog := X.prog) (w := X.w) (A := X.A.in1) (I.ok.hd hc) it a hia its.toArray
    have hlt : i < its.toArray.size := by
      obtain ⟨h1, _⟩ := List.getElem?_eq_some_iff.mp hu
      simpa using h1
    refine wpAny_pyNext_enum_itemD D he ⟨hit, pT⟩ hlt hne (by simp; exact ⟨hne, hea⟩) fun y h' tk hy ho ⟨hit', _⟩ hT hsz hk => ?_
    have hyu : y = u := by
      have q : its[i]? = some y := by simpa using hy
      rw [hu] at q
      exact (Option.some.inj q).symm
    subst hyu
    refine ⟨_, rfl, wpAny_letOwnedTupleGo_enum (s := { s with heap := h', toks := tk + 1 }) ho fun h'' he' sb => ?_⟩
    have hT2 : h''.get? s.heap.objs.size = some { cls := .type "tuple", data := .seq #[.int i tk, y] } := (sb.2 _ (Nat.ne_of_gt hel)).trans hT
    have new : ObjOk X.prog X.w (upd H s.heap.objs.size (.tup [.int (i : Nat), x])) h'' s.heap.objs.size (.tup [.int (i : Nat), x]) :=
      ⟨by show 2 ≤ sizeLine; decide, [.int i tk, y], .cons ⟨_, rfl⟩ (.cons ru .nil), ⟨_, hT2, rfl, _, rfl⟩⟩
    have I1 : Inv X pins σ (upd H s.heap.objs.size (.tup [.int (i : Nat), x])) { s with heap := h'', toks := tk + 1 } :=
      I.turnedNew (ch := [e, it]) (fun b ob hb q => (sb.2 b (fun z => hb (by simp [z]))).trans (hk b ob (fun z => hb (by simp [z])) (fun z => hb (by simp [z])) q)) hf (Nat.le_refl _) new
    refine ⟨.ref s.heap.objs.size, _, I1, rfl, ⟨_, x, rfl, I.hok.fresh (Nat.le_refl _), rfl, fun ys hy2 => by rw [I.tuple_inj hy2 hq]; exact hx⟩, ⟨⟨y, ?_⟩, hit'.at fun o q => (sb.2 it (Ne.symm hne)).trans q, hne⟩, fun b hb => ?_⟩
    · have e1 : ((i + 1 : Nat) : Int) = (i : Int) + 1 := by omega
      rw [e1]; exact he'
    · have hb' : b < s.heap.objs.size := by
        have e' : b = e ∨ b = it := by simpa using hb
        rcases e' with z | z
        · rw [z]; exact hel
        · rw [z]; exact hil
      rw [upd_ne (Nat.ne_of_lt hb')]
      exact (hf b hb).1
  done := by
    intro X hP hw hK hc i pins s σ H E I hf st hg
    subst hP hw hK
    obtain ⟨⟨old, he⟩, hit, hne⟩ := st
    obtain ⟨xs, hq, hx⟩ := hg
    obtain ⟨its, rv, p, hz⟩ := I.tuple hq
    have pT : s.heap.IsTuple a its.toArray := p
    obtain ⟨f0, f1, f2, f3, f4, f5⟩ := hf it (by simp)
    have hl := rv.length
    have hT : s.TypeIs (.ref e) "enumerate" := ⟨_, he, rfl⟩
    unfold pyNext
    refine wpAny_bind (wpAny_attempt (wpAny_callSpecial?_slot (name := Str.ofString "__next__") hT F.slot_enumerate_next
      (wpAny_call_entry F.slot_enumerate_next hT F.entry_enumerate_next ?_ (F.args_enumerate_next_1 _))))
    show wpAny _ _ (field (.ref e) 2 >>= _) _ _ _
    refine wpAny_bind (wpAny_field he rfl (x := .ref it) rfl ?_)
    refine wpAny_bind (wpAny_nextOf_tuple_end (I.ok.hd hc) hit pT (by simp; omega) fun h' x he' hx' => ?_)
    obtain ⟨o, ho, hcc⟩ := hx'
    refine wpAny_bind (wpAny_isInstance (T := "StopIteration") (b := true) ⟨o, ho, hcc⟩ isSubtype_stop ?_)
    exact wpAny_pure ⟨rfl, I.turned (t' := s.toks) (fun b o hb q => he' b o hb q) f0 f1 f3 f4 f5⟩
  self := fun A i s Q E st h => let ⟨⟨_, he⟩, _⟩ := st; wpAny_pyIter_enum he h
def iEnumT (K : PySem.W.Frag) (ta : TA) : TI := fun σ H R => ta σ H fun vs H1 => ∃ a xs, vs = [.ref a] ∧ SqT K H1 a xs ∧ R (IteT K a) H1
theorem pi_enumT {X : Cx} {e : Expr} {ta : TA} {p pos tpos : Pos} {elts : List Expr} {kk : Nat} (hg : Gl X "enumerate") (hm : X.mg "enumerate" = none) (ha : PA X [e] ta) (hs : starEach [e] X.env = [(false, eval e X.env)] := by rfl) :
    PI X (.Tuple elts kk tpos) (.Call (.Name "enumerate" p) [e] [] pos) (iEnumT X.K ta) := by
  refine ⟨fun pins s σ H R I h => ?_⟩
  refine Call_ (ld_blt I hg hm boot_enumerate (PyProof.Rows.callWith_type1 (thn (ha.run pos pins s σ H _ I h) fun us s1 ⟨vs, H1, I1, r1, q1⟩ => ?_) hs rfl))
  obtain ⟨a, xs, ex, hq, q⟩ := q1
  subst ex
  cases r1 with
  | cons r rr =>
    cases rr
    cases r
    obtain ⟨its, rv, p', hz⟩ := I1.tuple hq
    have pT : s1.heap.IsTuple a its.toArray := p'
    refine call_enumT (begins_tuple a its.toArray) pT fun h' he hit hsz hk => wpAny_pyIter_enum he ?_
    have I2 : Inv X pins σ H1 { s1 with heap := h' } := I1.kept (t' := s1.toks) hk
    refine ⟨s1.heap.objs.size + 1, [s1.heap.objs.size + 1, s1.heap.objs.size], _, _, H1, rfl, I2, turn_enumT a (s1.heap.objs.size + 1) s1.heap.objs.size, ⟨⟨.none, he⟩, ⟨_, hit, rfl, rfl⟩, Nat.succ_ne_self _⟩, fun b hb => ?_, q⟩
    have e' : b = s1.heap.objs.size + 1 ∨ b = s1.heap.objs.size := by simpa using hb
    have hle : s1.heap.objs.size ≤ b := by
      rcases e' with z | z
      · rw [z]; exact Nat.le_add_right _ _
      · rw [z]; exact Nat.le_refl _
    exact I1.fpOk hle (I1.hok.fresh hle)
end LfE

set_option Elab.async false
set_option linter.all false
set_option maxRecDepth 100000
set_option maxHeartbeats 4000000
/-! Leaf X: an own error class whose __init__ says super().__init__('..') and self.f = f, over a chain of own classes down to ValueError. -/
namespace LfX
open PySem PySem.W PySem.Calls PyProof.Rows PySem.HandSPX
/-! ### the text of such an __init__ -/
def iArgs (par : Str) (p1 p2 : Pos) : Arguments := { posonlyargs := [], args := [{ arg := "self", annotation := none, pos := p1 }, { arg := par, annotation := none, pos := p2 }], vararg := none, kwonlyargs := [], kw_defaults := [], kwarg := none, defaults := [] }
def iStm1 (msg : Str) (j : Nat) (a1 a2 a3 a4 a5 a6 : Pos) : Stmt := .Expr (.Call (.Attribute (.Call (.Name "super" a1) [] [] a2) "__init__" a3) [.Constant (.str msg) j a4] [] a5) a6
def iStm2 (fld : Str) (q1 q2 q3 q4 : Pos) : Stmt := .Assign [.Attribute (.Name "self" q1) fld q2] (.Name fld q3) q4
def iScope (fld : Str) : Scope := { kind := .function, names := [(PySem.Str.ofString "self", .local), (fld, .local), (PySem.Str.ofString "__class__", .free), (PySem.Str.ofString "super", .globalImplicit)], isGenerator := false, isCoroutine := false, more := [] }
/-- what the written part says of the class x at C, its __init__ at fI, its one field -/
structure SupTxt (P : Program) (K : Frag) (mg : Str → Option Value) (x : Str) (C fI : Addr) (fld : Str) : Prop where
  gC : mg x = some (.ref C)
  cls : ∃ nm q N bs bm sn sub ab col dd k0 k1 k2 k3 k5, K.lookup C = some (excClassObj nm q C N bs bm true sn sub ab col dd k0 k1 k2 k3 k5 "ValueError.__new__") ∧ refsVE bm = true
  sup : ks_superIn K C C "__init__" = some (some (.builtin "ValueError.__init__"))
  subVE : subIn K (.ref C) (.type "ValueError") = some true
  selfsub : mroIn K C (.ref C) = some true
  opq : nsIn K cStatics "thirdparty.any" = some none
  sg : mg "super" = none
  sa : findIn K (.ref C) "__setattr__" = some (some (.builtin "object.__setattr__"))
  ga : findIn K (.ref C) "__getattribute__" = some (some (.builtin "BaseException.__getattribute__"))
  gg : findIn K (.ref C) "__getattr__" = some none
  noN : findIn K (.ref C) fld = some none
  iC : findIn K (.ref C) "__init__" = some (some (.ref fI))
  tC : typeIn K (.ref fI) = some (.type "function")
  kC : keepIn K (.ref C) = true
  exC : subIn K (.ref C) (.type "BaseException") = some true
  tyC : typeIn K (.ref C) = some (.type "type")
  hdC : hasDictIn K C = true
  te : exmOne K (.ref C) (.ref C) = some true
  top : (P.main.scope.names.lookup ("super" : Str)).isSome = false
  par : fld = ("place" : Str) ∨ fld = ("value" : Str)
  fn : ∃ (oc ct doc pm kv : Value) (od an : Option Addr) (qual msg : Str) (cda cc : Addr) (osl : Array (Option Value)) (j : Nat) (p1 p2 a1 a2 a3 a4 a5 a6 q1 q2 q3 q4 : Pos) (vs : Array Value) (file : Str) (tf : Tok) (c1 c2 : Value) (d1 d2 : Option Addr) (s1 s2 : Array (Option Value)),
    K.lookup fI = some ⟨oc, od, .func (ksFn "__init__" qual (iArgs fld p1 p2) [iStm1 msg j a1 a2 a3 a4 a5 a6, iStm2 fld q1 q2 q3 q4] (iScope fld) .none kv doc pm an (.ref cda) ct cc), osl⟩ ∧ codeIn K (.ref cda) qual = true ∧
    K.lookup cda = some ⟨c1, d1, .fields vs, s1⟩ ∧ vs[2]? = some (.str file tf) ∧ ((P.main.file : Str) == file) = true ∧
    (∀ env : Env, eval (.Call (.Attribute (.Call (.Name "super" a1) [] [] a2) "__init__" a3) [.Constant (.str msg) j a4] [] a5) env = (do
      let ov ← attributeBase (.Call (.Name "super" a1) [] [] a2) "__init__" env (eval (.Call (.Name "super" a1) [] [] a2) env)
      standAt a3.atName
      let (f, first) ← holding [ov] (getMethod ov "__init__" (L2.plainOf (.Call (.Name "super" a1) [] [] a2) env))
      callWith a5 f first (backTo a5 (starEach [.Constant (.str msg) j a4] env)) [])) ∧ K.lookup cc = some ⟨c2, d2, .cell (some (.ref C)), s2⟩
/-- what __init__ leaves of a fresh error at x -/
structure InitEnd (h h' : Heap) (x C dx t1 : Addr) (fld : Str) (v : Value) : Prop where
  keep : ∀ b o, b ≠ x → h.get? b = some o → h'.get? b = some o
  obj : h'.get? x = some { cls := .ref C, dict := some dx, data := .fields #[.ref t1, .none, .none, .none, .bool false, .none] }
  dbig : h.objs.size ≤ dx
  dne : dx ≠ x
  ns : h'.Ns1 dx (fun y => if y = fld then some v else none)
/-- a made error -/
structure OwnMade (h h' : Heap) (e C d : Addr) (fld : Str) (v : Value) : Prop where
  keep : ∀ b o, h.get? b = some o → h'.get? b = some o
  new : h.objs.size ≤ e
  obj : ∃ oe vs, h'.get? e = some oe ∧ oe.cls = .ref C ∧ oe.dict = some d ∧ oe.data = .fields vs ∧ vs[1]? = some .none
  dbig : h.objs.size ≤ d
  dne : d ≠ e
  ns : h'.Ns1 d (fun y => if y = fld then some v else none)
section
variable {prog : Program} {w : World} {A : Around} {E : Value → Shared → Prop} {h : Heap} {g : Array GenState} {d : Drawn} {t : Nat} {os : OsState}
variable {nm q : Str} {C N : Addr} {bs bm bmB : List Value} {hdct : Bool} {sn : List Str} {sub : List Value} {ab : Bool} {col : Option Bool} {dd : Option Addr} {k0 k1 k2 k3 k5 : Option Value} {B i newId : String}
/-- the built-in __init__, bound to the fresh error e, is called -/
theorem bound_call (FB : ExcBaseFacts B newId i bmB) {u e t0 : Addr} {rest : List Value} {Q : Value → Shared → Prop}
    (hC : h.get? C = some (excClassObj nm q C N bs bm hdct sn sub ab col dd k0 k1 k2 k3 k5 newId)) (he : h.get? e = some (HandSPX.excO C t0)) (hu : h.get? u = some (kxs_mw i e)) (hrest : rest.length ≤ sizeLine)
    (hq : ∀ h' t1, (∀ b o, b ≠ e → h.get? b = some o → h'.get? b = some o) → h'.get? e = some (HandSPX.excO C t1) → Q .none ⟨h', g, d, t, os⟩) :
    wpAny (model prog w) A (call (.ref u) rest) Q E ⟨h, g, d, t, os⟩ := by
  refine wpAny_call (codeAny_of_tree ?_)
  show wpAny _ A.in1 (callAny (.ref u) ⟨rest, []⟩) _ _ _
  simp only [callAny]
  refine wpAny_bind (wpAny_load hu ?_)
  simp only [kxs_mw, show (Value.type "method-wrapper" == Value.type "method" || Value.type "method-wrapper" == Value.type "builtin_function_or_method" || Value.type "method-wrapper" == Value.type "method-wrapper") = true by decide, if_true]
  refine KFB.if_so (by decide) ?_
  refine wpAny_bind (check_bound_init FB.toExcCallFacts hC he rfl ?_)
  refine wpAny_bind (wpAny_pure (wpAny_pure ?_))
  refine ⟨plainId_quiet FB.init.plain _, codeAny_builtin FB.initEntry ?_⟩
  exact exc_init_tree (cls := .ref C) (t0 := t0) (dv := none) (c2 := .none) (c3 := .none) (b4 := .bool false) he hrest fun h' k e1 _ => hq h' _ k e1
end
theorem one_size (v : Value) : [v].length ≤ sizeLine := by
  rw [sizeLine_eq]
  exact (by decide : 1 ≤ 16777216)
theorem ldC {M : Model} {A : Around} {E : Value → Shared → Prop} {s : Shared} {env : Env} {m : Str → Option Value} {x : Str} {pos : Pos} {v : Value} {Q : Value → Shared → Prop} (hn : s.heap.Ns env.locals m) (hv : m x = some v) (h : Q v s)
    (hk : env.scope.kind = .function) (hl : env.kindOf x = some .local) (hd : (x == ("__debug__" : Str)) = false) : wpAny M A (eval (.Name x pos) env) Q E s := wpAny_Name (wpAny_loadName_local hk hl hn hv h) hd
section
variable {prog : Program} {w : World} {A : Around} {R : Result → Shared → Prop} {s : Shared} {K : Frag} {mg : Str → Option Value} {C fI : Addr} {xn fld : Str}
theorem sup_init (T : SupTxt prog K mg xn C fI fld) {x t0 : Addr} {v : Value} {base : Heap} (hM : L2.Mod K mg base) (hkp : ∀ b o, base.get? b = some o → s.heap.get? b = some o) (hx : s.heap.get? x = some (excO C t0)) (hnx : K.lookup x = none) (hroom : A.depth < recursionLimit)
    (hq : ∀ h' tk dx t1, InitEnd s.heap h' x C dx t1 fld v → R (.ok (.ret .none)) { s with heap := h', toks := tk }) :
    codeAny (model prog w) A (.call (.ref fI) ⟨[.ref x, v], []⟩) R s := by
  obtain ⟨oc, ct, doc, pm, kv, od, an, qual, msg, cda, cc, osl, j, p1, p2, a1, a2, a3, a4, a5, a6, q1, q2, q3, q4, vs, file, tf, c1, c2, d1, d2, s1, s2, ho, hcd, hco, hvs, hfile, hev, hcell⟩ := T.fn
  obtain ⟨nm, q, N, bs, bm, sn, sub, ab, col, dd, k0, k1, k2, k3, k5, hC, hbm⟩ := T.cls
  have X : K.In s.heap := hM.kin.keeps hkp
  have hcl : clsIn K C = some { name := nm, bases := bs, mro := .ref C :: bm, ns := N, qualname := q, hasDict := true, slotNames := sn, subclasses := sub, abstract := ab, collection := col, hasDel := false } := by unfold clsIn; rw [hC] <;> rfl
  have lim : s.heap.NoLimit := hM.nolimit.keeps hkp
  obtain ⟨mb, hb1, hb2⟩ := hM.blt
  have hxC : x ≠ C := fun z => by
    rw [z, hC] at hnx
    cases hnx
  have hxL : s.heap.objs.size ≠ x := Nat.ne_of_gt (Heap.lt_size hx)
  have hf := T.sup
  unfold ks_superIn at hf
  rw [hcl] at hf
  rcases T.par with hp | hp <;> subst hp
  all_goals
    refine ks_codeAny_call_defAt (binds := [("self", .ref x), (_, v)]) hroom (X _ _ ho) rfl lim (codeRec_of X hcd) rfl (BindsTo.of_eq (by first | rfl | with_unfolding_all rfl)) (by show ∀ y ∈ (iScope _).names, y.2 ≠ .cell; decide) (fun y hy => by
      rcases List.mem_cons.mp hy with rfl | hy
      · rfl
      rcases List.mem_cons.mp hy with rfl | hy
      · rfl
      · cases hy) (fun h1 hns k1 => ?_)
    have X1 : K.In h1 := X.keeps k1
    have hx1 := k1 _ _ hx
    refine ks_wpAt_execs_cons (ks_wpAt_Expr_any (ks_wpAt_MethodCall ?_ (hev _)))
    refine ks_wpAt_super_base rfl rfl rfl rfl (X1 _ _ ho) rfl rfl rfl (X1 _ _ hco) rfl hvs hfile T.top ?_
    refine ks_loadName_global rfl rfl (loadGlobal_builtin ((hM.glob.keeps hkp).keeps k1) T.sg ((hb1.keeps hkp).keeps k1) ((hb2 _ (by decide)).trans (by decide +kernel)) ⟨rfl, ?_⟩)
    refine wpAny_loadName_free rfl rfl rfl ⟨_, X1 _ _ hcell, rfl⟩ ?_
    refine wpAny_loadName_local rfl rfl hns (by first | rfl | with_unfolding_all rfl | kernel_rfl) ?_
    refine ks_wpAny_isType_cls (X1 _ _ hC) rfl ⟨rfl, ?_⟩
    refine ks_wpAny_call_super (X1 _ _ hC) rfl hx1 rfl (fun c e => by cases e) (looks_mroIn X1 T.selfsub) (fun h2 e2 k2 => ?_)
    have X2 : K.In h2 := X1.keeps k2
    have hx2 := k2 _ _ hx1
    have I2 : InstAt h2 x (excO C t0) C none := ⟨hx2, rfl, rfl, trivial⟩
    refine kxs_getMethod kxs_ValueError e2 (looks_opaque X2 T.opq) (l₀ := .ref C :: bm) ((looks_clsIn X2 hcl).andThen .now) rfl X2 hf (I2.type.andThen (looks_subIn X2 T.subVE)) hxC rfl ?_
    refine kxs_callWith (i := "ValueError.__init__") (x := x) rfl (evalArgs_plain (Calls.spliced_cons (Calls.Constant_str (k := j) (pos := a4) (Calls.spliced_nil ?_))))
    have hu : (h2.push (kxs_mw "ValueError.__init__" x)).get? h2.objs.size = some (kxs_mw "ValueError.__init__" x) := Heap.get?_push_at rfl rfl
    refine ⟨hu, ?_⟩
    refine bound_call F.excBase_ValueError (Heap.get?_push_of_some _ (X2 _ _ hC)) (Heap.get?_push_of_some _ hx2) hu (one_size _) (fun h4 t1 k4 e4 => ?_)
    have k14 : ∀ b o, b ≠ x → h1.get? b = some o → h4.get? b = some o := fun b o hb e => k4 b o hb (Heap.get?_push_of_some _ (k2 b o e))
    have X4 : K.In h4 := fun b o e => k14 b o (fun z => by rw [z, hnx] at e; cases e) (X1 b o e)
    have hn4 : ∀ m, h1.Ns s.heap.objs.size m → h4.Ns s.heap.objs.size m := fun m ⟨o, es, ep, ho, r⟩ => ⟨o, es, ep, k14 _ _ hxL ho, r⟩
    have hn5 := hn4 _ hns
    refine wpAt_of_wpAny ?_
    refine wpAny_execs_cons (plainObj_wpAny_Assign_Attribute ?_)
    refine ldC (v := v) hn5 (by first | rfl | with_unfolding_all rfl | kernel_rfl) (ldC (v := .ref x) hn5 (by first | rfl | with_unfolding_all rfl | kernel_rfl) ?_ rfl rfl (by decide)) rfl rfl (by decide)
    refine set_plain X4 (ox := excO C t1) (od := none) ⟨e4, rfl, rfl, trivial⟩ T.sa ?_
    refine exc_osa X4 e4 hcl (show refsVE (.ref C :: bm) = true from hbm) rfl T.noN (fun h5 tk5 dx k5 dn dne hx5 hn6 => ?_)
    refine wpAny_execs_nil (hq h5 tk5 dx t1 ⟨fun b o hb e => k5 b o hb (k14 b o hb (k1 b o e)), hx5, ?_, dne, hn6⟩)
    have z1 : s.heap.objs.size < h4.objs.size := hn5.lt
    exact Nat.le_of_lt (Nat.lt_of_lt_of_le z1 dn)
theorem sup_made (T : SupTxt prog K mg xn C fI fld) {v : Value} {base : Heap} (hM : L2.Mod K mg base) (hkp : ∀ b o, base.get? b = some o → s.heap.get? b = some o) (hroom : A.depth + 1 < recursionLimit)
    (hq : ∀ h' tk e d, OwnMade s.heap h' e C d fld v → R (.ok (.ret (.ref e))) { s with heap := h', toks := tk }) :
    codeAny (model prog w) A (.call (.ref C) ⟨[v], []⟩) R s := by
  obtain ⟨nm, q, N, bs, bm, sn, sub, ab, col, dd, k0, k1, k2, k3, k5, hC, hbm⟩ := T.cls
  have X : K.In s.heap := hM.kin.keeps hkp
  obtain ⟨hp, g, dr, tk, os⟩ := s
  have k : ∀ b o, hp.get? b = some o → ((hp.push (kdv_tup [v])).push (excO C hp.objs.size)).get? b = some o := fun b o e => Heap.get?_push_of_some _ (Heap.get?_push_of_some _ e)
  have hnx : K.lookup (hp.objs.size + 1) = none := by
    cases e : K.lookup (hp.objs.size + 1) with
    | none => rfl
    | some o =>
      have z : hp.get? (hp.objs.size + 1) = some o := X _ _ e
      exact absurd (Nat.lt_of_succ_lt (Heap.lt_size z)) (Nat.lt_irrefl _)
  have hget : ((hp.push (kdv_tup [v])).push (excO C hp.objs.size)).get? (hp.objs.size + 1) = some (excO C hp.objs.size) := by heap_get
  refine call_own F.excBase_ValueError (fun X => refsVE_contains X bm hbm) (X _ _ hC) (looks_findIn X T.iC) (fun self => bind_fn X self T.tC) (one_size v) ?_
  refine sup_init (s := ⟨(hp.push (kdv_tup [v])).push (excO C hp.objs.size), g, dr, tk, os⟩) (base := base) T hM (fun b o e => k b o (hkp b o e)) hget hnx hroom fun h' tk' dx t1 ⟨k', hx, dn, dne, hns⟩ => ?_
  have z : hp.objs.size + 1 + 1 ≤ dx := by
    have q := dn
    first
      | exact q
      | (rw [Heap.size_push, Heap.size_push] at q; exact q)
  refine ⟨rfl, hq h' tk' (hp.objs.size + 1) dx ⟨fun b o e => k' b o (Nat.ne_of_lt (Nat.lt_succ_of_lt (Heap.lt_size e))) (k b o e), Nat.le_succ _, ⟨_, _, hx, rfl, rfl, rfl, rfl⟩, Nat.le_trans (Nat.le_trans (Nat.le_succ _) (Nat.le_succ _)) z, dne, hns⟩⟩
end
end LfX

set_option Elab.async false
set_option linter.all false
set_option maxRecDepth 100000
set_option maxHeartbeats 4000000
/-! Leaf R: such an error raised, caught, its field read, over the layer. -/
namespace LfX
open PySem PySem.Spec PyProof.Rows L2
theorem relO_sup {v : V} {v' : Value} {fld : Str} (r : RelV v v') (f : Str) : RelO (List.lookup f [(fld, v)]) (if f = fld then some v' else none) := by
  by_cases hw : f = fld
  · subst hw
    rw [if_pos rfl]
    have q : List.lookup f [(f, v)] = some v := by simp [List.lookup]
    rw [q]
    exact r
  · rw [if_neg hw]
    have qw : (f == fld) = false := by simpa using hw
    have q2 : List.lookup f [(fld, v)] = none := by simp [List.lookup, qw]
    rw [q2]
    trivial
section
variable {X : Cx} {C fI : Addr} {xn fld : Str}
/-- the error x(e) is made -/
def tMkSup (C : Addr) (fld : Str) (ta : TA) : L2.St → Hp → XK → Prop := fun σ H Q => ta σ H fun vs H1 => ∃ v, vs = [v] ∧ ∀ d, H1 d = none → Q (.ref C) (some d) (upd H1 d (.xd [(fld, v)]))
theorem pmk_sup {a : Expr} {ta : TA} {p pos : Pos} {k : Nat} (T : SupTxt X.prog X.K X.mg xn C fI fld) (hr : Room k X.A) (ha : PA X [a] ta) (hg : Gl X xn)
    (he : starEach (a :: []) X.env = (false, eval a X.env) :: starEach [] X.env := by rfl) (hpl : (backTo pos (starEach [] X.env)).any (·.1) = false := by rfl) (hdb : (xn == ("__debug__" : Str)) = false := by decide) :
    PMk X (.Call (.Name xn p) [a] [] pos) (tMkSup C fld ta) := by
  intro pins s σ H Q I h
  refine wpAny_Call_Name_kw (ld_glob I hg T.gC ?_ hdb)
  refine PySem.W.callWith_K (h₀ := X.base) I.ok.mod.kin T.kC (thn (ha.run pos pins s σ H _ I h) fun us s1 hh => ?_) he hpl
  obtain ⟨vs, H1, I1, r1, v, ev, q1⟩ := hh
  subst ev
  refine ⟨I1.kIn, ?_⟩
  cases r1 with
  | cons rv rn =>
    rename_i v' us'
    cases rn
    show wpAny _ _ (call (.ref C) [v']) _ _ _
    have hM := I1.ok.mod
    have hkp := I1.bk
    obtain ⟨hp, g, dr, tk, os⟩ := s1
    refine wpAny_call (sup_made T hM hkp (by have := hr.dp; omega) fun h' tk' e d M => ?_)
    show MkP X pins σ Q (.ref e) ⟨h', g, dr, tk', os⟩
    obtain ⟨oe, fv, hoe, hc, hd, hdat, h1⟩ := M.obj
    have hns := M.ns
    obtain ⟨G', g1, g2⟩ := restrict h' fun b => decide (b ≠ e)
    have gk : ∀ b, b ≠ e → G'.get? b = h'.get? b := fun b hb => g1 b (decide_eq_true hb)
    have ge : G'.get? e = none := g2 e (by simp)
    have old : ∀ b o, hp.get? b = some o → G'.get? b = some o := fun b o q => (gk b (Nat.ne_of_lt (Nat.lt_of_lt_of_le (Heap.lt_size q) M.new))).trans (M.keep b o q)
    have ob : ObjOk X.prog X.w (upd H1 d (.xd [(fld, v)])) G' d (.xd [(fld, v)]) :=
      ⟨_, hns.at (fun o q => (gk d M.dne).trans q), fun f => relO_sup rv f⟩
    have J : Inv X pins σ (upd H1 d (.xd [(fld, v)])) ⟨G', g, dr, tk', os⟩ := I1.laid (t' := tk') old M.dbig ob
    refine ⟨e, oe, fv, ⟨G', g, dr, tk', os⟩, _, .ref C, some d, rfl, J, fun b o q => ?_, ge, hoe, ⟨hc, hd⟩, hdat, h1, ?_, rfl, I1.bare, raises_own T.exC T.tyC, q1 d (I1.hok.fresh M.dbig)⟩
    · by_cases hb : b = e
      · have q' : G'.get? b = some o := q
        rw [hb, ge] at q'
        cases q'
      · exact (gk b hb).symm.trans q
    · rw [upd_ne (Ne.symm M.dne)]
      exact I1.hok.fresh M.new
/-- raise x(e) -/
def tRaiseSup (C : Addr) (fld : Str) (W : WX) (ta : TA) : TS := fun _ σ H => tMkSup C fld ta σ H fun cls d H' => W cls d σ H'
theorem ps_raiseSup {a : Expr} {ta : TA} {W : WX} {p pos pos2 : Pos} {k : Nat} (hc : X.calm = true) (T : SupTxt X.prog X.K X.mg xn C fI fld) (hr : Room k X.A) (tk : Takes X W) (ha : PA X [a] ta) (hg : Gl X xn := by rfl)
    (he : starEach (a :: []) X.env = (false, eval a X.env) :: starEach [] X.env := by rfl) (hpl : (backTo pos (starEach [] X.env)).any (·.1) = false := by rfl) (hdb : (xn == ("__debug__" : Str)) = false := by decide) :
    PS X (.Raise (some (.Call (.Name xn p) [a] [] pos)) none pos2) (tRaiseSup C fld W ta) := ps_raise hc tk (pmk_sup T hr ha hg he hpl hdb)
/-- n.f in the suite of «except x as n»: n the error at a, its class cls, its dict d -/
def tBySup (C : Addr) (fld : Str) (a : Addr) (cls : Value) (d : Option Addr) (te : TE) : TE := fun σ H Q => te σ H fun x H1 => x = .ref a ∧ cls = .ref C ∧ ∃ (dd : Addr) (v : V), d = some dd ∧ H1 dd = some (.xd [(fld, v)]) ∧ Q v H1
theorem pe_bySup {a : Addr} {oe : Obj} {cls : Value} {d : Option Addr} {pn : List (Addr × Obj)} {e : Expr} {te : TE} {pos : Pos} (T : SupTxt X.prog X.K X.mg xn C fI fld) (hz : Zc cls d oe) (hf : ∃ vs, oe.data = .fields vs) (he : PE (X.suite a ((a, oe) :: pn)) e te)
    (hb : attributeBase e fld X.env (eval e X.env) = eval e X.env := by rfl) :
    PE (X.suite a ((a, oe) :: pn)) (.Attribute e fld pos) (tBySup C fld a cls d te) := by
  refine ⟨fun pins s σ H Q I h => ?_⟩
  refine attr_of hb (thn (he.run pins s σ H _ I h) fun u s1 hh => ?_)
  obtain ⟨x, H1, I1, rx, ex, ec, dd, v, ed, ea, q⟩ := hh
  subst ex
  obtain rfl : u = Value.ref a := rx
  subst ec
  subst ed
  obtain ⟨ha, _⟩ := I1.pin (a, oe) (List.mem_append_left _ List.mem_cons_self)
  obtain ⟨vs, hd⟩ := hf
  have hx : ObjOk X.prog X.w H1 s1.heap dd (.xd [(fld, v)]) := I1.hok dd _ ea
  obtain ⟨mA, hns, hr⟩ := hx
  obtain ⟨od, ho, hl⟩ := lookIn_ns hns
  have l : List.lookup fld [(fld, v)] = some v := by simp [List.lookup]
  obtain ⟨u, hu, ru⟩ := RelO.some_of (v := v) (o := mA fld) (by rw [← l]; exact hr fld)
  have J : PySem.W.InstAt s1.heap a oe C (some od) := ⟨ha, hz.1, by unfold PySem.W.notCls; rw [hd] <;> rfl, by rw [hz.2]; exact ho⟩
  exact HandSPX.exc_get I1.kIn J T.ga T.gg T.exC (PySem.W.findObj_own T.hdC T.noN rfl (by rw [hl, hu])) (handed_of ru) ⟨v, H1, I1.tok _, ru, q⟩
end
end LfX

set_option Elab.async false
set_option linter.all false
set_option maxRecDepth 100000
set_option maxHeartbeats 4000000
/-! Leaf G: generator expressions handed to all and sum: whatever is walked, whatever the element is. -/
namespace LfG
open PySem PySem.Spec PyProof.Rows L2
open GxR (TabB TabG Tabbed GenS)
/-- what the walked thing xv gives to a generator expression whose element is elt: n items; F i y: y is what the element is worth at the item i -/
structure Src (X : Cx) (P : Addr) (scope : Scope) (x : Str) (elt : Expr) (s1 : Shared) (xv : Value) (n : Nat) (F : Nat → Value → Prop) : Prop where
  ex : ∃ (o : Obj) (old : List Addr) (Pf : Nat → Value → Prop) (St : Nat → Heap → Prop),
    (∀ Q' : Value → Shared → Prop, Q' (.ref s1.heap.objs.size) { s1 with heap := s1.heap.push o } → wpAny (model X.prog X.w) X.A (pyIter xv) Q' X.xe s1) ∧
    (∀ A' : Around, A'.handled = none → Walks X.prog X.w A' s1.heap.objs.size (s1.heap.objs.size :: old) [s1.heap.objs.size] n Pf St) ∧
    (∀ b ∈ old, b < s1.heap.objs.size ∧ b ≠ P) ∧ St 0 (s1.heap.push o) ∧
    ∀ (cenv : Env) (A' : Around) (E' : Value → Shared → Prop) (i : Nat) (v : Value) (s2 : Shared) (m2 : Str → Option Value), cenv.scope = scope → cenv.globals = mainGlobals → s2.heap.Ns cenv.locals m2 → m2 x = some v → Pf i v →
      (∀ b u, b ≠ P → s1.heap.get? b = some u → s2.heap.get? b = some u) → wpAny (model X.prog X.w) A' (eval elt cenv) (fun y s3 => F i y ∧ Keeps s2 s3) E' s2
/-- the generator g is made and ready -/
def Ready (X : Cx) (pins : List (Addr × Obj)) (σ : L2.St) (H1 : Hp) (P : Addr) (n : Nat) (F : Nat → Value → Prop) (g : Addr) (s5 : Shared) : Prop :=
  ∃ (fp wr : List Addr) (G : Array GenState → Array GenState → Prop) (St : Nat → Shared → Prop),
    WalksS X.prog X.w X.A.in1 g fp wr G n (fun j y => ∃ i, (List.range n)[j]? = some i ∧ F i y) St ∧ St 0 s5 ∧ (∀ b ∈ fp, b < s5.heap.objs.size) ∧
    ∀ s', Moved wr G s5 s' → ∃ H2, Tabbed P H1 H2 ∧ Inv X pins σ H2 s'
section
variable {X : Cx} {pins : List (Addr × Obj)} {σ : L2.St} {H : Hp} {s : Shared}
theorem gen_core {c P : Addr} {elt iter : Expr} {x : Str} {px gpos : Pos} {scope : Scope} {te : TE} {k : Nat} {Q' : Value → Shared → Prop} {R : V → Hp → Nat → (Nat → Value → Prop) → Prop}
    (hr : Room k X.A) (TB : TabB X.base X.mg c P) (hcode : X.env.code = .ref c) (S : GenS X.env scope x) (hi : PE X iter te)
    (hs : ∀ v, genFold iter X.env v = pure v) (I : Inv X pins σ H s)
    {Kt : V → Hp → Prop} (h : te σ H Kt) (hK : ∀ v H1, Kt v H1 → TabG H1 P ∧ ∃ n F, R v H1 n F ∧ ∀ (s1 : Shared) (u : Value), Inv X pins σ H1 s1 → RelV v u → Src X P scope x elt s1 u n F)
    (hQ : ∀ v H1 n F g s5, R v H1 n F → Ready X pins σ H1 P n F g s5 → Q' (.ref g) s5) :
    wpAny (model X.prog X.w) X.A (eval (.GeneratorExp elt [⟨.Name x px, iter, [], 0⟩] scope gpos) X.env) Q' X.xe s := by
  refine wpAny_GeneratorExp_walksQ hr.hd S.co (closure_ok S.free) S.cell S.dot S.loc S.kind (by have := hr.dp; omega) ?_ hs
  refine thn (hi.run pins s σ H _ I h) fun xv s1 ⟨v, H1, I1, r1, q1⟩ => ?_
  obtain ⟨⟨ps, hP, ht⟩, n, F, hR, hsrc⟩ := hK v H1 q1
  obtain ⟨o, old, Pf, St, hit, W, hold, hst, hel⟩ := (hsrc s1 xv I1 r1).ex
  refine hit _ ?_
  have hPs : s1.heap.get? P = some { cls := .none, data := .fields ps } := I1.hok P _ hP
  have hPlt : P < s1.heap.objs.size := Heap.lt_size hPs
  have hP2 : (s1.heap.push o).get? P = some { cls := .none, data := .fields ps } := Heap.get?_push_of_some _ hPs
  have cd : PySem.W.CodeHd (s1.heap.push o) c P := TB.code.keeps fun b u e => Heap.get?_push_of_some _ (I1.bk b u e)
  have lim2 : (s1.heap.push o).NoLimit := I1.nolimit.push o
  have cont : ∀ (code : Value) (h3 : Heap) (tk : Nat) (ps' : Array Value), Heap.ExtBut P (s1.heap.push o) h3 → (s1.heap.push o).objs.size ≤ h3.objs.size → h3.get? P = some { cls := .none, data := .fields ps' } → (∃ more, ps' = ps ++ more) → TriplesOk ps'.toList →
      wpAny (model X.prog X.w) X.A (builtinsFor X.env.globals X.env.builtins) (fun bi s4 =>
        ∃ Ia fp wr n0 Pf St0 pz F, Value.ref s1.heap.objs.size = .ref Ia ∧ (∀ A' : Around, A'.handled = none → Walks X.prog X.w A' Ia fp wr n0 Pf St0) ∧ St0 0 s4.heap ∧ (∀ b ∈ fp, b < s4.heap.objs.size) ∧ s4.heap.NoLimit ∧ cStatics ∉ wr ∧
          (∀ href : Heap, (∀ b o, s4.heap.get? b = some o → href.get? b = some o) →
            QuietGen X.prog X.w (genEnv scope (cloFrom X.env.cells scope.names []) s4.heap.objs.size code bi X.env) x [] elt (List.range s4.heap.objs.size) wr Pf pz F href) ∧
          (∀ a h5 tk gs, gs.bare = true → s4.heap.objs.size < a → h5.objs.size = a + 1 → (∀ b o, s4.heap.get? b = some o → h5.get? b = some o) →
            WalksS X.prog X.w X.A.in4 a (a :: s4.heap.objs.size :: List.range s4.heap.objs.size) (s4.heap.objs.size :: wr) (GenOnlyQ s4.gens.size) (passing pz n0 0).length
              (fun j y => ∃ i, (passing pz n0 0)[j]? = some i ∧ F i y) (GenAt X.prog X.w X.A.in4 a s4.gens.size s4.heap.objs.size (List.range s4.heap.objs.size) wr pz n0 F) →
            GenAt X.prog X.w X.A.in4 a s4.gens.size s4.heap.objs.size (List.range s4.heap.objs.size) wr pz n0 F 0 { s4 with gens := s4.gens.push gs, toks := tk, heap := h5 } →
            Q' (.ref a) { s4 with gens := s4.gens.push gs, toks := tk, heap := h5 })) X.xe { s1 with heap := h3, toks := tk } := by
    intro code h3 tk ps' hx hsz hP3 hmore ht3
    obtain ⟨bm, ob, e1, e2, e3, e4, e5, e6, e7, e8⟩ := TB.bm
    have hcP : cStatics ≠ P := fun e => by
      obtain ⟨_, hns, _⟩ := I1.nolimit
      obtain ⟨o', es, ep, ho, hd, _⟩ := hns
      rw [e, hPs] at ho
      cases ho
      cases hd
    have hcl : cStatics < s1.heap.objs.size := let ⟨_, hns, _⟩ := I1.nolimit; hns.lt
    have sz2 : (s1.heap.push o).objs.size = s1.heap.objs.size + 1 := Heap.size_push ..
    have keep3 : ∀ b u, b ≠ P → s1.heap.get? b = some u → h3.get? b = some u := fun b u hb e => hx b u hb (Heap.get?_push_of_some _ e)
    refine wpAny_builtinsFor (m := X.mg) (by rw [I1.ok.glob]; exact ((I1.mod.glob.keeps I1.bk).push o).extBut hx TB.gP) e1 e2 (keep3 _ _ e4 (I1.bk _ _ e5)) e6 e7 e8 ?_
    refine ⟨s1.heap.objs.size, s1.heap.objs.size :: old, [s1.heap.objs.size], n, Pf, St, (fun _ => true), F, rfl, W, ?_, ?_, lim2.extBut hx hcP, ?_, ?_, ?_⟩
    · refine (W X.A hr.hd).frame _ _ _ hst fun b hb u e => hx b u (fun z => ?_) e
      rcases List.mem_cons.mp hb with z2 | z2
      · exact Nat.ne_of_lt hPlt (z.symm.trans z2)
      · exact (hold b z2).2 z
    · intro b hb
      rcases List.mem_cons.mp hb with z | z
      · rw [z]
        show s1.heap.objs.size < h3.objs.size
        omega
      · have e9 := (hold b z).1
        show b < h3.objs.size
        have e10 : s1.heap.objs.size ≤ h3.objs.size := by omega
        exact Nat.lt_of_lt_of_le e9 e10
    · intro z
      rcases List.mem_cons.mp z with z | z
      · exact Nat.ne_of_lt hcl z
      · cases z
    · intro href hhref
      refine ⟨fun A' E' i v s2 m2 hA hPv hn hm hk => ?_, fun A' E' i v s2 m2 hA hPv hp hn hm hk => ?_⟩
      · simp only [List.forIn_nil]
        exact wpAny_pure ⟨rfl, GxR.keeps_refl _⟩
      · refine hel _ A' E' i v s2 m2 rfl I1.ok.glob hn hm hPv fun b u hb e => ?_
        have e11 := keep3 b u hb e
        refine hk b (List.mem_range.mpr (Heap.lt_size e11)) (fun z => ?_) u (hhref b u e11)
        rcases List.mem_cons.mp z with z | z
        · rw [z] at e
          exact Nat.lt_irrefl _ (Heap.lt_size e)
        · cases z
    · intro g h5 tk5 gs hgb hag hsz5 hk5 W5 hat
      simp only [GxR.passing_true, List.length_range] at W5
      have W6 : WalksS X.prog X.w X.A.in1 _ _ _ _ n (fun j y => ∃ i, (List.range n)[j]? = some i ∧ F i y) _ := W5.in4_1
      refine hQ v H1 n F g _ hR ⟨_, _, _, _, W6, hat, ?_, fun s' hm => ?_⟩
      · intro b hb
        show b < h5.objs.size
        have e5 : h5.objs.size = g + 1 := hsz5
        have h8 : h3.objs.size < g := hag
        rw [e5]
        rcases List.mem_cons.mp hb with z | z
        · rw [z]
          exact Nat.lt_succ_self g
        · rcases List.mem_cons.mp z with z | z
          · rw [z]
            exact Nat.lt_succ_of_lt h8
          · have z2 := List.mem_range.mp z
            have h7 : b < h3.objs.size := z2
            exact Nat.lt_succ_of_lt (Nat.lt_trans h7 h8)
      · obtain ⟨more, em⟩ := hmore
        have nwr : ∀ b u, s1.heap.get? b = some u → b ∉ h3.objs.size :: [s1.heap.objs.size] := fun b u e hb => by
          have hl := Heap.lt_size e
          rcases List.mem_cons.mp hb with z | z
          · rw [z] at hl
            have h9 : (h3.objs.size : Nat) < s1.heap.objs.size := hl
            omega
          · rcases List.mem_cons.mp z with z | z
            · rw [z] at hl
              exact Nat.lt_irrefl _ hl
            · cases z
        have J := GxR.inv_tab (more := more) (h' := s'.heap) (g' := s'.gens) (d' := s'.drawn) (t' := s'.toks) I1 hP (fun b u hb e => hm.heap b u (nwr b u e) (hk5 b u (keep3 b u hb e)))
          (by rw [← em]; exact hm.heap P _ (nwr P _ hPs) (hk5 P _ hP3)) (AllBare.movedS (I1.bare.push hgb) hm)
        rw [GxR.sh_eta s1 s' hm.os] at J
        refine ⟨upd H1 P (.tbl (ps ++ more)), ⟨⟨ps ++ more, upd_same, by rw [← em]; exact ht3⟩, fun b hb => upd_ne hb⟩, J⟩
  refine ⟨lim2, ?_⟩
  cases hf : codeAmong gpos ps.toList with
  | none =>
    refine wpAny_genexprCodeX hcode (cd.code hP2 ht) (cd.tab hP2) hf fun c' h' tk hx hge hlt hco' _ htab' _ => ?_
    obtain ⟨o1, vs, f1, tf, fl, tg, inF, tx, tt, op, _, _, _, _, _, _, _, _, _, htr, _⟩ := hco'
    exact cont _ h' tk _ hx (Nat.le_trans hge (Nat.le_of_lt hlt)) htab'.2 ⟨_, rfl⟩ htr
  | some cv =>
    refine wpAny_genexprCode_hit hcode (cd.code hP2 ht) hf ?_
    exact cont cv (s1.heap.push o) s1.toks ps (Heap.ExtBut.refl _ _) (Nat.le_refl _) hP2 ⟨#[], by simp⟩ ht
theorem rng_at {n j i : Nat} (h : (List.range n)[j]? = some i) : i = j ∧ j < n := by
  obtain ⟨h7, h8⟩ := List.getElem?_eq_some_iff.mp h
  rw [List.getElem_range] at h8
  exact ⟨h8.symm, by simpa using h7⟩
/-- all(elt for x in iter): R tells of the walked thing how many and what the elements are -/
def tAllG (P : Addr) (R : V → Hp → Nat → (Nat → Bool) → Prop) (te : TE) : TE := fun σ H Q => te σ H fun v H1 => TabG H1 P ∧ ∃ n f, R v H1 n f ∧ ∀ H2, Tabbed P H1 H2 → Q (.bl ((List.range n).all f)) H2
theorem pe_allG {c P : Addr} {elt iter : Expr} {x : Str} {px p pos gpos : Pos} {scope : Scope} {R : V → Hp → Nat → (Nat → Bool) → Prop} {te : TE} {k : Nat}
    (hr : Room k X.A) (hm : X.mg "all" = none) (TB : TabB X.base X.mg c P) (hcode : X.env.code = .ref c) (S : GenS X.env scope x) (hi : PE X iter te)
    (hsrc : ∀ (pins : List (Addr × Obj)) (σ : L2.St) (v : V) (H1 : Hp) (n : Nat) (f : Nat → Bool) (s1 : Shared) (u : Value), R v H1 n f → Inv X pins σ H1 s1 → RelV v u → Src X P scope x elt s1 u n (fun i y => y = .bool (f i)))
    (hg : Gl X "all" := by rfl) (hs : ∀ v, genFold iter X.env v = pure v := by intro _; rfl)
    (he : starEach [.GeneratorExp elt [⟨.Name x px, iter, [], 0⟩] scope gpos] X.env = (false, eval (.GeneratorExp elt [⟨.Name x px, iter, [], 0⟩] scope gpos) X.env) :: starEach [] X.env := by rfl) :
    PE X (.Call (.Name "all" p) [.GeneratorExp elt [⟨.Name x px, iter, [], 0⟩] scope gpos] [] pos) (tAllG P R te) := by
  refine ⟨fun pins s σ H Q I h => ?_⟩
  refine wpAny_Call_Name_kw (ld_blt I hg hm boot_all ?_)
  refine PyProof.Rows.callWith_builtin1 ?_ he (by rfl)
  rw [he]
  show wpAny _ _ (spliced ((false, eval (.GeneratorExp elt [⟨.Name x px, iter, [], 0⟩] scope gpos) X.env) :: backTo pos (starEach [] X.env))) _ _ s
  refine Calls.spliced_cons (gen_core (R := fun v H1 n F => ∃ f : Nat → Bool, F = (fun i y => y = .bool (f i)) ∧ ∀ H2, Tabbed P H1 H2 → Q (.bl ((List.range n).all f)) H2) hr TB hcode S hi hs I h
    (fun v H1 ⟨ht, n, f, hR, hq⟩ => ⟨ht, n, _, ⟨f, rfl, hq⟩, fun s1 u I1 r1 => hsrc pins σ v H1 n f s1 u hR I1 r1⟩) fun v H1 n F g s5 hR hG => ?_)
  obtain ⟨f, rfl, hq⟩ := hR
  obtain ⟨fp, wr, G, St, W, hst, hfp, hI⟩ := hG
  refine Calls.spliced_nil ?_
  refine call_all_walkS (W.self 0 _ _ _ hst ⟨g, fp, wr, G, n, _, St, f, rfl, W, hst, fun j y sj Qj Ej hy hQj => ?_, fun s' hmv => ?_⟩)
  · obtain ⟨i, hi1, rfl⟩ := hy
    obtain ⟨rfl, _⟩ := rng_at hi1
    exact wpAny_truthy_bool hQj
  · obtain ⟨H2, hT, J⟩ := hI s' hmv
    exact ⟨.bl _, H2, J, rfl, hq H2 hT⟩
/-- sum(elt for x in iter) of small numbers -/
def tSumG (P : Addr) (R : V → Hp → List Int → Prop) (te : TE) : TE := fun σ H Q => te σ H fun v H1 => TabG H1 P ∧ ∃ ns : List Int, R v H1 ns ∧ (∀ z ∈ ns, 0 ≤ z) ∧ ns.sum < 2 ^ 62 ∧ ∀ H2, Tabbed P H1 H2 → Q (.int ns.sum) H2
theorem preSum_le {val : Nat → Int} (h : ∀ j, 0 ≤ val j) : ∀ n m, n ≤ m → preSum val n ≤ preSum val m
  | n, 0, e => by
    have z : n = 0 := by omega
    subst z
    exact Int.le_refl _
  | n, m + 1, e => by
    by_cases z : n = m + 1
    · subst z
      exact Int.le_refl _
    · have ih := preSum_le h n m (by omega)
      have hv := h m
      show _ ≤ preSum val m + val m
      omega
theorem preSum_list : ∀ ns : List Int, preSum (fun i => ns.getD i 0) ns.length = ns.sum := by
  intro ns
  have key : ∀ n, n ≤ ns.length → preSum (fun i => ns.getD i 0) n = (ns.take n).sum := by
    intro n
    induction n with
    | zero => intro _; rfl
    | succ m ih =>
      intro h
      show preSum _ m + ns.getD m 0 = _
      rw [ih (by omega)]
      have e : ns[m]? = some (ns.getD m 0) := by
        rw [List.getD_eq_getElem?_getD, List.getElem?_eq_getElem (by omega)]
        rfl
      exact (sum_take e).symm
  rw [key _ (Nat.le_refl _), List.take_length]
theorem pe_sumG {c P : Addr} {elt iter : Expr} {x : Str} {px p pos gpos : Pos} {scope : Scope} {R : V → Hp → List Int → Prop} {te : TE} {k : Nat}
    (hr : Room k X.A) (hm : X.mg "sum" = none) (TB : TabB X.base X.mg c P) (hcode : X.env.code = .ref c) (S : GenS X.env scope x) (hi : PE X iter te)
    (hsrc : ∀ (pins : List (Addr × Obj)) (σ : L2.St) (v : V) (H1 : Hp) (ns : List Int) (s1 : Shared) (u : Value), R v H1 ns → Inv X pins σ H1 s1 → RelV v u → Src X P scope x elt s1 u ns.length (fun i y => ∃ t, y = .int (ns.getD i 0) t))
    (hg : Gl X "sum" := by rfl) (hs : ∀ v, genFold iter X.env v = pure v := by intro _; rfl)
    (he : starEach [.GeneratorExp elt [⟨.Name x px, iter, [], 0⟩] scope gpos] X.env = (false, eval (.GeneratorExp elt [⟨.Name x px, iter, [], 0⟩] scope gpos) X.env) :: starEach [] X.env := by rfl) :
    PE X (.Call (.Name "sum" p) [.GeneratorExp elt [⟨.Name x px, iter, [], 0⟩] scope gpos] [] pos) (tSumG P R te) := by
  refine ⟨fun pins s σ H Q I h => ?_⟩
  refine wpAny_Call_Name_kw (ld_blt I hg hm boot_sum ?_)
  refine PyProof.Rows.callWith_builtin1 ?_ he (by rfl)
  rw [he]
  show wpAny _ _ (spliced ((false, eval (.GeneratorExp elt [⟨.Name x px, iter, [], 0⟩] scope gpos) X.env) :: backTo pos (starEach [] X.env))) _ _ s
  refine Calls.spliced_cons (gen_core (R := fun v H1 n F => ∃ ns : List Int, n = ns.length ∧ F = (fun i y => ∃ t, y = .int (ns.getD i 0) t) ∧ (∀ z ∈ ns, 0 ≤ z) ∧ ns.sum < 2 ^ 62 ∧ ∀ H2, Tabbed P H1 H2 → Q (.int ns.sum) H2) hr TB hcode S hi hs I h
    (fun v H1 ⟨ht, ns, hR, h0, hb, hq⟩ => ⟨ht, _, _, ⟨ns, rfl, rfl, h0, hb, hq⟩, fun s1 u I1 r1 => hsrc pins σ v H1 ns s1 u hR I1 r1⟩) fun v H1 n F g s5 hR hG => ?_)
  obtain ⟨ns, rfl, rfl, h0, hb, hq⟩ := hR
  obtain ⟨fp, wr, G, St, W, hst, hfp, hI⟩ := hG
  refine Calls.spliced_nil ?_
  have hv0 : ∀ j, 0 ≤ ns.getD j 0 := fun j => by
    rw [List.getD_eq_getElem?_getD]
    cases e : ns[j]? with
    | none => exact Int.le_refl _
    | some z => exact h0 z (List.mem_of_getElem? e)
  refine call_sum_walkS (W.self 0 _ _ _ hst ⟨g, fp, wr, G, ns.length, _, St, (fun i => ns.getD i 0), rfl, W, hst, hfp, fun j y hy => ?_, fun j hj => ?_, fun s' t' hmv => ?_⟩)
  · obtain ⟨i, hi1, t, rfl⟩ := hy
    obtain ⟨rfl, _⟩ := rng_at hi1
    exact ⟨t, rfl⟩
  · have e1 : preSum (fun i => ns.getD i 0) (j + 1) ≤ preSum (fun i => ns.getD i 0) ns.length := preSum_le hv0 _ _ (by omega)
    rw [preSum_list] at e1
    have e2 : preSum (fun i => ns.getD i 0) 0 ≤ preSum (fun i => ns.getD i 0) j := preSum_le hv0 _ _ (Nat.zero_le _)
    have e3 : preSum (fun i => ns.getD i 0) (j + 1) = preSum (fun i => ns.getD i 0) j + ns.getD j 0 := rfl
    have e4 : preSum (fun i => ns.getD i 0) 0 = 0 := rfl
    have e5 := hv0 j
    refine ⟨⟨?_, ?_⟩, ⟨?_, ?_⟩⟩ <;> simp only [] at * <;> omega
  · obtain ⟨H2, hT, J⟩ := hI s' hmv
    refine ⟨.int _, H2, J, ⟨t', ?_⟩, hq H2 hT⟩
    rw [preSum_list]
end
end LfG

set_option Elab.async false
set_option linter.all false
set_option maxRecDepth 100000
set_option maxHeartbeats 4000000
/-! Leaf H: what walks in a generator expression: a text's signs, each asked to be in a global text; a list of tuples, the first item of each. -/
namespace LfG
open PySem PySem.Spec PyProof.Rows L2
open GxR (TabB TabG Tabbed GenS)
section
variable {X : Cx} {pins : List (Addr × Obj)} {σ : L2.St}
theorem ld_loc {M : Model} {A : Around} {E : Value → Shared → Prop} {s : Shared} {cenv : Env} {m : Str → Option Value} {x : Str} {p : Pos} {v : Value} {Q : Value → Shared → Prop} (hk : cenv.scope.kind = .function) (hl : cenv.scope.names.lookup x = some .local) (hn : s.heap.Ns cenv.locals m) (hm : m x = some v)
    (hd : (x == ("__debug__" : Str)) = false) (h : Q v s) : wpAny M A (eval (.Name x p) cenv) Q E s := wpAny_Name (wpAny_loadName_local hk hl hn hm h) hd
/-- sign in SIGNS, over the signs of a text -/
theorem src_signs {P : Addr} {scope : Scope} {x gx : Str} {p1 p2 p3 : Pos} {a z : Str} {t tz : Tok} {H1 : Hp} {s1 : Shared} (I : Inv X pins σ H1 s1) (hP : ∃ q, H1 P = some (.tbl q)) (hk : scope.kind = .function) (hl : scope.names.lookup x = some .local) (hgl : scope.names.lookup gx = some .globalImplicit) (hm : X.mg gx = some (.str z tz))
    (hd : (x == ("__debug__" : Str)) = false := by decide) (hd2 : (gx == ("__debug__" : Str)) = false := by decide) :
    Src X P scope x (.Compare (.Name x p1) [.In] [.Name gx p2] p3) s1 (.str a t) a.cps.size (fun i y => y = .bool (match a.cps.toList[i]? with | some c => decide (c ∈ z.cps.toList) | none => false)) := by
  have nP : ∀ b o, X.base.get? b = some o → b ≠ P := fun b o e n => by
    have q := (I.bs b o e).2
    obtain ⟨ps, hP⟩ := hP
    rw [n, hP] at q
    cases q
  have hel : ∀ (cenv : Env) (A' : Around) (E' : Value → Shared → Prop) (i : Nat) (v : Value) (s2 : Shared) (m2 : Str → Option Value), cenv.scope = scope → cenv.globals = mainGlobals → s2.heap.Ns cenv.locals m2 → m2 x = some v → SignAt a i v →
      (∀ b u, b ≠ P → s1.heap.get? b = some u → s2.heap.get? b = some u) → wpAny (model X.prog X.w) A' (eval (.Compare (.Name x p1) [.In] [.Name gx p2] p3) cenv)
        (fun y s3 => y = .bool (match a.cps.toList[i]? with | some c => decide (c ∈ z.cps.toList) | none => false) ∧ Keeps s2 s3) E' s2 := by
    intro cenv A' E' i v s2 m2 hsc hgb hn hv ⟨c, u, hc, ev⟩ hkp
    subst ev
    refine wpAny_Compare1 ?_
    refine ld_loc (by rw [hsc]; exact hk) (by rw [hsc]; exact hl) hn hv hd ?_
    have hG : s2.heap.Ns cenv.globals X.mg := by
      rw [hgb]
      exact I.mod.glob.keeps fun b o e => hkp b o (nP b o e) (I.bk b o e)
    refine wpAny_Name (PySem.W.ks_loadName_global (by rw [hsc]; exact hk) (show cenv.scope.names.lookup gx = _ by rw [hsc]; exact hgl) (Calls.loadGlobal_global hG hm ?_)) hd2
    refine PyProof.Rows.in_str ⟨?_, GxR.keeps_refl _⟩
    have e9 : a.cps.toList[i]? = some c := by rw [Array.getElem?_toList]; exact hc
    rw [e9]
    exact congrArg Value.bool (PySem.StrLaws.found_one z c)
  cases ha : a.cps.all (· < 128) with
  | false => exact ⟨_, [], SignAt a, _, fun Q' h => wpAny_pyIter_wide ha h, fun A' hA => Walks.strWide hA _ a t, fun b hb => absurd hb (by simp), ⟨_, Heap.get?_push_size _ rfl, rfl, rfl⟩, hel⟩
  | true => exact ⟨_, [], SignAt a, _, fun Q' h => wpAny_pyIter_ascii ha h, fun A' hA => Walks.strAscii hA _ a t, fun b hb => absurd hb (by simp), ⟨_, Heap.get?_push_size _ rfl, rfl, rfl⟩, hel⟩
/-- x[0], over a list of tuples that begin with whole numbers -/
theorem src_heads {P : Addr} {scope : Scope} {x : Str} {j : Nat} {p1 p2 p3 : Pos} {l : Addr} {vs : List V} {ns : List Int} {H1 : Hp} {s1 : Shared} (I : Inv X pins σ H1 s1) (hP : ∃ q, H1 P = some (.tbl q)) (hL : SqL X.K H1 l vs) (hlen : vs.length = ns.length)
    (hv : ∀ (i : Nat) (v : V) (n : Int), vs[i]? = some v → ns[i]? = some n → ∃ a r, v = .ref a ∧ SqT X.K H1 a (.int n :: r)) (hk : scope.kind = .function) (hl : scope.names.lookup x = some .local) (hd : (x == ("__debug__" : Str)) = false := by decide) :
    Src X P scope x (.Subscript (.Name x p1) (.Constant (.int 0) j p2) p3) s1 (.ref l) ns.length (fun i y => ∃ t, y = .int (ns.getD i 0) t) := by
  obtain ⟨q, hP⟩ := hP
  have hPs : s1.heap.get? P = some { cls := .none, data := .fields q } := I.hok P _ hP
  obtain ⟨its, rv, hIL, hz⟩ := I.list hL
  have hI := hIL.isList
  have hlt : l < s1.heap.objs.size := by
    obtain ⟨_, e, _⟩ := _root_.id hI
    exact Heap.lt_size e
  have hlP : l ≠ P := fun z => by
    obtain ⟨_, e, hc1, _, hd1⟩ := _root_.id hI
    rw [z, hPs] at e
    cases e
    cases hd1
  have hil : its.length = ns.length := by rw [← rv.length, hlen]
  refine ⟨{ cls := .type "list_iterator", data := .fields #[.ref l, .int 0 0] }, [l], fun i v => its.toArray[i]? = some v, fun i h => h.IsListIter s1.heap.objs.size l i ∧ h.IsList l its.toArray, fun Q' h => wpAny_pyIter_list hI h, fun A' hA => by
      have W := Walks.list (prog := X.prog) (w := X.w) hA s1.heap.objs.size l (Nat.ne_of_lt hlt) its.toArray
      have ez : its.toArray.size = ns.length := by rw [List.size_toArray, hil]
      rw [ez] at W
      exact W, fun b hb => ?_, ⟨⟨_, Heap.get?_push_size _ rfl, rfl, rfl⟩, ?_⟩, ?_⟩
  · have eb : b = l := by simpa using hb
    rw [eb]
    exact ⟨hlt, hlP⟩
  · obtain ⟨o, e1, e2⟩ := _root_.id hI
    exact ⟨o, Heap.get?_push_of_some _ e1, e2⟩
  · intro cenv A' E' i v s2 m2 hsc hgb hn hm hPf hkp
    have hit : its[i]? = some v := by simpa using hPf
    have hi : i < its.length := (List.getElem?_eq_some_iff.mp hit).1
    have hvs : vs[i]? = some (vs[i]'(by rw [rv.length]; exact hi)) := List.getElem?_eq_getElem _
    have hns : ns[i]? = some (ns[i]'(by omega)) := List.getElem?_eq_getElem _
    obtain ⟨u, hu, ru⟩ := rv.get hvs
    rw [hit] at hu
    cases hu
    obtain ⟨a, r, ea, hT⟩ := hv i _ _ hvs hns
    rw [ea] at ru
    cases ru
    obtain ⟨ts, rt, pT, _⟩ := I.tuple hT
    have haP : a ≠ P := fun z => by
      obtain ⟨_, e1, _, _, hd1⟩ := _root_.id pT
      rw [z, hPs] at e1
      cases e1
      cases hd1
    have pT2 : IsTup s2.heap a ts.toArray := by
      obtain ⟨o, e1, e2⟩ := _root_.id pT
      exact ⟨o, hkp a o haP e1, e2⟩
    cases rt with
    | cons r0 rr =>
      obtain ⟨t0, rfl⟩ := r0
      refine Subscript_Constant (ld_loc (by rw [hsc]; exact hk) (by rw [hsc]; exact hl) hn hm hd ?_)
      refine wpAny_Constant_int ?_
      have eg : ns.getD i 0 = ns[i]'(by omega) := by
        rw [List.getD_eq_getElem?_getD, hns]
        rfl
      refine ⟨"tuple", _, slot_tuple_getitem.lookup, pT2.typeIs, getItem_tuple (j := 0) pT2 (by decide) (by decide) (by simp [seqIndex?]) (by simp; rfl) ⟨⟨t0, ?_⟩, GxR.keeps_tok _ _⟩⟩
      rw [eg]
end
end LfG

set_option Elab.async false
set_option linter.all false
set_option maxRecDepth 100000
set_option maxHeartbeats 4000000
/-! Leaf S: sorted(d) of a dict with tuple keys: a new list of the keys' own tuples, in some order. -/
namespace LfS
open PySem PySem.Spec PyProof.Rows L2
open PySem.W (EachIs KdlSrc)
def keyD : Key → PyData
  | .inl i => .int i
  | .inr z => .str z
def encK (b : List Key × Addr) : PyData := .tuple (b.1.map keyD)
def isRef (v : Value) (b : List Key × Addr) : Prop := v = .ref b.2
theorem src_dictT {prog : Program} {w : World} {d : Addr} {o : Obj} {es : Array DictEntry} {ep : Nat} (lo : (d == sysModules) = false) (hx : o.ExactDict) (hdt : o.data = .dict es ep) :
    KdlSrc prog w "dict" d d es.size (fun i v => ∃ en, es[i]? = some en ∧ v = en.key) (fun h => h.get? d = some o) where
  type := fun s hm => ⟨o, hm, hx.1⟩
  there := fun h hm => ⟨Heap.lt_size hm, Heap.lt_size hm⟩
  keep := fun h h' hm hk => hk d (.inl rfl) o hm
  notList := by decide
  notTuple := by decide
  hint := fun A E s Q hm hq => PySem.W.kdl_hint_dict ⟨o, hm, hx.1⟩ hq
  iter := fun A s hh hm => by
    have hlt : d < s.heap.objs.size := Heap.lt_size hm
    refine ⟨{ cls := .type "dict_keyiterator", data := .fields #[.ref d, .int 0 0, .int es.size 0, .int ep 0] }, fun i h => h.IsKeyIter s.heap.objs.size d i es.size ep ∧ h.get? d = some o, fun E Q hq => iter_keys lo hm hx hdt hq, ?_, ⟨_, Heap.get?_push_size _ rfl, rfl, rfl⟩, Heap.get?_push_of_some _ hm⟩
    refine ⟨by simp, fun i h h' st hk => ⟨st.1.at fun o e => hk _ (by simp) o e, hk d (by simp) o st.2⟩, fun i s2 Q E hi st hQ => ?_, fun s2 Q E st hQ => ?_, fun i s2 Q E st hQ => ?_⟩
    · have he : es[i]? = some es[i] := by simp [hi]
      refine next_key_item st.1 st.2 hdt rfl he fun h' st' sb => hQ _ h' s2.toks ⟨_, he, rfl⟩ ⟨st', (sb.2 d (Nat.ne_of_lt hlt)).trans st.2⟩ fun b ob hb e => (sb.2 b (fun z => hb (by simp [z]))).trans e
    · exact next_key_end hh st.1 st.2 hdt rfl (Nat.le_refl _) fun h' eb => hQ h' s2.toks fun b ob hb e => eb b ob (fun z => hb (by simp [z])) e
    · refine wpAny_pyIter_slot st.1.typeIs F.slot_dict_keyiterator_iter (wpAny_call_entry F.slot_dict_keyiterator_iter st.1.typeIs F.entry_dict_keyiterator_iter ?_ (F.args_dict_keyiterator_iter_1 _))
      show wpAny _ _ (ret (.ref _)) _ _ s2
      exact wpAny_pure ⟨_, rfl, "dict_keyiterator", _, st.1.typeIs, F.slot_dict_keyiterator_next.lookup, hQ⟩
theorem reads_keys {h : Heap} : ∀ {ks : List Key} {us : List Value}, Vals (ks.map kV) us → ReadsAll h us (ks.map keyD) []
  | [], _, r => by cases r; exact .nil
  | k :: ks, _, r => by
    cases r with
    | cons r1 r2 =>
      have e : ([] : List Addr) = [] ++ [] := rfl
      rw [List.map_cons, e]
      refine .cons ?_ (reads_keys r2)
      cases k with
      | inl i => obtain ⟨t, rfl⟩ := r1; exact .int i t
      | inr z => obtain ⟨t, rfl⟩ := r1; exact .str z t
theorem each_idx {α β : Type} {R : α → β → Prop} : ∀ {as : List α} {bs : List β}, as.length = bs.length → (∀ (i : Nat) (a : α) (b : β), as[i]? = some a → bs[i]? = some b → R a b) → EachIs R as bs
  | [], [], _, _ => .nil
  | a :: as, b :: bs, hl, h => .cons (h 0 a b rfl rfl) (each_idx (by simpa using hl) fun i x y e1 e2 => h (i + 1) x y (by simpa using e1) (by simpa using e2))
  | [], _ :: _, hl, _ => by simp at hl
  | _ :: _, [], hl, _ => by simp at hl
theorem each_refs : ∀ {vs : List Value} {bs : List (List Key × Addr)}, EachIs isRef vs bs → Vals (bs.map fun b => V.ref b.2) vs
  | _, _, .nil => .nil
  | _, _, .cons h t => .cons h (each_refs t)
def rSortT : List V → Hp → VK → Prop := fun xs H Q => ∃ (a : Addr) (kvs : List (List Key × V)), xs = [.ref a] ∧ H a = some (.dT kvs) ∧ (∀ p ∈ kvs, p.1 ≠ []) ∧ (∀ p ∈ kvs, ∀ q ∈ kvs, PySem.W.alike (.tuple (p.1.map keyD)) (.tuple (q.1.map keyD)) = true) ∧
  ∀ (ps : List (List Key × Addr)) (p : Addr), (ps.map (·.1)).Perm (kvs.map (·.1)) → (∀ b ∈ ps, H b.2 = some (.tup (b.1.map kV))) → H p = none → Q (.ref p) (upd H p (.lst (ps.map fun b => V.ref b.2)))
theorem depth_keys : ∀ ks : List Key, PyData.depthAll (ks.map keyD) = 0
  | [] => rfl
  | k :: ks => by
    rw [List.map_cons, PyData.depthAll, depth_keys ks]
    cases k <;> rfl
section
variable {X : Cx}
theorem call_sortedT (hcalm : X.calm = true) (hu : X.A.units + 16 < cLine) : CallR X (.builtin "sorted") rSortT := by
  intro pins s σ H xs us Q I r q
  obtain ⟨a, kvs, ex, hd, hne, hal, q⟩ := q
  subst ex
  obtain ⟨u, eu, rx⟩ := vals1 r
  subst eu
  cases rx
  obtain ⟨hz, lo, xs', rel, o, es, ep, ho, hx, hdt, hes, his, hn⟩ := dt_of I.hok hd
  have l1 : kvs.length = xs'.length := Paired.length rel
  have l2 : es.size = xs'.length := size_of_entries hes
  have h16 : es.size ≤ sizeLine := by omega
  refine Calls.call_function_entry PyProof.Rows.kind_sorted PyProof.Rows.plain_sorted PyProof.Rows.entry_sorted (PyProof.Rows.args_sorted1 _) ?_
  unfold Builtin.«sorted»
  refine wpAny_bind (m := checkCount "sorted" 1 1 _) (wpAny_pure ?_)
  refine wpAny_bind (PySem.W.kdu_collect (A := X.A.in1) (src_dictT lo hx hdt) (I.ok.hd hcalm) ho h16 fun h' tk acc hk hacc => ?_)
  have hal' : acc.toList.length = es.size := by rw [Array.length_toList, hacc.1]
  have I1 : Inv X pins σ H { s with heap := h', toks := tk } := I.kept hk
  refine wpAny_bind (wpAny_newList ?_ (by rw [hal']; exact h16))
  have hoL : (h'.push (seqObj "list" acc.toList.toArray 0)).get? h'.objs.size = some (seqObj "list" acc.toList.toArray 0) := Heap.get?_push_size _ rfl
  show wpAny _ _ _ _ _ { s with heap := h'.push (seqObj "list" acc.toList.toArray 0), toks := tk }
  have I2 : Inv X pins σ H { s with heap := h'.push (seqObj "list" acc.toList.toArray 0), toks := tk } := I1.kept (t' := tk) fun b ob e => Heap.get?_push_of_some _ e
  -- the keys that are collected
  have hE : EachIs isRef acc.toList (xs'.map fun x => (x.1, x.2.1)) := each_idx (by rw [hal', l2, List.length_map]) fun i v b e1 e2 => by
    obtain ⟨en, e3, e4⟩ := hacc.2 i v (by rw [← Array.getElem?_toList]; exact e1)
    rw [List.getElem?_map] at e2
    rw [entry_at hes i] at e3
    cases hx' : xs'[i]? with
    | none => rw [hx'] at e2; cases e2
    | some x =>
      rw [hx'] at e2 e3
      cases e2
      have e5 : entryOfKey (tupleKind (mixKind X.prog X.w)) x = en := Option.some.inj e3
      show v = _
      rw [e4, ← e5]
      rfl
  have hmem : ∀ b ∈ xs'.map (fun x => (x.1, x.2.1)), H b.2 = some (.tup (b.1.map kV)) ∧ ∃ v, (b.1, v) ∈ kvs := fun b hb => by
    obtain ⟨x, hxm, rfl⟩ := List.mem_map.mp hb
    obtain ⟨i, hi⟩ := List.mem_iff_getElem?.mp hxm
    obtain ⟨e0, he0, r1, r2, r3⟩ := L2.DX.pget rel hi
    rw [r1] at r2
    exact ⟨r2, e0.2, by rw [← r1]; exact List.mem_of_getElem? he0⟩
  have hkeys : (xs'.map (fun x => (x.1, x.2.1))).map (·.1) = kvs.map (·.1) := by
    rw [List.map_map]
    refine List.ext_getElem? fun i => ?_
    rw [List.getElem?_map, List.getElem?_map]
    cases hi : xs'[i]? with
    | none =>
      have : kvs[i]? = none := by
        rw [List.getElem?_eq_none_iff] at hi ⊢
        omega
      rw [this]
      rfl
    | some x =>
      obtain ⟨e0, he0, r1, _⟩ := L2.DX.pget rel hi
      rw [he0]
      show some x.1 = some e0.1
      rw [r1]
  have hR : EachIs (fun v b => ∃ as, Reads (h'.push (seqObj "list" acc.toList.toArray 0)) v (encK b) as ∧ h'.objs.size ∉ as) acc.toList (xs'.map fun x => (x.1, x.2.1)) := by
    have key : ∀ {vs : List Value} {bs : List (List Key × Addr)}, EachIs isRef vs bs → (∀ b ∈ bs, H b.2 = some (.tup (b.1.map kV))) → EachIs (fun v b => ∃ as, Reads (h'.push (seqObj "list" acc.toList.toArray 0)) v (encK b) as ∧ h'.objs.size ∉ as) vs bs := by
      intro vs bs e
      induction e with
      | nil => intro _; exact .nil
      | @cons v b vs bs hv ht ih =>
        intro hm
        refine .cons ?_ (ih fun b hb => hm b (List.mem_cons_of_mem _ hb))
        obtain ⟨_, its, rv, ot, hot, hct, nt, hdt'⟩ := (show ObjOk X.prog X.w H _ b.2 (.tup (b.1.map kV)) from I2.hok b.2 _ (hm b List.mem_cons_self))
        have ev : v = .ref b.2 := hv
        rw [ev]
        refine ⟨[], .tuple hot hct hdt' (by simpa using reads_keys rv), by simp⟩
    exact key hE fun b hb => (hmem b hb).1
  have hAl : PySem.W.AllAlike ((xs'.map fun x => (x.1, x.2.1)).map encK) := fun d hd d' hd' => by
    obtain ⟨b, hb, rfl⟩ := List.mem_map.mp hd
    obtain ⟨b', hb', rfl⟩ := List.mem_map.mp hd'
    obtain ⟨_, v, hv⟩ := hmem b hb
    obtain ⟨_, v', hv'⟩ := hmem b' hb'
    exact hal _ hv _ hv'
  have hSo : PySem.W.Sortable ((xs'.map fun x => (x.1, x.2.1)).map encK) := .inl fun d hd => by
    obtain ⟨b, hb, rfl⟩ := List.mem_map.mp hd
    obtain ⟨_, v, hv⟩ := hmem b hb
    have hn0 := hne _ hv
    show ∃ x r, PyData.tuple (b.1.map keyD) = _
    cases hb1 : b.1 with
    | nil => exact absurd hb1 hn0
    | cons k ks => exact ⟨keyD k, ks.map keyD, rfl⟩
  refine wpAny_bind (wpAny_holding (PySem.W.list_sort_data (s := { s with heap := h'.push (seqObj "list" acc.toList.toArray 0), toks := tk }) hoL hE hR hAl hSo (by rw [List.length_map]; omega) (fun b hb => ?_) fun out hl hs => ?_))
  · have e : (encK b).depth ≤ 1 := by
      show (PyData.tuple (b.1.map keyD)).depth ≤ 1
      rw [PyData.depth, depth_keys]
      exact Nat.le_refl _
    have e2 : X.A.in1.units ≤ X.A.units + 10 := by
      show X.A.units + 1 ≤ _
      omega
    omega
  · obtain ⟨e', he'⟩ := PyProof.Rows.sortedHeap_at (vs := acc.toList) (out := out.toArray) hoL
    have hperm := List.mergeSort_perm (xs'.map fun x => (x.1, x.2.1)) (PySem.W.dataLe false encK)
    have hlen : (((xs'.map fun x => (x.1, x.2.1)).mergeSort (PySem.W.dataLe false encK)).map fun b => V.ref b.2).length ≤ sizeLine := by
      rw [List.length_map, hperm.length_eq, List.length_map]
      omega
    refine wpAny_pure ⟨_, rfl, .ref h'.objs.size, upd H h'.objs.size (.lst (((xs'.map fun x => (x.1, x.2.1)).mergeSort (PySem.W.dataLe false encK)).map fun b => V.ref b.2)), I1.laid (t' := tk) (fun b u e => ?_) (Nat.le_refl _)
      (show ObjOk X.prog X.w _ _ _ (.lst _) from ⟨hlen, out, e', each_refs hs, he'⟩), rfl, q _ _ (hkeys ▸ hperm.map (·.1)) (fun b hb => (hmem b (hperm.mem_iff.mp hb)).1) (I1.hok.fresh (Nat.le_refl _))⟩
    have hb : b < h'.objs.size := Heap.lt_size e
    rw [PyProof.Rows.sortedHeap_old (Nat.ne_of_lt hb) (by rw [size_push']; exact Nat.lt_succ_of_lt hb)]
    exact Heap.get?_push_of_some _ e
end
end LfS

set_option Elab.async false
set_option linter.all false
set_option maxRecDepth 100000
set_option maxHeartbeats 4000000
/-! Leaf F: frames: what may be written (N), what is true of it (T, at a count b). -/
namespace Lf
open PySem PySem.Spec PyProof.Rows L2
open GxR (TabB TabG Tabbed GenS)
structure Fr where
  N : Addr → Prop
  T : Nat → Hp → Prop
  pos : ∀ b H a, T b H → N a → ∃ o, H a = some o ∧ (∀ xs, o ≠ .tup xs) ∧ ∀ ob w, o ≠ .frz ob w
  loc : ∀ b H H', T b H → (∀ a, N a → H' a = H a) → T b H'
  mono : ∀ b c H, T b H → b ≤ c → T c H
structure Go (F : Fr) (b : Nat) (H : Hp) (c : Nat) (H' : Hp) : Prop where
  kp : Kp F.N H H'
  l : F.T b H
  r : F.T c H'
section
variable {F : Fr} {b c d : Nat} {H H1 H2 H' : Hp}
theorem Go.refl (h : F.T b H) : Go F b H b H := ⟨Kp.refl, h, h⟩
theorem Go.trans (g : Go F b H c H1) (g' : Go F c H1 d H2) : Go F b H d H2 := ⟨g.kp.trans g'.kp, g.l, g'.r⟩
theorem Go.le (g : Go F b H c H1) (h : c ≤ d) : Go F b H d H1 := ⟨g.kp, g.l, F.mono _ _ _ g.r h⟩
theorem Fr.fresh (F : Fr) {p : Addr} (h : F.T b H) (e : H p = none) : ¬ F.N p := fun n => by
  obtain ⟨o, q, _⟩ := F.pos _ _ _ h n
  rw [e] at q
  cases q
theorem Go.nn (g : Go F b H c H') {p : Addr} (e : H p = none) : ¬ F.N p := F.fresh g.l e
theorem Go.nn' (g : Go F b H c H') {p : Addr} (e : H' p = none) : ¬ F.N p := F.fresh g.r e
theorem Fr.upd (F : Fr) {p : Addr} {o : HO} (h : F.T b H) (n : ¬ F.N p) : F.T b (upd H p o) := F.loc _ _ _ h fun a ha => upd_ne fun z => n (z ▸ ha)
theorem Go.new (h : F.T b H) {p : Addr} {o : HO} (e : H p = none) : Go F b H b (upd H p o) := ⟨Kp.new e, h, F.upd h (F.fresh h e)⟩
/-- one more thing is laid -/
theorem Go.add (g : Go F b H c H') {p : Addr} {o : HO} (e : H' p = none) : Go F b H c (upd H' p o) := g.trans (Go.new g.r e)
/-- a thing of one's own is written -/
theorem Go.put (g : Go F b H c H') {p : Addr} {o : HO} (e : H p = none) : Go F b H c (upd H' p o) := by
  have n := g.nn e
  refine ⟨fun a u na ha => ?_, g.l, F.upd g.r n⟩
  rw [upd_ne (fun z => by rw [z, e] at ha; cases ha)]
  exact g.kp a u na ha
theorem Go.keep (g : Go F b H c H') {p : Addr} {o : HO} (n : ¬ F.N p) (h : H p = some o) : H' p = some o := g.kp p o n h
theorem Go.back (g : Go F b H c H') {p : Addr} (n : ¬ F.N p) (h : H' p = none) : H p = none := g.kp.of_none n h
/-- what is new now was new then -/
theorem Go.was (g : Go F b H c H') {p : Addr} (h : H' p = none) : H p = none := g.back (g.nn' h) h
theorem Go.ts (g : Go F b H c H') : Ts H H' := fun a xs h => by
  have n : ¬ F.N a := fun n => by
    obtain ⟨o, q, q1, q2⟩ := F.pos _ _ _ g.l n
    rcases h with h | ⟨ob, h⟩
    · rw [q] at h
      exact q1 xs (Option.some.inj h)
    · rw [q] at h
      exact q2 ob _ (Option.some.inj h)
  exact rd_kp g.kp n h
theorem Go.tup (g : Go F b H c H') {a : Addr} {xs : List V} (h : H a = some (.tup xs)) : H' a = some (.tup xs) := g.kp a _ (fun n => by
  obtain ⟨o, q, q1, q2⟩ := F.pos _ _ _ g.l n
  rw [q] at h
  exact q1 xs (Option.some.inj h)) h
variable {K : PySem.W.Frag}
theorem Go.sqT (g : Go F b H c H') {a : Addr} {xs : List V} (h : SqT K H a xs) : SqT K H' a xs := sqT_ts g.ts h
theorem Go.dt (g : Go F b H c H') {v : V} {e : PyData} (h : Dt K H v e) : Dt K H' v e := Dt.ts g.ts _ _ h
theorem Go.dta (g : Go F b H c H') {vs : List V} {es : List PyData} (h : DtAll K H vs es) : DtAll K H' vs es := DtAll.ts g.ts _ _ h
/-- a new tuple is data -/
theorem dt_new {p : Addr} {vs : List V} {ds : List PyData} (e : H p = none) (h : DtAll K H vs ds) : Dt K (upd H p (.tup vs)) (.ref p) (.tuple ds) := .tup (Or.inl (Or.inl upd_same)) (DtAll.ts (ts_new e) _ _ h)
theorem Dt.inv {v : V} {ds : List PyData} (h : Dt K H v (.tuple ds)) : ∃ a xs, v = .ref a ∧ SqT K H a xs ∧ DtAll K H xs ds := by
  cases h with
  | tup hs ha => exact ⟨_, _, rfl, hs, ha⟩
theorem Dt.inv_str {v : V} {x : Str} (h : Dt K H v (.str x)) : v = .str x := by
  cases h
  rfl
theorem Dt.inv_int {v : V} {x : Int} (h : Dt K H v (.int x)) : v = .int x := by
  cases h
  rfl
theorem DtAll.inv {vs : List V} {d : PyData} {ds : List PyData} (h : DtAll K H vs (d :: ds)) : ∃ v r, vs = v :: r ∧ Dt K H v d ∧ DtAll K H r ds := by
  cases h with
  | cons h1 h2 => exact ⟨_, _, rfl, h1, h2⟩
theorem DtAll.inv0 {vs : List V} (h : DtAll K H vs []) : vs = [] := by
  cases h
  rfl
theorem DtAll.snoc {vs : List V} {ds : List PyData} {v : V} {d : PyData} (h : DtAll K H vs ds) (h1 : Dt K H v d) : DtAll K H (vs ++ [v]) (ds ++ [d]) := h.append (.cons h1 .nil)
end
/-- the code table at P may grow -/
structure HasTab (F : Fr) (P : Addr) : Prop where
  n : F.N P
  g : ∀ b H, F.T b H → TabG H P
  t : ∀ b H H', F.T b H → Tabbed P H H' → F.T b H'
theorem Go.tabbed {F : Fr} {P : Addr} (h : HasTab F P) {b : Nat} {H H' : Hp} (hT : F.T b H) (t : Tabbed P H H') : Go F b H b H' := by
  refine ⟨fun a o n e => ?_, hT, h.t _ _ _ hT t⟩
  rw [t.2 a (fun z => n (by rw [z]; exact h.n))]
  exact e
end Lf

set_option Elab.async false
set_option linter.all false
set_option maxRecDepth 100000
set_option maxHeartbeats 4000000
/-! Leaf C: comprehensions and loops in a frame. -/
namespace Lf
open PySem PySem.Spec PyProof.Rows L2
/-- it stays, whatever runs in the frame, and when D is written -/
def Per (F : Fr) (D : Addr) (R : V → Hp → Prop) : Prop := ∀ H H' y, Kp (fun a => F.N a ∨ a = D) H H' → Ts H H' → R y H → R y H'
theorem Per.dt {K : PySem.W.Frag} {F : Fr} {D : Addr} {d : PyData} : Per F D (fun y H => Dt K H y d) := fun _ _ _ _ t h => Dt.ts t _ _ h
theorem Per.val {F : Fr} {D : Addr} {p : V → Prop} : Per F D (fun y _ => p y) := fun _ _ _ _ _ h => h
section
variable {K : PySem.W.Frag} {F : Fr} {b e : Nat} {H1 : Hp} {a : Addr} {xs : List V} {σ : L2.St} {vs : List Nat} {g : TG} {te : TE} {Q : VK}
/-- what a comprehension holds behind i turns -/
structure LcI (F : Fr) (b e : Nat) (H1 : Hp) (D : Addr) (R : Nat → V → Hp → Prop) (i : Nat) (H : Hp) : Prop where
  go : Go F b H1 (b + i * e) H
  ex : ∃ ys, H D = some (.lst ys) ∧ ys.length = i ∧ ∀ j y, ys[j]? = some y → R j y H
theorem LcI.start {R : Nat → V → Hp → Prop} {D : Addr} (hT : F.T b H1) (hD : H1 D = none) : LcI F b e H1 D R 0 (upd H1 D (.lst [])) :=
  ⟨by rw [Nat.zero_mul]; exact Go.new hT hD, [], upd_same, rfl, fun j y h => by simp at h⟩
theorem LcI.next {R : Nat → V → Hp → Prop} {D : Addr} {i : Nat} {H H2 : Hp} {y : V} (hR : ∀ i, Per F D (R i)) (hD : H1 D = none) (p : LcI F b e H1 D R i H) (g : Go F (b + i * e) H (b + (i + 1) * e) H2) (hy : R i y H2) :
    ∃ acc, H2 D = some (.lst acc) ∧ acc.length = i ∧ LcI F b e H1 D R (i + 1) (upd H2 D (.lst (acc ++ [y]))) := by
  obtain ⟨ys, h1, h2, h3⟩ := p.ex
  have nD := p.go.nn hD
  have e2 : H2 D = some (.lst ys) := g.keep nD h1
  have gD : Go F b H1 (b + (i + 1) * e) (upd H2 D (.lst (ys ++ [y]))) := (p.go.trans g).put hD
  have t2 : Ts H2 (upd H2 D (.lst (ys ++ [y]))) := ts_mut e2 (fun _ z => by cases z) (fun _ _ z => by cases z)
  have k2 : Kp (fun a => F.N a ∨ a = D) H2 (upd H2 D (.lst (ys ++ [y]))) := Kp.mut (.inr rfl)
  exact ⟨ys, e2, h2, gD, ys ++ [y], upd_same, by rw [List.length_append, h2]; rfl, fun j z hz => by
    by_cases q : j < ys.length
    · rw [List.getElem?_append_left q] at hz
      exact hR j _ _ z (k2) t2 (hR j _ _ z (g.kp.mono fun _ n => .inl n) g.ts (h3 j z hz))
    · rw [List.getElem?_append_right (by omega)] at hz
      have q2 : j = i := by
        have := (List.getElem?_eq_some_iff.mp hz).1
        simp at this
        omega
      subst q2
      rw [h2, Nat.sub_self] at hz
      cases hz
      exact hR _ _ _ _ k2 t2 hy⟩
/-- [elt for x in t], t a tuple that stands -/
theorem lcT {R : Addr → Nat → V → Hp → Prop} (hs : SqT K H1 a xs) (hT : F.T b H1) (hz : xs.length ≤ 1000000) (hR : ∀ D i, Per F D (R D i))
    (step : ∀ D i x H', H1 D = none → LcI F b e H1 D (R D) i H' → xs[i]? = some x → ∀ P : VK, (∀ y H3, Go F (b + i * e) H' (b + (i + 1) * e) H3 → R D i y H3 → P y H3) → g x (wipe σ vs) H' fun σ2 H2 => wipe σ2 vs = wipe σ vs ∧ te σ2 H2 P)
    (fin : ∀ D ys H2, H1 D = none → Go F b H1 (b + xs.length * e) H2 → H2 D = some (.lst ys) → ys.length = xs.length → (∀ i y, ys[i]? = some y → R D i y H2) → Q (.ref D) H2) :
    tLc (iTup K (tC (.ref a))) g tYes te vs σ H1 Q := by
  refine ⟨a, rfl, ⟨_, hs⟩, fun D hD => lc_tup (LcI F b e H1 D (R D)) (LcI.start hT hD) (fun i H _ p => p.go.sqT hs) (fun i x H hx p => ?_) fun H p => ?_⟩
  · refine step D i x H hD p hx _ fun y H3 g3 r => ?_
    obtain ⟨acc, h1, h2, h3⟩ := p.next (hR D) hD g3 r
    have hi := (List.getElem?_eq_some_iff.mp hx).1
    exact ⟨acc, h1, by rw [h2]; exact Nat.lt_of_lt_of_le (Nat.lt_of_lt_of_le hi hz) (by decide), h3⟩
  · obtain ⟨ys, h1, h2, h3⟩ := p.ex
    exact fin D ys H hD p.go h1 h2 h3
/-- [elt for x in l], l a list that stands -/
theorem lcL {R : Addr → Nat → V → Hp → Prop} (hs : H1 a = some (.lst xs)) (hn : ¬ F.N a) (hT : F.T b H1) (hz : xs.length ≤ 1000000) (hR : ∀ D i, Per F D (R D i))
    (step : ∀ D i x H', H1 D = none → LcI F b e H1 D (R D) i H' → xs[i]? = some x → ∀ P : VK, (∀ y H3, Go F (b + i * e) H' (b + (i + 1) * e) H3 → R D i y H3 → P y H3) → g x (wipe σ vs) H' fun σ2 H2 => wipe σ2 vs = wipe σ vs ∧ te σ2 H2 P)
    (fin : ∀ D ys H2, H1 D = none → Go F b H1 (b + xs.length * e) H2 → H2 D = some (.lst ys) → ys.length = xs.length → (∀ i y, ys[i]? = some y → R D i y H2) → Q (.ref D) H2) :
    tLc (iList K (tC (.ref a))) g tYes te vs σ H1 Q := by
  refine ⟨a, rfl, ⟨_, .inl (.inl hs)⟩, fun D hD => lc_list (LcI F b e H1 D (R D)) (LcI.start hT hD) (fun i H _ p => .inl (.inl (p.go.keep hn hs))) (fun i x H hx p => ?_) fun H p => ?_⟩
  · refine step D i x H hD p hx _ fun y H3 g3 r => ?_
    obtain ⟨acc, h1, h2, h3⟩ := p.next (hR D) hD g3 r
    have hi := (List.getElem?_eq_some_iff.mp hx).1
    exact ⟨acc, h1, by rw [h2]; exact Nat.lt_of_lt_of_le (Nat.lt_of_lt_of_le hi hz) (by decide), h3⟩
  · obtain ⟨ys, h1, h2, h3⟩ := p.ex
    exact fin D ys H hD p.go h1 h2 h3
/-- [elt for x in range(n)] -/
theorem lcR {R : Addr → Nat → V → Hp → Prop} {n : Int} (h0 : 0 ≤ n) (hz : n ≤ 1000000) (hT : F.T b H1) (hR : ∀ D i, Per F D (R D i))
    (step : ∀ (D : Addr) (i : Nat) (H' : Hp), H1 D = none → LcI F b e H1 D (R D) i H' → (i : Int) < n → ∀ P : VK, (∀ y H3, Go F (b + i * e) H' (b + (i + 1) * e) H3 → R D i y H3 → P y H3) → g (.int (0 + (i : Nat))) (wipe σ vs) H' fun σ2 H2 => wipe σ2 vs = wipe σ vs ∧ te σ2 H2 P)
    (fin : ∀ D ys H2, H1 D = none → Go F b H1 (b + n.toNat * e) H2 → H2 D = some (.lst ys) → ys.length = n.toNat → (∀ i y, ys[i]? = some y → R D i y H2) → Q (.ref D) H2) :
    tLc (iRng1 (tCons (tC (.int n)) tNil)) g tYes te vs σ H1 Q := by
  refine ⟨n, rfl, by omega, by omega, fun D hD => lc_range (lo := 0) (n := n.toNat) (LcI F b e H1 D (R D)) (LcI.start hT hD) (fun i H hi p => ?_) fun H p => ?_⟩
  · refine step D i H hD p (by omega) _ fun y H3 g3 r => ?_
    obtain ⟨acc, h1, h2, h3⟩ := p.next (hR D) hD g3 r
    exact ⟨acc, h1, by rw [h2]; exact Nat.lt_of_lt_of_le (by omega : i < 1000000) (by decide), h3⟩
  · obtain ⟨ys, h1, h2, h3⟩ := p.ex
    exact fin D ys H hD p.go h1 h2 h3
end
end Lf

set_option Elab.async false
set_option linter.all false
set_option maxRecDepth 100000
set_option maxHeartbeats 4000000
/-! Leaf D: documents, plainly: names, sizes, keys, the check's loop, the order. -/
namespace Lf
open PySem PySem.Spec
open PySem.W (alike alikeAll dataLt keyToks keyToksAll)
def smalls : Str := "abcdefghijklmnopqrstuvwxyz"
def signs : Str := "abcdefghijklmnopqrstuvwxyz0123456789"
def isNameS (s : Str) : Bool := decide (1 ≤ s.length) && decide (s.length ≤ 8) && (match s.cps.toList with
  | c :: _ => decide (c ∈ smalls.cps.toList)
  | [] => false) && s.cps.toList.all fun c => decide (c ∈ signs.cps.toList)
def isName : PyData → Bool
  | .str s => isNameS s
  | _ => false
inductive Doc where
  | nd (n : Str) (ps : List Doc)
mutual
def Doc.enc : Doc → PyData
  | .nd n ps => .tuple (.str n :: encs ps)
def encs : List Doc → List PyData
  | [] => []
  | d :: r => d.enc :: encs r
end
mutual
def Doc.size : Doc → Nat
  | .nd _ ps => 1 + sizes ps
def sizes : List Doc → Nat
  | [] => 0
  | d :: r => d.size + sizes r
end
mutual
def Doc.deep : Doc → Nat
  | .nd _ ps => 1 + deeps ps
def deeps : List Doc → Nat
  | [] => 0
  | d :: r => max d.deep (deeps r)
end
mutual
def Doc.key : Doc → PyData
  | .nd n ps => .tuple [.int ((1 + sizes ps : Nat) : Int), .str n, .int ((ps.length : Nat) : Int), .tuple (keys ps)]
def keys : List Doc → List PyData
  | [] => []
  | d :: r => d.key :: keys r
end
mutual
/-- right names, three parts at most -/
def Doc.fine : Doc → Bool
  | .nd n ps => isNameS n && decide (ps.length ≤ 3) && fines ps
def fines : List Doc → Bool
  | [] => true
  | d :: r => d.fine && fines r
end
theorem encs_map : ∀ ps, encs ps = ps.map Doc.enc
  | [] => rfl
  | d :: r => by rw [encs, encs_map r]; rfl
theorem keys_map : ∀ ps, keys ps = ps.map Doc.key
  | [] => rfl
  | d :: r => by rw [keys, keys_map r]; rfl
theorem encs_len (ps : List Doc) : (encs ps).length = ps.length := by rw [encs_map, List.length_map]
theorem keys_len (ps : List Doc) : (keys ps).length = ps.length := by rw [keys_map, List.length_map]
theorem sizes_sum : ∀ ps, sizes ps = (ps.map Doc.size).sum
  | [] => rfl
  | d :: r => by rw [sizes, sizes_sum r]; rfl
theorem fines_all : ∀ ps, fines ps = true ↔ ∀ d ∈ ps, d.fine = true
  | [] => by simp [fines]
  | d :: r => by rw [fines, Bool.and_eq_true, fines_all r]; simp
theorem deeps_le {n : Nat} : ∀ ps, deeps ps ≤ n ↔ ∀ d ∈ ps, d.deep ≤ n
  | [] => by simp [deeps]
  | d :: r => by rw [deeps, Nat.max_le, deeps_le r]; simp
theorem size_le_sizes {ps : List Doc} : ∀ {d : Doc}, d ∈ ps → d.size ≤ sizes ps := by
  induction ps with
  | nil => intro d h; cases h
  | cons p r ih =>
    intro d h
    rw [sizes]
    rcases List.mem_cons.mp h with e | e
    · rw [e]; omega
    · have := ih e; omega
theorem size_pos : ∀ d : Doc, 1 ≤ d.size
  | .nd _ ps => by rw [Doc.size]; omega
theorem len_le_sizes : ∀ ps : List Doc, ps.length ≤ sizes ps
  | [] => Nat.le_refl _
  | d :: r => by
    rw [sizes, List.length_cons]
    have := size_pos d
    have := len_le_sizes r
    omega
theorem name_strOk {n : Str} (h : isNameS n = true) : PyData.strOk n = true := by
  unfold isNameS at h
  simp only [Bool.and_eq_true] at h
  have h2 := List.all_eq_true.mp h.2
  have key : ∀ c ∈ signs.cps.toList, c < 0x110000 := by decide +kernel
  unfold PyData.strOk
  rw [← Array.all_toList, List.all_eq_true]
  intro c hc
  exact decide_eq_true (key c (of_decide_eq_true (h2 c hc)))
theorem name_len {n : Str} (h : isNameS n = true) : n.length ≤ 8 := by
  unfold isNameS at h
  simp only [Bool.and_eq_true, decide_eq_true_eq] at h
  exact h.1.1.2
mutual
theorem canLay_key : ∀ d : Doc, d.fine = true → d.key.canLay0 = true
  | .nd n ps, h => by
    rw [Doc.fine, Bool.and_eq_true, Bool.and_eq_true] at h
    rw [Doc.key]
    have h1 := canLay_keys ps h.2
    have h2 := name_strOk h.1.1
    simp_all [PyData.canLay0, PyData.canLayAll0]
theorem canLay_keys : ∀ ps : List Doc, fines ps = true → PyData.canLayAll0 (keys ps) = true
  | [], _ => rfl
  | d :: r, h => by
    rw [fines, Bool.and_eq_true] at h
    rw [keys]
    have h1 := canLay_key d h.1
    have h2 := canLay_keys r h.2
    simp_all [PyData.canLayAll0]
end
mutual
theorem alike_key : ∀ d e : Doc, alike d.key e.key = true
  | .nd n ps, .nd m qs => by
    rw [Doc.key, Doc.key]
    have := alike_keys ps qs
    simp_all [alike, alikeAll]
theorem alike_keys : ∀ ps qs : List Doc, alikeAll (keys ps) (keys qs) = true
  | [], _ => by simp [keys, alikeAll]
  | _ :: _, [] => by simp [keys, alikeAll]
  | d :: r, e :: q => by
    rw [keys, keys, alikeAll, alike_key d e, alike_keys r q]
    rfl
end
mutual
theorem depth_key : ∀ d : Doc, d.key.depth ≤ 2 * d.deep
  | .nd n ps => by
    rw [Doc.key, Doc.deep]
    have := depth_keys ps
    simp only [PyData.depth, PyData.depthAll]
    omega
theorem depth_keys : ∀ ps : List Doc, PyData.depthAll (keys ps) ≤ 2 * deeps ps
  | [] => by simp [keys, PyData.depthAll]
  | d :: r => by
    rw [keys, deeps]
    have := depth_key d
    have := depth_keys r
    simp only [PyData.depthAll]
    omega
end
/-! ### the order -/
def strLt (a b : Str) : Bool := decide (a.cps.toList < b.cps.toList)
mutual
def ahead : Doc → Doc → Int
  | .nd n ps, .nd m qs =>
    if sizes ps ≠ sizes qs then (if sizes ps < sizes qs then -1 else 1)
    else if n ≠ m then (if strLt n m then -1 else 1)
    else if ps.length ≠ qs.length then (if ps.length < qs.length then -1 else 1)
    else aheads ps qs
def aheads : List Doc → List Doc → Int
  | p :: ps, q :: qs => if ahead p q ≠ 0 then ahead p q else aheads ps qs
  | _, _ => 0
end
/-- the way the data compare -/
def dcmp (x y : PyData) : Int := if PyData.eqv x y = true then 0 else if dataLt x y = true then -1 else 1
def dcmps (xs ys : List PyData) : Int := if PyData.eqvAll xs ys = true then 0 else if PySem.W.rowLt xs ys = true then -1 else 1
theorem dcmp_tuple (xs ys : List PyData) : dcmp (.tuple xs) (.tuple ys) = dcmps xs ys := by
  unfold dcmp dcmps
  rw [PySem.W.dataLt_tuple]
  simp only [PyData.eqv]
  rfl
theorem dcmps_cons {x y : PyData} (h : alike x y = true) (xs ys : List PyData) : dcmps (x :: xs) (y :: ys) = if dcmp x y ≠ 0 then dcmp x y else dcmps xs ys := by
  unfold dcmps dcmp PySem.W.rowLt
  rw [PySem.W.dataLt_cons h, PySem.W.eqv_all_cons]
  cases e : PyData.eqv x y with
  | true => simp
  | false => cases dataLt x y <;> simp
theorem dcmps_nil : dcmps [] [] = 0 := by simp [dcmps, PyData.eqvAll]
theorem dcmp_int (i j : Int) : dcmp (.int i) (.int j) = if i = j then 0 else if i < j then -1 else 1 := by
  unfold dcmp
  rw [PySem.W.dataLt_int]
  simp [PyData.eqv]
theorem dcmp_str (a b : Str) : dcmp (.str a) (.str b) = if a = b then 0 else if strLt a b = true then -1 else 1 := by
  unfold dcmp strLt
  rw [PySem.W.dataLt_str]
  simp [PyData.eqv]
mutual
theorem cmp_key : ∀ d e : Doc, dcmp d.key e.key = ahead d e
  | .nd n ps, .nd m qs => by
    rw [Doc.key, Doc.key, dcmp_tuple, dcmps_cons (by simp [alike]), dcmps_cons (by simp [alike]), dcmps_cons (by simp [alike]), dcmps_cons (by rw [alike]; exact alike_keys ps qs), dcmps_nil, dcmp_tuple, dcmp_int, dcmp_str, dcmp_int, ahead]
    by_cases h1 : sizes ps = sizes qs
    · rw [h1]
      by_cases h2 : n = m
      · rw [h2]
        by_cases h3 : ps.length = qs.length
        · rw [h3, cmp_keys ps qs h3]
          simp
          intro h; exact h.symm
        · have h3' : ¬ ((ps.length : Nat) : Int) = ((qs.length : Nat) : Int) := by omega
          have h4 : (((ps.length : Nat) : Int) < ((qs.length : Nat) : Int)) ↔ ps.length < qs.length := by omega
          simp only [h3', h3, h4, ne_eq, not_true_eq_false, if_false, not_false_eq_true, if_true]
          by_cases h5 : ps.length < qs.length <;> simp [h5]
      · simp only [h2, ne_eq, not_true_eq_false, if_false, not_false_eq_true, if_true]
        by_cases h5 : strLt n m = true <;> simp [h5]
    · have h1' : ¬ ((1 + sizes ps : Nat) : Int) = ((1 + sizes qs : Nat) : Int) := by omega
      have h4 : (((1 + sizes ps : Nat) : Int) < ((1 + sizes qs : Nat) : Int)) ↔ sizes ps < sizes qs := by omega
      simp only [h1', h1, h4, ne_eq, not_true_eq_false, if_false, not_false_eq_true, if_true]
      by_cases h5 : sizes ps < sizes qs <;> simp [h5]
theorem cmp_keys : ∀ ps qs : List Doc, ps.length = qs.length → dcmps (keys ps) (keys qs) = aheads ps qs
  | [], [], _ => by simp [keys, dcmps_nil, aheads]
  | d :: r, e :: q, h => by
    rw [keys, keys, dcmps_cons (alike_key d e), cmp_key d e, cmp_keys r q (by simpa using h), aheads]
  | [], _ :: _, h => by simp at h
  | _ :: _, [], h => by simp at h
end
theorem strLt_irrefl (a : Str) : strLt a a = false := by
  unfold strLt
  exact decide_eq_false (fun h => absurd h (List.lt_irrefl _))
mutual
theorem ahead_self : ∀ d : Doc, ahead d d = 0
  | .nd n ps => by
    rw [ahead]
    simp [aheads_self ps]
theorem aheads_self : ∀ ps : List Doc, aheads ps ps = 0
  | [] => by simp [aheads]
  | d :: r => by rw [aheads, ahead_self d, aheads_self r]; simp
end
theorem strLt_turn {a b : Str} (h : a ≠ b) : strLt b a = !strLt a b := by
  have hne : a.cps.toList ≠ b.cps.toList := fun e => h (PySem.W.str_of_cps e)
  unfold strLt
  by_cases q : a.cps.toList < b.cps.toList
  · have q2 : ¬ b.cps.toList < a.cps.toList := fun z => absurd (List.lt_trans q z) (List.lt_irrefl _)
    simp [q, q2]
  · have q2 : b.cps.toList < a.cps.toList := by
      rcases Std.lt_trichotomy a.cps.toList b.cps.toList with z | z | z
      · exact absurd z q
      · exact absurd z hne
      · exact z
    simp [q, q2]
mutual
theorem ahead_turn : ∀ d e : Doc, ahead e d = - ahead d e
  | .nd n ps, .nd m qs => by
    rw [ahead, ahead]
    by_cases h1 : sizes ps = sizes qs
    · by_cases h2 : n = m
      · by_cases h3 : ps.length = qs.length
        · simp [h1, h2, h3, aheads_turn ps qs]
        · have h3' : ¬ qs.length = ps.length := fun z => h3 z.symm
          simp only [h1, h2, h3, h3', ne_eq, not_true_eq_false, if_false, not_false_eq_true, if_true]
          by_cases h5 : ps.length < qs.length
          · have h6 : ¬ qs.length < ps.length := by omega
            simp [h5, h6]
          · have h6 : qs.length < ps.length := by omega
            simp [h5, h6]
      · have h2' : ¬ m = n := fun z => h2 z.symm
        simp only [h1, h2, h2', ne_eq, not_true_eq_false, if_false, not_false_eq_true, if_true]
        rw [strLt_turn h2]
        cases strLt n m <;> simp
    · have h1' : ¬ sizes qs = sizes ps := fun z => h1 z.symm
      simp only [h1, h1', ne_eq, not_true_eq_false, if_false, not_false_eq_true, if_true]
      by_cases h5 : sizes ps < sizes qs
      · have h6 : ¬ sizes qs < sizes ps := by omega
        simp [h5, h6]
      · have h6 : sizes qs < sizes ps := by omega
        simp [h5, h6]
theorem aheads_turn : ∀ ps qs : List Doc, aheads qs ps = - aheads ps qs
  | [], [] => by simp [aheads]
  | [], _ :: _ => by simp [aheads]
  | _ :: _, [] => by simp [aheads]
  | d :: r, e :: q => by
    rw [aheads, aheads, ahead_turn d e, aheads_turn r q]
    by_cases h : ahead d e = 0 <;> simp [h]
end
/-! ### places: a part exchanged -/
mutual
def Doc.part : Doc → List Nat → Option Doc
  | d, [] => some d
  | .nd _ ps, i :: r => parts_ ps i r
def parts_ : List Doc → Nat → List Nat → Option Doc
  | [], _, _ => none
  | d :: _, 0, r => d.part r
  | _ :: ps, i + 1, r => parts_ ps i r
end
mutual
def Doc.put : Doc → List Nat → Doc → Doc
  | _, [], x => x
  | .nd n ps, i :: r, x => .nd n (puts ps i r x)
def puts : List Doc → Nat → List Nat → Doc → List Doc
  | [], _, _, _ => []
  | d :: ps, 0, r, x => d.put r x :: ps
  | d :: ps, i + 1, r, x => d :: puts ps i r x
end
theorem puts_len : ∀ (ps : List Doc) (i : Nat) (r : List Nat) (x : Doc), (puts ps i r x).length = ps.length
  | [], _, _, _ => by simp [puts]
  | d :: ps, 0, r, x => by simp [puts]
  | d :: ps, i + 1, r, x => by simp [puts, puts_len ps i r x]
theorem ahead_size : ∀ d e : Doc, d.size ≠ e.size → ahead d e = if d.size < e.size then -1 else 1
  | .nd n ps, .nd m qs, h => by
    rw [ahead]
    rw [Doc.size, Doc.size] at h ⊢
    have h1 : sizes ps ≠ sizes qs := fun z => h (by rw [z])
    have h2 : (1 + sizes ps < 1 + sizes qs) ↔ sizes ps < sizes qs := by omega
    simp [h1, h2]
mutual
theorem ahead_put : ∀ (d : Doc) (pl : List Nat) (x y z : Doc), d.part pl = some z → ahead (d.put pl x) (d.put pl y) = ahead x y
  | d, [], x, y, z, _ => by cases d <;> simp [Doc.put]
  | .nd n ps, i :: r, x, y, z, h => by
    have h' : parts_ ps i r = some z := by simpa [Doc.part] using h
    have hs : sizes (puts ps i r x) + y.size = sizes (puts ps i r y) + x.size := sizes_at ps i r x y z h'
    simp only [Doc.put]
    rw [ahead]
    by_cases q : x.size = y.size
    · have e : sizes (puts ps i r x) = sizes (puts ps i r y) := by omega
      simp [e, puts_len, aheads_put ps i r x y z h']
    · have e : ¬ sizes (puts ps i r x) = sizes (puts ps i r y) := by omega
      rw [ahead_size x y q]
      have e2 : (sizes (puts ps i r x) < sizes (puts ps i r y)) ↔ x.size < y.size := by omega
      simp [e, e2]
theorem aheads_put : ∀ (ps : List Doc) (i : Nat) (r : List Nat) (x y z : Doc), parts_ ps i r = some z → aheads (puts ps i r x) (puts ps i r y) = ahead x y
  | [], _, _, _, _, _, h => by simp [parts_] at h
  | d :: ps, 0, r, x, y, z, h => by
    have h' : d.part r = some z := by simpa [parts_] using h
    simp only [puts]
    rw [aheads, ahead_put d r x y z h', aheads_self]
    by_cases q : ahead x y = 0 <;> simp [q]
  | d :: ps, i + 1, r, x, y, z, h => by
    have h' : parts_ ps i r = some z := by simpa [parts_] using h
    simp only [puts]
    rw [aheads, ahead_self]
    simp [aheads_put ps i r x y z h']
theorem size_at : ∀ (d : Doc) (pl : List Nat) (x y z : Doc), d.part pl = some z → (d.put pl x).size + y.size = (d.put pl y).size + x.size
  | d, [], x, y, z, _ => by cases d <;> (simp [Doc.put]; omega)
  | .nd n ps, i :: r, x, y, z, h => by
    have h' : parts_ ps i r = some z := by simpa [Doc.part] using h
    have := sizes_at ps i r x y z h'
    simp only [Doc.put, Doc.size]
    omega
theorem sizes_at : ∀ (ps : List Doc) (i : Nat) (r : List Nat) (x y z : Doc), parts_ ps i r = some z → sizes (puts ps i r x) + y.size = sizes (puts ps i r y) + x.size
  | [], _, _, _, _, _, h => by simp [parts_] at h
  | d :: ps, 0, r, x, y, z, h => by
    have h' : d.part r = some z := by simpa [parts_] using h
    have := size_at d r x y z h'
    simp only [puts, sizes]
    omega
  | d :: ps, i + 1, r, x, y, z, h => by
    have h' : parts_ ps i r = some z := by simpa [parts_] using h
    have := sizes_at ps i r x y z h'
    simp only [puts, sizes]
    omega
end
end Lf

set_option Elab.async false
set_option linter.all false
set_option maxRecDepth 100000
set_option maxHeartbeats 4000000
/-! Leaf W: a def by its body, its code object told; small words. -/
namespace Lf
open PySem PySem.Spec PyProof.Rows L2
theorem hu16 {A : Around} {k : Nat} (hr : Room k A) : A.units + 16 < cLine := Nat.lt_of_le_of_lt (Nat.add_le_add_left (by decide : 16 ≤ 64) _) hr.units
theorem fn_ofC {P : Program} {w : World} {K : PySem.W.Frag} {mg : Str → Option Value} {base : Heap} {k : Nat} {f : Addr} {x qual : Str} {st : Stmt} {fd : FuncData} {N ps : List Str} {sp : Sp} (F : Fun K x qual st f fd) (S : FnScope N ps (defScope st))
    (len : ∀ vs H Q E, sp vs H Q E → vs.length = ps.length)
    (hbody : ∀ (cdv : Value) (A : Around) (outer : List Env) (s : Shared) (H : Hp) (vs : List V) (Q : VK) (E : XK), fd.code = cdv → A.guards = some [] → Room k (A.deeper (envOfC qual (defScope st) s.heap.objs.size f cdv)) → sp vs H Q E →
      ∃ t, PSs (cxOf (L2.CX P w) P w K mg base N qual (defScope st) f cdv A outer s H E) (defBody st) t ∧ t { nx := fun _ H' => Q .non H', rt := Q } (start N vs) H) : FnG P w K mg base (k + 1) f fd ps sp := by
  obtain ⟨oc, od, kV, doc, pm, an, cdv, ct, osl, rfl, lk, hcd⟩ := F.ex
  refine ⟨len, fun A outer s H args us vs Q E hG hr e0 hb r hsp => ?_⟩
  have KX : K.In s.heap := e0.mod.kin.keeps fun b o e => (e0.bs b o e).1
  have lim : s.heap.NoLimit := e0.mod.nolimit.keeps fun b o e => (e0.bs b o e).1
  have hkind : ∀ y ∈ ps.zip us, (defScope st).names.lookup y.1 = some .local ∨ ((defScope st).names.lookup y.1 = some .cell ∧ ((cellsFrom (s.heap.objs.size + 1) (defScope st).names []).lookup y.1).isSome = true) := fun y hy => by
    rcases S.par y.1 (List.of_mem_zip (show (y.1, y.2) ∈ ps.zip us from hy)).1 with q | q
    · exact .inl q
    · exact .inr ⟨q, PySem.W.cellsFrom_some _ _ _ (.inl q)⟩
  refine codeAny_call_function hr.depth (KX _ _ lk) rfl S.co S.gen rfl (PySem.W.codeRec_of KX hcd) (hb _ _ _ _ ?_)
  refine wpAny_newFunctionEnv_cells S.kind hkind fun env he s1 x1 => ?_
  subst he
  refine ⟨lim.keeps x1.toInCall.keep, codeAny_func ?_⟩
  obtain ⟨t, ht, hq⟩ := hbody cdv A outer s H vs Q E rfl hG (hr.deeper _) hsp
  have I0 := inv_start (CX := L2.CX P w) (E := E) S hr.hd e0 (len _ _ _ _ hsp) r x1
  refine wpAny_mono (ht.run [] s1 (start N vs) H _ I0 hq) (fun fl s' hs => ?_) fun _ _ hs => hs
  cases fl with
  | ret u =>
    obtain ⟨v, σ', H', J, rv, q⟩ := hs
    exact ⟨v, H', J.os, J.bare, J.base, J.hok, rv, q⟩
  | next =>
    obtain ⟨σ', H', J, q⟩ := hs
    exact ⟨V.non, H', J.os, J.bare, J.base, J.hok, rfl, q⟩
  | brk => exact hs.elim fun _ z => z.elim fun _ z => z.2.elim
  | cont => exact hs.elim fun _ z => z.elim fun _ z => z.2.elim
section
variable {P : Program} {w : World} {K : PySem.W.Frag} {mg : Str → Option Value} {base : Heap} {x : Str} {k j : Nat} {ps : List Str} {sp sp' : Sp}
/-- the def at f, by its text: what a head gives -/
structure Def (K : PySem.W.Frag) (mg : Str → Option Value) (x : Str) (ps : List Str) (st : Stmt) (f : Addr) (fd : FuncData) : Prop where
  fn : Fun K x x st f fd
  mg : mg x = some (.ref f)
  bd : Binds K fd ps []
theorem Pr.of' {fd : FuncData} {f : Addr} {st : Stmt} {N : List Str} (D : Def K mg x ps st f fd) (S : FnScope N ps (defScope st)) (len : ∀ vs H Q E, sp vs H Q E → vs.length = ps.length)
    (hbody : ∀ (cdv : Value) (A : Around) (outer : List Env) (s : Shared) (H : Hp) (vs : List V) (Q : VK) (E : XK), fd.code = cdv → A.guards = some [] → Room k (A.deeper (envOfC x (defScope st) s.heap.objs.size f cdv)) → sp vs H Q E →
      ∃ t, PSs (cxOf (L2.CX P w) P w K mg base N x (defScope st) f cdv A outer s H E) (defBody st) t ∧ t { nx := fun _ H' => Q .non H', rt := Q } (start N vs) H) : Pr P w K mg base (k + 1) x ps sp :=
  ⟨f, fd, D.mg, D.fn.kp, fn_ofC D.fn S len hbody, D.bd⟩
end
/-! ### small words -/
/-- t[1:], t with an item at least -/
theorem sl1 {K : PySem.W.Frag} {a : Addr} {x : V} {r : List V} {H : Hp} {Q : VK} (h : SqT K H a (x :: r)) (q : ∀ p, H p = none → Q (.ref p) (upd H p (.tup r))) : rSlA K (.ref a) (some 1) none H Q := by
  have e0 : HT.sIx (x :: r).length 0 (some 1) = min 1 (x :: r).length := HT.sIx_nat (x :: r).length 0 1
  have e1 : min 1 (x :: r).length = 1 := by rw [List.length_cons]; omega
  refine ⟨a, x :: r, rfl, h, fun z => ?_, fun _ p hp => ?_⟩
  · rw [e0, e1] at z
    omega
  · have e : cutV (x :: r) (some 1) none = r := by
      unfold cutV
      rw [e0, e1, HT.sIx_none]
      show List.take ((x :: r).length - 1) r = r
      rw [List.length_cons, Nat.add_sub_cancel]
      exact List.take_length
    rw [e]
    exact q p hp
theorem all_range {α : Type} (l : List α) (f : α → Bool) : (List.range l.length).all (fun i => match l[i]? with | some c => f c | none => false) = l.all f := by
  rw [Bool.eq_iff_iff, List.all_eq_true, List.all_eq_true]
  constructor
  · intro h c hc
    obtain ⟨i, hi⟩ := List.mem_iff_getElem?.mp hc
    have hl := (List.getElem?_eq_some_iff.mp hi).1
    have := h i (List.mem_range.mpr hl)
    rw [hi] at this
    exact this
  · intro h i hi
    have hl := List.mem_range.mp hi
    have e : l[i]? = some l[i] := List.getElem?_eq_getElem hl
    rw [e]
    exact h _ (List.getElem_mem hl)
end Lf

set_option Elab.async false
set_option linter.all false
set_option maxRecDepth 100000
set_option maxHeartbeats 4000000
/-! Leaf K: check_document's loop, plainly. -/
namespace Lf
open PySem PySem.Spec PyProof.Rows L2
theorem hu0 {A : Around} {k : Nat} (hr : Room k A) : A.units < cLine := Nat.lt_of_le_of_lt (Nat.le_add_right _ _) hr.units
mutual
/-- short texts alone -/
def sh : PyData → Bool
  | .str s => decide (s.length ≤ 1000)
  | .tuple ds => shs ds
  | _ => true
def shs : List PyData → Bool
  | [] => true
  | d :: r => sh d && shs r
end
theorem shs_all : ∀ ds, shs ds = true → ∀ d ∈ ds, sh d = true
  | [], _, _, h => by cases h
  | d :: r, h, e, m => by
    rw [shs, Bool.and_eq_true] at h
    rcases List.mem_cons.mp m with q | q
    · rw [q]; exact h.1
    · exact shs_all r h.2 e q
def encPl (pl : List Nat) : PyData := .tuple (pl.map fun i : Nat => .int (i : Int))
def encW (e : PyData × List Nat) : PyData := .tuple [e.1, encPl e.2]
def badOne : PyData → Bool
  | .tuple (x :: r) => decide (r.length > 3) || !isName x
  | _ => true
def kids : PyData → List Nat → List (PyData × List Nat)
  | .tuple (_ :: r), pl => r.zipIdx.map fun p => (p.1, pl ++ [p.2])
  | _, _ => []
def chk : Nat → List (PyData × List Nat) → Nat → Option (Option (List Nat))
  | 0, _, _ => none
  | _ + 1, [], _ => some none
  | n + 1, (d, pl) :: st, c => if (badOne d || decide (c + 1 > 2000) || decide (pl.length ≥ 100)) = true then some (some pl) else chk n (kids d pl ++ st) (c + 1)
theorem kids_at {x : PyData} {r : List PyData} {pl : List Nat} {i : Nat} : (kids (.tuple (x :: r)) pl)[i]? = r[i]?.map fun e => (e, pl ++ [i]) := by
  show (r.zipIdx.map _)[i]? = _
  rw [List.getElem?_map, List.getElem?_zipIdx]
  cases r[i]? with
  | none => rfl
  | some e => simp
theorem kids_len {x : PyData} {r : List PyData} {pl : List Nat} : (kids (.tuple (x :: r)) pl).length = r.length := by
  show (r.zipIdx.map _).length = _
  rw [List.length_map, List.length_zipIdx]
theorem name_badOne {n : Str} {ps : List Doc} (h : (Doc.nd n ps).fine = true) : badOne (Doc.nd n ps).enc = false := by
  rw [Doc.fine, Bool.and_eq_true, Bool.and_eq_true, decide_eq_true_eq] at h
  rw [Doc.enc]
  show (decide ((encs ps).length > 3) || !isName (.str n)) = false
  rw [encs_len]
  have h1 : isName (.str n) = true := h.1.1
  have h2 : ¬ ps.length > 3 := by omega
  simp [h1, h2]
/-- what is a document is one to the check -/
theorem chk_ok : ∀ (n : Nat) (st : List (Doc × List Nat)) (c : Nat), (∀ e ∈ st, e.1.fine = true ∧ e.2.length + e.1.deep ≤ 100) → c + (st.map fun e => e.1.size).sum ≤ 2000 → (st.map fun e => e.1.size).sum < n →
    chk n (st.map fun e => (e.1.enc, e.2)) c = some none
  | 0, _, _, _, _, h => by omega
  | n + 1, [], c, _, _, _ => by simp [chk]
  | n + 1, (.nd m ps, pl) :: st, c, hg, hs, hn => by
    obtain ⟨hf, hd⟩ := hg _ List.mem_cons_self
    simp only [List.map_cons, List.sum_cons, Doc.size] at hs hn
    have hd' : pl.length + (1 + deeps ps) ≤ 100 := by simpa [Doc.deep] using hd
    have e1 : (badOne (Doc.nd m ps).enc || decide (c + 1 > 2000) || decide (pl.length ≥ 100)) = false := by
      rw [name_badOne hf]
      have a : ¬ c + 1 > 2000 := by omega
      have b : ¬ pl.length ≥ 100 := by omega
      simp [a, b]
    rw [List.map_cons, chk, if_neg (by rw [e1]; exact Bool.false_ne_true)]
    have ek : kids (Doc.nd m ps).enc pl = (ps.zipIdx.map fun p => (p.1, pl ++ [p.2])).map fun e => (e.1.enc, e.2) := by
      rw [Doc.enc]
      refine List.ext_getElem? fun i => ?_
      rw [kids_at, encs_map]
      simp only [List.getElem?_map, List.getElem?_zipIdx]
      cases ps[i]? <;> simp
    rw [ek, ← List.map_append]
    have es : ((ps.zipIdx.map fun p => (p.1, pl ++ [p.2])).map fun e : Doc × List Nat => e.1.size).sum = sizes ps := by
      rw [sizes_sum, List.map_map]
      congr 1
      refine List.ext_getElem? fun i => ?_
      simp only [List.getElem?_map, List.getElem?_zipIdx]
      cases ps[i]? <;> simp
    refine chk_ok n _ (c + 1) (fun e he => ?_) ?_ ?_
    · rcases List.mem_append.mp he with q | q
      · obtain ⟨p, hp, rfl⟩ := List.mem_map.mp q
        have hm : p.1 ∈ ps := by
          have := List.mem_zipIdx hp
          obtain ⟨_, _, h3⟩ := this
          rw [h3]
          exact List.getElem_mem _
        rw [Doc.fine, Bool.and_eq_true, Bool.and_eq_true] at hf
        refine ⟨(fines_all ps).mp hf.2 _ hm, ?_⟩
        have := (deeps_le (n := deeps ps) ps).mp (Nat.le_refl _) _ hm
        show (pl ++ [p.2]).length + _ ≤ 100
        rw [List.length_append]
        simp only [List.length_singleton]
        omega
      · exact hg e (List.mem_cons_of_mem _ q)
    · rw [List.map_append, List.sum_append, es]; omega
    · rw [List.map_append, List.sum_append, es]; omega
theorem chk_doc {d : Doc} (h : d.fine = true) (h1 : d.deep ≤ 100) (h2 : d.size ≤ 2000) : chk 2001 [(d.enc, [])] 0 = some none :=
  chk_ok 2001 [(d, [])] 0 (fun e he => by
    rcases List.mem_singleton.mp he with rfl
    exact ⟨h, by simpa using h1⟩) (by simpa using h2) (by simp; omega)
mutual
theorem sh_enc : ∀ d : Doc, d.fine = true → sh d.enc = true
  | .nd n ps, h => by
    rw [Doc.fine, Bool.and_eq_true, Bool.and_eq_true] at h
    have h1 := name_len h.1.1
    have h2 := shs_encs ps h.2
    rw [Doc.enc, sh, shs, h2, sh, decide_eq_true (by omega : n.length ≤ 1000)]
    rfl
theorem shs_encs : ∀ ps : List Doc, fines ps = true → shs (encs ps) = true
  | [], _ => rfl
  | d :: r, h => by
    rw [fines, Bool.and_eq_true] at h
    rw [encs, shs, sh_enc d h.1, shs_encs r h.2]
    rfl
end
end Lf

set_option Elab.async false
set_option linter.all false
set_option maxRecDepth 100000
set_option maxHeartbeats 4000000
/-! Leaf V: readings answered by data. -/
namespace Lf
open PySem PySem.Spec PyProof.Rows L2
def rLenK (K : PySem.W.Frag) : List V → Hp → VK → Prop := fun xs H Q => ∃ p ys, xs = [.ref p] ∧ (SqL K H p ys ∨ SqT K H p ys) ∧ Q (.int ys.length) H
def rListK (K : PySem.W.Frag) : List V → Hp → VK → Prop := fun xs H Q => ∃ p ys, xs = [.ref p] ∧ (SqL K H p ys ∨ SqT K H p ys) ∧ ∀ l, H l = none → Q (.ref l) (upd H l (.lst ys))
def rTupK (K : PySem.W.Frag) : List V → Hp → VK → Prop := fun xs H Q => ∃ p ys, xs = [.ref p] ∧ ((SqL K H p ys ∧ ∀ l, H l = none → Q (.ref l) (upd H l (.tup ys))) ∨ (SqT K H p ys ∧ Q (.ref p) H))
section
variable {K : PySem.W.Frag} {F : Fr} {b : Nat} {H : Hp} {x y : V} {xs ys ds : List PyData} {d : PyData} {vs : List V} {Q : VK}
theorem sz6 {n : Nat} (h : n ≤ 1000000) : n ≤ sizeLine := Nat.le_trans h (by decide)
theorem sz6' {n : Nat} (h : n < 1000000) : n < sizeLine := Nat.lt_of_lt_of_le h (by decide)
theorem DtAll.snoc_inv : ∀ {ds : List PyData} {vs : List V}, DtAll K H vs (ds ++ [d]) → ∃ ws v, vs = ws ++ [v] ∧ DtAll K H ws ds ∧ Dt K H v d
  | [], vs, h => by
    cases h with
    | cons h1 h2 =>
      cases h2
      exact ⟨[], _, rfl, .nil, h1⟩
  | e :: r, vs, h => by
    cases h with
    | cons h1 h2 =>
      obtain ⟨ws, v, rfl, h3, h4⟩ := DtAll.snoc_inv h2
      exact ⟨_ :: ws, v, rfl, .cons h1 h3, h4⟩
theorem catA (hT : F.T b H) (hx : Dt K H x (.tuple xs)) (hy : Dt K H y (.tuple ys)) (hl : xs.length + ys.length ≤ 1000000) (q : ∀ z H', Go F b H b H' → Dt K H' z (.tuple (xs ++ ys)) → Q z H') : rCatA K x y H Q := by
  obtain ⟨a, us, rfl, hs, ha⟩ := hx.inv
  obtain ⟨c, ws, rfl, hs2, ha2⟩ := hy.inv
  have e1 := ha.length
  have e2 := ha2.length
  refine ⟨a, c, us, ws, rfl, rfl, hs, hs2, sz6 (by omega), fun e => ?_, fun _ e => ?_, fun _ _ p np => ?_⟩
  · subst e
    cases ha
    exact q _ _ (Go.refl hT) (.tup hs2 ha2)
  · subst e
    cases ha2
    rw [List.append_nil] at q
    exact q _ _ (Go.refl hT) (.tup hs ha)
  · exact q _ _ (Go.new hT np) (dt_new np (ha.append ha2))
theorem ixT {i : Nat} (hx : Dt K H x (.tuple ds)) (hi : ds[i]? = some d) (q : ∀ v, Dt K H v d → Q v H) : rIxT K x (.int (i : Nat)) H Q := by
  obtain ⟨a, us, rfl, hs, ha⟩ := hx.inv
  obtain ⟨v, hv, hd⟩ := ha.getD hi
  exact ⟨a, us, (i : Nat), v, rfl, rfl, hs, atI_nat hv, q v hd⟩
theorem lenT (hx : Dt K H x (.tuple ds)) (q : Q (.int (ds.length : Nat)) H) : ∃ p ys, [x] = [.ref p] ∧ (SqL K H p ys ∨ SqT K H p ys) ∧ Q (.int ys.length) H := by
  obtain ⟨a, us, rfl, hs, ha⟩ := hx.inv
  exact ⟨a, us, rfl, .inr hs, by rw [ha.length]; exact q⟩
theorem tupN (hT : F.T b H) (hx : DtAll K H vs ds) (hl : vs.length ≤ 1000000) (q : ∀ z H', Go F b H b H' → Dt K H' z (.tuple ds) → Q z H') : vs.length ≤ sizeLine ∧ ∀ p, H p = none → Q (.ref p) (upd H p (.tup vs)) :=
  ⟨sz6 hl, fun p np => q _ _ (Go.new hT np) (dt_new np hx)⟩
theorem isD {T : String} (k : Bool) (hx : Dt K H x d) (hk : kitB (tyD d) T = some k) (q : Q (.bl k) H) : rIsD K [x, .ty T] H Q := ⟨x, T, d, k, rfl, hx, hk, q⟩
theorem kit_tuple : ∀ (d : PyData), Dt K H x d → kitB (tyD d) "tuple" = some (match d with | .tuple _ => true | _ => false)
  | _, .non => (by decide +kernel : kitB "NoneType" "tuple" = some false)
  | _, .bl _ => (by decide +kernel : kitB "bool" "tuple" = some false)
  | _, .int _ => (by decide +kernel : kitB "int" "tuple" = some false)
  | _, .str _ => (by decide +kernel : kitB "str" "tuple" = some false)
  | _, .tup _ _ => (by decide +kernel : kitB "tuple" "tuple" = some true)
theorem kit_str : ∀ (d : PyData), Dt K H x d → kitB (tyD d) "str" = some (match d with | .str _ => true | _ => false)
  | _, .non => (by decide +kernel : kitB "NoneType" "str" = some false)
  | _, .bl _ => (by decide +kernel : kitB "bool" "str" = some false)
  | _, .int _ => (by decide +kernel : kitB "int" "str" = some false)
  | _, .str _ => (by decide +kernel : kitB "str" "str" = some true)
  | _, .tup _ _ => (by decide +kernel : kitB "tuple" "str" = some false)
/-- t == () -/
theorem eqT0 (hT : F.T b H) (hx : Dt K H x (.tuple ds)) (q : ∀ H', Go F b H b H' → Q (.bl ds.isEmpty) H') : ([] : List V).length ≤ sizeLine ∧ ∀ p, H p = none → rEqT0 K x (.ref p) (upd H p (.tup [])) Q := by
  obtain ⟨a, us, rfl, hs, ha⟩ := hx.inv
  refine ⟨Nat.zero_le _, fun p np => ⟨a, p, us, rfl, rfl, (Go.new hT np).sqT hs, .inl (.inl upd_same), ?_⟩⟩
  have e : us.isEmpty = ds.isEmpty := by
    cases ha with
    | nil => rfl
    | cons _ _ => rfl
  rw [e]
  exact q _ (Go.new hT np)
/-- xs == [], xs != [], of a list of one's own -/
theorem eqL0 {a : Addr} (hT : F.T b H) (hx : H a = some (.lst vs)) (q : ∀ H', Go F b H b H' → H' a = some (.lst vs) → Q (.bl vs.isEmpty) H') : ([] : List V).length ≤ sizeLine ∧ ∀ p, H p = none → rEqL0 K (.ref a) (.ref p) (upd H p (.lst [])) Q :=
  ⟨Nat.zero_le _, fun p np => have e := (upd_ne (o := .lst []) (ne_of_none hx np)).trans hx; ⟨a, p, vs, rfl, rfl, .inl (.inl e), .inl (.inl upd_same), q _ (Go.new hT np) e⟩⟩
theorem neL0 {a : Addr} (hT : F.T b H) (hx : H a = some (.lst vs)) (q : ∀ H', Go F b H b H' → H' a = some (.lst vs) → Q (.bl (!vs.isEmpty)) H') : ([] : List V).length ≤ sizeLine ∧ ∀ p, H p = none → rNeL0 K (.ref a) (.ref p) (upd H p (.lst [])) Q :=
  ⟨Nat.zero_le _, fun p np => have e := (upd_ne (o := .lst []) (ne_of_none hx np)).trans hx; ⟨a, p, vs, rfl, rfl, .inl (.inl e), .inl (.inl upd_same), q _ (Go.new hT np) e⟩⟩
/-- t[1:], data -/
theorem sl1D (hT : F.T b H) (hx : Dt K H x (.tuple (d :: ds))) (q : ∀ p us H', Go F b H b H' → H' p = some (.tup us) → DtAll K H' us ds → Q (.ref p) H') : rSlA K x (some 1) none H Q := by
  obtain ⟨a, us, rfl, hs, ha⟩ := hx.inv
  obtain ⟨v, r, rfl, _, hr⟩ := ha.inv
  exact sl1 hs fun p np => q p r _ (Go.new hT np) upd_same (DtAll.ts (ts_new np) _ _ hr)
/-- writing a list of one's own: data stays -/
theorem ts_lst {a : Addr} {us ws : List V} (h : H a = some (.lst us)) : Ts H (upd H a (.lst ws)) := ts_mut h (fun _ z => by cases z) (fun _ _ z => by cases z)
theorem app {a : Addr} (h : H a = some (.lst vs)) (hl : vs.length < 1000000) (q : Q .non (upd H a (.lst (vs ++ [x])))) : rAppend (.ref a) [x] H Q := ⟨a, vs, x, rfl, rfl, h, sz6' hl, q⟩
theorem isL {a : Addr} (h : H a = some (.lst vs)) : tyV K "list" (.ref a) H := .inl ⟨rfl, _, .inl (.inl h)⟩
theorem dtAll_idx : ∀ {vs : List V} {ds : List PyData}, vs.length = ds.length → (∀ (i : Nat) (v : V) (d : PyData), vs[i]? = some v → ds[i]? = some d → Dt K H v d) → DtAll K H vs ds
  | [], [], _, _ => .nil
  | v :: vs, d :: ds, hl, h => .cons (h 0 v d rfl rfl) (dtAll_idx (by simpa using hl) fun i v d e1 e2 => h (i + 1) v d (by simpa using e1) (by simpa using e2))
  | [], _ :: _, hl, _ => by simp at hl
  | _ :: _, [], hl, _ => by simp at hl
theorem ints_of : ∀ {ys : List V}, (∀ (i : Nat) (y : V), ys[i]? = some y → ∃ z : Int, y = .int z) → ∃ zs : List Int, ys = zs.map V.int
  | [], _ => ⟨[], rfl⟩
  | y :: r, h => by
    obtain ⟨z, rfl⟩ := h 0 y rfl
    obtain ⟨zs, rfl⟩ := ints_of (ys := r) fun i x e => h (i + 1) x (by simpa using e)
    exact ⟨z :: zs, rfl⟩
theorem sizes_int : ∀ ps : List Doc, (ps.map fun e => (e.size : Int)).sum = ((sizes ps : Nat) : Int)
  | [] => rfl
  | d :: r => by
    rw [List.map_cons, List.sum_cons, sizes_int r, sizes]
    omega
theorem tLc_iTup {σ : L2.St} {tl : TE} {g : TG} {tt : TT} {te : TE} {vs : List Nat} (h : tl σ H fun x H1 => tLc (iTup K (tC x)) g tt te vs σ H1 Q) : tLc (iTup K tl) g tt te vs σ H Q := h
theorem tLc_iList {σ : L2.St} {tl : TE} {g : TG} {tt : TT} {te : TE} {vs : List Nat} (h : tl σ H fun x H1 => tLc (iList K (tC x)) g tt te vs σ H1 Q) : tLc (iList K tl) g tt te vs σ H Q := h
theorem tLc_iRng1 {σ : L2.St} {tl : TE} {g : TG} {tt : TT} {te : TE} {vs : List Nat} (h : tl σ H fun x H1 => tLc (iRng1 (tCons (tC x) tNil)) g tt te vs σ H1 Q) : tLc (iRng1 (tCons tl tNil)) g tt te vs σ H Q := h
end
end Lf
namespace Lf
open PySem PySem.Spec PyProof.Rows L2
section
variable {K : PySem.W.Frag} {F : Fr} {b : Nat} {H : Hp} {x y : V} {xs ys ds : List PyData} {d : PyData} {vs : List V} {Q : VK}
/-- t[i:j], data -/
theorem slD {lo hi : Option Int} (hT : F.T b H) (hx : Dt K H x (.tuple ds)) (q : ∀ z H', Go F b H b H' → Dt K H' z (.tuple ((ds.drop (HT.sIx ds.length 0 lo)).take (HT.sIx ds.length ds.length hi - HT.sIx ds.length 0 lo))) → Q z H') : rSlA K x lo hi H Q := by
  obtain ⟨a, us, rfl, hs, ha⟩ := hx.inv
  have hl := ha.length
  refine ⟨a, us, rfl, hs, fun z => ?_, fun _ p np => ?_⟩
  · rw [hl] at z
    have q1 := q (.ref a) H (Go.refl hT)
    rw [z.1, z.2, List.drop_zero, Nat.sub_zero, List.take_length] at q1
    exact q1 (.tup hs ha)
  · refine q _ _ (Go.new hT np) (dt_new np ?_)
    unfold cutV
    rw [hl]
    exact (ha.drop _).take _
theorem six_nat (n i : Nat) : HT.sIx n 0 (some (i : Int)) = min i n := HT.sIx_nat n 0 i
theorem six_nat' (n i : Nat) : HT.sIx n n (some (i : Int)) = min i n := HT.sIx_nat n n i
/-- t[i:] -/
theorem slFrom {i : Nat} (hT : F.T b H) (hx : Dt K H x (.tuple ds)) (q : ∀ z H', Go F b H b H' → Dt K H' z (.tuple (ds.drop i)) → Q z H') : rSlA K x (some (i : Nat)) none H Q :=
  slD hT hx fun z H' g h => q z H' g (by
    rw [six_nat, HT.sIx_none] at h
    have e : (ds.drop (min i ds.length)).take (ds.length - min i ds.length) = ds.drop i := by
      by_cases hi : i ≤ ds.length
      · rw [Nat.min_eq_left hi, List.take_of_length_le (by rw [List.length_drop]; exact Nat.le_refl _)]
      · rw [Nat.min_eq_right (by omega), List.drop_of_length_le (Nat.le_refl _), List.drop_of_length_le (by omega : ds.length ≤ i), List.take_nil]
    rw [e] at h
    exact h)
/-- t[:i] -/
theorem slTo {i : Nat} (hT : F.T b H) (hx : Dt K H x (.tuple ds)) (q : ∀ z H', Go F b H b H' → Dt K H' z (.tuple (ds.take i)) → Q z H') : rSlA K x none (some (i : Nat)) H Q :=
  slD hT hx fun z H' g h => q z H' g (by
    rw [six_nat', HT.sIx_none, List.drop_zero, Nat.sub_zero] at h
    have e : ds.take (min i ds.length) = ds.take i := by
      by_cases hi : i ≤ ds.length
      · rw [Nat.min_eq_left hi]
      · rw [Nat.min_eq_right (by omega), List.take_length, List.take_of_length_le (by omega)]
    rw [e] at h
    exact h)
/-- for n, x in enumerate(t) -/
theorem for_enumT {a : Addr} {xs : List V} {g : TG} {tb : TS} {D : Ends} {σ : L2.St} {H : Hp} (Pv : Nat → L2.St → Hp → Prop) (h0 : Pv 0 σ H) (hl : ∀ i σ H, i ≤ xs.length → Pv i σ H → SqT K H a xs)
    (hs : ∀ (i : Nat) (x : V) (T : Addr) (σ : L2.St) (H : Hp), xs[i]? = some x → Pv i σ H → H T = none → g (.ref T) σ (upd H T (.tup [.int (i : Nat), x])) fun σ2 H2 => tb { D with nx := Pv (i + 1), ct := Pv (i + 1), bk := D.nx } σ2 H2) (hd : ∀ σ H, Pv xs.length σ H → D.nx σ H) :
    ∃ W : Nat → Nat → L2.St → Hp → Prop, (∃ m, W 0 m σ H) ∧ ∀ i m σ H, W i m σ H →
      ((LfE.IteT K a).stop i H ∧ D.nx σ H) ∨ ((LfE.IteT K a).go i H ∧ ∃ N : L2.St → Hp → Prop, (∀ σ' H', N σ' H' → ∃ m', m' < m ∧ W (i + 1) m' σ' H') ∧ ∀ v H', (LfE.IteT K a).yld i H v H' → g v σ H' fun σ2 H2 => tb { D with nx := N, ct := N, bk := D.nx } σ2 H2) := by
  refine ⟨fun i m σ H => m = xs.length - i ∧ i ≤ xs.length ∧ Pv i σ H, ⟨xs.length, by simp, Nat.zero_le _, h0⟩, ?_⟩
  rintro i m σ H ⟨rfl, hi, p⟩
  have q := hl i σ H hi p
  by_cases hlt : i < xs.length
  · have hx : xs[i]? = some xs[i] := List.getElem?_eq_getElem hlt
    refine .inr ⟨⟨xs, xs[i], q, hx⟩, Pv (i + 1), fun σ' H' p' => ⟨xs.length - (i + 1), by omega, rfl, hlt, p'⟩, fun v H' y => ?_⟩
    obtain ⟨T, x, rfl, nT, rfl, f⟩ := y
    have e : x = xs[i] := Option.some.inj ((f xs q).symm.trans hx)
    subst e
    exact hs i _ T σ H hx p nT
  · have e : i = xs.length := by omega
    subst e
    exact .inl ⟨⟨xs, q, Nat.le_refl _⟩, hd σ H p⟩
end
end Lf

set_option Elab.async false
set_option linter.all false
set_option maxRecDepth 100000
set_option maxHeartbeats 4000000
/-! Leaf T: the law's own state: cells, lefts, at. -/
namespace Lf
open PySem PySem.Spec PyProof.Rows L2
def stK (cA lA : Addr) (n : Nat) : List (Key × V) := [(.inr "cells", .ref cA), (.inr "lefts", .ref lA), (.inr "at", .int (n : Nat))]
section
variable {cA lA st : Addr} {n : Nat} {H : Hp}
theorem dg_at (h : H st = some (.dK (stK cA lA n))) : DGet H st (.str "at") (some (.int (n : Nat))) := by
  have e : valV (stK cA lA n) (.inr "at") = some (.int (n : Nat)) := rfl
  rw [← e]
  exact DGet.k (k := .inr "at") h
theorem dg_cells (h : H st = some (.dK (stK cA lA n))) : DGet H st (.str "cells") (some (.ref cA)) := by
  have e : valV (stK cA lA n) (.inr "cells") = some (.ref cA) := rfl
  rw [← e]
  exact DGet.k (k := .inr "cells") h
theorem dg_lefts (h : H st = some (.dK (stK cA lA n))) : DGet H st (.str "lefts") (some (.ref lA)) := by
  have e : valV (stK cA lA n) (.inr "lefts") = some (.ref lA) := rfl
  rw [← e]
  exact DGet.k (k := .inr "lefts") h
theorem dp_at (h : H st = some (.dK (stK cA lA n))) : DPut H st (.str "at") (.int ((n : Nat) + 1 : Int)) (upd H st (.dK (stK cA lA (n + 1)))) := by
  have e : putK (stK cA lA n) (.inr "at") (.int ((n : Nat) + 1 : Int)) = stK cA lA (n + 1) := rfl
  have q := DPut.k (k := .inr "at") (v := .int ((n : Nat) + 1 : Int)) h (by show 3 < sizeLine; decide)
  rw [e] at q
  exact q
end
theorem ixN_nat' {n j : Nat} (hj : j < n) : ixN n (j : Int) = some j := by
  unfold ixN
  rw [if_pos (by omega), if_pos (by omega)]
  simp
structure StOk (st cA lA : Addr) (b : Nat) (H : Hp) : Prop where
  ex : ∃ (cs ls : List Int) (at_ : Nat), H st = some (.dK (stK cA lA at_)) ∧ H cA = some (.lst (cs.map V.int)) ∧ H lA = some (.lst (ls.map V.int)) ∧
    cs.length = ls.length ∧ 0 < cs.length ∧ cs.length ≤ 100 ∧ at_ ≤ b
  ne : cA ≠ lA
theorem StOk.mono {st cA lA : Addr} {b c : Nat} {H : Hp} (h : StOk st cA lA b H) (l : b ≤ c) : StOk st cA lA c H := by
  obtain ⟨⟨cs, ls, a, h1, h2, h3, h4, h5, h6, h7⟩, n⟩ := h
  exact ⟨⟨cs, ls, a, h1, h2, h3, h4, h5, h6, Nat.le_trans h7 l⟩, n⟩
theorem StOk.same {st cA lA : Addr} {b : Nat} {H H' : Hp} (h : StOk st cA lA b H) (e1 : H' st = H st) (e2 : H' cA = H cA) (e3 : H' lA = H lA) : StOk st cA lA b H' := by
  obtain ⟨⟨cs, ls, a, h1, h2, h3, h4, h5, h6, h7⟩, n⟩ := h
  exact ⟨⟨cs, ls, a, e1.trans h1, e2.trans h2, e3.trans h3, h4, h5, h6, h7⟩, n⟩
/-- the state at st may be drawn from -/
structure HasSt (F : Fr) (st : Addr) : Prop where
  ex : ∃ cA lA : Addr, F.N st ∧ F.N cA ∧ F.N lA ∧ (∀ b H, F.T b H → StOk st cA lA b H) ∧
    ∀ b c H H', F.T b H → (∀ a, a ≠ st → a ≠ lA → H' a = H a) → StOk st cA lA c H' → b ≤ c → F.T c H'
/-- a frame and a state -/
def Fr.st (F : Fr) (st cA lA : Addr) : Fr where
  N a := F.N a ∨ a = st ∨ a = cA ∨ a = lA
  T b H := F.T b H ∧ StOk st cA lA b H ∧ ¬ F.N st ∧ ¬ F.N cA ∧ ¬ F.N lA
  pos b H a h n := by
    rcases n with n | rfl | rfl | rfl
    · exact F.pos _ _ _ h.1 n
    · obtain ⟨⟨cs, ls, q, h1, h2, h3, h4, h5, h6, h7⟩, n⟩ := h.2.1
      exact ⟨_, h1, (fun _ z => by cases z), (fun _ _ z => by cases z)⟩
    · obtain ⟨⟨cs, ls, q, h1, h2, h3, h4, h5, h6, h7⟩, n⟩ := h.2.1
      exact ⟨_, h2, (fun _ z => by cases z), (fun _ _ z => by cases z)⟩
    · obtain ⟨⟨cs, ls, q, h1, h2, h3, h4, h5, h6, h7⟩, n⟩ := h.2.1
      exact ⟨_, h3, (fun _ z => by cases z), (fun _ _ z => by cases z)⟩
  loc b H H' h e := ⟨F.loc _ _ _ h.1 fun a n => e a (.inl n), h.2.1.same (e _ (.inr (.inl rfl))) (e _ (.inr (.inr (.inl rfl)))) (e _ (.inr (.inr (.inr rfl)))), h.2.2⟩
  mono b c H h l := ⟨F.mono _ _ _ h.1 l, h.2.1.mono l, h.2.2⟩
theorem Fr.st_has (F : Fr) (st cA lA : Addr) : HasSt (F.st st cA lA) st :=
  ⟨cA, lA, .inr (.inl rfl), .inr (.inr (.inl rfl)), .inr (.inr (.inr rfl)), fun b H h => h.2.1, fun b c H H' h e s l =>
    ⟨F.mono _ _ _ (F.loc _ _ _ h.1 fun a n => e a (fun z => h.2.2.1 (z ▸ n)) (fun z => h.2.2.2.2 (z ▸ n))) l, s, h.2.2⟩⟩
theorem Fr.st_tab {F : Fr} {P st cA lA : Addr} (h : HasTab F P) : HasTab (F.st st cA lA) P :=
  ⟨.inl h.n, fun b H q => h.g _ _ q.1, fun b H H' q t => ⟨h.t _ _ _ q.1 t, q.2.1.same (t.2 _ fun z => q.2.2.1 (z ▸ h.n)) (t.2 _ fun z => q.2.2.2.1 (z ▸ h.n)) (t.2 _ fun z => q.2.2.2.2 (z ▸ h.n)), q.2.2⟩⟩
/-- what is done behind the state's making -/
theorem Go.st {F : Fr} {b : Nat} {H H' : Hp} {st cA lA : Addr} (g : Go F b H b H') (h1 : H st = none) (h2 : H cA = none) (h3 : H lA = none) (s : StOk st cA lA b H') : (F.st st cA lA).T b H' :=
  ⟨g.r, s, g.nn h1, g.nn h2, g.nn h3⟩
end Lf

set_option Elab.async false
set_option linter.all false
set_option maxRecDepth 100000
set_option maxHeartbeats 4000000
/-! Leaf U: places in documents, as data; ways of shapes. -/
namespace Lf
open PySem PySem.Spec PyProof.Rows L2
section
variable {K : PySem.W.Frag} {F : Fr} {b : Nat} {H : Hp} {x : V} {ds : List PyData} {d : PyData} {Q : VK} {σ : L2.St}
theorem sl1N (hT : F.T b H) (hx : Dt K H x (.tuple (d :: ds))) (q : ∀ p us H', Go F b H b H' → H' p = some (.tup us) → DtAll K H' us ds → Q (.ref p) H') : tNoPart σ H fun u H' => rSlA K x (some 1) u H' Q := sl1D hT hx q
theorem slFromN {i : Nat} (hT : F.T b H) (hx : Dt K H x (.tuple ds)) (q : ∀ z H', Go F b H b H' → Dt K H' z (.tuple (ds.drop i)) → Q z H') : tNoPart σ H fun u H' => rSlA K x (some (i : Nat)) u H' Q := slFrom hT hx q
end
theorem parts_get : ∀ {ps : List Doc} {i : Nat} {r : List Nat} {z : Doc}, parts_ ps i r = some z → ∃ d, ps[i]? = some d ∧ d.part r = some z
  | [], _, _, _, h => by simp [parts_] at h
  | d :: ps, 0, r, z, h => ⟨d, rfl, by simpa [parts_] using h⟩
  | d :: ps, i + 1, r, z, h => by
    have h' : parts_ ps i r = some z := by simpa [parts_] using h
    obtain ⟨e, h1, h2⟩ := parts_get h'
    exact ⟨e, by simpa using h1, h2⟩
theorem parts_of : ∀ {ps : List Doc} {i : Nat} {r : List Nat} {z d : Doc}, ps[i]? = some d → d.part r = some z → parts_ ps i r = some z
  | [], _, _, _, _, h, _ => by simp at h
  | e :: ps, 0, r, z, d, h, h2 => by
    cases h
    simpa [parts_] using h2
  | e :: ps, i + 1, r, z, d, h, h2 => by
    simp only [parts_]
    exact parts_of (by simpa using h) h2
theorem puts_encs : ∀ {ps : List Doc} {i : Nat} {r : List Nat} {d x : Doc}, ps[i]? = some d → encs (puts ps i r x) = (encs ps).take i ++ ((d.put r x).enc :: (encs ps).drop (i + 1))
  | [], _, _, _, _, h => by simp at h
  | e :: ps, 0, r, d, x, h => by
    cases h
    simp [puts, encs]
  | e :: ps, i + 1, r, d, x, h => by
    have ih := puts_encs (r := r) (x := x) (ps := ps) (i := i) (d := d) (by simpa using h)
    simp only [puts, encs]
    rw [ih]
    simp
mutual
theorem put_fine : ∀ (d : Doc) (pl : List Nat) (x : Doc), d.fine = true → x.fine = true → (d.put pl x).fine = true
  | d, [], x, _, hx => by cases d <;> simpa [Doc.put] using hx
  | .nd n ps, i :: r, x, hd, hx => by
    rw [Doc.fine, Bool.and_eq_true, Bool.and_eq_true] at hd
    simp only [Doc.put]
    rw [Doc.fine, puts_len, puts_fine ps i r x hd.2 hx, hd.1.1]
    simpa using hd.1.2
theorem puts_fine : ∀ (ps : List Doc) (i : Nat) (r : List Nat) (x : Doc), fines ps = true → x.fine = true → fines (puts ps i r x) = true
  | [], _, _, _, _, _ => rfl
  | d :: ps, 0, r, x, hd, hx => by
    rw [fines, Bool.and_eq_true] at hd
    simp only [puts]
    rw [fines, put_fine d r x hd.1 hx, hd.2]
    rfl
  | d :: ps, i + 1, r, x, hd, hx => by
    rw [fines, Bool.and_eq_true] at hd
    simp only [puts]
    rw [fines, puts_fine ps i r x hd.2 hx, hd.1]
    rfl
end
mutual
theorem put_deep : ∀ (d : Doc) (pl : List Nat) (x : Doc), (d.put pl x).deep ≤ d.deep + x.deep
  | d, [], x => by cases d <;> (simp only [Doc.put]; omega)
  | .nd n ps, i :: r, x => by
    simp only [Doc.put, Doc.deep]
    have := puts_deep ps i r x
    omega
theorem puts_deep : ∀ (ps : List Doc) (i : Nat) (r : List Nat) (x : Doc), deeps (puts ps i r x) ≤ deeps ps + x.deep
  | [], _, _, _ => by simp [puts, deeps]
  | d :: ps, 0, r, x => by
    simp only [puts, deeps]
    have := put_deep d r x
    omega
  | d :: ps, i + 1, r, x => by
    simp only [puts, deeps]
    have := puts_deep ps i r x
    omega
end
mutual
theorem put_size : ∀ (d : Doc) (pl : List Nat) (x : Doc), (d.put pl x).size ≤ d.size + x.size
  | d, [], x => by cases d <;> (simp only [Doc.put]; omega)
  | .nd n ps, i :: r, x => by
    simp only [Doc.put, Doc.size]
    have := puts_size ps i r x
    omega
theorem puts_size : ∀ (ps : List Doc) (i : Nat) (r : List Nat) (x : Doc), sizes (puts ps i r x) ≤ sizes ps + x.size
  | [], _, _, _ => by simp [puts, sizes]
  | d :: ps, 0, r, x => by
    simp only [puts, sizes]
    have := put_size d r x
    omega
  | d :: ps, i + 1, r, x => by
    simp only [puts, sizes]
    have := puts_size ps i r x
    omega
end
theorem part_len : ∀ (pl : List Nat) (d z : Doc), d.part pl = some z → pl.length + 1 ≤ d.deep
  | [], d, z, h => by
    cases d with
    | nd n ps => rw [Doc.deep]; simp
  | i :: r, .nd n ps, z, h => by
    have h' : parts_ ps i r = some z := by simpa [Doc.part] using h
    obtain ⟨e, h1, h2⟩ := parts_get h'
    have := part_len r e z h2
    have hm := (deeps_le (n := deeps ps) ps).mp (Nat.le_refl _) _ (List.mem_of_getElem? h1)
    rw [Doc.deep, List.length_cons]
    omega
def encPt (e : List Nat × Doc) : PyData := .tuple [encPl e.1, e.2.enc]
theorem deep_pos : ∀ d : Doc, 1 ≤ d.deep
  | .nd _ ps => by rw [Doc.deep]; omega
theorem int_list {α : Type} {ys : List V} {ps : List α} {f : α → Int} (hl : ys.length = ps.length) (h : ∀ (i : Nat) (y : V), ys[i]? = some y → ∃ e, ps[i]? = some e ∧ y = .int (f e)) : ys = (ps.map f).map V.int := by
  refine List.ext_getElem? fun i => ?_
  rw [List.getElem?_map, List.getElem?_map]
  cases hy : ys[i]? with
  | none =>
    have : ps[i]? = none := by
      rw [List.getElem?_eq_none_iff] at hy ⊢
      omega
    rw [this]
    rfl
  | some y =>
    obtain ⟨e, he, rfl⟩ := h i y hy
    rw [he]
    rfl
theorem sizes_take {ps : List Doc} {i : Nat} {d : Doc} (h : ps[i]? = some d) : sizes (ps.take (i + 1)) = sizes (ps.take i) + d.size := by
  rw [List.take_add_one, h, sizes_sum, sizes_sum, List.map_append, List.sum_append]
  simp
theorem aheads_drop {ps qs : List Doc} {i : Nat} {p q : Doc} (h1 : ps[i]? = some p) (h2 : qs[i]? = some q) : aheads (ps.drop i) (qs.drop i) = if ahead p q ≠ 0 then ahead p q else aheads (ps.drop (i + 1)) (qs.drop (i + 1)) := by
  obtain ⟨a1, e1⟩ := List.getElem?_eq_some_iff.mp h1
  obtain ⟨a2, e2⟩ := List.getElem?_eq_some_iff.mp h2
  rw [List.drop_eq_getElem_cons a1, List.drop_eq_getElem_cons a2, e1, e2, aheads]
end Lf

set_option Elab.async false
set_option linter.all false
set_option maxRecDepth 100000
set_option maxHeartbeats 4000000
/-! Leaf Q: d == {} of a dict with tuple keys. -/
namespace LfQ
open PySem PySem.Calls PySem.Spec PyProof.Rows L2
section
variable {prog : Program} {w : World} {A : Around} {E : Value → Shared → Prop} {s : Shared}
theorem samePairs0 {nm : String} {a b : Addr} {oa ob : Obj} {es es' : Array DictEntry} {ep ep' : Nat} {Q : Bool → Shared → Prop} (ha : (a == sysModules) = false) (hb : (b == sysModules) = false)
    (hoa : s.heap.get? a = some oa) (hda : oa.data = .dict es ep) (hob : s.heap.get? b = some ob) (hdb : ob.data = .dict es' ep') (h0 : es'.size = 0) (h : Q (es.size == 0) s) :
    wpAny (model prog w) A (Builtin.Dict.samePairs nm a b) Q E s := by
  unfold Builtin.Dict.samePairs Builtin.Dict.showsAll
  rw [if_neg (show ¬ (a == sysModules) = true by rw [ha]; exact Bool.false_ne_true), if_neg (show ¬ (b == sysModules) = true by rw [hb]; exact Bool.false_ne_true)]
  refine wpAny_bind (wpAny_pure (wpAny_bind (wpAny_pure ?_)))
  refine wpAny_bind (wpAny_dictEntries hoa hda ?_)
  dsimp only
  refine wpAny_bind (wpAny_dictEntries hob hdb ?_)
  by_cases hsz : es.size = es'.size
  case neg =>
    rw [if_pos (by simpa using hsz)]
    have hbf : (es.size == 0) = false := by
      rw [h0] at hsz
      simpa using hsz
    rw [hbf] at h
    exact wpAny_bind (wpAny_rule (wpAny_pure h))
  case pos =>
    have he : es.size = 0 := hsz.trans h0
    have h' : Q true s := by
      rw [he] at h
      exact h
    rw [if_neg (by rw [hsz]; simp)]
    refine wpAny_bind (wpAny_dictEpoch hoa hda ?_)
    refine wpAny_bind ?_
    rw [Std.Legacy.Range.forIn_eq_forIn_range']
    simp only [Std.Legacy.Range.size, Nat.sub_zero, Nat.add_sub_cancel, Nat.div_one]
    rw [he]
    exact wpAny_pure (wpAny_pure h')
theorem rc_dict0 {a b : Addr} {oa ob : Obj} {es es' : Array DictEntry} {ep ep' : Nat} {Q : Value → Shared → Prop} (ha : (a == sysModules) = false) (hb : (b == sysModules) = false)
    (hoa : s.heap.get? a = some oa) (ca : oa.cls = .type "dict") (hda : oa.data = .dict es ep) (hob : s.heap.get? b = some ob) (cb : ob.cls = .type "dict") (hdb : ob.data = .dict es' ep') (h0 : es'.size = 0) (hu : A.units < cLine) (h : Q (.bool (es.size == 0)) s) :
    wpAny (model prog w) A (richCompare .Eq (.ref a) (.ref b)) Q E s := by
  have ta : s.TypeIs (.ref a) "dict" := ⟨oa, hoa, ca⟩
  have tb : s.TypeIs (.ref b) "dict" := ⟨ob, hob, cb⟩
  refine wpAny_richCompare_same_room (op := .Eq) ta tb PySem.F.slot_dict_eq (wpAny_call_entry PySem.F.slot_dict_eq ta PySem.F.entry_dict_eq ?_ (PySem.F.args_dict_eq_2 _ _)) hu
  show wpAny _ _ (Builtin.Dict.dictSlotArgs "__eq__" ⟨[.ref a, .ref b], []⟩ >>= _) _ _ s
  refine wpAny_bind ?_
  unfold Builtin.Dict.dictSlotArgs
  refine wpAny_bind (wpAny_notOrdered_dict ta ?_)
  show wpAny _ _ (pure (Value.ref a, Value.ref b)) _ _ s
  refine wpAny_pure ?_
  refine wpAny_bind (wpAny_isInstance (T := "dict") tb PySem.F.sub_dict_dict ?_)
  simp only [Bool.not_true, Bool.false_eq_true, if_false]
  refine wpAny_bind (wpAny_pure (wpAny_bind (wpAny_pure ?_)))
  refine wpAny_bind (samePairs0 ha hb hoa hda hob hdb h0 ?_)
  refine wpAny_pure ⟨_, rfl, ?_, ?_⟩
  · exact fun x => nomatch x
  · simpa using h
end
def rEqDict0 : R2 := fun x y H Q => ∃ a b kvs, x = .ref a ∧ y = .ref b ∧ H a = some (.dT kvs) ∧ H b = some (.dT []) ∧ Q (.bl kvs.isEmpty) H
theorem op_eqDict0 {X : Cx} (hu : X.A.units < cLine) : OpR X (compareOp .Eq) rEqDict0 := by
  intro pins s σ H x y v u Q I rx ry h
  obtain ⟨a, b, kvs, rfl, rfl, h1, h2, q⟩ := h
  cases rx
  cases ry
  obtain ⟨_, lo, xs, rel, o, es, ep, ho, hx, hdt, hes, _⟩ := dt_of I.hok h1
  obtain ⟨_, lo', xs', rel', o', es', ep', ho', hx', hdt', hes', _⟩ := dt_of I.hok h2
  have l1 : kvs.length = xs.length := Paired.length rel
  have l2 : es.size = xs.length := size_of_entries hes
  have l1' : ([] : List (List Key × V)).length = xs'.length := Paired.length rel'
  have l2' : es'.size = xs'.length := size_of_entries hes'
  have h0 : es'.size = 0 := by rw [l2', ← l1']; rfl
  have e : (es.size == 0) = kvs.isEmpty := by
    rw [l2, ← l1]
    cases kvs <;> rfl
  refine rc_dict0 lo lo' ho hx.1 hdt ho' hx'.1 hdt' h0 hu ?_
  exact ⟨.bl _, H, I, by rw [e]; rfl, q⟩
end LfQ

set_option Elab.async false
set_option linter.all false
set_option maxRecDepth 100000
set_option maxHeartbeats 4000000
/-! Leaf Y: shapes, plainly; a comprehension with a test. -/
namespace Lf
open PySem PySem.Spec PyProof.Rows L2
abbrev Way := Str × List Nat
abbrev Shp := List (List Way)
def encWay (w : Way) : PyData := .tuple [.str w.1, encPl w.2]
def encKind (ws : List Way) : PyData := .tuple (ws.map encWay)
def encShp (s : Shp) : PyData := .tuple (s.map encKind)
structure Good (s : Shp) : Prop where
  pos : 0 < s.length
  len : s.length ≤ 10
  kinds : ∀ ws ∈ s, 0 < ws.length ∧ ws.length ≤ 10 ∧ ∀ w ∈ ws, isNameS w.1 = true ∧ w.2.length ≤ 3 ∧ ∀ p ∈ w.2, p < s.length
/-- each kind has a way that goes downward -/
def Ranked (s : Shp) : Prop := ∃ rk : Nat → Nat, ∀ i ws, s[i]? = some ws → ∃ w ∈ ws, ∀ p ∈ w.2, rk p < rk i
/-! ### firsts -/
def encO : Option Doc → PyData
  | none => .none
  | some d => d.enc
def nones : List (Option Doc) → Nat
  | [] => 0
  | none :: r => 1 + nones r
  | some _ :: r => nones r
theorem nones_set : ∀ {os : List (Option Doc)} {i : Nat} {d : Doc}, os[i]? = some none → nones (os.set i (some d)) + 1 = nones os
  | [], _, _, h => by simp at h
  | none :: r, 0, d, _ => by simp [nones]; omega
  | some _ :: r, 0, d, h => by simp at h
  | none :: r, i + 1, d, h => by
    have ih := nones_set (os := r) (i := i) (d := d) (by simpa using h)
    simp only [List.set_cons_succ, nones]
    omega
  | some _ :: r, i + 1, d, h => by
    have ih := nones_set (os := r) (i := i) (d := d) (by simpa using h)
    simp only [List.set_cons_succ, nones]
    omega
theorem nones_rep (n : Nat) : nones (List.replicate n none) = n := by
  induction n with
  | zero => rfl
  | succ n ih => rw [List.replicate_succ, nones, ih]; omega
theorem nones_zero : ∀ {os : List (Option Doc)}, (∀ i : Nat, os[i]? ≠ some none) → nones os = 0
  | [], _ => rfl
  | none :: r, h => absurd rfl (h 0)
  | some _ :: r, h => by
    rw [nones]
    exact nones_zero fun i => by simpa using h (i + 1)
theorem nones_all : ∀ {os : List (Option Doc)}, nones os = 0 → ∃ ds : List Doc, os = ds.map some
  | [], _ => ⟨[], rfl⟩
  | none :: r, h => by rw [nones] at h; omega
  | some d :: r, h => by
    obtain ⟨ds, rfl⟩ := nones_all (os := r) (by simpa [nones] using h)
    exact ⟨d :: ds, rfl⟩
/-- a kind that has no document yet, a way whose parts have one -/
def Cand (os : List (Option Doc)) (i : Nat) (w : Way) : Prop := os[i]? = some none ∧ ∀ p ∈ w.2, ∃ d, os[p]? = some (some d)
/-- where no way is left, none is open -/
theorem no_cand {s : Shp} {os : List (Option Doc)} (hg : Good s) (hr : Ranked s) (hl : os.length = s.length) (h : ∀ (i : Nat) (ws : List Way) (w : Way), s[i]? = some ws → w ∈ ws → ¬ Cand os i w) : nones os = 0 := by
  obtain ⟨rk, hrk⟩ := hr
  have key : ∀ n i, rk i ≤ n → os[i]? ≠ some none := by
    intro n
    induction n with
    | zero =>
      intro i hi e
      have hil : i < s.length := by rw [← hl]; exact (List.getElem?_eq_some_iff.mp e).1
      have hs : s[i]? = some s[i] := List.getElem?_eq_getElem hil
      obtain ⟨w, hw, hp⟩ := hrk i _ hs
      refine h i _ w hs hw ⟨e, fun p hpm => ?_⟩
      have := hp p hpm
      omega
    | succ n ih =>
      intro i hi e
      have hil : i < s.length := by rw [← hl]; exact (List.getElem?_eq_some_iff.mp e).1
      have hs : s[i]? = some s[i] := List.getElem?_eq_getElem hil
      obtain ⟨w, hw, hp⟩ := hrk i _ hs
      refine h i _ w hs hw ⟨e, fun p hpm => ?_⟩
      have h1 := hp p hpm
      have h2 := ((hg.kinds _ (List.mem_of_getElem? hs)).2.2 w hw).2.2 p hpm
      have h3 : os[p]? = some os[p] := List.getElem?_eq_getElem (by omega)
      have h4 := ih p (by omega)
      cases q : os[p]'(by omega) with
      | none => rw [q] at h3; exact absurd h3 h4
      | some d => exact ⟨d, by rw [h3, q]⟩
  exact nones_zero fun i => key (rk i) i (Nat.le_refl _)
/-- sizes by depth -/
def szOf : Nat → Nat
  | 0 => 0
  | n + 1 => 1 + 3 * szOf n
theorem szOf_mono (n : Nat) : szOf n ≤ szOf (n + 1) := by
  rw [szOf]
  omega
theorem sizes_le {n : Nat} : ∀ {ps : List Doc}, (∀ d ∈ ps, d.size ≤ n) → sizes ps ≤ ps.length * n
  | [], _ => by simp [sizes]
  | d :: r, h => by
    have h1 := h d List.mem_cons_self
    have h2 := sizes_le (n := n) (ps := r) fun e he => h e (List.mem_cons_of_mem _ he)
    rw [sizes, List.length_cons, Nat.succ_mul]
    omega
section
variable {K : PySem.W.Frag} {F : Fr} {b : Nat} {H1 : Hp} {a : Addr} {xs : List V} {σ : L2.St} {vs : List Nat} {g : TG} {tt : TT} {te : TE} {Q : VK}
/-- [elt for x in t if test]: whether something comes -/
theorem lcTf {f : Nat → Bool} (hs : SqT K H1 a xs) (hT : F.T b H1) (hz : xs.length ≤ 1000000)
    (step : ∀ (D : Addr) (i : Nat) (x : V) (H' : Hp), H1 D = none → Go F b H1 b H' → xs[i]? = some x → ∀ (P : VK) (Pn : Hp → Prop), (f i = true → ∀ y H3, Go F b H' b H3 → P y H3) → (f i = false → ∀ H3, Go F b H' b H3 → Pn H3) →
      g x (wipe σ vs) H' fun σ2 H2 => wipe σ2 vs = wipe σ vs ∧ tt σ2 H2 fun c H3 => if c = true then te σ2 H3 P else Pn H3)
    (fin : ∀ D ys H2, H1 D = none → Go F b H1 b H2 → H2 D = some (.lst ys) → (ys.isEmpty = true ↔ ∀ j < xs.length, f j = false) → Q (.ref D) H2) :
    tLc (iTup K (tC (.ref a))) g tt te vs σ H1 Q := by
  refine ⟨a, rfl, ⟨_, hs⟩, fun D hD => lc_tup (fun i H => Go F b H1 b H ∧ ∃ ys, H D = some (.lst ys) ∧ ys.length ≤ i ∧ (ys.isEmpty = true ↔ ∀ j < i, f j = false)) ⟨Go.new hT hD, [], upd_same, Nat.le_refl _, by simp⟩ (fun i H _ p => p.1.sqT hs) (fun i x H hx p => ?_) fun H p => ?_⟩
  · obtain ⟨gH, ys, h1, h2, h3⟩ := p
    have hi := (List.getElem?_eq_some_iff.mp hx).1
    refine step D i x H hD gH hx _ _ (fun hf y H3 g3 => ?_) fun hf H3 g3 => ?_
    · have nD := gH.nn hD
      refine ⟨ys, g3.keep nD h1, Nat.lt_of_lt_of_le (by omega : ys.length < 1000000) (by decide), (gH.trans g3).put hD, ys ++ [y], upd_same, by rw [List.length_append]; simp; omega, ?_⟩
      constructor
      · intro z
        simp at z
      · intro z
        rw [z i (by omega)] at hf
        cases hf
    · refine ⟨gH.trans g3, ys, g3.keep (gH.nn hD) h1, by omega, ?_⟩
      rw [h3]
      constructor
      · intro z j hj
        by_cases q : j < i
        · exact z j q
        · have e : j = i := by omega
          rw [e]
          exact hf
      · intro z j hj
        exact z j (by omega)
  · obtain ⟨gH, ys, h1, h2, h3⟩ := p
    exact fin D ys H hD gH h1 h3
end
/-! ### places in rows of whole numbers -/
theorem inV_ints (p : Nat) : ∀ ns : List Nat, inV (.int (p : Nat)) (ns.map fun n : Nat => V.int (n : Nat)) = decide (p ∈ ns)
  | [] => by simp [inV]
  | n :: r => by
    have ih := inV_ints p r
    unfold inV at ih ⊢
    rw [List.map_cons, List.any_cons, ih]
    have e : eqV (.int (n : Nat)) (.int (p : Nat)) = decide (p = n) := by
      show (((n : Nat) : Int) == ((p : Nat) : Int)) = _
      by_cases h : p = n
      · simp [h]
      · have h2 : ¬ ((n : Nat) : Int) = ((p : Nat) : Int) := by omega
        simp [h, h2]
    rw [e]
    by_cases h : p = n <;> simp [h]
theorem flat_ints (ns : List Nat) : (ns.map fun n : Nat => V.int (n : Nat)).all flatV = true := by
  rw [List.all_eq_true]
  intro v hv
  obtain ⟨n, _, rfl⟩ := List.mem_map.mp hv
  rfl
end Lf
namespace Lf
open PySem PySem.Spec PyProof.Rows L2
/-! ### what is reached -/
abbrev nI (ns : List Nat) : List V := ns.map fun n : Nat => V.int (n : Nat)
theorem nodup_len : ∀ (n : Nat) (l : List Nat), l.Nodup → (∀ k ∈ l, k < n) → l.length ≤ n
  | 0, l, _, h => by
    cases l with
    | nil => exact Nat.le_refl _
    | cons a r => exact absurd (h a List.mem_cons_self) (Nat.not_lt_zero _)
  | n + 1, l, hd, h => by
    by_cases q : n ∈ l
    · have e := List.length_erase_of_mem q
      have ih := nodup_len n (l.erase n) (hd.erase n) fun k hk => by
        have h1 := (hd.mem_erase_iff).mp hk
        have h2 := h k h1.2
        have h3 := h1.1
        omega
      have := List.length_pos_of_mem q
      omega
    · have ih := nodup_len n l hd fun k hk => by
        have h2 := h k hk
        have : k ≠ n := fun z => q (z ▸ hk)
        omega
      omega
/-- every way of the kind k stays within ord -/
def Closed (rows : Shp) (ord : List Nat) (k : Nat) : Prop := ∀ ws, rows[k]? = some ws → ∀ w ∈ ws, ∀ p ∈ w.2, p ∈ ord
structure ROk (rows : Shp) (ord : List Nat) (i : Nat) : Prop where
  zero : ord[0]? = some 0
  nd : ord.Nodup
  lt : ∀ k ∈ ord, k < rows.length
  cl : ∀ j < i, ∀ k, ord[j]? = some k → Closed rows ord k
theorem Closed.app {rows : Shp} {ord : List Nat} {k : Nat} (h : Closed rows ord k) (more : List Nat) : Closed rows (ord ++ more) k := fun ws e w hw p hp => List.mem_append_left _ (h ws e w hw p hp)
theorem ROk.app {rows : Shp} {ord : List Nat} {i p : Nat} (h : ROk rows ord i) (hi : i < ord.length) (hp : p ∉ ord) (hl : p < rows.length) : ROk rows (ord ++ [p]) i where
  zero := by
    rw [List.getElem?_append_left (by omega)]
    exact h.zero
  nd := by
    rw [List.nodup_append]
    refine ⟨h.nd, by simp, fun a ha b hb => ?_⟩
    rcases List.mem_singleton.mp hb with rfl
    exact fun e => hp (e ▸ ha)
  lt := fun k hk => by
    rcases List.mem_append.mp hk with q | q
    · exact h.lt k q
    · rcases List.mem_singleton.mp q with rfl
      exact hl
  cl := fun j hj k hk => by
    rw [List.getElem?_append_left (by omega)] at hk
    exact (h.cl j hj k hk).app _
theorem ROk.skip {rows : Shp} {ord : List Nat} {i : Nat} (h : ROk rows ord i) (hi : ord.length ≤ i) : ROk rows ord (i + 1) where
  zero := h.zero
  nd := h.nd
  lt := h.lt
  cl := fun j hj k hk => h.cl j (by have := (List.getElem?_eq_some_iff.mp hk).1; omega) k hk
theorem ROk.step {rows : Shp} {ord : List Nat} {i k : Nat} (h : ROk rows ord i) (hk : ord[i]? = some k) (hc : Closed rows ord k) : ROk rows ord (i + 1) where
  zero := h.zero
  nd := h.nd
  lt := h.lt
  cl := fun j hj k' hk' => by
    by_cases q : j < i
    · exact h.cl j q k' hk'
    · have e : j = i := by omega
      rw [e, hk] at hk'
      cases hk'
      exact hc
/-- all is reached -/
structure Reach (rows : Shp) (ord : List Nat) : Prop where
  zero : ord[0]? = some 0
  nd : ord.Nodup
  lt : ∀ k ∈ ord, k < rows.length
  cl : ∀ k ∈ ord, Closed rows ord k
theorem ROk.done {rows : Shp} {ord : List Nat} (h : ROk rows ord rows.length) : Reach rows ord :=
  ⟨h.zero, h.nd, h.lt, fun k hk => by
    obtain ⟨j, hj⟩ := List.mem_iff_getElem?.mp hk
    have h1 := nodup_len _ _ h.nd h.lt
    have h2 := (List.getElem?_eq_some_iff.mp hj).1
    exact h.cl j (by omega) k hj⟩
end Lf

set_option Elab.async false
set_option linter.all false
set_option maxRecDepth 100000
set_option maxHeartbeats 4000000
/-! K1a: the program's defs that law_k01 reaches. -/
namespace K01
open PySem PySem.Spec PyProof.Rows L2 Lf
open GxR (TabB TabG Tabbed GenS)
abbrev R : PySem.W.OpenRow := PySem.W.OpenLaw.row PySem.Challenge.rw_everyleaf_k01_whole_the_order_of_documen
def topS (i : Nat) : Stmt := PySem.Challenge.pw_everyleaf_k01_whole_the_order_of_documen.main.body.getD i (.Pass ⟨0, 0, 0, 0⟩)
/-- the built-ins that are read, the module's constants -/
structure Txt (mg : Str → Option Value) : Prop where
  len : mg "len" = none
  isinstance : mg "isinstance" = none
  str : mg "str" = none
  tuple : mg "tuple" = none
  list : mg "list" = none
  int : mg "int" = none
  all : mg "all" = none
  sum : mg "sum" = none
  range : mg "range" = none
  enumerate : mg "enumerate" = none
  zip : mg "zip" = none
  repr : mg "repr" = none
  sorted : mg "sorted" = none
  small : ∃ t, mg "SMALL" = some (.str smalls t)
  sign : ∃ t, mg "SIGNS" = some (.str Lf.signs t)
  longest : ∃ t, mg "LONGEST" = some (.int 8 t)
  names : ∃ t, mg "MOST_NAMES" = some (.int 2000 t)
  deeps : ∃ t, mg "MOST_DEEP" = some (.int 100 t)
  parts : ∃ t, mg "MOST_PARTS" = some (.int 3 t)
abbrev s_is_name : Stmt := topS 7
abbrev N_is_name : List Str := ["value"]
theorem sc_is_name : FnScope N_is_name ["value"] (defScope s_is_name) := ⟨rfl, rfl, rfl, by decide +kernel, rfl, by decide +kernel, by decide +kernel⟩
abbrev s_check_document : Stmt := topS 12
abbrev N_check_document : List Str := ["value", "waiting", "count", "one", "place", "number"]
theorem sc_check_document : FnScope N_check_document ["value"] (defScope s_check_document) := ⟨rfl, rfl, rfl, by decide +kernel, rfl, by decide +kernel, by decide +kernel⟩
abbrev s_need_document : Stmt := topS 13
abbrev N_need_document : List Str := ["document", "wrong"]
theorem sc_need_document : FnScope N_need_document ["document"] (defScope s_need_document) := ⟨rfl, rfl, rfl, by decide +kernel, rfl, by decide +kernel, by decide +kernel⟩
abbrev s_key_of : Stmt := topS 15
abbrev N_key_of : List Str := ["document", "parts", "part", "size"]
theorem sc_key_of : FnScope N_key_of ["document"] (defScope s_key_of) := ⟨rfl, rfl, rfl, by decide +kernel, rfl, by decide +kernel, by decide +kernel⟩
abbrev s_compared : Stmt := topS 16
abbrev N_compared : List Str := ["one", "other", "left", "right"]
theorem sc_compared : FnScope N_compared ["one", "other"] (defScope s_compared) := ⟨rfl, rfl, rfl, by decide +kernel, rfl, by decide +kernel, by decide +kernel⟩
section
variable {P : Program} {w : World} {K : PySem.W.Frag} {mg : Str → Option Value} {base : Heap}
/-! ### is_name -/
def spName (K : PySem.W.Frag) (P1 : Addr) : Sp := fun vs H Q _ => ∃ (F : Fr) (b : Nat) (v : V) (d : PyData), vs = [v] ∧ F.T b H ∧ HasTab F P1 ∧ Dt K H v d ∧ (∀ s, d = .str s → s.length ≤ 1000) ∧ ∀ H', Go F b H b H' → Q (.bl (isName d)) H'
theorem pr_is_name {f c P1 : Addr} {fd : FuncData} {k : Nat} (T : Txt mg) (D : Def K mg "is_name" ["value"] s_is_name f fd) (hc : fd.code = .ref c) (TB : TabB base mg c P1) : Pr P w K mg base (k + 1) "is_name" ["value"] (spName K P1) := by
  refine Pr.of' D sc_is_name (fun vs H Q E h => ?_) fun cdv A outer s H vs Q E hcd hG hr h => ?_
  · obtain ⟨_, _, _, _, rfl, _⟩ := h
    rfl
  · obtain ⟨F, b, v, d, rfl, hT, hP, hd, hs, q⟩ := h
    have ecd : cdv = .ref c := hcd.symm.trans hc
    subst ecd
    obtain ⟨t1, m_SMALL⟩ := T.small
    obtain ⟨t2, m_SIGNS⟩ := T.sign
    obtain ⟨t3, m_LONGEST⟩ := T.longest
    refine ⟨_, (pss_cons (ps_if (PW.pt (pw_or (pt_not (pt_val (pe_callB call_isD (by rfl) T.isinstance (by decide +kernel) (pa_cons (pv 0) (pa_cons (pe_bltn (by rfl) T.str (by decide +kernel) (show RelV (.ty "str") (.type "str") from rfl)) pa_nil))))) (pw_or1 (pt_not (pt_chain op_le op_le pe_int (pe_callB call_len_str (by rfl) T.len PySem.boot_len (pa_cons (pv 0) pa_nil)) (pe_glob rfl m_LONGEST (show RelV (.int 8) (.int 8 _) from ⟨_, rfl⟩))))))) (
    (pss_one (ps_ret pe_bl))) (pss_nil))
  (pss_cons (ps_if (pt_cmpR op_notIn_sign (pe_ix ix_str (pv 0) pe_int (fun _ _ => rfl)) (pe_glob rfl m_SMALL (show RelV (.str smalls) (.str smalls _) from ⟨_, rfl⟩)) rfl) (
    (pss_one (ps_ret pe_bl))) (pss_nil))
  (pss_one (ps_ret (LfG.pe_allG (R := fun v H n f => ∃ a, v = .str a ∧ (∃ q, H P1 = some (.tbl q)) ∧ n = a.cps.size ∧ f = fun i => match a.cps.toList[i]? with | some c => decide (c ∈ Lf.signs.cps.toList) | none => false)
      hr T.all TB rfl ⟨rfl, rfl, by decide +kernel, rfl, rfl, fun y hy e => absurd e (by revert y; decide +kernel)⟩ (pv 0) (fun pins σ v H1 n f s1 u hR I1 r1 => by
        obtain ⟨a, rfl, hp, rfl, rfl⟩ := hR
        obtain ⟨t, rfl⟩ := r1
        exact LfG.src_signs I1 hp rfl rfl rfl m_SIGNS)))))), ?_⟩
    have other : ∀ (u : V) (e : PyData), Dt K H u e → (∀ x, e ≠ .str x) → isName e = false := fun u e _ h => by
      cases e with
      | str x => exact absurd rfl (h x)
      | _ => rfl
    have kit : ∀ e : PyData, (∀ x, e ≠ .str x) → (∀ u, Dt K H u e → kitB (tyD e) "str" = some false) := fun e h u hu => by
      cases hu with
      | str x => exact absurd rfl (h x)
      | non => exact (by decide +kernel : kitB "NoneType" "str" = some false)
      | bl _ => exact (by decide +kernel : kitB "bool" "str" = some false)
      | int _ => exact (by decide +kernel : kitB "int" "str" = some false)
      | tup _ _ => exact (by decide +kernel : kitB "tuple" "str" = some false)
    have q0 := q H (Go.refl hT)
    by_cases hstr : ∃ x, d = .str x
    · obtain ⟨x, rfl⟩ := hstr
      have hv := hd.inv_str
      subst hv
      have hl : x.length ≤ sizeLine := Nat.le_trans (hs x rfl) (by decide)
      have hsz : x.length = x.cps.toList.length := Array.length_toList.symm
      refine ⟨.str x, rfl, .str x, "str", .str x, true, rfl, .str x, (by decide +kernel : kitB "str" "str" = some true), true, rfl, ?_⟩
      refine iteF ?_
      refine ⟨_, rfl, x, rfl, hl, 1, _, rfl, rfl, _, rfl, ?_⟩
      by_cases h1 : (1 : Int) ≤ (x.length : Nat)
      · refine (if_pos (decide_eq_true h1)).mpr ?_
        refine ⟨_, 8, rfl, rfl, _, rfl, ?_⟩
        by_cases h2 : ((x.length : Nat) : Int) ≤ 8
        · rw [decide_eq_true h2]
          refine iteF ?_
          obtain ⟨c0, r0, e0⟩ : ∃ c0 r0, x.cps.toList = c0 :: r0 := by
            cases e : x.cps.toList with
            | nil => rw [hsz, e] at h1; simp at h1
            | cons c0 r0 => exact ⟨c0, r0, rfl⟩
          have n1 : 1 ≤ x.length := by omega
          have n2 : x.length ≤ 8 := by omega
          refine ⟨_, rfl, x, 0, c0, rfl, rfl, hl, atI_nat (j := 0) (by rw [e0]; rfl), c0, smalls, rfl, rfl, _, rfl, ?_⟩
          by_cases h3 : c0 ∈ smalls.cps.toList
          · rw [decide_eq_true h3]
            refine iteF ?_
            obtain ⟨pq, hp1, hp2⟩ := hP.g _ _ hT
            refine ⟨_, rfl, ⟨pq, hp1, hp2⟩, x.cps.size, _, ⟨x, rfl, ⟨pq, hp1⟩, rfl, rfl⟩, fun H2 ht => ?_⟩
            have e : isName (.str x) = (List.range x.cps.size).all fun i => match x.cps.toList[i]? with | some c => decide (c ∈ Lf.signs.cps.toList) | none => false := by
              show isNameS x = _
              rw [← Array.length_toList]
              refine Eq.trans ?_ ((Lf.all_range x.cps.toList (fun c => decide (c ∈ Lf.signs.cps.toList))).symm.trans (congrArg (List.all (List.range x.cps.toList.length)) (funext fun i => by cases x.cps.toList[i]? <;> rfl)))
              unfold isNameS
              rw [decide_eq_true n1, decide_eq_true n2, e0]
              show (true && true && decide (c0 ∈ smalls.cps.toList) && _) = _
              rw [decide_eq_true h3]
              rfl
            have q1 := q H2 (Go.tabbed hP hT ht)
            rw [e] at q1
            exact q1
          · rw [decide_eq_false h3]
            refine iteT ?_
            have e : isName (.str x) = false := by
              show isNameS x = false
              unfold isNameS
              rw [e0]
              simp [h3]
            rw [e] at q0
            exact q0
        · rw [decide_eq_false h2]
          refine iteT ?_
          have e : isName (.str x) = false := by
            show isNameS x = false
            unfold isNameS
            have : ¬ x.length ≤ 8 := by omega
            simp [this]
          rw [e] at q0
          exact q0
      · refine (if_neg (by rw [decide_eq_false h1]; exact Bool.false_ne_true)).mpr ?_
        refine ⟨_, rfl, iteT ?_⟩
        have e : isName (.str x) = false := by
          show isNameS x = false
          unfold isNameS
          have : ¬ 1 ≤ x.length := by omega
          simp [this]
        rw [e] at q0
        exact q0
    · have hn : ∀ x, d ≠ .str x := fun x e => hstr ⟨x, e⟩
      refine ⟨v, rfl, v, "str", d, false, rfl, hd, kit d hn v hd, false, rfl, iteT ?_⟩
      rw [other v d hd hn] at q0
      exact q0
/-! ### check_document -/
def spChk (K : PySem.W.Frag) (P1 : Addr) : Sp := fun vs H Q _ => ∃ (F : Fr) (b : Nat) (v : V) (d : PyData) (n : Nat) (r : Option (List Nat)), vs = [v] ∧ F.T b H ∧ HasTab F P1 ∧ Dt K H v d ∧ sh d = true ∧ chk n [(d, [])] 0 = some r ∧
  ∀ H' u, Go F b H b H' → (match r with | none => u = .non | some pl => Dt K H' u (encPl pl)) → Q u H'
structure ChkI (K : PySem.W.Frag) (F : Fr) (b : Nat) (H : Hp) (l : Addr) (v : V) (r : Option (List Nat)) (m : Nat) (σ : L2.St) (Hc : Hp) : Prop where
  ex : ∃ (st : List (PyData × List Nat)) (c : Nat) (ys : List V) (y3 y4 y5 : Option V), σ = [some v, some (.ref l), some (.int (c : Nat)), y3, y4, y5] ∧ Go F b H b Hc ∧ Hc l = some (.lst ys) ∧ DtAll K Hc ys (st.reverse.map encW) ∧ chk m st c = some r ∧
    (∀ e ∈ st, sh e.1 = true ∧ e.2.length ≤ 100) ∧ st.length ≤ 1 + 3 * c ∧ c ≤ 2000
structure PushI (K : PySem.W.Frag) (F : Fr) (b : Nat) (H H0 : Hp) (l : Addr) (v x1 x2 : V) (c : Nat) (st : List (PyData × List Nat)) (σ : L2.St) (Hc : Hp) : Prop where
  ex : ∃ (ys : List V) (y5 : Option V), σ = [some v, some (.ref l), some (.int (c : Nat)), some x1, some x2, y5] ∧ Go F b H b Hc ∧ Ts H0 Hc ∧ Hc l = some (.lst ys) ∧ DtAll K Hc ys (st.reverse.map encW)
theorem pr_check_document {f P1 : Addr} {fd : FuncData} {k : Nat} (T : Txt mg) (D : Def K mg "check_document" ["value"] s_check_document f fd) (G_is_name : Pr P w K mg base k "is_name" ["value"] (spName K P1)) : Pr P w K mg base (k + 1) "check_document" ["value"] (spChk K P1) := by
  refine Pr.of' D sc_check_document (fun vs H Q E h => ?_) fun cdv A outer s H vs Q E hcd hG hr h => ?_
  · obtain ⟨_, _, _, _, _, _, rfl, _⟩ := h
    rfl
  · obtain ⟨F, b, v, d, n, r, rfl, hT, hP, hd, hs, hk, q⟩ := h
    obtain ⟨t1, m_MOST_NAMES⟩ := T.names
    obtain ⟨t2, m_MOST_DEEP⟩ := T.deeps
    obtain ⟨t3, m_MOST_PARTS⟩ := T.parts
    refine ⟨_, (pss_cons (ps_set (i := 1) sc_check_document.nd rfl (Or.inl rfl) (pe_lst (pa_cons (pe_tup (pa_cons (pv 0) (pa_cons (pe_tup pa_nil) pa_nil))) pa_nil)))
  (pss_cons (ps_set (i := 2) sc_check_document.nd rfl (Or.inl rfl) pe_int)
  (pss_cons (ps_while (passes_of rfl) (pt_cmpR (op_neL0 (hu0 hr)) (pv 1) (pe_lst pa_nil) (nomark _)) (
    (pss_cons (ps_asg (pe_bm0 PySem.F.plainAttrs_list PySem.F.slot_list_pop PySem.F.type_list_pop mt_pop (pv 1)) (pg_tup rfl (pgs_cons (pg_name (i := 3) sc_check_document.nd rfl (Or.inl rfl)) (pgs_cons (pg_name (i := 4) sc_check_document.nd rfl (Or.inl rfl)) pgs_nil))))
    (pss_cons (ps_aug (i := 2) sc_check_document.nd rfl (Or.inl rfl) pe_int ip_add)
    (pss_cons (ps_if (PW.pt (pw_or (pt_not (pt_val (pe_callB call_isD (by rfl) T.isinstance (by decide +kernel) (pa_cons (pv 3) (pa_cons (pe_bltn (by rfl) T.tuple (by decide +kernel) (show RelV (.ty "tuple") (.type "tuple") from rfl)) pa_nil))))) (pw_or (pt_cmpR (op_eqT0 (hu0 hr)) (pv 3) (pe_tup pa_nil) (nomark _)) (pw_or (pt_cmpR op_gt (pe_callB call_len_seq (by rfl) T.len PySem.boot_len (pa_cons (pv 3) pa_nil)) (pe_op op_add pe_int (pe_glob rfl m_MOST_PARTS (show RelV (.int 3) (.int 3 _) from ⟨_, rfl⟩))) (nomark _)) (pw_or1 (pt_not (pt_val (pcall hG G_is_name hr (pa_cons (pe_ix ix_tup (pv 3) pe_int (fun _ _ => rfl)) pa_nil))))))))) (
      (pss_one (ps_ret (pv 4)))) (pss_nil))
    (pss_cons (ps_if (PW.pt (pw_or (pt_cmpR op_gt (pv 2) (pe_glob rfl m_MOST_NAMES (show RelV (.int 2000) (.int 2000 _) from ⟨_, rfl⟩)) (nomark _)) (pw_or1 (pt_cmpR op_ge (pe_callB call_len_seq (by rfl) T.len PySem.boot_len (pa_cons (pv 4) pa_nil)) (pe_glob rfl m_MOST_DEEP (show RelV (.int 100) (.int 100 _) from ⟨_, rfl⟩)) (nomark _))))) (
      (pss_one (ps_ret (pv 4)))) (pss_nil))
    (pss_one (ps_for (passes_of rfl) rfl (pi_range3 (by rfl) T.range (pa_cons (pe_op op_sub (pe_callB call_len_seq (by rfl) T.len PySem.boot_len (pa_cons (pv 3) pa_nil)) pe_int) (pa_cons pe_int (pa_cons (pe_un un_neg pe_int) pa_nil)))) (pg_name (i := 5) sc_check_document.nd rfl (Or.inl rfl)) (
      (pss_one (ps_expr (pe_bm PySem.F.plainAttrs_list PySem.F.slot_list_append PySem.F.type_list_append mt_append (pv 1) (pa_cons (pe_tup (pa_cons (pe_ix ix_tup (pv 3) (pv 5) (fun _ _ => rfl)) (pa_cons (pe_op op_catA (pv 4) (pe_tup (pa_cons (pe_op op_sub (pv 5) pe_int) pa_nil))) pa_nil))) pa_nil)))))))))))))
  (pss_one (ps_ret pe_non))))), ?_⟩
    have g0 : Go F b H b H := Go.refl hT
    refine ⟨v, rfl, Nat.zero_le _, fun p0 n0 => ⟨by show 2 ≤ sizeLine; decide, fun p1 n1 => ⟨by show 1 ≤ sizeLine; decide, fun l nl => ?_⟩⟩⟩
    have g1 := g0.add (o := .tup []) n0
    have g2 := g1.add (o := .tup [v, .ref p0]) n1
    have g3 := g2.add (o := .lst [.ref p1]) nl
    have nl0 : H l = none := g2.was nl
    have hw : DtAll K _ [V.ref p1] [encW (d, [])] := .cons ((Go.new (o := .lst [.ref p1]) g2.r nl).dt (dt_new n1 (.cons (g1.dt hd) (.cons (dt_new n0 .nil) .nil)))) .nil
    refine ⟨ChkI K F b H l v r, ⟨n, ⟨[(d, [])], 0, _, none, none, none, rfl, g3, upd_same, hw, hk, fun e he => ?_, by simp, by omega⟩⟩, fun m σ Hc hW => ?_⟩
    · rcases List.mem_singleton.mp he with rfl
      exact ⟨hs, Nat.zero_le _⟩
    obtain ⟨st, c, ys, y3, y4, y5, rfl, gc, hl, hys, hck, hst, hsl, hc2⟩ := hW.ex
    refine ⟨.ref l, rfl, neL0 gc.r hl fun H4 g4' hl4 => ⟨_, rfl, ?_⟩⟩
    have g4 := gc.trans g4'
    have hy4 := g4'.dta hys
    cases m with
    | zero => simp [chk] at hck
    | succ m =>
      cases st with
      | nil =>
        cases hys
        refine iteF ?_
        simp only [chk, Option.some.injEq] at hck
        subst hck
        exact q _ _ g4 rfl
      | cons e st =>
        obtain ⟨d1, pl⟩ := e
        rw [List.reverse_cons, List.map_append] at hy4
        obtain ⟨zs, y, rfl, hz, hy⟩ := hy4.snoc_inv
        obtain ⟨a, xs, rfl, hsq, ha⟩ := hy.inv
        obtain ⟨x1, r1, rfl, hx1, hr1⟩ := ha.inv
        obtain ⟨x2, r2, rfl, hx2, hr2⟩ := hr1.inv
        cases hr2
        obtain ⟨hsh, hpl⟩ := hst _ List.mem_cons_self
        have hst' : ∀ e ∈ st, sh e.1 = true ∧ e.2.length ≤ 100 := fun e he => hst e (List.mem_cons_of_mem _ he)
        refine (if_pos (show (!(zs ++ [V.ref a]).isEmpty) = true by simp)).mpr ?_
        refine ⟨ChkI K F b H l v r m, fun σ' H' h => ⟨m, Nat.lt_succ_self _, h⟩, ?_⟩
        have t5 : Ts H4 (upd H4 l (.lst (zs ++ [V.ref a]).dropLast)) := ts_lst hl4
        have g5 : Go F b H b (upd H4 l (.lst (zs ++ [V.ref a]).dropLast)) := g4.put nl0
        have hl5 : (upd H4 l (.lst (zs ++ [V.ref a]).dropLast)) l = some (.lst zs) := by rw [List.dropLast_concat]; exact upd_same
        have hx1' := Dt.ts t5 _ _ hx1
        have hx2' := Dt.ts t5 _ _ hx2
        have hz' := DtAll.ts t5 _ _ hz
        refine ⟨.ref l, rfl, isL hl4, l, _, _, rfl, rfl, hl4, by simp, a, _, rfl, sqT_ts t5 hsq, rfl, x1, _, rfl, x2, _, rfl, rfl, ?_⟩
        generalize upd H4 l (.lst (zs ++ [V.ref a]).dropLast) = H5 at *
        clear t5 hsq ha hy hr1
        refine ⟨_, rfl, _, _, rfl, rfl, ?_⟩
        simp only [chk] at hck
        -- return place
        have back : ∀ H', Go F b H5 b H' → (badOne d1 || decide (c + 1 > 2000) || decide (pl.length ≥ 100)) = true → Q x2 H' := fun H' g' hb => by
          rw [if_pos hb] at hck
          cases hck
          exact q _ _ (g5.trans g') (g'.dt hx2')
        have h1 : badOne d1 = true → (badOne d1 || decide (c + 1 > 2000) || decide (pl.length ≥ 100)) = true := fun h => by simp [h]
        refine ⟨x1, rfl, x1, "tuple", d1, _, rfl, hx1', kit_tuple _ hx1', _, rfl, ?_⟩
        cases hx1' with
        | non => exact iteT (iteT ⟨x2, rfl, back _ (Go.refl g5.r) (h1 rfl)⟩)
        | bl _ => exact iteT (iteT ⟨x2, rfl, back _ (Go.refl g5.r) (h1 rfl)⟩)
        | int _ => exact iteT (iteT ⟨x2, rfl, back _ (Go.refl g5.r) (h1 rfl)⟩)
        | str _ => exact iteT (iteT ⟨x2, rfl, back _ (Go.refl g5.r) (h1 rfl)⟩)
        | @tup a1 us ds hs1 hu1 =>
          have hD : Dt K H5 (.ref a1) (.tuple ds) := .tup hs1 hu1
          refine iteF ?_
          refine ⟨_, rfl, eqT0 g5.r hD fun H6 g6' => ⟨_, rfl, ?_⟩⟩
          cases ds with
          | nil => exact iteT (iteT ⟨x2, rfl, back _ g6' (h1 rfl)⟩)
          | cons y0 rr =>
            refine iteF ?_
            have hs6 := g6'.sqT hs1
            have hu6 := g6'.dta hu1
            have hln : us.length = rr.length + 1 := hu6.length
            have hll6 : H6 l = some (.lst zs) := g6'.keep (g5.nn nl0) hl5
            refine ⟨_, rfl, a1, us, rfl, .inr hs6, 1, 3, rfl, rfl, _, _, rfl, rfl, _, rfl, ?_⟩
            by_cases hbig : (1 + 3 : Int) < ((us.length : Nat) : Int)
            · have e1 : badOne (.tuple (y0 :: rr)) = true := by
                have : rr.length > 3 := by omega
                simp [badOne, this]
              rw [decide_eq_true hbig]
              exact iteT (iteT ⟨x2, rfl, back _ g6' (h1 e1)⟩)
            · rw [decide_eq_false hbig]
              refine iteF ?_
              obtain ⟨u0, r0, rfl, hu0, hr0⟩ := hu6.inv
              have hsh0 : sh y0 = true := shs_all _ hsh _ List.mem_cons_self
              refine ⟨_, rfl, a1, _, 0, u0, rfl, rfl, hs6, atI_nat (j := 0) rfl, F, b, u0, y0, rfl, g6'.r, hP, hu0, fun s0 e => ?_, fun H7 g7 _ => ⟨_, rfl, ?_⟩⟩
              · subst e
                exact of_decide_eq_true hsh0
              have g67 := g6'.trans g7
              cases hnm : isName y0 with
              | false =>
                have e1 : badOne (.tuple (y0 :: rr)) = true := by simp [badOne, hnm]
                exact iteT ⟨x2, rfl, back _ g67 (h1 e1)⟩
              | true =>
                have hnb : badOne (.tuple (y0 :: rr)) = false := by
                  have : ¬ rr.length > 3 := by omega
                  simp [badOne, hnm, this]
                refine iteF ?_
                refine ⟨_, rfl, _, _, rfl, rfl, _, rfl, ?_⟩
                by_cases hcn : (2000 : Int) < (c : Int) + 1
                · rw [decide_eq_true hcn]
                  exact iteT (iteT ⟨x2, rfl, back _ g67 (by have : c + 1 > 2000 := by omega
                                                            simp [this])⟩)
                · rw [decide_eq_false hcn]
                  have hx7 := (g67).dt hx2'
                  obtain ⟨a2, us2, rfl, hs2, hu2⟩ := hx7.inv
                  have hl2 : us2.length = pl.length := by rw [hu2.length, List.length_map]
                  refine iteF ⟨_, rfl, a2, us2, rfl, .inr hs2, _, _, rfl, rfl, _, rfl, ?_⟩
                  by_cases hpp : (100 : Int) ≤ ((us2.length : Nat) : Int)
                  · rw [decide_eq_true hpp]
                    exact iteT ⟨_, rfl, back _ g67 (by have : pl.length ≥ 100 := by omega
                                                       simp [this])⟩
                  · rw [decide_eq_false hpp]
                    have hno : (badOne (.tuple (y0 :: rr)) || decide (c + 1 > 2000) || decide (pl.length ≥ 100)) = false := by
                      have a : ¬ c + 1 > 2000 := by omega
                      have b : ¬ pl.length ≥ 100 := by omega
                      simp [hnb, a, b]
                    rw [if_neg (by rw [hno]; exact Bool.false_ne_true)] at hck
                    have g7' := g5.trans g67
                    have hs7 := g7.sqT hs6
                    have hr7 := g7.dta (DtAll.cons hu0 hr0)
                    have hl7 : H7 l = some (.lst zs) := g7.keep (g5.nn nl0) hll6
                    refine iteF ?_
                    have hlr : r0.length = rr.length := by simpa using hln
                    have hlen3 : ((V.int 0 :: r0).length : Int) = (rr.length : Int) + 1 := by simp [hlr]
                    have hM : ¬ rr.length > 3 := by
                      intro z
                      exact hbig (by simp only [List.length_cons]; omega)
                    have hzl : zs.length = st.length := by rw [hz'.length, List.length_map, List.length_reverse]
                    have hstl : st.length + 1 ≤ 1 + 3 * c := hsl
                    refine ⟨_, rfl, a1, _, rfl, .inr hs7, _, _, rfl, rfl, 1, rfl, _, _, _, _, rfl, RgC.neg ?_ ?_ (by omega) (by omega), for_rangeC (fun i σ H' => i ≤ rr.length ∧ PushI K F b H H7 l v (.ref a1) (.ref a2) (c + 1) ((kids (.tuple (y0 :: rr)) pl).drop (rr.length - i) ++ st) σ H') ?_ (fun i σ H' hi hp => ?_) fun σ H' hp => ?_⟩
                    · simp only [List.length_cons]; omega
                    · simp only [List.length_cons]; omega
                    · refine ⟨Nat.zero_le _, zs, _, rfl, g7', Ts.refl, hl7, ?_⟩
                      rw [Nat.sub_zero, List.drop_of_length_le (by rw [kids_len]; exact Nat.le_refl _), List.nil_append]
                      exact (g67).dta hz'
                    · obtain ⟨hi2, ys', y5', rfl, gi, ti, hli, hyi⟩ := hp
                      have hi3 : i < rr.length := by
                        simp only [List.length_cons] at hi
                        omega
                      obtain ⟨j, ej⟩ : ∃ j, rr.length = i + 1 + j := ⟨rr.length - (i + 1), by omega⟩
                      have en : ((((u0 :: r0).length : Nat) : Int) - 1) + (i : Int) * (-1) = ((j + 1 : Nat) : Int) := by
                        simp only [List.length_cons]
                        omega
                      have hDi : Dt K H' (.ref a1) (.tuple (y0 :: rr)) := .tup (sqT_ts ti hs7) (DtAll.ts ti _ _ hr7)
                      have hPi : Dt K H' (.ref a2) (encPl pl) := .tup (sqT_ts (g7.ts.trans ti |> fun _ => ti) hs2) (DtAll.ts ti _ _ hu2)
                      have hjr : rr[j]? = some (rr[j]'(by omega)) := List.getElem?_eq_getElem _
                      obtain ⟨uj, huj, hdj⟩ := (DtAll.ts ti _ _ hr7).getD (i := j + 1) (d := rr[j]'(by omega)) (by simpa using hjr)
                      have hst2 : ((kids (.tuple (y0 :: rr)) pl).drop (rr.length - i) ++ st).length ≤ 3000 + 2 + st.length := by
                        rw [List.length_append, List.length_drop, kids_len]
                        omega
                      have hyl : ys'.length < 1000000 := by
                        rw [hyi.length, List.length_map, List.length_reverse]
                        omega
                      refine ⟨.ref l, rfl, isL hli, _, rfl, _, rfl, a1, _, _, uj, rfl, rfl, sqT_ts ti hs7, ?_, _, rfl, _, rfl, _, _, rfl, rfl, by show 1 ≤ sizeLine; decide, fun p np => ?_⟩
                      · show atI (u0 :: r0) (((((u0 :: r0).length : Nat) : Int) - 1) + (i : Int) * (-1)) = _
                        rw [en]
                        exact atI_nat huj
                      have gp := Go.new (o := .tup [V.int ((((((u0 :: r0).length : Nat) : Int) - 1) + (i : Int) * (-1)) - 1)]) gi.r np
                      have hone : Dt K (upd H' p (.tup [V.int ((((((u0 :: r0).length : Nat) : Int) - 1) + (i : Int) * (-1)) - 1)])) (.ref p) (.tuple [.int (j : Nat)]) := by
                        refine dt_new np (.cons ?_ .nil)
                        have e2 : ((((((u0 :: r0).length : Nat) : Int) - 1) + (i : Int) * (-1)) - 1) = ((j : Nat) : Int) := by rw [en]; omega
                        rw [e2]
                        exact .int _
                      refine catA (F := F) (b := b) gp.r (gp.dt hPi) hone (by simp only [List.length_map, List.length_singleton]; omega) fun z H8 g8 hz8 => ⟨by show 2 ≤ sizeLine; decide, fun p2 np2 => ?_⟩
                      have g9 := (gp.trans g8).add (o := .tup [uj, z]) np2
                      have hl9 := g9.keep (g5.nn nl0) hli
                      refine ⟨l, ys', .ref p2, rfl, rfl, hl9, sz6' hyl, by omega, _, _, rfl, (gi.trans g9).put nl0, ti.trans (g9.ts.trans (ts_lst hl9)), upd_same, ?_⟩
                      have hnew : Dt K (upd H8 p2 (.tup [uj, z])) (.ref p2) (encW (rr[j]'(by omega), pl ++ [j])) := by
                        refine dt_new np2 (.cons ((gp.trans g8).dt hdj) (.cons ?_ .nil))
                        show Dt K H8 z (.tuple ((pl ++ [j]).map fun i : Nat => .int (i : Int)))
                        rw [List.map_append]
                        exact hz8
                      have hall := DtAll.ts (ts_lst (ws := ys' ++ [V.ref p2]) hl9) _ _ ((g9.dta hyi).snoc hnew)
                      have ed : (kids (.tuple (y0 :: rr)) pl).drop (rr.length - (i + 1)) = (rr[j]'(by omega), pl ++ [j]) :: (kids (.tuple (y0 :: rr)) pl).drop (rr.length - i) := by
                        have e3 : rr.length - (i + 1) = j := by omega
                        have e4 : rr.length - i = j + 1 := by omega
                        rw [e3, e4]
                        refine List.drop_eq_getElem_cons (by rw [kids_len]; omega) |>.trans ?_
                        congr 1
                        have := kids_at (x := y0) (r := rr) (pl := pl) (i := j)
                        rw [List.getElem?_eq_getElem (by rw [kids_len]; omega), hjr] at this
                        exact Option.some.inj this
                      rw [ed, List.cons_append, List.reverse_cons, List.map_append]
                      exact hall
                    · obtain ⟨hi2, ys', y5', rfl, gi, ti, hli, hyi⟩ := hp
                      have en : ((((u0 :: r0).length : Nat) : Int) - 1 - 0).toNat = rr.length := by
                        simp only [List.length_cons]
                        omega
                      rw [en, Nat.sub_self, List.drop_zero] at hyi
                      refine ⟨_, c + 1, ys', _, _, _, rfl, gi, hli, hyi, hck, fun e he => ?_, ?_, by omega⟩
                      · rcases List.mem_append.mp he with q1 | q1
                        · obtain ⟨p, hp, rfl⟩ := List.mem_map.mp q1
                          obtain ⟨_, _, h3⟩ := List.mem_zipIdx hp
                          refine ⟨shs_all _ hsh _ (List.mem_cons_of_mem _ ?_), ?_⟩
                          · rw [h3]
                            exact List.getElem_mem _
                          · show (pl ++ [p.2]).length ≤ 100
                            rw [List.length_append, List.length_singleton]
                            omega
                        · exact hst' e q1
                      · rw [List.length_append, kids_len]
                        omega
end
end K01

set_option Elab.async false
set_option linter.all false
set_option maxRecDepth 100000
set_option maxHeartbeats 4000000
/-! K1b: need_document, key_of, compared. -/
namespace K01
open PySem PySem.Spec PyProof.Rows L2 Lf
open GxR (TabB TabG Tabbed GenS)
open LfX (SupTxt)
open PySem.W (alike alikeAll dataLt)
section
variable {P : Program} {w : World} {K : PySem.W.Frag} {mg : Str → Option Value} {base : Heap}
/-! ### need_document -/
def spNeed (K : PySem.W.Frag) (P1 C : Addr) : Sp := fun vs H Q E => ∃ (F : Fr) (b : Nat) (v : V) (d : PyData) (n : Nat) (r : Option (List Nat)), vs = [v] ∧ F.T b H ∧ HasTab F P1 ∧ Dt K H v d ∧ sh d = true ∧ chk n [(d, [])] 0 = some r ∧
  (match r with
    | none => ∀ H', Go F b H b H' → Q v H'
    | some pl => ∀ H' x u, Go F b H b H' → H' x = some (.xd [("place", u)]) → Dt K H' u (encPl pl) → E (.ref C) (some x) H')
theorem pr_need_document {f P1 C fI : Addr} {fd : FuncData} {k : Nat} (T : Txt mg) (TS : SupTxt P K mg "BadDocument" C fI "place") (D : Def K mg "need_document" ["document"] s_need_document f fd) (G_check_document : Pr P w K mg base k "check_document" ["value"] (spChk K P1)) :
    Pr P w K mg base (k + 1) "need_document" ["document"] (spNeed K P1 C) := by
  refine Pr.of' D sc_need_document (fun vs H Q E h => ?_) fun cdv A outer s H vs Q E hcd hG hr h => ?_
  · obtain ⟨_, _, _, _, _, _, rfl, _⟩ := h
    rfl
  · obtain ⟨F, b, v, d, n, r, rfl, hT, hP, hd, hs, hk, q⟩ := h
    refine ⟨_, (pss_cons (ps_set (i := 1) sc_need_document.nd rfl (Or.inl rfl) (pcall hG G_check_document hr (pa_cons (pv 0) pa_nil)))
  (pss_cons (ps_if (pt_cmpR op_notN (pv 1) pe_non (nomark _)) (
    (pss_one (LfX.ps_raiseSup rfl TS hr (takes_of rfl rfl rfl rfl) (pa_cons (pv 1) pa_nil)))) (pss_nil))
  (pss_one (ps_ret (pv 0))))), ?_⟩
    refine ⟨_, rfl, F, b, v, d, n, r, rfl, hT, hP, hd, hs, hk, fun H' u g hu _ => ?_⟩
    cases r with
    | none =>
      have hu' : u = .non := hu
      subst hu'
      refine ⟨_, rfl, rfl, _, rfl, iteF ?_⟩
      exact ⟨v, rfl, q H' g⟩
    | some pl =>
      have hu' : Dt K H' u (encPl pl) := hu
      obtain ⟨a, us, rfl, _, _⟩ := hu'.inv
      refine ⟨_, rfl, rfl, _, rfl, iteT ?_⟩
      exact ⟨_, rfl, _, rfl, fun x hx => q _ x (.ref a) (g.add hx) upd_same ((Go.new g.r hx).dt hu')⟩
/-! ### key_of -/
def spKey (K : PySem.W.Frag) (P2 : Addr) (n : Nat) : Sp := fun vs H Q _ => ∃ (F : Fr) (b : Nat) (v : V) (d : Doc), vs = [v] ∧ F.T b H ∧ HasTab F P2 ∧ Dt K H v d.enc ∧ d.deep ≤ n ∧ d.size ≤ 1000000 ∧ ∀ H' u, Go F b H b H' → Dt K H' u d.key → Q u H'
theorem pr_key_of {f c P2 : Addr} {fd : FuncData} {k : Nat} (T : Txt mg) (D : Def K mg "key_of" ["document"] s_key_of f fd) (hc : fd.code = .ref c) (TB : TabB base mg c P2) : ∀ n, Pr P w K mg base (k + n) "key_of" ["document"] (spKey K P2 n)
  | 0 => ⟨f, fd, D.mg, D.fn.kp, ⟨fun vs H Q E h => by
      obtain ⟨_, _, _, _, rfl, _⟩ := h
      rfl, fun A outer s H args us vs Q E _ _ _ _ _ h => by
      obtain ⟨_, _, _, ⟨_, _⟩, _, _, _, _, hn, _⟩ := h
      rw [Doc.deep] at hn
      omega⟩, D.bd⟩
  | n + 1 => by
    have G_key_of := pr_key_of (k := k) T D hc TB n
    refine Pr.of' D sc_key_of (fun vs H Q E h => ?_) fun cdv A outer s H vs Q E hcd hG hr h => ?_
    · obtain ⟨_, _, _, _, rfl, _⟩ := h
      rfl
    · obtain ⟨F, b, v, d, rfl, hT, hP, hd, hn, hz, q⟩ := h
      have ecd : cdv = .ref c := hcd.symm.trans hc
      subst ecd
      refine ⟨_, (pss_cons (ps_setLc (i := 1) (own := [("part", 2)]) rfl sc_key_of.nd rfl rfl (sw_true rfl rfl rfl (by decide +kernel)) (pi_tup (pe_slice sl_tupA (pv 0) (po_some pe_int) po_none)) (blkOk_by (own := [("part", 2)]) (N := N_key_of) (sc := defScope s_key_of) (by decide +kernel)) (fun _ _ _ _ _ => (pg_name (i := 2) sc_key_of.nd rfl (Or.inl rfl))) (fun _ _ _ _ _ => pts_nil) (fun _ _ _ _ _ => (pcall hG G_key_of hr (pa_cons (pv 2) pa_nil))))
  (pss_cons (ps_set (i := 3) sc_key_of.nd rfl (Or.inl rfl) (pe_op op_add pe_int (LfG.pe_sumG (R := fun v H ns => ∃ (l : Addr) (vs : List V), v = .ref l ∧ (∃ q, H P2 = some (.tbl q)) ∧ SqL K H l vs ∧ vs.length = ns.length ∧ ∀ (i : Nat) (v : V) (n : Int), vs[i]? = some v → ns[i]? = some n → ∃ (a : Addr) (r : List V), v = .ref a ∧ SqT K H a (.int n :: r))
      hr T.sum TB rfl ⟨rfl, rfl, by decide +kernel, rfl, rfl, fun y hy e => absurd e (by revert y; decide +kernel)⟩ (pv 1) (fun pins σ v H1 ns s1 u hR I1 r1 => by
        obtain ⟨l, vs, rfl, hp, hL, hlen, hv⟩ := hR
        cases r1
        exact LfG.src_heads I1 hp hL hlen hv rfl rfl))))
  (pss_one (ps_ret (pe_tup (pa_cons (pv 3) (pa_cons (pe_ix ix_tup (pv 0) pe_int (fun _ _ => rfl)) (pa_cons (pe_callB call_len_seq (by rfl) T.len PySem.boot_len (pa_cons (pv 1) pa_nil)) (pa_cons (pe_callTy call_tuple_of (by rfl) T.tuple (by decide +kernel) (pa_cons (pv 1) pa_nil)) pa_nil))))))))), ?_⟩
      obtain ⟨n0, ps⟩ := d
      rw [Doc.enc] at hd
      rw [Doc.deep] at hn
      rw [Doc.size] at hz
      have hlen := encs_len ps
      have hls := len_le_sizes ps
      dsimp only [tSeq, tAsg]
      refine tLc_iTup ?_
      refine ⟨_, rfl, 1, rfl, ?_⟩
      dsimp only [tNoPart]
      refine sl1D hT hd fun p us H1 g1 hp hus => ?_
      have hus' := hus.length
      refine lcT (K := K) (F := F) (b := b) (e := 0) (g := gName 2) (vs := [2]) (R := fun _ i y H => ∃ e, ps[i]? = some e ∧ Dt K H y e.key) (.inl (.inl hp)) g1.r (by omega) (fun D i H H' y _ t h => by
        obtain ⟨e, h1, h2⟩ := h
        exact ⟨e, h1, Dt.ts t _ _ h2⟩) (fun L i x H2 hL hI hx Pq hPq => ?_) fun L ys H2 hL g2 hl2 hly hall => ?_
      · obtain ⟨e, he, hx2⟩ := hus.get hx
        rw [encs_map, List.getElem?_map] at he
        cases hpi : ps[i]? with
        | none => rw [hpi] at he; cases he
        | some di =>
          rw [hpi] at he
          cases he
          have hm := List.mem_of_getElem? hpi
          have gI := hI.go
          have hdeep := (deeps_le (n := deeps ps) ps).mp (Nat.le_refl _) _ hm
          have hsz := size_le_sizes hm
          refine ⟨rfl, _, rfl, F, b, x, di, rfl, gI.r, hP, gI.dt hx2, by omega, by omega, fun H3 u g3 hu _ => hPq _ _ g3 ⟨di, hpi, hu⟩⟩
      · have g2' : Go F b H1 b H2 := g2
        have hyps : ys.length = ps.length := by omega
        have hkeys : DtAll K H2 ys (keys ps) := dtAll_idx (by rw [keys_len]; exact hyps) fun i v d h1 h2 => by
          obtain ⟨e, he, hd'⟩ := hall i v h1
          rw [keys_map, List.getElem?_map, he] at h2
          cases h2
          exact hd'
        have hsum := sizes_int ps
        refine ⟨_, rfl, hP.g _ _ g2'.r, ps.map (fun e => (e.size : Int)), ⟨L, ys, rfl, ?_, .inl (.inl hl2), by rw [List.length_map]; exact hyps, fun i v n h1 h2 => ?_⟩, fun z hz => ?_, by rw [hsum]; omega, fun H3 t3 => ⟨1, _, rfl, rfl, ?_⟩⟩
        · obtain ⟨q1, q2, _⟩ := hP.g _ _ g2'.r
          exact ⟨q1, q2⟩
        · obtain ⟨e, he, hd'⟩ := hall i v h1
          rw [List.getElem?_map, he] at h2
          cases h2
          obtain ⟨m0, ms⟩ := e
          rw [Doc.key] at hd'
          obtain ⟨a, xs, rfl, hs, ha⟩ := hd'.inv
          obtain ⟨v0, r0, rfl, h3, _⟩ := ha.inv
          have h4 := h3.inv_int
          subst h4
          exact ⟨a, r0, rfl, hs⟩
        · obtain ⟨e, _, rfl⟩ := List.mem_map.mp hz
          omega
        · have g3 := g1.trans (g2'.trans (Go.tabbed hP g2'.r t3))
          have g23 := Go.tabbed hP g2'.r t3
          have hl3 := g23.keep (g2'.nn hL) hl2
          obtain ⟨a0, us0, rfl, hs0, ha0⟩ := hd.inv
          obtain ⟨u0, r0, rfl, hu0, hr0⟩ := ha0.inv
          have hu0' := hu0.inv_str
          subst hu0'
          refine ⟨_, rfl, _, rfl, a0, _, 0, _, rfl, rfl, g3.sqT hs0, atI_nat (j := 0) rfl, _, rfl, L, ys, rfl, .inl (.inl (.inl hl3)), _, rfl, L, ys, rfl, .inl ⟨.inl (.inl hl3), fun p5 n5 => ⟨by show 4 ≤ sizeLine; decide, fun p6 n6 => ?_⟩⟩⟩
          have g5 := g3.add (o := .tup ys) n5
          refine q _ _ (g5.add n6) ?_
          rw [Doc.key]
          refine dt_new n6 (.cons ?_ (.cons (.str _) (.cons ?_ (.cons (dt_new n5 (g23.dta hkeys)) .nil))))
          · rw [hsum]
            have e1 : (1 : Int) + ((sizes ps : Nat) : Int) = ((1 + sizes ps : Nat) : Int) := by omega
            show Dt K _ (.int ((1 : Int) + ((sizes ps : Nat) : Int))) _
            rw [e1]
            exact .int _
          · rw [hyps]
            exact .int _
/-! ### compared -/
def errTo (K : PySem.W.Frag) (F : Fr) (b : Nat) (H : Hp) (C : Addr) (pl : List Nat) (E : XK) : Prop := ∀ H' x u, Go F b H b H' → H' x = some (.xd [("place", u)]) → Dt K H' u (encPl pl) → E (.ref C) (some x) H'
def spCmp (K : PySem.W.Frag) (P1 P2 C : Addr) (n : Nat) : Sp := fun vs H Q E => ∃ (F : Fr) (b : Nat) (v u : V) (d e : PyData), vs = [v, u] ∧ F.T b H ∧ HasTab F P1 ∧ HasTab F P2 ∧ Dt K H v d ∧ Dt K H u e ∧ sh d = true ∧ sh e = true ∧
  ((∃ pl m, chk m [(d, [])] 0 = some (some pl) ∧ errTo K F b H C pl E) ∨ (∃ pl m m', chk m [(d, [])] 0 = some none ∧ chk m' [(e, [])] 0 = some (some pl) ∧ errTo K F b H C pl E) ∨
    ∃ x y : Doc, d = x.enc ∧ e = y.enc ∧ x.fine = true ∧ y.fine = true ∧ x.deep ≤ n ∧ y.deep ≤ n ∧ x.size ≤ 2000 ∧ y.size ≤ 2000 ∧ ∀ H', Go F b H b H' → Q (.int (ahead x y)) H')
theorem pr_compared {f P1 P2 C : Addr} {fd : FuncData} {k n : Nat} (hn : n ≤ 100) (hk : n ≤ k) (T : Txt mg) (D : Def K mg "compared" ["one", "other"] s_compared f fd)
    (G_need_document : Pr P w K mg base k "need_document" ["document"] (spNeed K P1 C)) (G_key_of : Pr P w K mg base k "key_of" ["document"] (spKey K P2 n)) :
    Pr P w K mg base (k + 1) "compared" ["one", "other"] (spCmp K P1 P2 C n) := by
  refine Pr.of' D sc_compared (fun vs H Q E h => ?_) fun cdv A outer s H vs Q E hcd hG hr h => ?_
  · obtain ⟨_, _, _, _, _, _, rfl, _⟩ := h
    rfl
  · obtain ⟨F, b, v, u, d, e, rfl, hT, hP1, hP2, hd, he, hsd, hse, hw⟩ := h
    refine ⟨_, (pss_cons (ps_expr (pcallX hG G_need_document hr (takes_of rfl rfl rfl rfl) (pa_cons (pv 0) pa_nil)))
  (pss_cons (ps_expr (pcallX hG G_need_document hr (takes_of rfl rfl rfl rfl) (pa_cons (pv 1) pa_nil)))
  (pss_cons (ps_set (i := 2) sc_compared.nd rfl (Or.inl rfl) (pcall hG G_key_of hr (pa_cons (pv 0) pa_nil)))
  (pss_cons (ps_set (i := 3) sc_compared.nd rfl (Or.inl rfl) (pcall hG G_key_of hr (pa_cons (pv 1) pa_nil)))
  (pss_cons (ps_if (pt_cmpR op_eqX (pv 2) (pv 3) (nomark _)) (
    (pss_one (ps_ret pe_int))) (pss_nil))
  (pss_one (ps_ret (pe_ifExp (pt_cmpR op_ltX (pv 2) (pv 3) (nomark _)) (pe_un un_neg pe_int) pe_int)))))))), ?_⟩
    rcases hw with ⟨pl, m, hc, hE⟩ | ⟨pl, m, m', hc, hc', hE⟩ | ⟨x, y, rfl, rfl, fx, fy, dx, dy, zx, zy, q⟩
    · exact ⟨_, rfl, F, b, v, d, m, _, rfl, hT, hP1, hd, hsd, hc, hE⟩
    · refine ⟨_, rfl, F, b, v, d, m, _, rfl, hT, hP1, hd, hsd, hc, fun H1 g1 _ => ?_⟩
      exact ⟨_, rfl, F, b, u, e, m', _, rfl, g1.r, hP1, g1.dt he, hse, hc', fun H' x u' g => hE H' x u' (g1.trans g)⟩
    · refine ⟨_, rfl, F, b, v, _, _, _, rfl, hT, hP1, hd, hsd, chk_doc fx (by omega) zx, fun H1 g1 _ => ?_⟩
      refine ⟨_, rfl, F, b, u, _, _, _, rfl, g1.r, hP1, g1.dt he, hse, chk_doc fy (by omega) zy, fun H2 g2 _ => ?_⟩
      have g12 := g1.trans g2
      refine ⟨_, rfl, F, b, v, x, rfl, g2.r, hP2, g12.dt hd, dx, by omega, fun H3 kx g3 hx _ => ?_⟩
      have g13 := g12.trans g3
      refine ⟨_, rfl, F, b, u, y, rfl, g3.r, hP2, g13.dt he, dy, by omega, fun H4 ky g4 hy _ => ?_⟩
      have g14 := g13.trans g4
      have hx4 := g4.dt hx
      have hl : x.key.depth ≤ 2 * n := Nat.le_trans (depth_key x) (by omega)
      have hroom : ∀ z : Nat, (A.deeper (envOfC "compared" (defScope s_compared) s.heap.objs.size f cdv)).units + min x.key.depth z < cLine := fun z => by
        have h1 := hr.un
        have h2 : min x.key.depth z ≤ x.key.depth := Nat.min_le_left _ _
        omega
      have hcmp := cmp_key x y
      unfold dcmp at hcmp
      refine ⟨_, rfl, _, rfl, x.key, y.key, hx4.dp, hy.dp, canLay_key x fx, canLay_key y fy, hroom _, _, rfl, ?_⟩
      cases h1 : PyData.eqv x.key y.key with
      | true =>
        rw [h1, if_pos rfl] at hcmp
        rw [← hcmp] at q
        exact iteT (q _ g14)
      | false =>
        rw [h1, if_neg Bool.false_ne_true] at hcmp
        refine iteF ⟨_, rfl, _, rfl, x.key, y.key, hx4.dp, hy.dp, alike_key x y, ?_, hroom _, _, rfl, ?_⟩
        · obtain ⟨m0, ms⟩ := x
          rw [Doc.key]
          intro z
          cases z
        · cases h2 : dataLt x.key y.key with
          | true =>
            rw [h2, if_pos rfl] at hcmp
            rw [← hcmp] at q
            exact iteT ⟨1, rfl, q _ g14⟩
          | false =>
            rw [h2, if_neg Bool.false_ne_true] at hcmp
            rw [← hcmp] at q
            exact iteF (q _ g14)
end
end K01

set_option Elab.async false
set_option linter.all false
set_option maxRecDepth 100000
set_option maxHeartbeats 4000000
/-! K1c: the law's draws. -/
namespace K01
open PySem PySem.Spec PyProof.Rows L2 Lf
abbrev s__law_begin : Stmt := topS 18
abbrev N__law_begin : List Str := ["script", "cells_so", "cell"]
theorem sc__law_begin : FnScope N__law_begin ["script"] (defScope s__law_begin) := ⟨rfl, rfl, rfl, by decide +kernel, rfl, by decide +kernel, by decide +kernel⟩
abbrev s__law_mixed : Stmt := topS 19
abbrev N__law_mixed : List Str := ["cell", "k"]
theorem sc__law_mixed : FnScope N__law_mixed ["cell", "k"] (defScope s__law_mixed) := ⟨rfl, rfl, rfl, by decide +kernel, rfl, by decide +kernel, by decide +kernel⟩
abbrev s__law_draw : Stmt := topS 20
abbrev N__law_draw : List Str := ["state", "limit", "at", "place", "left", "number"]
theorem sc__law_draw : FnScope N__law_draw ["state", "limit"] (defScope s__law_draw) := ⟨rfl, rfl, rfl, by decide +kernel, rfl, by decide +kernel, by decide +kernel⟩
abbrev s__law_of : Stmt := topS 21
abbrev N__law_of : List Str := ["state", "some"]
theorem sc__law_of : FnScope N__law_of ["state", "some"] (defScope s__law_of) := ⟨rfl, rfl, rfl, by decide +kernel, rfl, by decide +kernel, by decide +kernel⟩
section
variable {P : Program} {w : World} {K : PySem.W.Frag} {mg : Str → Option Value} {base : Heap}
/-! ### _law_mixed -/
def spMixed : Sp := fun vs H Q _ => ∃ (c : Int) (k : Nat), vs = [.int c, .int (k : Nat)] ∧ k ≤ 1000000000 ∧ ∀ m : Int, 0 ≤ m → m < 2147483629 → Q (.int m) H
theorem pr__law_mixed {f : Addr} {fd : FuncData} {k : Nat} (T : Txt mg) (D : Def K mg "_law_mixed" ["cell", "k"] s__law_mixed f fd) : Pr P w K mg base (k + 1) "_law_mixed" ["cell", "k"] spMixed := by
  refine Pr.of' D sc__law_mixed (fun vs H Q E h => ?_) fun cdv A outer s H vs Q E hcd hG hr h => ?_
  · obtain ⟨_, _, rfl, _⟩ := h
    rfl
  · obtain ⟨c, k', rfl, hk, q⟩ := h
    refine ⟨_, (pss_cons (ps_set (i := 0) sc__law_mixed.nd rfl (Or.inl rfl) (pe_op op_modN (pe_callTy call_int1 (by rfl) T.int (by decide +kernel) (pa_cons (pv 0) pa_nil)) pe_int))
  (pss_one (ps_ret (pe_op op_modN (pe_op op_mul (pe_op op_modN (pe_op op_add (pe_op op_add (pe_op op_mul (pv 0) (pe_op op_add pe_int (pe_op op_mul (pe_op op_mul pe_int (pv 1)) (pv 1)))) (pe_op op_mul pe_int (pv 1))) pe_int) pe_int) pe_int) pe_int)))), ?_⟩
    have h1 : 0 ≤ c.fmod 2147483647 ∧ c.fmod 2147483647 < 2147483647 := by
      rw [Int.fmod_eq_emod_of_nonneg _ (by decide)]
      omega
    refine ⟨_, rfl, .inl ⟨_, rfl, _, _, rfl, rfl, (by show (2147483647 : Int) ≠ 0; decide), ?_⟩⟩
    refine ⟨_, rfl, _, rfl, _, _, rfl, rfl, .inl ⟨by decide, by decide⟩, _, rfl, _, _, rfl, rfl, .inl ⟨by omega, by omega⟩, _, _, rfl, rfl, _, _, rfl, rfl, .inl ⟨by omega, by omega⟩, _, rfl, _, _, rfl, rfl, .inl ⟨by decide, by decide⟩, _, _, rfl, rfl, _, _, rfl, rfl,
      _, _, rfl, rfl, (by show (2147483647 : Int) ≠ 0; decide), _, _, rfl, rfl, .inr ⟨by decide, by decide⟩, _, _, rfl, rfl, (by show (2147483629 : Int) ≠ 0; decide), ?_⟩
    refine q _ ?_ ?_
    · rw [Int.fmod_eq_emod_of_nonneg _ (by decide : (0 : Int) ≤ 2147483629)]
      omega
    · rw [Int.fmod_eq_emod_of_nonneg _ (by decide : (0 : Int) ≤ 2147483629)]
      omega
/-! ### _law_draw -/
def spDraw : Sp := fun vs H Q _ => ∃ (F : Fr) (b : Nat) (st : Addr) (l : Nat), vs = [.ref st, .int (l : Nat)] ∧ F.T b H ∧ HasSt F st ∧ 0 < l ∧ l ≤ 1000000 ∧ b ≤ 1000000 ∧ ∀ (m : Nat) H', m < l → Go F b H (b + 1) H' → Q (.int (m : Nat)) H'
theorem pr__law_draw {f : Addr} {fd : FuncData} {k : Nat} (T : Txt mg) (D : Def K mg "_law_draw" ["state", "limit"] s__law_draw f fd) (G__law_mixed : Pr P w K mg base k "_law_mixed" ["cell", "k"] spMixed) : Pr P w K mg base (k + 1) "_law_draw" ["state", "limit"] spDraw := by
  refine Pr.of' D sc__law_draw (fun vs H Q E h => ?_) fun cdv A outer s H vs Q E hcd hG hr h => ?_
  · obtain ⟨_, _, _, _, rfl, _⟩ := h
    rfl
  · obtain ⟨F, b, st, l, rfl, hT, hS, hl, hl2, hb, q⟩ := h
    obtain ⟨cA, lA, n1, n2, n3, hg, ht⟩ := hS.ex
    obtain ⟨⟨cs, ls, at_, h1, h2, h3, h4, h5, h6, h7⟩, hne⟩ := hg _ _ hT
    refine ⟨_, (pss_cons (ps_set (i := 2) sc__law_draw.nd rfl (Or.inl rfl) (pe_dget (hu_of hr) (pv 0) pe_str (fun _ _ => rfl)))
  (pss_cons (ps_dput (hu_of hr) (pv 0) pe_str (pe_op op_add (pv 2) pe_int) rfl)
  (pss_cons (ps_set (i := 3) sc__law_draw.nd rfl (Or.inl rfl) (pe_op op_modN (pe_callTy call_int1 (by rfl) T.int (by decide +kernel) (pa_cons (pv 2) pa_nil)) (pe_callB call_len_seq (by rfl) T.len PySem.boot_len (pa_cons (pe_dget (hu_of hr) (pv 0) pe_str (fun _ _ => rfl)) pa_nil))))
  (pss_cons (ps_set (i := 4) sc__law_draw.nd rfl (Or.inl rfl) (pe_ix ix_list (pe_dget (hu_of hr) (pv 0) pe_str (fun _ _ => rfl)) (pv 3) (fun _ _ => rfl)))
  (pss_cons (ps_if (pt_cmpR op_gt (pv 4) pe_int (nomark _)) (
    (pss_cons (ps_asg (pe_op op_fdiv (pv 4) (pv 1)) (pg_sub (pe_dget (hu_of hr) (pv 0) pe_str (fun _ _ => rfl)) (pv 3) set_list))
    (pss_one (ps_ret (pe_op op_modN (pe_callTy call_int1 (by rfl) T.int (by decide +kernel) (pa_cons (pv 4) pa_nil)) (pv 1)))))) (pss_nil))
  (pss_cons (ps_set (i := 5) sc__law_draw.nd rfl (Or.inl rfl) (pcall hG G__law_mixed hr (pa_cons (pcall hG G__law_mixed hr (pa_cons (pe_ix ix_list (pe_dget (hu_of hr) (pv 0) pe_str (fun _ _ => rfl)) (pv 3) (fun _ _ => rfl)) (pa_cons (pv 2) pa_nil))) (pa_cons (pe_op op_add pe_int (pv 2)) pa_nil))))
  (pss_one (ps_ret (pe_op op_modN (pe_op op_fdiv (pe_callTy call_int1 (by rfl) T.int (by decide +kernel) (pa_cons (pe_op op_add (pe_op op_mul (pv 5) pe_int) (pcall hG G__law_mixed hr (pa_cons (pv 5) (pa_cons (pe_op op_add pe_int (pv 2)) pa_nil)))) pa_nil)) pe_int) (pv 1)))))))))), ?_⟩
    have nsA : st ≠ cA := ne_of h1 h2 (by intro z; cases z)
    have nsL : st ≠ lA := ne_of h1 h3 (by intro z; cases z)
    refine ⟨_, rfl, st, _, rfl, dg_at h1, ?_⟩
    refine ⟨_, rfl, _, _, rfl, rfl, _, rfl, st, _, rfl, dp_at h1, ?_⟩
    have k1 : (upd H st (.dK (stK cA lA (at_ + 1)))) st = some (.dK (stK cA lA (at_ + 1))) := upd_same
    have k2 : (upd H st (.dK (stK cA lA (at_ + 1)))) cA = some (.lst (cs.map V.int)) := (upd_ne nsA.symm).trans h2
    have k3 : (upd H st (.dK (stK cA lA (at_ + 1)))) lA = some (.lst (ls.map V.int)) := (upd_ne nsL.symm).trans h3
    have kx : ∀ a, a ≠ st → (upd H st (.dK (stK cA lA (at_ + 1)))) a = H a := fun a na => upd_ne na
    generalize upd H st (.dK (stK cA lA (at_ + 1))) = H1 at *
    have T1 : F.T (b + 1) H1 := ht b (b + 1) H H1 hT (fun a n _ => kx a n) ⟨⟨cs, ls, at_ + 1, k1, k2, k3, h4, h5, h6, by omega⟩, hne⟩ (by omega)
    have g1 : Go F b H (b + 1) H1 := ⟨fun a o n e => (kx a (fun z => n (z ▸ n1))).trans e, hT, T1⟩
    obtain ⟨pN, hpN, ep⟩ : ∃ pN : Nat, pN < cs.length ∧ ((at_ : Nat) : Int).fmod (((cs.map V.int).length : Nat) : Int) = (pN : Int) := by
      rw [List.length_map, Int.fmod_eq_emod_of_nonneg _ (by omega)]
      have a1 := Int.emod_nonneg ((at_ : Nat) : Int) (b := ((cs.length : Nat) : Int)) (by omega)
      have a2 := Int.emod_lt_of_pos ((at_ : Nat) : Int) (b := ((cs.length : Nat) : Int)) (by omega)
      exact ⟨(((at_ : Nat) : Int) % ((cs.length : Nat) : Int)).toNat, by omega, by omega⟩
    refine ⟨_, rfl, .inl ⟨_, rfl, _, rfl, st, _, rfl, dg_cells k1, cA, _, rfl, .inl (.inl (.inl k2)), _, _, rfl, rfl, (by show (((cs.map V.int).length : Nat) : Int) ≠ 0; rw [List.length_map]; omega), ?_⟩⟩
    dsimp only
    rw [ep]
    have hlp : ls[pN]? = some (ls[pN]'(by omega)) := List.getElem?_eq_getElem _
    have hcp : cs[pN]? = some (cs[pN]'hpN) := List.getElem?_eq_getElem _
    have hlv : (ls.map V.int)[pN]? = some (.int (ls[pN]'(by omega))) := by rw [List.getElem?_map, hlp]; rfl
    have hcv : (cs.map V.int)[pN]? = some (.int (cs[pN]'hpN)) := by rw [List.getElem?_map, hcp]; rfl
    generalize ls[pN]'(by omega) = left at *
    generalize cs[pN]'hpN = cell at *
    refine ⟨_, rfl, st, _, rfl, dg_lefts k1, _, rfl, lA, _, _, _, rfl, rfl, .inl (.inl k3), atI_nat hlv, ?_⟩
    refine ⟨_, rfl, _, _, rfl, rfl, _, rfl, ?_⟩
    have fin : ∀ (z : Int) (H' : Hp), Go F b H (b + 1) H' → Q (.int (z.fmod (l : Nat))) H' := fun z H' g' => by
      rw [Int.fmod_eq_emod_of_nonneg _ (by omega)]
      have a1 := Int.emod_nonneg z (b := ((l : Nat) : Int)) (by omega)
      have a2 := Int.emod_lt_of_pos z (b := ((l : Nat) : Int)) (by omega)
      have e : z % ((l : Nat) : Int) = (((z % ((l : Nat) : Int)).toNat : Nat) : Int) := by omega
      rw [e]
      exact q _ H' (by omega) g'
    by_cases hpos : (0 : Int) < left
    · rw [decide_eq_true hpos]
      refine iteT ?_
      refine ⟨_, rfl, _, rfl, _, _, rfl, rfl, ⟨by omega, by omega⟩, _, rfl, st, _, rfl, dg_lefts k1, _, rfl, lA, _, _, pN, rfl, rfl, k3, ixN_nat' (by rw [List.length_map]; omega), ?_⟩
      refine ⟨_, rfl, .inl ⟨_, rfl, _, rfl, _, _, rfl, rfl, (by show ((l : Nat) : Int) ≠ 0; omega), fin _ _ ?_⟩⟩
      refine ⟨fun a o n e => ?_, hT, ht (b + 1) (b + 1) H1 _ T1 (fun a n1 n2 => upd_ne n2) ?_ (Nat.le_refl _)⟩
      · have na : a ≠ lA := fun z => n (by rw [z]; exact n3)
        exact (upd_ne na).trans (g1.kp a o n e)
      · refine ⟨⟨cs, ls.set pN (left / ((l : Nat) : Int)), at_ + 1, (upd_ne nsL).trans k1, (upd_ne hne).trans k2, ?_, by rw [List.length_set]; exact h4, h5, h6, by omega⟩, hne⟩
        rw [upd_same, List.map_set]
    · rw [decide_eq_false hpos]
      refine iteF ?_
      refine ⟨_, rfl, st, _, rfl, dg_cells k1, _, rfl, cA, _, _, _, rfl, rfl, .inl (.inl k2), atI_nat hcv, _, rfl, cell, at_, rfl, by omega, fun m1 m10 m11 _ => ⟨_, rfl, _, _, rfl, rfl, m1, 40 + at_, rfl, by omega, fun m2 m20 m21 _ => ?_⟩⟩
      refine ⟨_, rfl, _, _, rfl, rfl, .inr ⟨by decide, by decide⟩, _, rfl, _, rfl, _, _, rfl, rfl, m2, 7 + at_, rfl, by omega, fun m3 m30 m31 _ => ?_⟩
      refine ⟨_, _, rfl, rfl, .inl ⟨_, rfl, _, _, rfl, rfl, ⟨by decide, by decide⟩, _, rfl, _, _, rfl, rfl, (by show ((l : Nat) : Int) ≠ 0; omega), fin _ _ g1⟩⟩
/-! ### _law_of -/
/-- a list of one's own, or a tuple -/
def Row (K : PySem.W.Frag) (F : Fr) (H : Hp) (a : Addr) (xs : List V) : Prop := (H a = some (.lst xs) ∧ ¬ F.N a) ∨ SqT K H a xs
theorem Row.sq {F : Fr} {H : Hp} {a : Addr} {xs : List V} (h : Row K F H a xs) : SqL K H a xs ∨ SqT K H a xs := by
  rcases h with h | h
  · exact .inl (.inl (.inl h.1))
  · exact .inr h
theorem Row.go {F : Fr} {b c : Nat} {H H' : Hp} {a : Addr} {xs : List V} (g : Go F b H c H') (h : Row K F H a xs) : Row K F H' a xs := by
  rcases h with h | h
  · exact .inl ⟨g.keep h.2 h.1, h.2⟩
  · exact .inr (g.sqT h)
def spOf (K : PySem.W.Frag) : Sp := fun vs H Q _ => ∃ (F : Fr) (b : Nat) (st a : Addr) (xs : List V), vs = [.ref st, .ref a] ∧ F.T b H ∧ HasSt F st ∧ Row K F H a xs ∧ 0 < xs.length ∧ xs.length ≤ 1000000 ∧ b ≤ 1000000 ∧ ∀ (i : Nat) (x : V) H', xs[i]? = some x → Go F b H (b + 1) H' → Q x H'
theorem pr__law_of {f : Addr} {fd : FuncData} {k : Nat} (T : Txt mg) (D : Def K mg "_law_of" ["state", "some"] s__law_of f fd) (G__law_draw : Pr P w K mg base k "_law_draw" ["state", "limit"] spDraw) : Pr P w K mg base (k + 1) "_law_of" ["state", "some"] (spOf K) := by
  refine Pr.of' D sc__law_of (fun vs H Q E h => ?_) fun cdv A outer s H vs Q E hcd hG hr h => ?_
  · obtain ⟨_, _, _, _, _, rfl, _⟩ := h
    rfl
  · obtain ⟨F, b, st, a, xs, rfl, hT, hS, hR, h0, hz, hb, q⟩ := h
    refine ⟨_, (pss_one (ps_ret (pe_ix ix_seq (pv 1) (pcall hG G__law_draw hr (pa_cons (pv 0) (pa_cons (pe_callB call_len_seq (by rfl) T.len PySem.boot_len (pa_cons (pv 1) pa_nil)) pa_nil))) (fun _ _ => rfl)))), ?_⟩
    refine ⟨_, rfl, _, rfl, _, rfl, a, xs, rfl, hR.sq, F, b, st, xs.length, rfl, hT, hS, h0, hz, hb, fun m H' hm g _ => ?_⟩
    have hx : xs[m]? = some (xs[m]'hm) := List.getElem?_eq_getElem _
    have hR' := hR.go g
    rcases hR' with ⟨h, _⟩ | h
    · exact .inl ⟨a, xs, _, _, rfl, rfl, .inl (.inl h), atI_nat hx, q m _ H' hx g⟩
    · exact .inr (.inl ⟨a, xs, _, _, rfl, rfl, h, atI_nat hx, q m _ H' hx g⟩)
/-! ### _law_begin -/
def spBegin (K : PySem.W.Frag) : Sp := fun vs H Q _ => ∃ (F : Fr) (b : Nat) (a : Addr) (ns : List Int), vs = [.ref a] ∧ F.T b H ∧ ¬ F.N a ∧ SqL K H a (ns.map V.int) ∧ ns.length ≤ 63 ∧
  ∀ H' st cA lA, Go F b H b H' → H st = none → H cA = none → H lA = none → StOk st cA lA b H' → Q (.ref st) H'
theorem pr__law_begin {f : Addr} {fd : FuncData} {k : Nat} (T : Txt mg) (D : Def K mg "_law_begin" ["script"] s__law_begin f fd) : Pr P w K mg base (k + 1) "_law_begin" ["script"] (spBegin K) := by
  refine Pr.of' D sc__law_begin (fun vs H Q E h => ?_) fun cdv A outer s H vs Q E hcd hG hr h => ?_
  · obtain ⟨_, _, _, _, rfl, _⟩ := h
    rfl
  · obtain ⟨F, b, a, ns, rfl, hT, hn, hsq, hz, q⟩ := h
    refine ⟨_, (Evl.pss_cut (ps_set (i := 1) sc__law_begin.nd rfl (Or.inl rfl) (pe_ifExp (pt_cmpR (op_neL0 (hu0 hr)) (pv 0) (pe_lst pa_nil) (nomark _)) (pe_callTy call_list_of (by rfl) T.list (by decide +kernel) (pa_cons (pv 0) pa_nil)) (pe_lst (pa_cons pe_int pa_nil))))
  (pss_one (ps_ret (pe_disp (pps_cons pe_str (pv 1) (pps_cons pe_str (pe_lc (own := [("cell", 2)]) rfl sc__law_begin.nd (pi_list (pv 1)) (blkOk_by (own := [("cell", 2)]) (N := N__law_begin) (sc := defScope s__law_begin) (by decide +kernel)) (fun _ _ _ _ _ => (pg_name (i := 2) sc__law_begin.nd rfl (Or.inl rfl))) (fun _ _ _ _ _ => pts_nil) (fun _ _ _ _ _ => (pe_ifExp (pt_cmpR op_ge (pv 2) (pe_op op_pow pe_int pe_int) (nomark _)) (pv 2) pe_int))) (pps_cons pe_str pe_int pps_nil))) (by rfl) (by rfl) (fun z => by cases z) (by decide))))), ?_⟩
    refine ⟨fun σ' H' => ∃ (cA : Addr) (cs : List Int), σ' = [some (.ref a), some (.ref cA), none] ∧ Go F b H b H' ∧ H cA = none ∧ H' cA = some (.lst (cs.map V.int)) ∧ 0 < cs.length ∧ cs.length ≤ 63, ?_, fun σ' H' hm => ?_⟩
    · refine ⟨_, rfl, Nat.zero_le _, fun e ne => ?_⟩
      have g1 := Go.new (o := .lst []) hT ne
      have hsq1 : SqL K (upd H e (.lst [])) a (ns.map V.int) := by
        rcases hsq with h | h
        · exact .inl (rd_kp g1.kp hn h)
        · exact .inr h
      refine ⟨a, e, _, rfl, rfl, hsq1, .inl (.inl upd_same), _, rfl, ?_⟩
      cases ns with
      | nil =>
        refine iteF ⟨by show 1 ≤ sizeLine; decide, fun l nl => ?_⟩
        exact ⟨l, [0], rfl, g1.add nl, g1.was nl, upd_same, by decide, by decide⟩
      | cons n0 nr =>
        refine iteT ⟨_, rfl, a, _, rfl, .inl hsq1, fun l nl => ?_⟩
        exact ⟨l, n0 :: nr, rfl, g1.add nl, g1.was nl, upd_same, by simp, hz⟩
    · obtain ⟨cA, cs, rfl, g1, nA, hA, h0, h63⟩ := hm
      refine fun p np => ⟨_, rfl, ?_⟩
      have g2 := g1.add (o := .dK []) np
      have hpA : cA ≠ p := ne_of_none hA np
      have hA2 : (upd H' p (.dK [])) cA = some (.lst (cs.map V.int)) := (upd_ne hpA).trans hA
      dsimp only [tPairs, L2.tC]
      refine tLc_iList ?_
      refine ⟨_, rfl, ?_⟩
      refine lcL (K := K) (F := F) (b := b) (e := 0) (g := gName 2) (vs := [2]) (R := fun _ i y H => ∃ z : Int, y = .int z) hA2 (g1.nn nA) g2.r (by rw [List.length_map]; omega) (fun D i H H' y _ t h => h) (fun D i x H2 hD hI hx Pq hPq => ?_) fun lA ys H2 nL g3 hL hly hall => ?_
      · rw [List.getElem?_map] at hx
        cases hc : cs[i]? with
        | none => rw [hc] at hx; cases hx
        | some z =>
          rw [hc] at hx
          cases hx
          refine ⟨rfl, _, rfl, _, _, rfl, rfl, ⟨by decide, by decide, by decide⟩, _, _, rfl, rfl, _, rfl, ?_⟩
          by_cases hbig : (10 : Int) ^ (18 : Int).toNat ≤ z
          · rw [decide_eq_true hbig]
            exact iteT ⟨_, rfl, hPq _ _ (Go.refl hI.go.r) ⟨z, rfl⟩⟩
          · rw [decide_eq_false hbig]
            exact iteF (hPq _ _ (Go.refl hI.go.r) ⟨0, rfl⟩)
      · obtain ⟨ls, rfl⟩ := ints_of hall
        have g3' : Go F b (upd H' p (.dK [])) b H2 := g3
        have hnp : ¬ F.N p := g1.nn' np
        have hp2 : H2 p = some (.dK []) := g3'.keep hnp upd_same
        have hA3 := g3'.keep (g1.nn nA) hA2
        have hlA : lA ≠ p := fun z => by
          rw [z, upd_same] at nL
          cases nL
        have hneA : cA ≠ lA := ne_of_none hA2 nL
        refine ⟨hp2, [(.inr "cells", .ref cA), (.inr "lefts", .ref lA), (.inr "at", .int 0)], rfl, by show 3 ≤ 15; decide, ?_⟩
        have nlA : H lA = none := g2.was nL
        refine q _ p cA lA ((g2.trans g3').put (g1.was np)) (g1.was np) nA nlA ?_
        refine ⟨⟨cs, ls, 0, upd_same, (upd_ne hpA).trans hA3, (upd_ne hlA).trans hL, ?_, h0, by omega, Nat.zero_le _⟩, hneA⟩
        simpa using hly.symm
end
end K01

set_option Elab.async false
set_option linter.all false
set_option maxRecDepth 100000
set_option maxHeartbeats 4000000
/-! K1d: the law's defs over documents. -/
namespace K01
open PySem PySem.Spec PyProof.Rows L2 Lf
open PySem.W (alike alikeAll dataLt)
abbrev s__law_size : Stmt := topS 29
abbrev N__law_size : List Str := ["document", "part"]
theorem sc__law_size : FnScope N__law_size ["document"] (defScope s__law_size) := ⟨rfl, rfl, rfl, by decide +kernel, rfl, by decide +kernel, by decide +kernel⟩
abbrev s__law_key : Stmt := topS 22
abbrev N__law_key : List Str := ["document", "keys", "part", "key"]
theorem sc__law_key : FnScope N__law_key ["document"] (defScope s__law_key) := ⟨rfl, rfl, rfl, by decide +kernel, rfl, by decide +kernel, by decide +kernel⟩
abbrev s__law_parts : Stmt := topS 27
abbrev N__law_parts : List Str := ["output", "place", "found", "spot", "part"]
theorem sc__law_parts : FnScope N__law_parts ["output", "place"] (defScope s__law_parts) := ⟨rfl, rfl, rfl, by decide +kernel, rfl, by decide +kernel, by decide +kernel⟩
abbrev s__law_with : Stmt := topS 28
abbrev N__law_with : List Str := ["output", "place", "part", "spot"]
theorem sc__law_with : FnScope N__law_with ["output", "place", "part"] (defScope s__law_with) := ⟨rfl, rfl, rfl, by decide +kernel, rfl, by decide +kernel, by decide +kernel⟩
abbrev s__law_ahead : Stmt := topS 33
abbrev N__law_ahead : List Str := ["one", "other", "left", "right", "told"]
theorem sc__law_ahead : FnScope N__law_ahead ["one", "other"] (defScope s__law_ahead) := ⟨rfl, rfl, rfl, by decide +kernel, rfl, by decide +kernel, by decide +kernel⟩
section
variable {P : Program} {w : World} {K : PySem.W.Frag} {mg : Str → Option Value} {base : Heap}
/-- a promise that nobody can ask for -/
theorem Pr.never {x : Str} {ps : List Str} {st : Stmt} {f : Addr} {fd : FuncData} {k : Nat} {sp : Sp} (D : Def K mg x ps st f fd) (h : ∀ vs H Q E, ¬ sp vs H Q E) : Pr P w K mg base k x ps sp :=
  ⟨f, fd, D.mg, D.fn.kp, ⟨fun vs H Q E q => (h _ _ _ _ q).elim, fun A outer s H args us vs Q E _ _ _ _ _ q => (h _ _ _ _ q).elim⟩, D.bd⟩
/-! ### _law_size -/
def spSize (K : PySem.W.Frag) (n : Nat) : Sp := fun vs H Q _ => ∃ (F : Fr) (b : Nat) (v : V) (d : Doc), vs = [v] ∧ F.T b H ∧ Dt K H v d.enc ∧ d.deep ≤ n ∧ d.size ≤ 1000000 ∧ ∀ H', Go F b H b H' → Q (.int (d.size : Nat)) H'
theorem pr__law_size {f : Addr} {fd : FuncData} {k : Nat} (T : Txt mg) (D : Def K mg "_law_size" ["document"] s__law_size f fd) : ∀ n, Pr P w K mg base (k + n) "_law_size" ["document"] (spSize K n)
  | 0 => Pr.never D fun vs H Q E h => by
    obtain ⟨_, _, _, d, _, _, _, hn, _⟩ := h
    have := deep_pos d
    omega
  | n + 1 => by
    have G__law_size := pr__law_size (k := k) T D n
    refine Pr.of' D sc__law_size (fun vs H Q E h => ?_) fun cdv A outer s H vs Q E hcd hG hr h => ?_
    · obtain ⟨_, _, _, _, rfl, _⟩ := h
      rfl
    · obtain ⟨F, b, v, d, rfl, hT, hd, hn, hz, q⟩ := h
      obtain ⟨n0, ps⟩ := d
      rw [Doc.enc] at hd
      rw [Doc.deep] at hn
      rw [Doc.size] at hz q
      have hlen := encs_len ps
      have hls := len_le_sizes ps
      refine ⟨_, (pss_one (ps_ret (pe_op op_add pe_int (pe_callB (cr_sum rfl) (by rfl) T.sum (by decide +kernel) (pa_cons (pe_lc (own := [("part", 1)]) rfl sc__law_size.nd (pi_tup (pe_slice sl_tupA (pv 0) (po_some pe_int) po_none)) (blkOk_by (own := [("part", 1)]) (N := N__law_size) (sc := defScope s__law_size) (by decide +kernel)) (fun _ _ _ _ _ => (pg_name (i := 1) sc__law_size.nd rfl (Or.inl rfl))) (fun _ _ _ _ _ => pts_nil) (fun _ _ _ _ _ => (pcall hG G__law_size hr (pa_cons (pv 1) pa_nil)))) pa_nil))))), ?_⟩
      dsimp only [tRet, tOp, L2.tC, tCB, tCons]
      refine tLc_iTup ?_
      refine ⟨_, rfl, 1, rfl, ?_⟩
      dsimp only [tNoPart]
      refine sl1D hT hd fun p us H1 g1 hp hus => ?_
      have hus' := hus.length
      refine lcT (K := K) (F := F) (b := b) (e := 0) (g := gName 1) (vs := [1]) (R := fun _ i y H => ∃ e, ps[i]? = some e ∧ y = .int (e.size : Nat)) (.inl (.inl hp)) g1.r (by omega) (fun D i H H' y _ t h => h) (fun D i x H2 hD hI hx Pq hPq => ?_) fun L ys H2 hL g2 hl2 hly hall => ?_
      · obtain ⟨e, he, hx2⟩ := hus.get hx
        rw [encs_map, List.getElem?_map] at he
        cases hpi : ps[i]? with
        | none => rw [hpi] at he; cases he
        | some di =>
          rw [hpi] at he
          cases he
          have hm := List.mem_of_getElem? hpi
          have gI := hI.go
          have hdeep := (deeps_le (n := deeps ps) ps).mp (Nat.le_refl _) _ hm
          have hsz := size_le_sizes hm
          exact ⟨rfl, _, rfl, F, b, x, di, rfl, gI.r, gI.dt hx2, by omega, by omega, fun H3 g3 _ => hPq _ _ g3 ⟨di, hpi, rfl⟩⟩
      · have g2' : Go F b H1 b H2 := g2
        have hyps : ys.length = ps.length := by omega
        have eys : ys = (ps.map fun e => (e.size : Int)).map V.int := by
          refine List.ext_getElem? fun i => ?_
          rw [List.getElem?_map, List.getElem?_map]
          cases hy : ys[i]? with
          | none =>
            have : ps[i]? = none := by
              rw [List.getElem?_eq_none_iff] at hy ⊢
              omega
            rw [this]
            rfl
          | some y =>
            obtain ⟨e, he, rfl⟩ := hall i y hy
            rw [he]
            rfl
        dsimp only [tNil]
        refine ⟨L, ps.map (fun e => (e.size : Int)), rfl, .inl (.inl (by rw [← eys]; exact hl2)), _, _, rfl, rfl, ?_⟩
        rw [sizes_int]
        have e1 : (1 : Int) + ((sizes ps : Nat) : Int) = ((1 + sizes ps : Nat) : Int) := by omega
        have q1 := q H2 (g1.trans g2')
        rw [← e1] at q1
        exact q1
/-! ### _law_key -/
def spKey0 (K : PySem.W.Frag) (n : Nat) : Sp := fun vs H Q _ => ∃ (F : Fr) (b : Nat) (v : V) (d : Doc), vs = [v] ∧ F.T b H ∧ Dt K H v d.enc ∧ d.deep ≤ n ∧ d.size ≤ 1000000 ∧ ∀ H' u, Go F b H b H' → Dt K H' u d.key → Q u H'
theorem pr__law_key {f : Addr} {fd : FuncData} {k : Nat} (T : Txt mg) (D : Def K mg "_law_key" ["document"] s__law_key f fd) : ∀ n, Pr P w K mg base (k + n) "_law_key" ["document"] (spKey0 K n)
  | 0 => Pr.never D fun vs H Q E h => by
    obtain ⟨_, _, _, d, _, _, _, hn, _⟩ := h
    have := deep_pos d
    omega
  | n + 1 => by
    have G__law_key := pr__law_key (k := k) T D n
    refine Pr.of' D sc__law_key (fun vs H Q E h => ?_) fun cdv A outer s H vs Q E hcd hG hr h => ?_
    · obtain ⟨_, _, _, _, rfl, _⟩ := h
      rfl
    · obtain ⟨F, b, v, d, rfl, hT, hd, hn, hz, q⟩ := h
      refine ⟨_, (pss_cons (ps_setLc (i := 1) (own := [("part", 2)]) rfl sc__law_key.nd rfl rfl (sw_true rfl rfl rfl (by decide +kernel)) (pi_tup (pe_slice sl_tupA (pv 0) (po_some pe_int) po_none)) (blkOk_by (own := [("part", 2)]) (N := N__law_key) (sc := defScope s__law_key) (by decide +kernel)) (fun _ _ _ _ _ => (pg_name (i := 2) sc__law_key.nd rfl (Or.inl rfl))) (fun _ _ _ _ _ => pts_nil) (fun _ _ _ _ _ => (pcall hG G__law_key hr (pa_cons (pv 2) pa_nil))))
  (pss_one (ps_ret (pe_tup (pa_cons (pe_op op_add pe_int (pe_callB (cr_sum rfl) (by rfl) T.sum (by decide +kernel) (pa_cons (pe_lc (own := [("key", 3)]) rfl sc__law_key.nd (pi_list (pv 1)) (blkOk_by (own := [("key", 3)]) (N := N__law_key) (sc := defScope s__law_key) (by decide +kernel)) (fun _ _ _ _ _ => (pg_name (i := 3) sc__law_key.nd rfl (Or.inl rfl))) (fun _ _ _ _ _ => pts_nil) (fun _ _ _ _ _ => (pe_ix (show IxR _ (rIxT K) from ix_tup) (pv 3) pe_int (fun _ _ => rfl)))) pa_nil))) (pa_cons (pe_ix ix_tup (pv 0) pe_int (fun _ _ => rfl)) (pa_cons (pe_callB call_len_seq (by rfl) T.len PySem.boot_len (pa_cons (pv 1) pa_nil)) (pa_cons (pe_callTy call_tuple_of (by rfl) T.tuple (by decide +kernel) (pa_cons (pv 1) pa_nil)) pa_nil)))))))), ?_⟩
      obtain ⟨n0, ps⟩ := d
      rw [Doc.enc] at hd
      rw [Doc.deep] at hn
      rw [Doc.size] at hz
      have hlen := encs_len ps
      have hls := len_le_sizes ps
      dsimp only [tSeq, tAsg]
      refine tLc_iTup ?_
      refine ⟨_, rfl, 1, rfl, ?_⟩
      dsimp only [tNoPart]
      refine sl1D hT hd fun p us H1 g1 hp hus => ?_
      have hus' := hus.length
      refine lcT (K := K) (F := F) (b := b) (e := 0) (g := gName 2) (vs := [2]) (R := fun _ i y H => ∃ e, ps[i]? = some e ∧ Dt K H y e.key) (.inl (.inl hp)) g1.r (by omega) (fun D i H H' y _ t h => by
        obtain ⟨e, h1, h2⟩ := h
        exact ⟨e, h1, Dt.ts t _ _ h2⟩) (fun L i x H2 hL hI hx Pq hPq => ?_) fun L ys H2 hL g2 hl2 hly hall => ?_
      · obtain ⟨e, he, hx2⟩ := hus.get hx
        rw [encs_map, List.getElem?_map] at he
        cases hpi : ps[i]? with
        | none => rw [hpi] at he; cases he
        | some di =>
          rw [hpi] at he
          cases he
          have hm := List.mem_of_getElem? hpi
          have gI := hI.go
          have hdeep := (deeps_le (n := deeps ps) ps).mp (Nat.le_refl _) _ hm
          have hsz := size_le_sizes hm
          refine ⟨rfl, _, rfl, F, b, x, di, rfl, gI.r, gI.dt hx2, by omega, by omega, fun H3 u g3 hu _ => hPq _ _ g3 ⟨di, hpi, hu⟩⟩
      · have g2' : Go F b H1 b H2 := g2
        have hyps : ys.length = ps.length := by omega
        have nL : ¬ F.N L := g2'.nn hL
        dsimp only [gName, tRet, tTup, tCons, tOp, L2.tC, tCB]
        refine tLc_iList ?_
        refine ⟨_, rfl, ?_⟩
        refine lcL (K := K) (F := F) (b := b) (e := 0) (g := gName 3) (vs := [3]) (R := fun _ i y H => ∃ e, ps[i]? = some e ∧ y = .int (e.size : Nat)) hl2 nL g2'.r (by omega) (fun D i H H' y _ t h => h) (fun D i x H3 hD hI hx Pq hPq => ?_) fun L2 zs H3 hL2 g3 hl3 hlz hallz => ?_
        · obtain ⟨e, he, hd'⟩ := hall i x hx
          have hd2 := hI.go.dt hd'
          obtain ⟨m0, ms⟩ := e
          rw [Doc.key] at hd2
          obtain ⟨a, xs, rfl, hs, ha⟩ := hd2.inv
          obtain ⟨v0, r0, rfl, h3, _⟩ := ha.inv
          have h4 := h3.inv_int
          subst h4
          exact ⟨rfl, _, rfl, a, _, 0, _, rfl, rfl, hs, atI_nat (j := 0) rfl, hPq _ _ (Go.refl hI.go.r) ⟨_, he, rfl⟩⟩
        · have g3' : Go F b H2 b H3 := g3
          have g13 := g1.trans (g2'.trans g3')
          have ezs := int_list (f := fun e : Doc => ((e.size : Nat) : Int)) (by omega : zs.length = ps.length) hallz
          have hl3' := g3'.keep nL hl2
          have hkeys : DtAll K H3 ys (keys ps) := dtAll_idx (by rw [keys_len]; exact hyps) fun i v d h1 h2 => by
            obtain ⟨e, he, hd'⟩ := hall i v h1
            rw [keys_map, List.getElem?_map, he] at h2
            cases h2
            exact g3'.dt hd'
          obtain ⟨a0, us0, rfl, hs0, ha0⟩ := hd.inv
          obtain ⟨u0, r0, rfl, hu0, hr0⟩ := ha0.inv
          have hu0' := hu0.inv_str
          subst hu0'
          dsimp only [tNil]
          refine ⟨L2, _, rfl, .inl (.inl (by rw [← ezs]; exact hl3)), _, _, rfl, rfl, _, rfl, a0, _, 0, _, rfl, rfl, g13.sqT hs0, atI_nat (j := 0) rfl, _, rfl, L, ys, rfl, .inl (.inl (.inl hl3')), _, rfl, L, ys, rfl, .inl ⟨.inl (.inl hl3'), fun p5 n5 => ⟨by show 4 ≤ sizeLine; decide, fun p6 n6 => ?_⟩⟩⟩
          have g5 := g13.add (o := .tup ys) n5
          refine q _ _ (g5.add n6) ?_
          rw [Doc.key]
          refine dt_new n6 (.cons ?_ (.cons (.str _) (.cons ?_ (.cons (dt_new n5 hkeys) .nil))))
          · rw [sizes_int]
            have e1 : (1 : Int) + ((sizes ps : Nat) : Int) = ((1 + sizes ps : Nat) : Int) := by omega
            show Dt K _ (.int ((1 : Int) + ((sizes ps : Nat) : Int))) _
            rw [e1]
            exact .int _
          · rw [hyps]
            exact .int _
end
end K01

set_option Elab.async false
set_option linter.all false
set_option maxRecDepth 100000
set_option maxHeartbeats 4000000
/-! K1e: places, exchanges, the law's own order. -/
namespace K01
open PySem PySem.Spec PyProof.Rows L2 Lf
open PySem.W (alike alikeAll dataLt)
section
variable {P : Program} {w : World} {K : PySem.W.Frag} {mg : Str → Option Value} {base : Heap}
/-! ### _law_parts -/
def spParts (K : PySem.W.Frag) (n : Nat) : Sp := fun vs H Q _ => ∃ (F : Fr) (b : Nat) (v pv0 : V) (d : Doc) (pl : List Nat), vs = [v, pv0] ∧ F.T b H ∧ Dt K H v d.enc ∧ Dt K H pv0 (encPl pl) ∧ d.deep ≤ n ∧ d.size ≤ 100000 ∧ pl.length + d.deep ≤ 1000 ∧
  ∀ H' p us (prts : List (List Nat × Doc)), Go F b H b H' → H p = none → H' p = some (.lst us) → DtAll K H' us (prts.map encPt) → 0 < prts.length → prts.length ≤ d.size → (∀ e ∈ prts, ∃ q, e.1 = pl ++ q ∧ d.part q = some e.2) → Q (.ref p) H'
structure PartsI (K : PySem.W.Frag) (F : Fr) (b : Nat) (H H1 : Hp) (v pv0 : V) (d : Doc) (ps : List Doc) (pl : List Nat) (i : Nat) (σ : L2.St) (H' : Hp) : Prop where
  ex : ∃ (fL : Addr) (fus : List V) (prts : List (List Nat × Doc)) (y3 y4 : Option V), σ = [some v, some pv0, some (.ref fL), y3, y4] ∧ Go F b H1 b H' ∧ ¬ F.N fL ∧ H fL = none ∧ H' fL = some (.lst fus) ∧ DtAll K H' fus (prts.map encPt) ∧ 0 < prts.length ∧ prts.length ≤ 1 + sizes (ps.take i) ∧
    ∀ e ∈ prts, ∃ q, e.1 = pl ++ q ∧ d.part q = some e.2
theorem pr__law_parts {f : Addr} {fd : FuncData} {k : Nat} (T : Txt mg) (D : Def K mg "_law_parts" ["output", "place"] s__law_parts f fd) : ∀ n, Pr P w K mg base (k + n) "_law_parts" ["output", "place"] (spParts K n)
  | 0 => Pr.never D fun vs H Q E h => by
    obtain ⟨_, _, _, _, d, _, _, _, _, _, hn, _⟩ := h
    have := deep_pos d
    omega
  | n + 1 => by
    have G__law_parts := pr__law_parts (k := k) T D n
    refine Pr.of' D sc__law_parts (fun vs H Q E h => ?_) fun cdv A outer s H vs Q E hcd hG hr h => ?_
    · obtain ⟨_, _, _, _, _, _, rfl, _⟩ := h
      rfl
    · obtain ⟨F, b, v, pv0, d, pl, rfl, hT, hd, hp, hn, hz, hpl, q⟩ := h
      refine ⟨_, (pss_cons (ps_set (i := 2) sc__law_parts.nd rfl (Or.inl rfl) (pe_lst (pa_cons (pe_tup (pa_cons (pv 1) (pa_cons (pv 0) pa_nil))) pa_nil)))
  (pss_cons (ps_if (pt_val (pe_callB call_isD (by rfl) T.isinstance (by decide +kernel) (pa_cons (pe_ix ix_tup (pv 0) pe_int (fun _ _ => rfl)) (pa_cons (pe_bltn (by rfl) T.str (by decide +kernel) (show RelV (.ty "str") (.type "str") from rfl)) pa_nil)))) (
    (pss_one (ps_for (passes_of rfl) rfl (LfE.pi_enumT (by rfl) T.enumerate (pa_cons (pe_slice sl_tupA (pv 0) (po_some pe_int) po_none) pa_nil)) (pg_tup rfl (pgs_cons (pg_name (i := 3) sc__law_parts.nd rfl (Or.inl rfl)) (pgs_cons (pg_name (i := 4) sc__law_parts.nd rfl (Or.inl rfl)) pgs_nil))) (
      (pss_one (ps_set (i := 2) sc__law_parts.nd rfl (Or.inl rfl) (pe_op op_cat (pv 2) (pcall hG G__law_parts hr (pa_cons (pv 4) (pa_cons (pe_op op_catA (pv 1) (pe_tup (pa_cons (pv 3) pa_nil))) pa_nil)))))))))) (pss_nil))
  (pss_one (ps_ret (pv 2))))), ?_⟩
      obtain ⟨n0, ps⟩ := d
      have hd0 := hd
      rw [Doc.enc] at hd
      rw [Doc.deep] at hn hpl
      rw [Doc.size] at hz
      have hls := len_le_sizes ps
      -- found = [(place, output)]
      refine ⟨_, rfl, _, rfl, by show 2 ≤ sizeLine; decide, fun p1 n1 => ⟨by show 1 ≤ sizeLine; decide, fun fL nfL => ?_⟩⟩
      have g1 := Go.new (o := .tup [pv0, v]) hT n1
      have g2 := g1.add (o := .lst [.ref p1]) nfL
      have hf0 : DtAll K _ [V.ref p1] ([([], Doc.nd n0 ps)].map fun e : List Nat × Doc => encPt (pl ++ e.1, e.2)) :=
        .cons ((Go.new (o := .lst [.ref p1]) g1.r nfL).dt (dt_new n1 (.cons (by rw [List.append_nil]; exact hp) (.cons hd0 .nil)))) .nil
      have nF0 : H fL = none := g1.was nfL
      have hFL : (upd (upd H p1 (.tup [pv0, v])) fL (.lst [.ref p1])) fL = some (.lst [.ref p1]) := upd_same
      generalize upd (upd H p1 (.tup [pv0, v])) fL (.lst [.ref p1]) = H2 at *
      have hd2 := g2.dt hd
      -- isinstance(output[0], str)
      obtain ⟨a0, us0, rfl, hs0, ha0⟩ := hd2.inv
      obtain ⟨u0, r0, rfl, hu0, hr0⟩ := ha0.inv
      have hu0' := hu0.inv_str
      subst hu0'
      refine ⟨_, rfl, a0, _, 0, _, rfl, rfl, hs0, atI_nat (j := 0) rfl, .str n0, "str", .str n0, true, rfl, .str n0, (by decide +kernel : kitB "str" "str" = some true), true, rfl, iteT ?_⟩
      -- the loop
      refine ⟨_, rfl, 1, rfl, sl1N g2.r hd2 fun p us H3 g3 hp3 hus => ?_⟩
      have hus' : us.length = ps.length := by rw [hus.length, encs_len]
      refine ⟨p, us, rfl, .inl (.inl hp3), for_enumT (K := K) (xs := us) (PartsI K F b H H3 (.ref a0) pv0 (.nd n0 ps) ps pl) ?_ (fun i σ' H' hi hI => ?_) (fun i x T2 σ' H' hx hI nT => ?_) fun σ' H' hI => ?_⟩
      · refine ⟨fL, [.ref p1], [(pl, .nd n0 ps)], _, _, rfl, Go.refl g3.r, g2.nn nF0, nF0, g3.keep (g2.nn nF0) hFL, ?_, by simp, by simp, fun e he => ?_⟩
        · have := g3.dta hf0
          simpa using this
        · rcases List.mem_singleton.mp he with rfl
          exact ⟨[], by simp, by simp [Doc.part]⟩
      · obtain ⟨fL', fus, prts, y3, y4, rfl, gi, _⟩ := hI.ex
        exact .inl (.inl (gi.tup hp3))
      · obtain ⟨fL', fus, prts, y3, y4, rfl, gi, nN, nf, hfl, hfd, hp0, hpz, hpp⟩ := hI.ex
        have g5 := gi.add (o := .tup [.int (i : Nat), x]) nT
        have gT := Go.new (o := .tup [.int (i : Nat), x]) gi.r nT
        obtain ⟨e0, he0, hx0⟩ := hus.get hx
        rw [encs_map, List.getElem?_map] at he0
        cases hpi : ps[i]? with
        | none => rw [hpi] at he0; cases he0
        | some di =>
          rw [hpi] at he0
          cases he0
          have hm := List.mem_of_getElem? hpi
          have hdeep := (deeps_le (n := deeps ps) ps).mp (Nat.le_refl _) _ hm
          have hsz := size_le_sizes hm
          have htk := sizes_take hpi
          refine ⟨T2, _, rfl, .inl (.inl upd_same), rfl, _, _, rfl, _, _, rfl, rfl, ?_⟩
          refine ⟨_, rfl, _, rfl, _, rfl, _, rfl, by show 1 ≤ sizeLine; decide, fun p2 np2 => ?_⟩
          have g6 := g5.add (o := .tup [.int (i : Nat)]) np2
          have g06 := (g2.trans g3).trans g6
          refine catA (F := F) (b := b) g6.r (g06.dt hp) (dt_new np2 (.cons (.int _) .nil)) (by simp only [List.length_map, List.length_singleton]; omega) fun z H4 g4 hz4 => ?_
          have g64 := g6.trans g4
          refine ⟨F, b, x, z, di, pl ++ [i], rfl, g4.r, g64.dt hx0, ?_, by omega, by omega, by rw [List.length_append, List.length_singleton]; omega, fun H5 p5 us5 prts5 g5' n5 h5 hd5 hp50 hp5z hpp5 _ => ?_⟩
          · show Dt K H4 z (.tuple ((pl ++ [i]).map fun i : Nat => .int (i : Int)))
            rw [List.map_append]
            exact hz4
          · have gT5 : Go F b H' b H5 := (gT.trans (Go.new (o := .tup [.int (i : Nat)]) gT.r np2)).trans (g4.trans g5')
            have hfl5 := gT5.keep nN hfl
            have hfd5 := gT5.dta hfd
            have hl1 := hfd.length
            have hl2 := hd5.length
            rw [List.length_map] at hl1 hl2
            have hst : sizes (ps.take (i + 1)) ≤ sizes ps := by
              have e := List.take_append_drop (i + 1) ps
              have : sizes ps = sizes (ps.take (i + 1)) + sizes (ps.drop (i + 1)) := by
                rw [sizes_sum, sizes_sum, sizes_sum, ← List.sum_append, ← List.map_append, e]
              omega
            refine ⟨fL', p5, fus, us5, rfl, rfl, hfl5, h5, sz6 (by omega), fun p6 n6 => ?_⟩
            have g7 := ((g64.trans g5').add (o := .lst (fus ++ us5)) n6)
            refine ⟨p6, fus ++ us5, prts ++ prts5, _, _, rfl, g7, g7.nn (g64.trans g5' |>.was n6), ((g2.trans g3).trans (g64.trans g5')).was n6, upd_same, ?_, by rw [List.length_append]; omega, by rw [List.length_append, htk]; omega, fun e he => ?_⟩
            · rw [List.map_append]
              exact (Go.new (o := .lst (fus ++ us5)) g5'.r n6).dta (hfd5.append hd5)
            · rcases List.mem_append.mp he with q1 | q1
              · exact hpp e q1
              · obtain ⟨r, h1, h2⟩ := hpp5 e q1
                exact ⟨i :: r, by rw [h1, List.append_assoc]; rfl, by simp only [Doc.part]; exact parts_of hpi h2⟩
      · obtain ⟨fL', fus, prts, y3, y4, rfl, gi, nN, nf, hfl, hfd, hp0, hpz, hpp⟩ := hI.ex
        rw [List.take_of_length_le (by omega)] at hpz
        exact ⟨_, rfl, q H' fL' fus prts ((g2.trans g3).trans gi) nf hfl hfd hp0 (by rw [Doc.size]; exact hpz) hpp⟩
/-! ### _law_with -/
def spWith (K : PySem.W.Frag) (n : Nat) : Sp := fun vs H Q _ => ∃ (F : Fr) (b : Nat) (v pv0 u : V) (d e z : Doc) (pl : List Nat), vs = [v, pv0, u] ∧ F.T b H ∧ Dt K H v d.enc ∧ Dt K H pv0 (encPl pl) ∧ Dt K H u e.enc ∧ d.part pl = some z ∧ pl.length + 1 ≤ n ∧ d.size ≤ 100000 ∧
  ∀ H' y, Go F b H b H' → Dt K H' y (d.put pl e).enc → Q y H'
theorem pr__law_with {f : Addr} {fd : FuncData} {k : Nat} (T : Txt mg) (D : Def K mg "_law_with" ["output", "place", "part"] s__law_with f fd) : ∀ n, Pr P w K mg base (k + n) "_law_with" ["output", "place", "part"] (spWith K n)
  | 0 => Pr.never D fun vs H Q E h => by
    obtain ⟨_, _, _, _, _, _, _, _, _, _, _, _, _, _, _, hn, _⟩ := h
    omega
  | n + 1 => by
    have G__law_with := pr__law_with (k := k) T D n
    refine Pr.of' D sc__law_with (fun vs H Q E h => ?_) fun cdv A outer s H vs Q E hcd hG hr h => ?_
    · obtain ⟨_, _, _, _, _, _, _, _, _, rfl, _⟩ := h
      rfl
    · obtain ⟨F, b, v, pv0, u, d, e, z, pl, rfl, hT, hd, hp, hu, hz, hn, hsz, q⟩ := h
      refine ⟨_, (pss_cons (ps_if (pt_cmpR (op_eqT0 (hu0 hr)) (pv 1) (pe_tup pa_nil) (nomark _)) (
    (pss_one (ps_ret (pv 2)))) (pss_nil))
  (pss_cons (ps_set (i := 3) sc__law_with.nd rfl (Or.inl rfl) (pe_op op_add (pe_ix ix_tup (pv 1) pe_int (fun _ _ => rfl)) pe_int))
  (pss_one (ps_ret (pe_op op_catA (pe_op op_catA (pe_slice sl_tupA (pv 0) po_none (po_some (pv 3))) (pe_tup (pa_cons (pcall hG G__law_with hr (pa_cons (pe_ix ix_tup (pv 0) (pv 3) (fun _ _ => rfl)) (pa_cons (pe_slice sl_tupA (pv 1) (po_some pe_int) po_none) (pa_cons (pv 2) pa_nil)))) pa_nil))) (pe_slice sl_tupA (pv 0) (po_some (pe_op op_add (pv 3) pe_int)) po_none)))))), ?_⟩
      refine ⟨_, rfl, eqT0 hT hp fun H1 g1 => ⟨_, rfl, ?_⟩⟩
      cases pl with
      | nil =>
        refine iteT ⟨_, rfl, ?_⟩
        have e1 : d.put [] e = e := by cases d <;> simp [Doc.put]
        have q1 := q H1 u g1
        rw [e1] at q1
        exact q1 (g1.dt hu)
      | cons i r =>
        refine iteF ?_
        obtain ⟨n0, ps⟩ := d
        have hz' : parts_ ps i r = some z := by simpa [Doc.part] using hz
        obtain ⟨di, hpi, hdi⟩ := parts_get hz'
        have hp1 := g1.dt hp
        have hd1 := g1.dt hd
        rw [Doc.enc] at hd1
        rw [Doc.size] at hsz
        have hls := len_le_sizes ps
        have hel := encs_len ps
        have hip := (List.getElem?_eq_some_iff.mp hpi).1
        have hsd := size_le_sizes (List.mem_of_getElem? hpi)
        obtain ⟨a2, us2, rfl, hs2, hu2⟩ := hp1.inv
        obtain ⟨w0, wr, rfl, hw0, hwr⟩ := hu2.inv
        have hw0' := hw0.inv_int
        subst hw0'
        refine ⟨_, rfl, a2, _, 0, _, rfl, rfl, hs2, atI_nat (j := 0) rfl, _, _, rfl, rfl, ?_⟩
        refine ⟨_, rfl, _, rfl, _, rfl, slTo (i := i + 1) g1.r hd1 fun x1 H2 g2 hx1 => ?_⟩
        refine ⟨_, rfl, _, rfl, ?_⟩
        have hdc : (PyData.str n0 :: encs ps)[i + 1]? = some di.enc := by
          rw [List.getElem?_cons_succ, encs_map, List.getElem?_map, hpi]
          rfl
        refine ixT (i := i + 1) (g2.dt hd1) hdc fun xi hxi => ?_
        refine ⟨_, rfl, 1, rfl, sl1N g2.r (g2.dt hp1) fun p us H3 g3 hp3 hus => ?_⟩
        have g13 := g2.trans g3
        have hpr : Dt K H3 (.ref p) (encPl r) := .tup (.inl (.inl hp3)) hus
        have hu3 := (g1.trans g13).dt hu
        refine ⟨_, rfl, F, b, xi, .ref p, u, di, e, z, r, rfl, g3.r, g3.dt hxi, hpr, hu3, hdi, by simpa using hn, by omega, fun H4 y g4 hy _ => ⟨by show 1 ≤ sizeLine; decide, fun p5 n5 => ?_⟩⟩
        have g34 := g3.trans g4
        have g5 := Go.new (o := .tup [y]) g4.r n5
        have g25 := g34.trans g5
        refine catA (F := F) (b := b) g5.r (g25.dt hx1) (dt_new n5 (.cons hy .nil)) (by rw [List.length_take]; simp only [List.length_cons, List.length_nil, hel]; omega) fun z6 H6 g6 hz6 => ?_
        have g26 := g25.trans g6
        refine ⟨_, rfl, _, rfl, _, _, rfl, rfl, _, rfl, slFromN (i := i + 2) g6.r ((g2.trans g26).dt hd1) fun z7 H7 g7 hz7 => ?_⟩
        have e9 : (PyData.str n0 :: encs ps).take (i + 1) ++ [(di.put r e).enc] ++ (PyData.str n0 :: encs ps).drop (i + 2) = PyData.str n0 :: encs (puts ps i r e) := by
          rw [puts_encs hpi, List.take_succ_cons, List.drop_succ_cons]
          simp
        refine catA (F := F) (b := b) g7.r (g7.dt hz6) hz7 (by rw [List.length_append, List.length_take, List.length_drop]; simp only [List.length_cons, List.length_nil, hel]; omega) fun z8 H8 g8 hz8 => ?_
        rw [e9] at hz8
        refine q H8 z8 (g1.trans (g2.trans (g26.trans (g7.trans g8)))) ?_
        simp only [Doc.put]
        rw [Doc.enc]
        exact hz8
/-! ### _law_ahead -/
def spAhead (K : PySem.W.Frag) (n : Nat) : Sp := fun vs H Q _ => ∃ (F : Fr) (b : Nat) (v u : V) (x y : Doc), vs = [v, u] ∧ F.T b H ∧ Dt K H v x.enc ∧ Dt K H u y.enc ∧ x.deep ≤ n ∧ y.deep ≤ n ∧ x.size ≤ 100000 ∧ y.size ≤ 100000 ∧ ∀ H', Go F b H b H' → Q (.int (ahead x y)) H'
structure AheadI (F : Fr) (b : Nat) (H1 : Hp) (v u : V) (ps qs : List Doc) (i : Nat) (σ : L2.St) (H' : Hp) : Prop where
  ex : ∃ y2 y3 y4 : Option V, σ = [some v, some u, y2, y3, y4] ∧ Go F b H1 b H' ∧ aheads (ps.drop i) (qs.drop i) = aheads ps qs
theorem pr__law_ahead {f : Addr} {fd : FuncData} {k j n0 : Nat} (T : Txt mg) (D : Def K mg "_law_ahead" ["one", "other"] s__law_ahead f fd) (G_size : Pr P w K mg base j "_law_size" ["document"] (spSize K n0)) (hj : j ≤ k) : ∀ n, n ≤ n0 → Pr P w K mg base (k + n) "_law_ahead" ["one", "other"] (spAhead K n)
  | 0, _ => Pr.never D fun vs H Q E h => by
    obtain ⟨_, _, _, _, x, _, _, _, _, _, hn, _⟩ := h
    have := deep_pos x
    omega
  | n + 1, hnn => by
    have G__law_ahead := pr__law_ahead (k := k) T D G_size hj n (by omega)
    have G__law_size := G_size.mono (show j ≤ k + n by omega)
    refine Pr.of' D sc__law_ahead (fun vs H Q E h => ?_) fun cdv A outer s H vs Q E hcd hG hr h => ?_
    · obtain ⟨_, _, _, _, _, _, rfl, _⟩ := h
      rfl
    · obtain ⟨F, b, v, u, x, y, rfl, hT, hx, hy, dx, dy, zx, zy, q⟩ := h
      refine ⟨_, (pss_cons (ps_if (pt_cmpR op_ne (pcall hG G__law_size hr (pa_cons (pv 0) pa_nil)) (pcall hG G__law_size hr (pa_cons (pv 1) pa_nil)) (nomark _)) (
    (pss_one (ps_ret (pe_ifExp (pt_cmpR op_lt (pcall hG G__law_size hr (pa_cons (pv 0) pa_nil)) (pcall hG G__law_size hr (pa_cons (pv 1) pa_nil)) (nomark _)) (pe_un un_neg pe_int) pe_int)))) (pss_nil))
  (pss_cons (ps_if (pt_cmpR op_ne (pe_ix ix_tup (pv 0) pe_int (fun _ _ => rfl)) (pe_ix ix_tup (pv 1) pe_int (fun _ _ => rfl)) (nomark _)) (
    (pss_one (ps_ret (pe_ifExp (pt_cmpR op_lt_str (pe_ix ix_tup (pv 0) pe_int (fun _ _ => rfl)) (pe_ix ix_tup (pv 1) pe_int (fun _ _ => rfl)) (nomark _)) (pe_un un_neg pe_int) pe_int)))) (pss_nil))
  (pss_cons (ps_if (pt_cmpR op_ne (pe_callB call_len_seq (by rfl) T.len PySem.boot_len (pa_cons (pv 0) pa_nil)) (pe_callB call_len_seq (by rfl) T.len PySem.boot_len (pa_cons (pv 1) pa_nil)) (nomark _)) (
    (pss_one (ps_ret (pe_ifExp (pt_cmpR op_lt (pe_callB call_len_seq (by rfl) T.len PySem.boot_len (pa_cons (pv 0) pa_nil)) (pe_callB call_len_seq (by rfl) T.len PySem.boot_len (pa_cons (pv 1) pa_nil)) (nomark _)) (pe_un un_neg pe_int) pe_int)))) (pss_nil))
  (pss_cons (ps_for (passes_of rfl) rfl (RZ.pi_zipA (by rfl) T.zip (pa_cons (pe_slice sl_tupA (pv 0) (po_some pe_int) po_none) (pa_cons (pe_slice sl_tupA (pv 1) (po_some pe_int) po_none) pa_nil))) (pg_tup rfl (pgs_cons (pg_name (i := 2) sc__law_ahead.nd rfl (Or.inl rfl)) (pgs_cons (pg_name (i := 3) sc__law_ahead.nd rfl (Or.inl rfl)) pgs_nil))) (
    (pss_cons (ps_set (i := 4) sc__law_ahead.nd rfl (Or.inl rfl) (pcall hG G__law_ahead hr (pa_cons (pv 2) (pa_cons (pv 3) pa_nil))))
    (pss_one (ps_if (pt_cmpR op_ne (pv 4) pe_int (nomark _)) (
      (pss_one (ps_ret (pv 4)))) (pss_nil))))))
  (pss_one (ps_ret pe_int)))))), ?_⟩
      refine ⟨_, rfl, F, b, v, x, rfl, hT, hx, by omega, by omega, fun H1 g1 _ => ⟨_, rfl, F, b, u, y, rfl, g1.r, g1.dt hy, by omega, by omega, fun H2 g2 _ => ⟨rfl, _, rfl, ?_⟩⟩⟩
      have g12 := g1.trans g2
      have hx2 := g12.dt hx
      have hy2 := g12.dt hy
      obtain ⟨n1, ps⟩ := x
      obtain ⟨n2, qs⟩ := y
      have hq : ∀ (z : Int) H', Go F b H b H' → ahead (.nd n1 ps) (.nd n2 qs) = z → Q (.int z) H' := fun z H' g e => e ▸ q H' g
      have inj : ∀ a b : Int, a ≠ b → V.int a ≠ V.int b := fun a b h e => h (by injection e)
      have lx := encs_len ps
      have ly := encs_len qs
      have hx2' := hx2
      have hy2' := hy2
      rw [Doc.enc] at hx2' hy2'
      obtain ⟨a1, us1, rfl, hs1, ha1⟩ := hx2'.inv
      obtain ⟨a2, us2, rfl, hs2, ha2⟩ := hy2'.inv
      have hl1 : us1.length = ps.length + 1 := by rw [ha1.length, List.length_cons, lx]
      have hl2 : us2.length = qs.length + 1 := by rw [ha2.length, List.length_cons, ly]
      obtain ⟨v1, r1, rfl, hv1, hr1⟩ := ha1.inv
      obtain ⟨v2, r2, rfl, hv2, hr2⟩ := ha2.inv
      have hv1' := hv1.inv_str
      have hv2' := hv2.inv_str
      subst hv1' hv2'
      by_cases hs : sizes ps = sizes qs
      case neg =>
        rw [decide_eq_false (inj _ _ (by simp only [Doc.size]; omega))]
        refine iteT ?_
        refine ⟨_, rfl, F, b, _, .nd n1 ps, rfl, g2.r, hx2, by omega, by omega, fun H3 g3 _ => ⟨_, rfl, F, b, _, .nd n2 qs, rfl, g3.r, g3.dt hy2, by omega, by omega, fun H4 g4 _ => ⟨_, _, rfl, rfl, _, rfl, ?_⟩⟩⟩
        have g4' := g12.trans (g3.trans g4)
        by_cases hlt : (((Doc.nd n1 ps).size : Nat) : Int) < (((Doc.nd n2 qs).size : Nat) : Int)
        · rw [decide_eq_true hlt]
          refine iteT ⟨1, rfl, hq _ _ g4' ?_⟩
          simp only [Doc.size] at hlt
          rw [Lf.ahead, if_pos hs, if_pos (by omega)]
        · rw [decide_eq_false hlt]
          refine iteF (hq _ _ g4' ?_)
          simp only [Doc.size] at hlt
          rw [Lf.ahead, if_pos hs, if_neg (by omega)]
      rw [decide_eq_true (by simp only [Doc.size]; rw [hs])]
      refine iteF ?_
      refine ⟨_, rfl, a1, _, 0, _, rfl, rfl, hs1, atI_nat (j := 0) rfl, _, rfl, a2, _, 0, _, rfl, rfl, hs2, atI_nat (j := 0) rfl, rfl, _, rfl, ?_⟩
      by_cases hn : n1 = n2
      case neg =>
        rw [decide_eq_false (show ¬ V.str n1 = V.str n2 from fun e => hn (by injection e))]
        refine iteT ⟨_, rfl, a1, _, 0, _, rfl, rfl, hs1, atI_nat (j := 0) rfl, _, rfl, a2, _, 0, _, rfl, rfl, hs2, atI_nat (j := 0) rfl, _, _, rfl, rfl, _, rfl, ?_⟩
        by_cases hlt : n1.cps.toList < n2.cps.toList
        · rw [decide_eq_true hlt]
          refine iteT ⟨1, rfl, hq _ _ g12 ?_⟩
          rw [Lf.ahead, if_neg (by simpa using hs), if_pos hn]
          simp [strLt, hlt]
        · rw [decide_eq_false hlt]
          refine iteF (hq _ _ g12 ?_)
          rw [Lf.ahead, if_neg (by simpa using hs), if_pos hn]
          simp [strLt, hlt]
      subst hn
      rw [decide_eq_true rfl]
      refine iteF ?_
      refine ⟨_, rfl, a1, _, rfl, .inr hs1, _, rfl, a2, _, rfl, .inr hs2, rfl, _, rfl, ?_⟩
      by_cases hle : ps.length = qs.length
      case neg =>
        rw [decide_eq_false (inj _ _ (by omega))]
        refine iteT ⟨_, rfl, a1, _, rfl, .inr hs1, _, rfl, a2, _, rfl, .inr hs2, _, _, rfl, rfl, _, rfl, ?_⟩
        by_cases hlt : (((V.str n1 :: r1).length : Nat) : Int) < (((V.str n1 :: r2).length : Nat) : Int)
        · rw [decide_eq_true hlt]
          refine iteT ⟨1, rfl, hq _ _ g12 ?_⟩
          rw [Lf.ahead, if_neg (by simpa using hs), if_neg (by simp), if_pos hle, if_pos (by omega)]
        · rw [decide_eq_false hlt]
          refine iteF (hq _ _ g12 ?_)
          rw [Lf.ahead, if_neg (by simpa using hs), if_neg (by simp), if_pos hle, if_neg (by omega)]
      rw [decide_eq_true (by rw [hl1, hl2, hle])]
      refine iteF ?_
      have hah : ahead (.nd n1 ps) (.nd n1 qs) = aheads ps qs := by
        rw [Lf.ahead, if_neg (by simpa using hs), if_neg (by simp), if_neg (by simpa using hle)]
      have hX : Dt K H2 (.ref a1) (.tuple (.str n1 :: encs ps)) := .tup hs1 (.cons (.str _) hr1)
      have hY : Dt K H2 (.ref a2) (.tuple (.str n1 :: encs qs)) := .tup hs2 (.cons (.str _) hr2)
      refine ⟨_, rfl, 1, rfl, sl1N g2.r hX fun p us H3 g3 hp3 hus => ⟨_, rfl, 1, rfl, sl1N g3.r (g3.dt hY) fun p' us' H4 g4 hp4 hus' => ?_⟩⟩
      have g34 := g3.trans g4
      have hp34 := g4.tup hp3
      have hus4 := g4.dta hus
      have hln : us.length = us'.length := by rw [hus.length, hus'.length, lx, ly, hle]
      have hlu : us.length = ps.length := by rw [hus.length, lx]
      refine ⟨p, p', us, us', rfl, .inr ⟨.inl (.inl hp34), .inl (.inl hp4), RZ.for_zipT hln (AheadI F b H4 (.ref a1) (.ref a2) ps qs) ?_ (fun i σ' H' hI => ?_) (fun i l r T2 σ' H' hl hr hI nT => ?_) fun σ' H' hI => ?_⟩⟩
      · exact ⟨_, _, _, rfl, Go.refl g4.r, rfl⟩
      · obtain ⟨y2, y3, y4, rfl, gi, _⟩ := hI.ex
        exact ⟨.inl (.inl (gi.tup hp34)), .inl (.inl (gi.tup hp4))⟩
      · obtain ⟨y2, y3, y4, rfl, gi, hdr⟩ := hI.ex
        obtain ⟨e1, he1, hd1⟩ := hus4.get hl
        obtain ⟨e2, he2, hd2⟩ := hus'.get hr
        rw [encs_map, List.getElem?_map] at he1 he2
        cases hpi : ps[i]? with
        | none => rw [hpi] at he1; cases he1
        | some di =>
          cases hqi : qs[i]? with
          | none => rw [hqi] at he2; cases he2
          | some ei =>
            rw [hpi] at he1
            rw [hqi] at he2
            cases he1
            cases he2
            have g5 := gi.add (o := .tup [l, r]) nT
            have hm1 := List.mem_of_getElem? hpi
            have hm2 := List.mem_of_getElem? hqi
            have z1 := size_le_sizes hm1
            have z2 := size_le_sizes hm2
            have d1 := (deeps_le (n := deeps ps) ps).mp (Nat.le_refl _) _ hm1
            have d2 := (deeps_le (n := deeps qs) qs).mp (Nat.le_refl _) _ hm2
            simp only [Doc.deep, Doc.size] at dx dy zx zy
            refine ⟨T2, _, rfl, .inl (.inl upd_same), rfl, _, _, rfl, _, _, rfl, rfl, ?_⟩
            refine ⟨_, rfl, _, rfl, F, b, l, r, di, ei, rfl, g5.r, g5.dt hd1, g5.dt hd2, by omega, by omega, by omega, by omega, fun H6 g6 _ => ?_⟩
            refine ⟨_, rfl, rfl, _, rfl, ?_⟩
            have g46 := g5.trans g6
            have hst := aheads_drop hpi hqi
            by_cases h0 : ahead di ei = 0
            · rw [decide_eq_true (by rw [h0])]
              refine iteF ⟨_, _, _, rfl, g46, ?_⟩
              rw [if_neg (by simp [h0])] at hst
              rw [← hst]
              exact hdr
            · rw [decide_eq_false (inj _ _ h0)]
              refine iteT ⟨_, rfl, hq _ _ (g12.trans (g34.trans g46)) ?_⟩
              rw [if_pos h0] at hst
              rw [hah, ← hdr, hst]
      · obtain ⟨y2, y3, y4, rfl, gi, hdr⟩ := hI.ex
        refine hq _ _ (g12.trans (g34.trans gi)) ?_
        rw [hah, ← hdr, List.drop_of_length_le (by omega), List.drop_of_length_le (by omega)]
        simp [aheads]
end
end K01

set_option Elab.async false
set_option linter.all false
set_option maxRecDepth 100000
set_option maxHeartbeats 4000000
/-! K1f: what the law asks of documents. -/
namespace K01
open PySem PySem.Spec PyProof.Rows L2 Lf
open PySem.W (alike alikeAll dataLt)
open LfX (SupTxt)
abbrev s__law_like : Stmt := topS 32
abbrev N__law_like : List Str := ["got", "due"]
theorem sc__law_like : FnScope N__law_like ["got", "due"] (defScope s__law_like) := ⟨rfl, rfl, rfl, by decide +kernel, rfl, by decide +kernel, by decide +kernel⟩
abbrev s__law_right : Stmt := topS 34
abbrev N__law_right : List Str := ["one", "other", "due"]
theorem sc__law_right : FnScope N__law_right ["one", "other"] (defScope s__law_right) := ⟨rfl, rfl, rfl, by decide +kernel, rfl, by decide +kernel, by decide +kernel⟩
abbrev s__law_exchange : Stmt := topS 35
abbrev N__law_exchange : List Str := ["state", "document", "near", "far", "place", "part", "one", "other"]
theorem sc__law_exchange : FnScope N__law_exchange ["state", "document", "near", "far"] (defScope s__law_exchange) := ⟨rfl, rfl, rfl, by decide +kernel, rfl, by decide +kernel, by decide +kernel⟩
abbrev s__law_refused : Stmt := topS 36
abbrev N__law_refused : List Str := ["one", "other", "place", "error"]
theorem sc__law_refused : FnScope N__law_refused ["one", "other"] (defScope s__law_refused) := ⟨rfl, rfl, rfl, by decide +kernel, rfl, by decide +kernel, by decide +kernel⟩
section
variable {P : Program} {w : World} {K : PySem.W.Frag} {mg : Str → Option Value} {base : Heap}
/-! ### _law_like -/
def spLike (K : PySem.W.Frag) : Sp := fun vs H Q _ => ∃ (a a' : Addr) (us ws : List V) (ds : List PyData), vs = [.ref a, .ref a'] ∧ H a = some (.lst us) ∧ H a' = some (.lst ws) ∧ DtAll K H us ds ∧ DtAll K H ws ds ∧
  (PyData.list ds).showable = true ∧ (PyData.list ds).shown.length ≤ 100000 ∧ (PyData.list ds).depth ≤ 10 ∧ Q (.bl true) H
theorem pr__law_like {f : Addr} {fd : FuncData} {k : Nat} (T : Txt mg) (D : Def K mg "_law_like" ["got", "due"] s__law_like f fd) : Pr P w K mg base (k + 1) "_law_like" ["got", "due"] (spLike K) := by
  refine Pr.of' D sc__law_like (fun vs H Q E h => ?_) fun cdv A outer s H vs Q E hcd hG hr h => ?_
  · obtain ⟨_, _, _, _, _, rfl, _⟩ := h
    rfl
  · obtain ⟨a, a', us, ws, ds, rfl, ha, ha', hu, hw, hs, hl, hdp, q⟩ := h
    refine ⟨_, (pss_one (ps_ret (pe_cmpR op_eq (pe_callB (call_reprD hG) (by rfl) T.repr (by decide +kernel) (pa_cons (pv 0) pa_nil)) (pe_callB (call_reprD hG) (by rfl) T.repr (by decide +kernel) (pa_cons (pv 1) pa_nil)) (nomark _)))), ?_⟩
    have hun := hr.un
    refine ⟨_, rfl, a, .list ds, rfl, .lst (.inl (.inl ha)) (DtAll.dp _ _ hu), hs, sz6 (by omega), (by show (A.deeper (envOfC "_law_like" (defScope s__law_like) s.heap.objs.size f cdv)).units + ((PyData.list ds).depth + 1) < cLine; omega), _, rfl, a', .list ds, rfl, .lst (.inl (.inl ha')) (DtAll.dp _ _ hw), hs, sz6 (by omega), (by show (A.deeper (envOfC "_law_like" (defScope s__law_like) s.heap.objs.size f cdv)).units + ((PyData.list ds).depth + 1) < cLine; omega), rfl, ?_⟩
    rw [decide_eq_true rfl]
    exact q
theorem ahead_cases : ∀ x y : Doc, Lf.ahead x y = -1 ∨ Lf.ahead x y = 0 ∨ Lf.ahead x y = 1 := fun x y => by
  rw [← cmp_key]
  unfold dcmp
  cases PyData.eqv x.key y.key <;> cases dataLt x.key y.key <;> simp
/-! ### _law_right -/
def spRight (K : PySem.W.Frag) (P1 P2 : Addr) (n : Nat) : Sp := fun vs H Q _ => ∃ (F : Fr) (b : Nat) (v u : V) (x y : Doc), vs = [v, u] ∧ F.T b H ∧ HasTab F P1 ∧ HasTab F P2 ∧ Dt K H v x.enc ∧ Dt K H u y.enc ∧ x.fine = true ∧ y.fine = true ∧ x.deep ≤ n ∧ y.deep ≤ n ∧ x.size ≤ 2000 ∧ y.size ≤ 2000 ∧ ∀ H', Go F b H b H' → Q (.bl true) H'
theorem pr__law_right {f P1 P2 C : Addr} {fd : FuncData} {k n : Nat} (T : Txt mg) (D : Def K mg "_law_right" ["one", "other"] s__law_right f fd) (G_compared : Pr P w K mg base k "compared" ["one", "other"] (spCmp K P1 P2 C n))
    (G__law_ahead : Pr P w K mg base k "_law_ahead" ["one", "other"] (spAhead K n)) (G__law_like : Pr P w K mg base k "_law_like" ["got", "due"] (spLike K)) : Pr P w K mg base (k + 1) "_law_right" ["one", "other"] (spRight K P1 P2 n) := by
  refine Pr.of' D sc__law_right (fun vs H Q E h => ?_) fun cdv A outer s H vs Q E hcd hG hr h => ?_
  · obtain ⟨_, _, _, _, _, _, rfl, _⟩ := h
    rfl
  · obtain ⟨F, b, v, u, x, y, rfl, hT, hP1, hP2, hx, hy, fx, fy, dx, dy, zx, zy, q⟩ := h
    refine ⟨_, (pss_cons (ps_set (i := 2) sc__law_right.nd rfl (Or.inl rfl) (pcall hG G__law_ahead hr (pa_cons (pv 0) (pa_cons (pv 1) pa_nil))))
  (pss_one (ps_ret (pcall hG G__law_like hr (pa_cons (pe_lst (pa_cons (pcall hG G_compared hr (pa_cons (pv 0) (pa_cons (pv 1) pa_nil))) (pa_cons (pcall hG G_compared hr (pa_cons (pv 1) (pa_cons (pv 0) pa_nil))) (pa_cons (pcall hG G_compared hr (pa_cons (pv 0) (pa_cons (pv 0) pa_nil))) pa_nil)))) (pa_cons (pe_lst (pa_cons (pv 2) (pa_cons (pe_un un_neg (pv 2)) (pa_cons pe_int pa_nil)))) pa_nil)))))), ?_⟩
    have sx := sh_enc x fx
    have sy := sh_enc y fy
    refine ⟨_, rfl, _, rfl, F, b, v, u, x, y, rfl, hT, hx, hy, dx, dy, by omega, by omega, fun H1 g1 _ => ?_⟩
    refine ⟨_, rfl, _, rfl, F, b, v, u, _, _, rfl, g1.r, hP1, hP2, g1.dt hx, g1.dt hy, sx, sy, .inr (.inr ⟨x, y, rfl, rfl, fx, fy, dx, dy, zx, zy, fun H2 g2 _ => ?_⟩)⟩
    have g12 := g1.trans g2
    refine ⟨_, rfl, _, rfl, F, b, u, v, _, _, rfl, g12.r, hP1, hP2, g12.dt hy, g12.dt hx, sy, sx, .inr (.inr ⟨y, x, rfl, rfl, fy, fx, dy, dx, zy, zx, fun H3 g3 _ => ?_⟩)⟩
    have g13 := g12.trans g3
    refine ⟨_, rfl, _, rfl, F, b, v, v, _, _, rfl, g13.r, hP1, hP2, g13.dt hx, g13.dt hx, sx, sx, .inr (.inr ⟨x, x, rfl, rfl, fx, fx, dx, dx, zx, zx, fun H4 g4 _ => ?_⟩)⟩
    have g14 := g13.trans g4
    refine ⟨by show 3 ≤ sizeLine; decide, fun l1 n1 => ⟨_, rfl, _, rfl, _, rfl, by show 3 ≤ sizeLine; decide, fun l2 n2 => ?_⟩⟩
    have g5 := g14.add (o := .lst [.int (Lf.ahead x y), .int (Lf.ahead y x), .int (Lf.ahead x x)]) n1
    have g6 := g5.add (o := .lst [.int (Lf.ahead x y), .int (-Lf.ahead x y), .int 0]) n2
    have e1 : (upd (upd H4 l1 (.lst [.int (Lf.ahead x y), .int (Lf.ahead y x), .int (Lf.ahead x x)])) l2 (.lst [.int (Lf.ahead x y), .int (-Lf.ahead x y), .int 0])) l1 = some (.lst [.int (Lf.ahead x y), .int (Lf.ahead y x), .int (Lf.ahead x x)]) :=
      (upd_ne (ne_of_none (o := .lst _) upd_same n2)).trans upd_same
    have hc : PyData.showable (.list [.int (Lf.ahead x y), .int (-Lf.ahead x y), .int 0]) = true ∧ (PyData.shown (.list [.int (Lf.ahead x y), .int (-Lf.ahead x y), .int 0])).length ≤ 100000 ∧ (PyData.list [.int (Lf.ahead x y), .int (-Lf.ahead x y), .int 0]).depth ≤ 10 := by
      rcases ahead_cases x y with e | e | e <;> rw [e] <;> decide +kernel
    refine ⟨l1, l2, _, _, [.int (Lf.ahead x y), .int (-Lf.ahead x y), .int 0], rfl, e1, upd_same, .cons (.int _) (.cons ?_ (.cons ?_ .nil)), .cons (.int _) (.cons (.int _) (.cons (.int _) .nil)), hc.1, hc.2.1, hc.2.2, fun _ => q _ g6⟩
    · rw [ahead_turn x y]
      exact .int _
    · rw [ahead_self x]
      exact .int _
/-! ### _law_exchange -/
def spExch (K : PySem.W.Frag) (P1 P2 : Addr) : Sp := fun vs H Q _ => ∃ (F : Fr) (b : Nat) (st : Addr) (v u1 u2 : V) (d x y : Doc), vs = [.ref st, v, u1, u2] ∧ F.T b H ∧ HasSt F st ∧ HasTab F P1 ∧ HasTab F P2 ∧ b ≤ 1000000 ∧ Dt K H v d.enc ∧ Dt K H u1 x.enc ∧ Dt K H u2 y.enc ∧
  d.fine = true ∧ x.fine = true ∧ y.fine = true ∧ d.deep ≤ 10 ∧ x.deep ≤ 10 ∧ y.deep ≤ 10 ∧ d.size ≤ 1000 ∧ x.size ≤ 1000 ∧ y.size ≤ 1000 ∧ ∀ H', Go F b H (b + 1) H' → Q (.bl true) H'
theorem pr__law_exchange {f P1 P2 C : Addr} {fd : FuncData} {k : Nat} (T : Txt mg) (D : Def K mg "_law_exchange" ["state", "document", "near", "far"] s__law_exchange f fd) (G_compared : Pr P w K mg base k "compared" ["one", "other"] (spCmp K P1 P2 C 20))
    (G__law_ahead : Pr P w K mg base k "_law_ahead" ["one", "other"] (spAhead K 20)) (G__law_of : Pr P w K mg base k "_law_of" ["state", "some"] (spOf K)) (G__law_parts : Pr P w K mg base k "_law_parts" ["output", "place"] (spParts K 20))
    (G__law_with : Pr P w K mg base k "_law_with" ["output", "place", "part"] (spWith K 20)) : Pr P w K mg base (k + 1) "_law_exchange" ["state", "document", "near", "far"] (spExch K P1 P2) := by
  refine Pr.of' D sc__law_exchange (fun vs H Q E h => ?_) fun cdv A outer s H vs Q E hcd hG hr h => ?_
  · obtain ⟨_, _, _, _, _, _, _, _, _, rfl, _⟩ := h
    rfl
  · obtain ⟨F, b, st, v, u1, u2, d, x, y, rfl, hT, hS, hP1, hP2, hb, hd, hx, hy, fd', fx, fy, dd, dx, dy, zd, zx, zy, q⟩ := h
    refine ⟨_, (pss_cons (ps_set (i := 4) sc__law_exchange.nd rfl (Or.inl rfl) (pcall hG G__law_of hr (pa_cons (pv 0) (pa_cons (pe_lc (own := [("place", 4), ("part", 5)]) rfl sc__law_exchange.nd (pi_list (pcall hG G__law_parts hr (pa_cons (pv 1) (pa_cons (pe_tup pa_nil) pa_nil)))) (blkOk_by (own := [("place", 4), ("part", 5)]) (N := N__law_exchange) (sc := defScope s__law_exchange) (by decide +kernel)) (fun _ _ _ _ _ => (show PG _ _ (gTup K 2 _) from pg_tup rfl (pgs_cons (pg_name (i := 4) sc__law_exchange.nd rfl (Or.inl rfl)) (pgs_cons (pg_name (i := 5) sc__law_exchange.nd rfl (Or.inl rfl)) pgs_nil)))) (fun _ _ _ _ _ => pts_nil) (fun _ _ _ _ _ => (pv 4))) pa_nil))))
  (pss_cons (ps_par (i := 6) (j := 7) (by rfl) sc__law_exchange.nd rfl rfl (by decide) rfl rfl (pa_cons (pcall hG G__law_with hr (pa_cons (pv 1) (pa_cons (pv 4) (pa_cons (pv 2) pa_nil)))) (pa_cons (pcall hG G__law_with hr (pa_cons (pv 1) (pa_cons (pv 4) (pa_cons (pv 3) pa_nil)))) pa_nil)) (by rfl))
  (pss_one (ps_ret (pe_cmpR op_eq (pcall hG G_compared hr (pa_cons (pv 6) (pa_cons (pv 7) pa_nil))) (pcall hG G__law_ahead hr (pa_cons (pv 2) (pa_cons (pv 3) pa_nil))) (nomark _)))))), ?_⟩
    have hlen : ∀ (pl : List Nat) (z : Doc), d.part pl = some z → pl.length + 1 ≤ 20 := fun pl z h => by
      have := part_len pl d z h
      omega
    refine ⟨_, rfl, ?_⟩
    dsimp only [tCons, tNil]
    refine tLc_iList ?_
    refine ⟨_, rfl, Nat.zero_le _, fun p0 n0 => ?_⟩
    have g0 := Go.new (o := .tup []) hT n0
    refine ⟨F, b, v, .ref p0, d, [], rfl, g0.r, g0.dt hd, dt_new n0 .nil, by omega, by omega, by simp; omega, fun H1 pL us prts g1 npL hL hus hp0 hpz hpp _ => ?_⟩
    have g01 := g0.trans g1
    have nN := g1.nn npL
    have hlu : us.length = prts.length := by rw [hus.length, List.length_map]
    refine lcL (K := K) (F := F) (b := b) (e := 0) (R := fun _ i y H => ∃ e, prts[i]? = some e ∧ Dt K H y (encPl e.1)) hL nN g1.r (by omega) (fun D i H H' y _ t h => by
      obtain ⟨e, h1, h2⟩ := h
      exact ⟨e, h1, Dt.ts t _ _ h2⟩) (fun L i x0 H2 hL2 hI hx0 Pq hPq => ?_) fun L ys H2 hL2 g2 hl2 hly hall => ?_
    · obtain ⟨e, he, hx2⟩ := hus.get hx0
      rw [List.getElem?_map] at he
      cases hpi : prts[i]? with
      | none => rw [hpi] at he; cases he
      | some di =>
        rw [hpi] at he
        cases he
        obtain ⟨a, xs, rfl, hsq, ha⟩ := (hI.go.dt hx2).inv
        obtain ⟨w1, r1, rfl, hw1, hr1⟩ := ha.inv
        obtain ⟨w2, r2, rfl, hw2, hr2⟩ := hr1.inv
        cases hr2
        exact ⟨a, _, rfl, hsq, rfl, _, _, rfl, _, _, rfl, rfl, rfl, _, rfl, hPq _ _ (Go.refl hI.go.r) ⟨di, hpi, hw1⟩⟩
    · have g2' : Go F b H1 b H2 := g2
      have g02 := g01.trans g2'
      refine ⟨F, b, st, L, ys, rfl, g2'.r, hS, .inl ⟨hl2, g2'.nn hL2⟩, by omega, by omega, hb, fun i pl0 H3 hpl0 g3 _ => ?_⟩
      obtain ⟨e, he, hpd⟩ := hall i pl0 hpl0
      obtain ⟨q0, hq0, hq1⟩ := hpp e (List.mem_of_getElem? he)
      rw [List.nil_append] at hq0
      have hpd3 : Dt K H3 pl0 (encPl q0) := by
        rw [← hq0]
        exact g3.dt hpd
      have g03 := g02.trans g3
      refine ⟨_, rfl, _, rfl, _, rfl, F, b + 1, v, pl0, u1, d, x, e.2, q0, rfl, g3.r, g03.dt hd, hpd3, g03.dt hx, hq1, hlen _ _ hq1, by omega, fun H4 y1 g4 hy1 _ => ?_⟩
      have g04 := g03.trans g4
      refine ⟨_, rfl, _, rfl, _, rfl, F, b + 1, v, pl0, u2, d, y, e.2, q0, rfl, g4.r, g04.dt hd, g4.dt hpd3, g04.dt hy, hq1, hlen _ _ hq1, by omega, fun H5 y2 g5 hy2 _ => ?_⟩
      have g05 := g04.trans g5
      have f1 := put_fine d q0 x fd' fx
      have f2 := put_fine d q0 y fd' fy
      have d1 := put_deep d q0 x
      have d2 := put_deep d q0 y
      have z1 := put_size d q0 x
      have z2 := put_size d q0 y
      refine ⟨_, _, rfl, ?_⟩
      refine ⟨_, rfl, _, rfl, F, b + 1, y1, y2, _, _, rfl, g5.r, hP1, hP2, g5.dt hy1, hy2, sh_enc _ f1, sh_enc _ f2, .inr (.inr ⟨_, _, rfl, rfl, f1, f2, by omega, by omega, by omega, by omega, fun H6 g6 _ => ?_⟩)⟩
      have g06 := g05.trans g6
      refine ⟨_, rfl, _, rfl, F, b + 1, u1, u2, x, y, rfl, g6.r, g06.dt hx, g06.dt hy, by omega, by omega, by omega, by omega, fun H7 g7 _ => ?_⟩
      refine ⟨rfl, ?_⟩
      rw [ahead_put d q0 x y e.2 hq1, decide_eq_true rfl]
      exact q _ (g06.trans g7)
/-! ### _law_refused -/
def spRef (K : PySem.W.Frag) (P1 P2 : Addr) : Sp := fun vs H Q _ => ∃ (F : Fr) (b : Nat) (v u : V) (d e : PyData) (pl : List Nat), vs = [v, u] ∧ F.T b H ∧ HasTab F P1 ∧ HasTab F P2 ∧ Dt K H v d ∧ Dt K H u e ∧ sh d = true ∧ sh e = true ∧
  ((∃ m, chk m [(d, [])] 0 = some (some pl)) ∨ ∃ m m', chk m [(d, [])] 0 = some none ∧ chk m' [(e, [])] 0 = some (some pl)) ∧ ∀ H' y, Go F b H b H' → Dt K H' y (encPl pl) → Q y H'
theorem pr__law_refused {f P1 P2 C fI : Addr} {fd : FuncData} {k n : Nat} (T : Txt mg) (TS : SupTxt P K mg "BadDocument" C fI "place") (D : Def K mg "_law_refused" ["one", "other"] s__law_refused f fd) (G_compared : Pr P w K mg base k "compared" ["one", "other"] (spCmp K P1 P2 C n)) :
    Pr P w K mg base (k + 1) "_law_refused" ["one", "other"] (spRef K P1 P2) := by
  refine Pr.of' D sc__law_refused (fun vs H Q E h => ?_) fun cdv A outer s H vs Q E hcd hG hr h => ?_
  · obtain ⟨_, _, _, _, _, _, _, rfl, _⟩ := h
    rfl
  · obtain ⟨F, b, v, u, d, e, pl, rfl, hT, hP1, hP2, hd, he, hsd, hse, hw, q⟩ := h
    refine ⟨_, (pss_cons (ps_set (i := 2) sc__law_refused.nd rfl (Or.inl rfl) pe_non)
  (pss_cons (ps_try_as (i := 3) rfl rfl sc__law_refused.nd rfl rfl ⟨rfl, by decide, .inl TS.gC⟩ (takes_of rfl rfl rfl rfl) (fun W pn xe tk _ => (pss_one (ps_expr (pcallX hG G_compared hr tk (pa_cons (pv 0) (pa_cons (pv 1) pa_nil))))))
      (fun a oe cls d pn hz hf => (pss_one (ps_set (i := 2) sc__law_refused.nd rfl (Or.inl rfl) (LfX.pe_bySup TS hz hf (pv 3))))))
  (pss_one (ps_ret (pv 2))))), ?_⟩
    have key : ∀ H', errTo K F b H' C pl (fun cls d' H'' => True) → True := fun _ _ => trivial
    refine ⟨_, rfl, _, rfl, F, b, v, u, d, e, rfl, hT, hP1, hP2, hd, he, hsd, hse, ?_⟩
    rcases hw with ⟨m, hm⟩ | ⟨m, m', hm, hm'⟩
    · refine .inl ⟨pl, m, hm, fun H' x y g hx hy => ⟨true, TS.te, fun _ a ha => ?_, fun z => Bool.noConfusion z⟩⟩
      exact ⟨_, rfl, rfl, rfl, x, y, rfl, hx, _, rfl, q H' y g hy⟩
    · refine .inr (.inl ⟨pl, m, m', hm, hm', fun H' x y g hx hy => ⟨true, TS.te, fun _ a ha => ?_, fun z => Bool.noConfusion z⟩⟩)
      exact ⟨_, rfl, rfl, rfl, x, y, rfl, hx, _, rfl, q H' y g hy⟩
end
end K01

set_option Elab.async false
set_option linter.all false
set_option maxRecDepth 100000
set_option maxHeartbeats 4000000
/-! K1g: documents of shapes. -/
namespace K01
open PySem PySem.Spec PyProof.Rows L2 Lf
open PySem.W (alike alikeAll dataLt)
abbrev s__law_document : Stmt := topS 26
abbrev N__law_document : List Str := ["state", "shape_so", "firsts_so", "kind", "deep", "name", "parts", "part"]
theorem sc__law_document : FnScope N__law_document ["state", "shape_so", "firsts_so", "kind", "deep"] (defScope s__law_document) := ⟨rfl, rfl, rfl, by decide +kernel, rfl, by decide +kernel, by decide +kernel⟩
abbrev s__law_firsts : Stmt := topS 23
abbrev N__law_firsts : List Str := ["shape_so", "found", "turn", "best", "kind", "ways", "name", "parts", "part", "here"]
theorem sc__law_firsts : FnScope N__law_firsts ["shape_so"] (defScope s__law_firsts) := ⟨rfl, rfl, rfl, by decide +kernel, rfl, by decide +kernel, by decide +kernel⟩
abbrev s__law_reached : Stmt := topS 24
abbrev N__law_reached : List Str := ["shape_so", "found", "at", "name", "parts", "part"]
theorem sc__law_reached : FnScope N__law_reached ["shape_so"] (defScope s__law_reached) := ⟨rfl, rfl, rfl, by decide +kernel, rfl, by decide +kernel, by decide +kernel⟩
section
variable {P : Program} {w : World} {K : PySem.W.Frag} {mg : Str → Option Value} {base : Heap}
theorem docs_of {H : Hp} {p : Doc → Prop} : ∀ {ys : List V}, (∀ (i : Nat) (y : V), ys[i]? = some y → ∃ d : Doc, Dt K H y d.enc ∧ p d) → ∃ ds : List Doc, DtAll K H ys (encs ds) ∧ ds.length = ys.length ∧ ∀ d ∈ ds, p d
  | [], _ => ⟨[], .nil, rfl, fun _ h => by cases h⟩
  | y :: r, h => by
    obtain ⟨d, h1, h2⟩ := h 0 y rfl
    obtain ⟨ds, h3, h4, h5⟩ := docs_of (ys := r) fun i x e => h (i + 1) x (by simpa using e)
    refine ⟨d :: ds, .cons h1 h3, by simp [h4], fun e he => ?_⟩
    rcases List.mem_cons.mp he with q | q
    · rw [q]; exact h2
    · exact h5 e q
def cDoc : Nat → Nat
  | 0 => 0
  | n + 1 => 1 + 3 * cDoc n
def zDoc (z : Nat) : Nat → Nat
  | 0 => z
  | n + 1 => 1 + 3 * zDoc z n
def spDoc (K : PySem.W.Frag) (n : Nat) : Sp := fun vs H Q _ => ∃ (F : Fr) (b : Nat) (st : Addr) (sv : V) (fA : Addr) (kd : Nat) (s : Shp) (us : List V) (ds : List Doc) (e z : Nat), vs = [.ref st, sv, .ref fA, .int (kd : Nat), .int (n : Nat)] ∧ F.T b H ∧ HasSt F st ∧ b + cDoc n ≤ 1000000 ∧
  Dt K H sv (encShp s) ∧ Good s ∧ H fA = some (.lst us) ∧ ¬ F.N fA ∧ DtAll K H us (encs ds) ∧ ds.length = s.length ∧ (∀ d ∈ ds, d.fine = true ∧ d.deep ≤ e ∧ d.size ≤ z) ∧ kd < s.length ∧
  ∀ H' u (d : Doc), Go F b H (b + cDoc n) H' → Dt K H' u d.enc → d.fine = true → d.deep ≤ n + e → d.size ≤ zDoc z n → Q u H'
theorem pr__law_document {f : Addr} {fd : FuncData} {k j : Nat} (T : Txt mg) (D : Def K mg "_law_document" ["state", "shape_so", "firsts_so", "kind", "deep"] s__law_document f fd) (G_of : Pr P w K mg base j "_law_of" ["state", "some"] (spOf K)) (hj : j ≤ k) :
    ∀ n, Pr P w K mg base (k + n + 1) "_law_document" ["state", "shape_so", "firsts_so", "kind", "deep"] (spDoc K n)
  | 0 => by
    have G__law_of := G_of.mono (show j ≤ k + 0 by omega)
    have G__law_document : Pr P w K mg base (k + 0) "_law_document" ["state", "shape_so", "firsts_so", "kind", "deep"] (fun _ _ _ _ => False) := Pr.never D fun vs H Q E h => h
    refine Pr.of' D sc__law_document (fun vs H Q E h => ?_) fun cdv A outer s H vs Q E hcd hG hr h => ?_
    · obtain ⟨_, _, _, _, _, _, _, _, _, _, _, rfl, _⟩ := h
      rfl
    · obtain ⟨F, b, st, sv, fA, kd, s, us, ds, e, z, rfl, hT, hS, hb, hs, hg, hf, hn, hd, hl, hp, hk, q⟩ := h
      refine ⟨_, (pss_cons (ps_if (pt_cmpR op_eq (pv 4) pe_int (nomark _)) (
    (pss_one (ps_ret (pe_ix ix_list (pv 2) (pv 3) (fun _ _ => rfl))))) (pss_nil))
  (pss_cons (ps_asg (pcall hG G__law_of hr (pa_cons (pv 0) (pa_cons (pe_ix ix_tup (pv 1) (pv 3) (fun _ _ => rfl)) pa_nil))) (pg_tup rfl (pgs_cons (pg_name (i := 5) sc__law_document.nd rfl (Or.inl rfl)) (pgs_cons (pg_name (i := 6) sc__law_document.nd rfl (Or.inl rfl)) pgs_nil))))
  (pss_one (ps_ret (pe_op op_catA (pe_tup (pa_cons (pv 5) pa_nil)) (pe_callTy call_tuple_of (by rfl) T.tuple (by decide +kernel) (pa_cons (pe_lc (own := [("part", 7)]) rfl sc__law_document.nd (pi_tup (pv 6)) (blkOk_by (own := [("part", 7)]) (N := N__law_document) (sc := defScope s__law_document) (by decide +kernel)) (fun _ _ _ _ _ => (pg_name (i := 7) sc__law_document.nd rfl (Or.inl rfl))) (fun _ _ _ _ _ => pts_nil) (fun _ _ _ _ _ => (pcall hG G__law_document hr (pa_cons (pv 0) (pa_cons (pv 1) (pa_cons (pv 2) (pa_cons (pv 7) (pa_cons (pe_op op_sub (pv 4) pe_int) pa_nil)))))))) pa_nil))))))), ?_⟩
      have hdk : (encs ds)[kd]? = some (ds[kd]'(by omega)).enc := by
        rw [encs_map, List.getElem?_map, List.getElem?_eq_getElem (by omega)]
        rfl
      obtain ⟨v, hv, hdv⟩ := hd.getD hdk
      obtain ⟨h1, h2, h3⟩ := hp _ (List.getElem_mem (by omega : kd < ds.length))
      refine ⟨_, rfl, rfl, _, rfl, ?_⟩
      rw [decide_eq_true (show V.int ((0 : Nat) : Int) = V.int 0 from rfl)]
      refine iteT ⟨_, rfl, _, rfl, fA, us, _, v, rfl, rfl, .inl (.inl hf), atI_nat hv, ?_⟩
      exact q H v _ (Go.refl hT) hdv h1 (by omega) h3
  | n + 1 => by
    have G__law_of := G_of.mono (show j ≤ k + (n + 1) by omega)
    have G__law_document := pr__law_document (k := k) T D G_of hj n
    refine Pr.of' D sc__law_document (fun vs H Q E h => ?_) fun cdv A outer s H vs Q E hcd hG hr h => ?_
    · obtain ⟨_, _, _, _, _, _, _, _, _, _, _, rfl, _⟩ := h
      rfl
    · obtain ⟨F, b, st, sv, fA, kd, s, us, ds, e, z, rfl, hT, hS, hb, hs, hg, hf, hn, hd, hl, hp, hk, q⟩ := h
      refine ⟨_, (pss_cons (ps_if (pt_cmpR op_eq (pv 4) pe_int (nomark _)) (
    (pss_one (ps_ret (pe_ix ix_list (pv 2) (pv 3) (fun _ _ => rfl))))) (pss_nil))
  (pss_cons (ps_asg (pcall hG G__law_of hr (pa_cons (pv 0) (pa_cons (pe_ix ix_tup (pv 1) (pv 3) (fun _ _ => rfl)) pa_nil))) (pg_tup rfl (pgs_cons (pg_name (i := 5) sc__law_document.nd rfl (Or.inl rfl)) (pgs_cons (pg_name (i := 6) sc__law_document.nd rfl (Or.inl rfl)) pgs_nil))))
  (pss_one (ps_ret (pe_op op_catA (pe_tup (pa_cons (pv 5) pa_nil)) (pe_callTy call_tuple_of (by rfl) T.tuple (by decide +kernel) (pa_cons (pe_lc (own := [("part", 7)]) rfl sc__law_document.nd (pi_tup (pv 6)) (blkOk_by (own := [("part", 7)]) (N := N__law_document) (sc := defScope s__law_document) (by decide +kernel)) (fun _ _ _ _ _ => (pg_name (i := 7) sc__law_document.nd rfl (Or.inl rfl))) (fun _ _ _ _ _ => pts_nil) (fun _ _ _ _ _ => (pcall hG G__law_document hr (pa_cons (pv 0) (pa_cons (pv 1) (pa_cons (pv 2) (pa_cons (pv 7) (pa_cons (pe_op op_sub (pv 4) pe_int) pa_nil)))))))) pa_nil))))))), ?_⟩
      rw [cDoc] at hb q
      rw [zDoc] at q
      refine ⟨_, rfl, rfl, _, rfl, ?_⟩
      rw [decide_eq_false (show ¬ V.int ((n + 1 : Nat) : Int) = V.int 0 from fun h => by injection h with h; omega)]
      refine iteF ?_
      have hsk : s[kd]? = some s[kd] := List.getElem?_eq_getElem hk
      have hsk' : (s.map encKind)[kd]? = some (encKind s[kd]) := by rw [List.getElem?_map, hsk]; rfl
      obtain ⟨g1, g2, g3⟩ := hg.kinds _ (List.getElem_mem hk)
      refine ⟨_, rfl, _, rfl, _, rfl, ?_⟩
      refine ixT (i := kd) hs hsk' fun kv hkv => ?_
      obtain ⟨ka, kx, rfl, hks, hka⟩ := hkv.inv
      have hkl : kx.length = s[kd].length := by rw [hka.length, List.length_map]
      refine ⟨F, b, st, ka, kx, rfl, hT, hS, .inr hks, by omega, by omega, by omega, fun i x H1 hx gg _ => ?_⟩
      obtain ⟨wd, hwd, hxd⟩ := hka.get hx
      rw [List.getElem?_map] at hwd
      cases hwi : s[kd][i]? with
      | none => rw [hwi] at hwd; cases hwd
      | some wy =>
        rw [hwi] at hwd
        cases hwd
        obtain ⟨nm, pp⟩ := wy
        obtain ⟨g4, g5, g6⟩ := g3 _ (List.mem_of_getElem? hwi)
        obtain ⟨a, xs, rfl, hsq, ha⟩ := (gg.dt hxd).inv
        obtain ⟨w1, r1, rfl, hw1, hr1⟩ := ha.inv
        obtain ⟨w2, r2, rfl, hw2, hr2⟩ := hr1.inv
        cases hr2
        obtain ⟨pa, px, rfl, hps, hpa⟩ := hw2.inv
        have hpl : px.length = pp.length := by rw [hpa.length, List.length_map]
        have g4' : isNameS nm = true := g4
        have g5' : pp.length ≤ 3 := g5
        refine ⟨a, _, rfl, hsq, rfl, _, _, rfl, _, _, rfl, rfl, ?_⟩
        refine ⟨_, rfl, by show 1 ≤ sizeLine; decide, fun p1 n1 => ?_⟩
        have gA := gg.add (o := .tup [w1]) n1
        have hTA := gA.r
        dsimp only [tCB, tCons, tNil]
        refine tLc_iTup ?_
        refine ⟨_, rfl, ?_⟩
        have hps1 := (Go.new (o := .tup [w1]) gg.r n1).sqT hps
        refine lcT (K := K) (F := F) (b := b + 1) (e := cDoc n) (R := fun _ i y H => ∃ d : Doc, Dt K H y d.enc ∧ (d.fine = true ∧ d.deep ≤ n + e ∧ d.size ≤ zDoc z n)) hps1 gA.r (by omega) (fun D i H H' y _ t h => by
          obtain ⟨d, h1, h2⟩ := h
          exact ⟨d, Dt.ts t _ _ h1, h2⟩) (fun L i x H2 hL hI hx Pq hPq => ?_) fun L ys H2 hL gB hl2 hly hall => ?_
        · obtain ⟨dd, hdd, hxd2⟩ := hpa.get hx
          rw [List.getElem?_map] at hdd
          cases hpi : pp[i]? with
          | none => rw [hpi] at hdd; cases hdd
          | some pi =>
            rw [hpi] at hdd
            cases hdd
            have hv := hxd2.inv_int
            subst hv
            have gI := hI.go
            have g02 := gA.trans gI
            have hpi3 : pi < s.length := g6 pi (List.mem_of_getElem? hpi)
            have hi3 : i < 3 := by
              have := (List.getElem?_eq_some_iff.mp hpi).1
              omega
            have hbi : b + 1 + i * cDoc n + cDoc n ≤ 1000000 := by
              have : i * cDoc n ≤ 2 * cDoc n := Nat.mul_le_mul_right _ (by omega)
              omega
            have hf2 := g02.keep hn hf
            refine ⟨rfl, _, rfl, _, rfl, _, rfl, _, rfl, _, rfl, _, _, rfl, rfl, F, b + 1 + i * cDoc n, st, sv, fA, pi, s, us, ds, e, z, ?_, gI.r, hS, hbi, g02.dt hs, hg, hf2, hn, g02.dta hd, hl, hp, hpi3, fun H3 u d g3' hu f1 f2 f3 _ => ?_⟩
            · show [V.ref st, sv, V.ref fA, V.int (pi : Nat), V.int (((n + 1 : Nat) : Int) - 1)] = _
              rw [show ((n + 1 : Nat) : Int) - 1 = ((n : Nat) : Int) by omega]
            · refine hPq u H3 ?_ ⟨d, hu, f1, f2, f3⟩
              rw [Nat.succ_mul, ← Nat.add_assoc]
              exact g3'
        · obtain ⟨es, he1, he2, he3⟩ := docs_of hall
          have hle : es.length ≤ 3 := by omega
          refine ⟨L, ys, rfl, .inl ⟨.inl (.inl hl2), fun p2 n2 => ?_⟩⟩
          have gC := gB.add (o := .tup ys) n2
          have hname : Dt K (upd H2 p2 (.tup ys)) (.ref p1) (.tuple [.str nm]) := gC.dt (dt_new n1 (.cons hw1 .nil))
          refine catA (F := F) (b := _) gC.r hname (dt_new n2 he1) (by rw [encs_len]; simp only [List.length_cons, List.length_nil]; omega) fun zz H3 gD hz => ?_
          have hmul : px.length * cDoc n ≤ 3 * cDoc n := Nat.mul_le_mul_right _ (by omega)
          have gE : Go F b H (b + (1 + 3 * cDoc n)) H3 := (gA.trans (gC.trans gD)).le (by omega)
          have hfin : (Doc.nd nm es).fine = true := by
            rw [Doc.fine, g4', (fines_all es).mpr fun d hd => (he3 d hd).1]
            simp
            omega
          have hdp : deeps es ≤ n + e := (deeps_le es).mpr fun d hd => (he3 d hd).2.1
          have hsz := sizes_le (n := zDoc z n) (ps := es) fun d hd => (he3 d hd).2.2
          have hsz3 : es.length * zDoc z n ≤ 3 * zDoc z n := Nat.mul_le_mul_right _ hle
          refine q H3 zz (.nd nm es) gE ?_ hfin (by rw [Doc.deep]; omega) (by rw [Doc.size]; omega)
          rw [Doc.enc]
          exact hz
/-! ### _law_reached -/
def spReach (K : PySem.W.Frag) : Sp := fun vs H Q _ => ∃ (F : Fr) (b : Nat) (rA : Addr) (rv : List V) (rows : Shp), vs = [.ref rA] ∧ F.T b H ∧ H rA = some (.lst rv) ∧ ¬ F.N rA ∧ DtAll K H rv (rows.map encKind) ∧ Good rows ∧
  ∀ H' L (ord : List Nat), Go F b H b H' → H L = none → H' L = some (.lst (nI ord)) → Reach rows ord → Q (.ref L) H'
structure RI (F : Fr) (b : Nat) (H : Hp) (rA L : Addr) (rows : Shp) (i : Nat) (X : List Nat → Prop) (σ : L2.St) (H' : Hp) : Prop where
  ex : ∃ (ord : List Nat) (y2 y3 y4 y5 : Option V), σ = [some (.ref rA), some (.ref L), y2, y3, y4, y5] ∧ Go F b H b H' ∧ H' L = some (.lst (nI ord)) ∧ ROk rows ord i ∧ X ord
structure RI5 (F : Fr) (b : Nat) (H : Hp) (rA L : Addr) (rows : Shp) (i : Nat) (a5 : Addr) (X : List Nat → Prop) (σ : L2.St) (H' : Hp) : Prop where
  ex : ∃ (ord : List Nat) (y2 y3 y5 : Option V), σ = [some (.ref rA), some (.ref L), y2, y3, some (.ref a5), y5] ∧ Go F b H b H' ∧ H' L = some (.lst (nI ord)) ∧ ROk rows ord i ∧ X ord
theorem pr__law_reached {f : Addr} {fd : FuncData} {k : Nat} (T : Txt mg) (D : Def K mg "_law_reached" ["shape_so"] s__law_reached f fd) : Pr P w K mg base (k + 1) "_law_reached" ["shape_so"] (spReach K) := by
  refine Pr.of' D sc__law_reached (fun vs H Q E h => ?_) fun cdv A outer s H vs Q E hcd hG hr h => ?_
  · obtain ⟨_, _, _, _, _, rfl, _⟩ := h
    rfl
  · obtain ⟨F, b, rA, rv, rows, rfl, hT, hA, hn, hrv, hg, q⟩ := h
    refine ⟨_, (pss_cons (ps_set (i := 1) sc__law_reached.nd rfl (Or.inl rfl) (pe_lst (pa_cons pe_int pa_nil)))
  (pss_cons (ps_for (passes_of rfl) rfl (pi_range1 (by rfl) T.range (pa_cons (pe_callB call_len_seq (by rfl) T.len PySem.boot_len (pa_cons (pv 0) pa_nil)) pa_nil)) (pg_name (i := 2) sc__law_reached.nd rfl (Or.inl rfl)) (
    (pss_one (ps_for (passes_of rfl) rfl (pi_tup (pe_ifExp (pt_cmpR op_lt (pv 2) (pe_callB call_len_seq (by rfl) T.len PySem.boot_len (pa_cons (pv 1) pa_nil)) (nomark _)) (pe_ix ix_list (pv 0) (pe_ix ix_list (pv 1) (pv 2) (fun _ _ => rfl)) (fun _ _ => rfl)) (pe_tup pa_nil))) (pg_tup rfl (pgs_cons (pg_name (i := 3) sc__law_reached.nd rfl (Or.inl rfl)) (pgs_cons (pg_name (i := 4) sc__law_reached.nd rfl (Or.inl rfl)) pgs_nil))) (
      (pss_one (ps_for (passes_of rfl) rfl (pi_tup (pv 4)) (pg_name (i := 5) sc__law_reached.nd rfl (Or.inl rfl)) (
        (pss_one (ps_if (pt_cmpR op_notIn_seq (pv 5) (pv 1) rfl) (
          (pss_one (ps_expr (pe_bm PySem.F.plainAttrs_list PySem.F.slot_list_append PySem.F.type_list_append mt_append (pv 1) (pa_cons (pv 5) pa_nil))))) (pss_nil)))))))))))
  (pss_one (ps_ret (pv 1))))), ?_⟩
    have hrl : rv.length = rows.length := by rw [hrv.length, List.length_map]
    have hg10 := hg.len
    refine ⟨by show 1 ≤ sizeLine; decide, fun L nL => ?_⟩
    have g0 := Go.new (o := .lst [.int 0]) hT nL
    refine ⟨_, rfl, rA, rv, rfl, .inl (.inl (.inl (g0.keep hn hA))), _, rfl, by omega, by omega, for_range (lo := 0) (n := rv.length) (fun i σ' H' => RI F b H rA L rows i (fun _ => True) σ' H') ⟨[0], _, _, _, _, rfl, g0, upd_same, ⟨rfl, by simp, fun k hk => ?_, fun j hj => absurd hj (Nat.not_lt_zero _)⟩, trivial⟩ (fun i σ' H' hi hI => ?_) fun σ' H' hI => ?_⟩
    · rcases List.mem_singleton.mp hk with rfl
      exact hg.pos
    · obtain ⟨ord, y2, y3, y4, y5, rfl, gi, hL, hR, _⟩ := hI.ex
      refine ⟨_, rfl, _, rfl, L, _, rfl, .inl (.inl (.inl hL)), _, _, rfl, rfl, _, rfl, ?_⟩
      by_cases hio : (0 : Int) + (i : Nat) < (((nI ord).length : Nat) : Int)
      · rw [decide_eq_true hio]
        have hio' : i < ord.length := by
          rw [List.length_map] at hio
          omega
        have hok : ord[i]? = some (ord[i]'hio') := List.getElem?_eq_getElem hio'
        have hov : (nI ord)[i]? = some (.int ((ord[i]'hio' : Nat) : Int)) := by rw [List.getElem?_map, hok]; rfl
        generalize ord[i]'hio' = kk at *
        have hkr := hR.lt kk (List.mem_of_getElem? hok)
        have hrk : rows[kk]? = some rows[kk] := List.getElem?_eq_getElem hkr
        obtain ⟨kv, hkv, hkd⟩ := (gi.dta hrv).getD (i := kk) (d := encKind rows[kk]) (by rw [List.getElem?_map, hrk]; rfl)
        obtain ⟨ka, kx, rfl, hks, hka⟩ := hkd.inv
        have hkl : kx.length = rows[kk].length := by rw [hka.length, List.length_map]
        obtain ⟨_, _, hways⟩ := hg.kinds _ (List.getElem_mem hkr)
        have hA' := gi.keep hn hA
        refine iteT ⟨_, rfl, _, rfl, _, rfl, L, _, _, _, rfl, rfl, .inl (.inl hL), (by rw [Int.zero_add]; exact atI_nat hov), rA, rv, _, _, rfl, rfl, .inl (.inl hA'), atI_nat hkv, ka, rfl, ⟨kx, hks⟩, ?_⟩
        generalize rows[kk] = ws at *
        refine for_tup (xs := kx) (fun j σ' H2 => RI F b H rA L rows i (fun ord => ord[i]? = some kk ∧ ∀ w ∈ ws.take j, ∀ p ∈ w.2, p ∈ ord) σ' H2 ∧ Ts H' H2) ⟨⟨ord, _, _, _, _, rfl, gi, hL, hR, hok, by simp⟩, Ts.refl⟩ (fun j σ' H2 hj hI2 => sqT_ts hI2.2 hks) (fun j x σ' H2 hx hI2 => ?_) fun σ' H2 hI2 => ?_
        · obtain ⟨hI2, t2⟩ := hI2
          obtain ⟨ord2, y2, y3, y4, y5, rfl, gi2, hL2, hR2, hok2, hc2⟩ := hI2.ex
          obtain ⟨wd, hwd, hxd⟩ := (DtAll.ts t2 _ _ hka).get hx
          rw [List.getElem?_map] at hwd
          cases hwi : ws[j]? with
          | none => rw [hwi] at hwd; cases hwd
          | some wy =>
            rw [hwi] at hwd
            cases hwd
            obtain ⟨nm, pp⟩ := wy
            obtain ⟨g4, g5, g6⟩ := hways _ (List.mem_of_getElem? hwi)
            obtain ⟨a, xs, rfl, hsq, ha⟩ := hxd.inv
            obtain ⟨w1, r1, rfl, hw1, hr1⟩ := ha.inv
            obtain ⟨w2, r2, rfl, hw2, hr2⟩ := hr1.inv
            cases hr2
            obtain ⟨pa, px, rfl, hps, hpa⟩ := hw2.inv
            refine ⟨a, _, rfl, hsq, rfl, _, _, rfl, _, _, rfl, rfl, ?_⟩
            have epx : px = nI pp := by
              refine List.ext_getElem? fun m => ?_
              rw [List.getElem?_map]
              cases hpm : px[m]? with
              | none =>
                have : pp[m]? = none := by
                  have hpl : px.length = pp.length := by rw [hpa.length, List.length_map]
                  rw [List.getElem?_eq_none_iff] at hpm ⊢
                  omega
                rw [this]
                rfl
              | some v =>
                obtain ⟨d, hd, hvd⟩ := hpa.get hpm
                rw [List.getElem?_map] at hd
                cases hpp : pp[m]? with
                | none => rw [hpp] at hd; cases hd
                | some p =>
                  rw [hpp] at hd
                  cases hd
                  rw [hvd.inv_int]
                  rfl
            subst epx
            refine ⟨_, rfl, pa, rfl, ⟨_, hps⟩, ?_⟩
            refine for_tup (xs := nI pp) (fun m σ' H3 => RI5 F b H rA L rows i pa (fun ord => ord[i]? = some kk ∧ (∀ w ∈ ws.take j, ∀ p ∈ w.2, p ∈ ord) ∧ ∀ p ∈ pp.take m, p ∈ ord) σ' H3 ∧ Ts H2 H3) ⟨⟨ord2, _, _, _, rfl, gi2, hL2, hR2, hok2, hc2, by simp⟩, Ts.refl⟩ (fun m σ' H3 hm hI3 => sqT_ts hI3.2 hps) (fun m x σ' H3 hx hI3 => ?_) fun σ' H3 hI3 => ?_
            · obtain ⟨hI3, t3⟩ := hI3
              obtain ⟨ord3, y2, y3, y5, rfl, gi3, hL3, hR3, hok3, hc3, hd3⟩ := hI3.ex
              rw [List.getElem?_map] at hx
              cases hpm : pp[m]? with
              | none => rw [hpm] at hx; cases hx
              | some p =>
                rw [hpm] at hx
                cases hx
                have hpr := g6 p (List.mem_of_getElem? hpm)
                have htk : pp.take (m + 1) = pp.take m ++ [p] := by rw [List.take_add_one, hpm]; rfl
                have hl3 := nodup_len _ _ hR3.nd hR3.lt
                have hi3 := (List.getElem?_eq_some_iff.mp hok3).1
                refine ⟨_, rfl, _, rfl, L, nI ord3, rfl, .inl (.inl (.inl hL3)), rfl, flat_ints ord3, _, rfl, ?_⟩
                show if (!inV (V.int (p : Nat)) (ord3.map fun n : Nat => V.int (n : Nat))) = true then _ else _
                rw [inV_ints]
                by_cases hin : p ∈ ord3
                · rw [decide_eq_true hin]
                  refine iteF ⟨⟨ord3, _, _, _, rfl, gi3, hL3, hR3, hok3, hc3, fun p' hp' => ?_⟩, t3⟩
                  rw [htk] at hp'
                  rcases List.mem_append.mp hp' with z | z
                  · exact hd3 p' z
                  · rcases List.mem_singleton.mp z with rfl
                    exact hin
                · rw [decide_eq_false hin]
                  refine iteT ⟨_, rfl, isL hL3, _, rfl, L, _, _, rfl, rfl, hL3, sz6' (by rw [List.length_map]; omega), ⟨⟨ord3 ++ [p], _, _, _, rfl, gi3.put nL, ?_, hR3.app hi3 hin hpr, ?_, fun w hw p' hp' => List.mem_append_left _ (hc3 w hw p' hp'), fun p' hp' => ?_⟩, t3.trans (ts_lst hL3)⟩⟩
                  · rw [upd_same]
                    show _ = some (HO.lst ((ord3 ++ [p]).map fun n : Nat => V.int (n : Nat)))
                    rw [List.map_append]
                    rfl
                  · rw [List.getElem?_append_left hi3]
                    exact hok3
                  · rw [htk] at hp'
                    rcases List.mem_append.mp hp' with z | z
                    · exact List.mem_append_left _ (hd3 p' z)
                    · exact List.mem_append_right _ z
            · obtain ⟨hI3, t3⟩ := hI3
              obtain ⟨ord3, y2, y3, y5, rfl, gi3, hL3, hR3, hok3, hc3, hd3⟩ := hI3.ex
              refine ⟨⟨ord3, _, _, _, _, rfl, gi3, hL3, hR3, hok3, fun w hw p hp => ?_⟩, t2.trans t3⟩
              rw [List.take_add_one, hwi] at hw
              rcases List.mem_append.mp hw with z | z
              · exact hc3 w z p hp
              · have e : w = (nm, pp) := by simpa using z
                subst e
                refine hd3 p ?_
                rw [List.length_map, List.take_length]
                exact hp
        · obtain ⟨hI2, t2⟩ := hI2
          obtain ⟨ord2, y2, y3, y4, y5, rfl, gi2, hL2, hR2, hok2, hc2⟩ := hI2.ex
          refine ⟨ord2, _, _, _, _, rfl, gi2, hL2, hR2.step hok2 fun ws' e w hw p hp => ?_, trivial⟩
          rw [hrk] at e
          cases e
          rw [hkl, List.take_length] at hc2
          exact hc2 w hw p hp
      · rw [decide_eq_false hio]
        have hio' : ord.length ≤ i := by
          rw [List.length_map] at hio
          omega
        refine iteF ⟨Nat.zero_le _, fun p0 np0 => ⟨p0, rfl, ⟨[], .inl (.inl upd_same)⟩, ?_⟩⟩
        have gp := gi.add (o := .tup []) np0
        refine for_tup (xs := []) (fun j σ' H2 => RI F b H rA L rows (i + 1) (fun _ => True) σ' H2 ∧ H2 p0 = some (.tup [])) ⟨⟨ord, _, _, _, _, rfl, gp, (upd_ne (ne_of_none hL np0)).trans hL, hR.skip hio', trivial⟩, upd_same⟩ (fun j σ' H2 hj hI2 => .inl (.inl hI2.2)) (fun j x σ' H2 hx hI2 => by simp at hx) fun σ' H2 hI2 => hI2.1
    · obtain ⟨ord, y2, y3, y4, y5, rfl, gi, hL, hR, _⟩ := hI.ex
      rw [hrl] at hR
      exact ⟨_, rfl, q H' L ord gi nL hL hR.done⟩
end
end K01

set_option Elab.async false
set_option linter.all false
set_option maxRecDepth 100000
set_option maxHeartbeats 4000000
/-! K1h: the first documents of a shape. -/
namespace K01
open PySem PySem.Spec PyProof.Rows L2 Lf
open PySem.W (alike alikeAll dataLt)
section
variable {P : Program} {w : World} {K : PySem.W.Frag} {mg : Str → Option Value} {base : Heap}
theorem flat_rep (v : V) (n : Nat) : (List.replicate n [v]).flatten = List.replicate n v := by
  induction n with
  | zero => rfl
  | succ n ih => rw [List.replicate_succ, List.flatten_cons, ih]; rfl
theorem dta_rep {H : Hp} (n : Nat) : DtAll K H (List.replicate n V.non) ((List.replicate n (none : Option Doc)).map encO) := by
  induction n with
  | zero => exact .nil
  | succ n ih => exact .cons .non ih
theorem dta_set {H : Hp} {v : V} {d : PyData} : ∀ {us : List V} {ds : List PyData} (i : Nat), DtAll K H us ds → Dt K H v d → DtAll K H (us.set i v) (ds.set i d)
  | _, _, _, .nil, _ => .nil
  | _, _, 0, .cons _ h2, h => .cons h h2
  | _, _, i + 1, .cons h1 h2, h => .cons h1 (dta_set i h2 h)
theorem encO_dt {H : Hp} {v : V} {o : Option Doc} (h : Dt K H v (encO o)) : decide (v = .non) = decide (o = none) := by
  cases o with
  | none =>
    cases h
    rfl
  | some d =>
    obtain ⟨n, ps⟩ := d
    rw [encO, Doc.enc] at h
    obtain ⟨a, xs, rfl, _⟩ := h.inv
    rfl
structure Known (os : List (Option Doc)) (n t : Nat) : Prop where
  len : os.length = n
  few : nones os ≤ n - t
  docs : ∀ d, some d ∈ os → d.fine = true ∧ d.deep ≤ t ∧ d.size ≤ szOf t
theorem Known.next {os : List (Option Doc)} {n t : Nat} (h : Known os n t) (h0 : nones os = 0) : Known os n (t + 1) := ⟨h.len, by omega, fun d hd => by
  obtain ⟨h1, h2, h3⟩ := h.docs d hd
  exact ⟨h1, by omega, Nat.le_trans h3 (szOf_mono t)⟩⟩
theorem Known.put {os : List (Option Doc)} {n t kd : Nat} {d : Doc} (h : Known os n t) (hk : os[kd]? = some none) (h1 : d.fine = true) (h2 : d.deep ≤ t + 1) (h3 : d.size ≤ szOf (t + 1)) : Known (os.set kd (some d)) n (t + 1) := by
  refine ⟨by rw [List.length_set]; exact h.len, ?_, fun e he => ?_⟩
  · have := nones_set (d := d) hk
    have := h.few
    omega
  · rcases List.mem_or_eq_of_mem_set he with q | q
    · obtain ⟨a1, a2, a3⟩ := h.docs e q
      exact ⟨a1, by omega, Nat.le_trans a3 (szOf_mono t)⟩
    · cases q
      exact ⟨h1, h2, h3⟩
structure Best (K : PySem.W.Frag) (os : List (Option Doc)) (t : Nat) (H : Hp) (bv : V) : Prop where
  ok : bv = .non ∨ ∃ (d : Doc) (kd : Nat), Dt K H bv (.tuple [d.enc, .int (kd : Nat)]) ∧ os[kd]? = some none ∧ d.fine = true ∧ d.deep ≤ t + 1 ∧ d.size ≤ szOf (t + 1)
theorem Best.go {F : Fr} {b c : Nat} {H H' : Hp} {os : List (Option Doc)} {t : Nat} {bv : V} (g : Go F b H c H') (h : Best K os t H bv) : Best K os t H' bv := by
  rcases h.ok with e | ⟨d, kd, h1, h2⟩
  · exact ⟨.inl e⟩
  · exact ⟨.inr ⟨d, kd, g.dt h1, h2⟩⟩
structure FI (K : PySem.W.Frag) (F : Fr) (b : Nat) (H : Hp) (sv : V) (L : Addr) (n t : Nat) (σ : L2.St) (H' : Hp) : Prop where
  ex : ∃ (us : List V) (os : List (Option Doc)) (y2 y3 y4 y5 y6 y7 y8 y9 : Option V), σ = [some sv, some (.ref L), y2, y3, y4, y5, y6, y7, y8, y9] ∧ Go F b H b H' ∧ H' L = some (.lst us) ∧ DtAll K H' us (os.map encO) ∧ Known os n t
structure FI2 (K : PySem.W.Frag) (F : Fr) (b : Nat) (Ht : Hp) (sv : V) (L : Addr) (s : Shp) (os : List (Option Doc)) (t k : Nat) (σ : L2.St) (H' : Hp) : Prop where
  ex : ∃ (bv : V) (y2 y4 y5 y6 y7 y8 y9 : Option V), σ = [some sv, some (.ref L), y2, some bv, y4, y5, y6, y7, y8, y9] ∧ Go F b Ht b H' ∧ Best K os t H' bv ∧ (bv = .non → ∀ i < k, ∀ ws, s[i]? = some ws → ∀ w ∈ ws, ¬ Cand os i w)
structure FI3 (K : PySem.W.Frag) (F : Fr) (b : Nat) (Ht : Hp) (sv : V) (L : Addr) (s : Shp) (os : List (Option Doc)) (t k : Nat) (ka : Addr) (ws : List Way) (j : Nat) (σ : L2.St) (H' : Hp) : Prop where
  ex : ∃ (bv : V) (y2 y6 y7 y8 y9 : Option V), σ = [some sv, some (.ref L), y2, some bv, some (.int (k : Nat)), some (.ref ka), y6, y7, y8, y9] ∧ Go F b Ht b H' ∧ Best K os t H' bv ∧ (bv = .non → (∀ i < k, ∀ ws, s[i]? = some ws → ∀ w ∈ ws, ¬ Cand os i w) ∧ ∀ w ∈ ws.take j, ¬ Cand os k w)
def spFirsts (K : PySem.W.Frag) : Sp := fun vs H Q _ => ∃ (F : Fr) (b : Nat) (sv : V) (s : Shp), vs = [sv] ∧ F.T b H ∧ Dt K H sv (encShp s) ∧ Good s ∧ Ranked s ∧ s.length ≤ 6 ∧
  ∀ H' L us (ds : List Doc), Go F b H b H' → H L = none → H' L = some (.lst us) → DtAll K H' us (encs ds) → ds.length = s.length → (∀ d ∈ ds, d.fine = true ∧ d.deep ≤ s.length ∧ d.size ≤ szOf s.length) → Q (.ref L) H'
theorem szOf6 {t : Nat} (h : t ≤ 6) : szOf t ≤ 364 := by
  have : ∀ t : Fin 7, szOf t.val ≤ 364 := by decide
  exact this ⟨t, by omega⟩
set_option maxHeartbeats 8000000 in
theorem pr__law_firsts {f : Addr} {fd : FuncData} {k : Nat} (T : Txt mg) (D : Def K mg "_law_firsts" ["shape_so"] s__law_firsts f fd) (G__law_key : Pr P w K mg base k "_law_key" ["document"] (spKey0 K 7)) : Pr P w K mg base (k + 1) "_law_firsts" ["shape_so"] (spFirsts K) := by
  refine Pr.of' D sc__law_firsts (fun vs H Q E h => ?_) fun cdv A outer s0 H vs Q E hcd hG hr h => ?_
  · obtain ⟨_, _, _, _, rfl, _⟩ := h
    rfl
  · obtain ⟨F, b, sv, s, rfl, hT, hs, hg, hrk, hn6, q⟩ := h
    refine ⟨_, (pss_cons (ps_set (i := 1) sc__law_firsts.nd rfl (Or.inr rfl) (pe_op op_rep (pe_lst (pa_cons pe_non pa_nil)) (pe_callB call_len_seq (by rfl) T.len PySem.boot_len (pa_cons (pv 0) pa_nil))))
  (pss_cons (ps_for (passes_of rfl) rfl (pi_tup (pv 0)) (pg_name (i := 2) sc__law_firsts.nd rfl (Or.inl rfl)) (
    (pss_cons (ps_set (i := 3) sc__law_firsts.nd rfl (Or.inl rfl) pe_non)
    (pss_cons (ps_for (passes_of rfl) rfl (LfE.pi_enumT (by rfl) T.enumerate (pa_cons (pv 0) pa_nil)) (pg_tup rfl (pgs_cons (pg_name (i := 4) sc__law_firsts.nd rfl (Or.inl rfl)) (pgs_cons (pg_name (i := 5) sc__law_firsts.nd rfl (Or.inl rfl)) pgs_nil))) (
      (pss_one (ps_for (passes_of rfl) rfl (pi_tup (pv 5)) (pg_tup rfl (pgs_cons (pg_name (i := 6) sc__law_firsts.nd rfl (Or.inl rfl)) (pgs_cons (pg_name (i := 7) sc__law_firsts.nd rfl (Or.inl rfl)) pgs_nil))) (
        (pss_one (ps_if (PW.pt (pw_and (pt_cmpR op_isN (pe_ix ix_list (pv 1) (pv 4) (fun _ _ => rfl)) pe_non (nomark _)) (pw_and1 (pt_cmpR (op_eqL0 (hu0 hr)) (pe_lc (own := [("part", 8)]) rfl sc__law_firsts.nd (pi_tup (pv 7)) (blkOk_by (own := [("part", 8)]) (N := N__law_firsts) (sc := defScope s__law_firsts) (by decide +kernel)) (fun _ _ _ _ _ => (pg_name (i := 8) sc__law_firsts.nd rfl (Or.inl rfl))) (fun _ _ _ _ _ => (pts_one (pt_cmpR op_isN (pe_ix (show IxR _ (rIxL K) from ix_list) (pv 1) (pv 8) (fun _ _ => rfl)) pe_non (nomark _)))) (fun _ _ _ _ _ => (pv 8))) (pe_lst pa_nil) (nomark _))))) (
          (pss_cons (ps_set (i := 9) sc__law_firsts.nd rfl (Or.inl rfl) (pe_op op_catA (pe_tup (pa_cons (pv 6) pa_nil)) (pe_callTy call_tuple_of (by rfl) T.tuple (by decide +kernel) (pa_cons (pe_lc (own := [("part", 8)]) rfl sc__law_firsts.nd (pi_tup (pv 7)) (blkOk_by (own := [("part", 8)]) (N := N__law_firsts) (sc := defScope s__law_firsts) (by decide +kernel)) (fun _ _ _ _ _ => (pg_name (i := 8) sc__law_firsts.nd rfl (Or.inl rfl))) (fun _ _ _ _ _ => pts_nil) (fun _ _ _ _ _ => (pe_ix (show IxR _ (rIxL K) from ix_list) (pv 1) (pv 8) (fun _ _ => rfl)))) pa_nil))))
          (pss_one (ps_if (PW.pt (pw_or (pt_cmpR op_isN (pv 3) pe_non (nomark _)) (pw_or1 (pt_cmpR op_ltX (pcall hG G__law_key hr (pa_cons (pv 9) pa_nil)) (pcall hG G__law_key hr (pa_cons (pe_ix ix_tup (pv 3) pe_int (fun _ _ => rfl)) pa_nil)) (nomark _))))) (
            (pss_one (ps_set (i := 3) sc__law_firsts.nd rfl (Or.inl rfl) (pe_tup (pa_cons (pv 9) (pa_cons (pv 4) pa_nil)))))) (pss_nil))))) (pss_nil))))))))
    (pss_one (ps_if (pt_cmpR op_notN (pv 3) pe_non (nomark _)) (
      (pss_one (ps_asg (pe_ix ix_tup (pv 3) pe_int (fun _ _ => rfl)) (pg_sub (pv 1) (pe_ix ix_tup (pv 3) pe_int (fun _ _ => rfl)) set_list)))) (pss_nil)))))))
  (pss_one (ps_ret (pv 1))))), ?_⟩
    obtain ⟨sa, sx, rfl, hsq, hsx⟩ := hs.inv
    have hsl : sx.length = s.length := by rw [hsx.length, List.length_map]
    -- found = [None] * len(shape_so)
    refine ⟨by show 1 ≤ sizeLine; decide, fun l0 n0 => ?_⟩
    have g0 := Go.new (o := .lst [.non]) hT n0
    refine ⟨_, rfl, sa, sx, rfl, .inr (g0.sqT hsq), l0, _, [.non], rfl, rfl, upd_same, by omega, by omega, sz6 (by show 1 * sx.length ≤ 1000000; omega), fun L nL => ?_⟩
    have g1 := g0.add (o := .lst (List.replicate ((sx.length : Nat) : Int).toNat [V.non]).flatten) nL
    have nL0 := g0.was nL
    have hL1 : (upd (upd H l0 (.lst [.non])) L (.lst (List.replicate ((sx.length : Nat) : Int).toNat [V.non]).flatten)) L = some (.lst (List.replicate sx.length V.non)) := by
      rw [upd_same, flat_rep]
      rfl
    generalize upd (upd H l0 (.lst [.non])) L (.lst (List.replicate ((sx.length : Nat) : Int).toNat [V.non]).flatten) = H1 at *
    refine ⟨_, rfl, sa, rfl, ⟨sx, g1.sqT hsq⟩, for_tup (xs := sx) (FI K F b H (.ref sa) L s.length) ?_ (fun i σ' H' hi hI => ?_) (fun t x σ' H' hx hI => ?_) fun σ' H' hI => ?_⟩
    · refine ⟨_, List.replicate s.length none, _, _, _, _, _, _, _, _, rfl, g1, hL1, by rw [hsl]; exact dta_rep _, by simp, by rw [nones_rep]; omega, fun d hd => ?_⟩
      have := List.eq_of_mem_replicate hd
      cases this
    · obtain ⟨us, os, y2, y3, y4, y5, y6, y7, y8, y9, rfl, gi, _⟩ := hI.ex
      exact gi.sqT hsq
    · obtain ⟨us, os, y2, y3, y4, y5, y6, y7, y8, y9, rfl, gi, hL, hus, hkn⟩ := hI.ex
      have ht : t < s.length := by
        have := (List.getElem?_eq_some_iff.mp hx).1
        omega
      have hol := hkn.len
      have hus' : us.length = os.length := by rw [hus.length, List.length_map]
      have hsz := szOf6 (show t + 1 ≤ 6 by omega)
      have hsq' := gi.sqT hsq
      have hsx' := gi.dta hsx
      have nN := gi.nn nL0
      have hind : ∀ i : Nat, i < os.length → ∃ v o, us[i]? = some v ∧ os[i]? = some o ∧ Dt K H' v (encO o) := fun i hi => by
        have e : os[i]? = some os[i] := List.getElem?_eq_getElem hi
        obtain ⟨v, hv, hd⟩ := hus.getD (i := i) (d := encO os[i]) (by rw [List.getElem?_map, e]; rfl)
        exact ⟨v, _, hv, e, hd⟩
      refine ⟨_, rfl, sa, sx, rfl, hsq', for_enumT (K := K) (xs := sx) (FI2 K F b H' (.ref sa) L s os t) ⟨.non, _, _, _, _, _, _, _, rfl, Go.refl gi.r, ⟨.inl rfl⟩, fun _ i hi => absurd hi (Nat.not_lt_zero _)⟩ (fun i σ2 H2 hi hI2 => ?_) (fun kk x2 T2 σ2 H2 hx2 hI2 nT => ?_) fun σ2 H2 hI2 => ?_⟩
      · obtain ⟨bv, y2, y4, y5, y6, y7, y8, y9, rfl, g2, _⟩ := hI2.ex
        exact g2.sqT hsq'
      · obtain ⟨bv, y2, y4, y5, y6, y7, y8, y9, rfl, g2, hbest, hcand⟩ := hI2.ex
        have gT := g2.add (o := .tup [.int (kk : Nat), x2]) nT
        obtain ⟨wd, hwd, hxd⟩ := hsx'.get hx2
        rw [List.getElem?_map] at hwd
        cases hsk : s[kk]? with
        | none => rw [hsk] at hwd; cases hwd
        | some ws =>
          rw [hsk] at hwd
          cases hwd
          obtain ⟨ka, kx, rfl, hks, hka⟩ := hxd.inv
          have hkl : kx.length = ws.length := by rw [hka.length, List.length_map]
          obtain ⟨_, _, hways⟩ := hg.kinds _ (List.mem_of_getElem? hsk)
          have hkk : kk < os.length := by
            have := (List.getElem?_eq_some_iff.mp hsk).1
            omega
          obtain ⟨vk, ok, hvk, hok, hdk⟩ := hind kk hkk
          refine ⟨T2, _, rfl, .inl (.inl upd_same), rfl, _, _, rfl, _, _, rfl, rfl, ?_⟩
          refine ⟨_, rfl, ka, rfl, ⟨kx, gT.sqT hks⟩, for_tup (xs := kx) (FI3 K F b H' (.ref sa) L s os t kk ka ws) ⟨bv, _, _, _, _, _, rfl, gT, hbest.go (Go.new (o := .tup [.int (kk : Nat), .ref ka]) g2.r nT), fun e => ⟨hcand e, by simp⟩⟩ (fun j σ3 H3 hj hI3 => ?_) (fun j x3 σ3 H3 hx3 hI3 => ?_) fun σ3 H3 hI3 => ?_⟩
          · obtain ⟨bv, y2, y6, y7, y8, y9, rfl, g3, _⟩ := hI3.ex
            exact g3.sqT hks
          · obtain ⟨bv, y2, y6, y7, y8, y9, rfl, g3, hbest3, hcand3⟩ := hI3.ex
            obtain ⟨wd, hwd, hxd⟩ := (g3.dta hka).get hx3
            rw [List.getElem?_map] at hwd
            cases hwi : ws[j]? with
            | none => rw [hwi] at hwd; cases hwd
            | some wy =>
              rw [hwi] at hwd
              cases hwd
              obtain ⟨nm, pp⟩ := wy
              obtain ⟨g4, g5, g6⟩ := hways _ (List.mem_of_getElem? hwi)
              have g4' : isNameS nm = true := g4
              have g5' : pp.length ≤ 3 := g5
              have g6' : ∀ p ∈ pp, p < s.length := g6
              obtain ⟨a, xs, rfl, hsqa, ha⟩ := hxd.inv
              obtain ⟨w1, r1, rfl, hw1, hr1⟩ := ha.inv
              obtain ⟨w2, r2, rfl, hw2, hr2⟩ := hr1.inv
              cases hr2
              obtain ⟨pa, px, rfl, hps, hpa⟩ := hw2.inv
              have hpl : px.length = pp.length := by rw [hpa.length, List.length_map]
              have hL3 := g3.keep nN hL
              have htk : ws.take (j + 1) = ws.take j ++ [(nm, pp)] := by rw [List.take_add_one, hwi]; rfl
              have hpv : ∀ (i : Nat) (v : V), px[i]? = some v → ∃ p, pp[i]? = some p ∧ v = .int (p : Nat) ∧ p < s.length := fun i v hv => by
                obtain ⟨d, hd, hvd⟩ := hpa.get hv
                rw [List.getElem?_map] at hd
                cases hpp : pp[i]? with
                | none => rw [hpp] at hd; cases hd
                | some p =>
                  rw [hpp] at hd
                  cases hd
                  exact ⟨p, rfl, hvd.inv_int, g6' p (List.mem_of_getElem? hpp)⟩
              -- nothing comes of this way
              have skip : ∀ (H5 : Hp) (z6 z7 z8 z9 : Option V), Go F b H3 b H5 → (bv = .non → ¬ Cand os kk (nm, pp)) → FI3 K F b H' (.ref sa) L s os t kk ka ws (j + 1) [some (.ref sa), some (.ref L), y2, some bv, some (.int (kk : Nat)), some (.ref ka), z6, z7, z8, z9] H5 := fun H5 z6 z7 z8 z9 g35 hc =>
                ⟨bv, _, _, _, _, _, rfl, g3.trans g35, hbest3.go g35, fun e => ⟨(hcand3 e).1, fun w hw => by
                  rw [htk] at hw
                  rcases List.mem_append.mp hw with z | z
                  · exact (hcand3 e).2 w z
                  · rcases List.mem_singleton.mp z with rfl
                    exact hc e⟩⟩
              refine ⟨a, _, rfl, hsqa, rfl, _, _, rfl, _, _, rfl, rfl, ?_⟩
              refine ⟨_, rfl, _, rfl, L, us, _, vk, rfl, rfl, .inl (.inl hL3), atI_nat hvk, rfl, _, rfl, ?_⟩
              rw [encO_dt hdk]
              cases ok with
              | some d0 =>
                refine iteF (iteF (skip _ _ _ _ _ (Go.refl g3.r) fun _ hc => ?_))
                rw [hc.1] at hok
                cases hok
              | none =>
                refine iteT ?_
                have dec : ∀ i : Nat, Decidable (∃ p, pp[i]? = some p ∧ os[p]? = some none) := fun i => Classical.propDecidable _
                dsimp only [tTest, tOp]
                refine tLc_iTup ?_
                refine ⟨_, rfl, ?_⟩
                refine lcTf (K := K) (F := F) (b := b) (f := fun i => decide (∃ p, pp[i]? = some p ∧ os[p]? = some none)) hps g3.r (by omega) (fun D0 i x H4 hD gg hx4 Pq Pn hP hPn => ?_) fun D0 ys H4 nD gg hD4 hiff => ?_
                · obtain ⟨p, hp1, rfl, hp3⟩ := hpv i x hx4
                  obtain ⟨v, o, hv, ho, hd⟩ := hind p (by omega)
                  have hL4 := gg.keep nN hL3
                  refine ⟨rfl, _, rfl, _, rfl, L, us, _, v, rfl, rfl, .inl (.inl hL4), atI_nat hv, rfl, _, rfl, ?_⟩
                  rw [encO_dt hd]
                  cases o with
                  | none => exact iteT ⟨_, rfl, hP (decide_eq_true ⟨p, hp1, ho⟩) _ _ (Go.refl gg.r)⟩
                  | some d0 =>
                    refine iteF (hPn (decide_eq_false ?_) _ (Go.refl gg.r))
                    rintro ⟨p', h1, h2⟩
                    rw [hp1] at h1
                    cases h1
                    rw [ho] at h2
                    cases h2
                · refine ⟨Nat.zero_le _, fun e ne => ⟨D0, e, ys, rfl, rfl, .inl (.inl ((upd_ne (ne_of_none hD4 ne)).trans hD4)), .inl (.inl upd_same), _, rfl, ?_⟩⟩
                  have g35 := gg.add (o := .lst []) ne
                  cases hys : ys.isEmpty with
                  | false =>
                    refine iteF (skip _ _ _ _ _ g35 fun _ hc => ?_)
                    have : ys.isEmpty = true := hiff.mpr fun i hi => decide_eq_false (by
                      rintro ⟨p, h1, h2⟩
                      obtain ⟨d, hd⟩ := hc.2 p (List.mem_of_getElem? h1)
                      rw [hd] at h2
                      cases h2)
                    rw [hys] at this
                    cases this
                  | true =>
                    refine iteT ?_
                    have hall := hiff.mp hys
                    have hfound : ∀ (i p : Nat), pp[i]? = some p → ∃ v d, us[p]? = some v ∧ os[p]? = some (some d) ∧ Dt K H' v d.enc := fun i p hp => by
                      have hil := (List.getElem?_eq_some_iff.mp hp).1
                      obtain ⟨v, o, hv, ho, hd⟩ := hind p (by have := g6' p (List.mem_of_getElem? hp); omega)
                      cases o with
                      | none => exact absurd ⟨p, hp, ho⟩ (of_decide_eq_false (hall i (by omega)))
                      | some d => exact ⟨v, d, hv, ho, hd⟩
                    have g05 := g3.trans g35
                    have hps5 := g35.sqT hps
                    refine ⟨_, rfl, by show 1 ≤ sizeLine; decide, fun p1 n1 => ?_⟩
                    have g06 := g05.add (o := .tup [w1]) n1
                    have g36 := g35.add (o := .tup [w1]) n1
                    dsimp only [tCB, tCons, tNil]
                    refine tLc_iTup ?_
                    refine ⟨_, rfl, ?_⟩
                    refine lcT (K := K) (F := F) (b := b) (e := 0) (R := fun _ i y H => ∃ d : Doc, Dt K H y d.enc ∧ (d.fine = true ∧ d.deep ≤ t ∧ d.size ≤ szOf t)) (g36.sqT hps) g36.r (by omega) (fun D i H H' y _ tt h => by
                      obtain ⟨d, h1, h2⟩ := h
                      exact ⟨d, Dt.ts tt _ _ h1, h2⟩) (fun D1 i x H6 hD1 hI6 hx6 Pq hPq => ?_) fun D1 zs H6 nD1 g7 hD6 hlz hallz => ?_
                    · obtain ⟨p, hp1, rfl, hp3⟩ := hpv i x hx6
                      obtain ⟨v, d, hv, ho, hd⟩ := hfound i p hp1
                      have hgo := g06.trans hI6.go
                      exact ⟨rfl, _, rfl, _, rfl, L, us, _, v, rfl, rfl, .inl (.inl (hgo.keep nN hL)), atI_nat hv, hPq _ _ (Go.refl hI6.go.r) ⟨d, hgo.dt hd, hkn.docs d (List.mem_of_getElem? ho)⟩⟩
                    · obtain ⟨es, he1, he2, he3⟩ := docs_of hallz
                      have hle : es.length ≤ 3 := by omega
                      have g7' : Go F b (upd (upd H4 e (.lst [])) p1 (.tup [w1])) b H6 := g7
                      refine ⟨D1, zs, rfl, .inl ⟨.inl (.inl hD6), fun p2 n2 => ?_⟩⟩
                      have g8 := g7'.add (o := .tup zs) n2
                      have hname : Dt K (upd H6 p2 (.tup zs)) (.ref p1) (.tuple [.str nm]) := g8.dt (dt_new n1 (.cons (g35.dt hw1) .nil))
                      refine catA (F := F) (b := b) g8.r hname (dt_new n2 he1) (by rw [encs_len]; simp only [List.length_cons, List.length_nil]; omega) fun hv H7 g9 hh => ?_
                      have g39 := g36.trans (g8.trans g9)
                      have g09 := g3.trans g39
                      have hfin : (Doc.nd nm es).fine = true := by
                        rw [Doc.fine, g4', (fines_all es).mpr fun d hd => (he3 d hd).1]
                        simp
                        omega
                      have hdp : deeps es ≤ t := (deeps_le es).mpr fun d hd => (he3 d hd).2.1
                      have hsz1 := sizes_le (n := szOf t) (ps := es) fun d hd => (he3 d hd).2.2
                      have hsz3 : es.length * szOf t ≤ 3 * szOf t := Nat.mul_le_mul_right _ hle
                      have hdeep : (Doc.nd nm es).deep ≤ t + 1 := by rw [Doc.deep]; omega
                      have hsize : (Doc.nd nm es).size ≤ szOf (t + 1) := by rw [Doc.size, szOf]; omega
                      have hhere : Dt K H7 hv (Doc.nd nm es).enc := by
                        rw [Doc.enc]
                        exact hh
                      -- this one is the best
                      have take : ∀ (H8 : Hp) (z6 z7 z8 z9 : Option V), Go F b H7 b H8 → ∀ p, H8 p = none → FI3 K F b H' (.ref sa) L s os t kk ka ws (j + 1) [some (.ref sa), some (.ref L), y2, some (.ref p), some (.int (kk : Nat)), some (.ref ka), z6, z7, z8, z9] (upd H8 p (.tup [hv, .int (kk : Nat)])) := fun H8 z6 z7 z8 z9 g78 p np =>
                        ⟨.ref p, _, _, _, _, _, rfl, (g09.trans g78).add np, ⟨.inr ⟨_, kk, dt_new np (.cons (g78.dt hhere) (.cons (.int _) .nil)), hok, hfin, hdeep, hsize⟩⟩, fun e => by cases e⟩
                      have hbest7 := hbest3.go g39
                      refine ⟨_, rfl, rfl, _, rfl, ?_⟩
                      rcases hbest7.ok with rfl | ⟨d, kd, hbd, hbk, hb1, hb2, hb3⟩
                      · rw [decide_eq_true rfl]
                        exact iteT (iteT ⟨_, rfl, _, rfl, by show 2 ≤ sizeLine; decide, fun p np => take _ _ _ _ _ (Go.refl g9.r) p np⟩)
                      · obtain ⟨ba, bx, rfl, hbs, hba⟩ := hbd.inv
                        obtain ⟨v1, r1, rfl, hv1, hr1⟩ := hba.inv
                        rw [decide_eq_false (show ¬ V.ref ba = V.non from fun z => by cases z)]
                        refine iteF ?_
                        refine ⟨_, rfl, F, b, hv, .nd nm es, rfl, g9.r, hhere, by omega, by omega, fun H8 k1 g10 hk1 _ => ?_⟩
                        refine ⟨_, rfl, ba, _, 0, v1, rfl, rfl, g10.sqT hbs, atI_nat (j := 0) rfl, F, b, v1, d, rfl, g10.r, g10.dt hv1, by omega, by omega, fun H9 k2 g11 hk2 _ => ?_⟩
                        have hroom : (A.deeper (envOfC "_law_firsts" (defScope s__law_firsts) s0.heap.objs.size f cdv)).units + min (Doc.nd nm es).key.depth d.key.depth < cLine := by
                          have h1 := hr.un
                          have h2 : min (Doc.nd nm es).key.depth d.key.depth ≤ (Doc.nd nm es).key.depth := Nat.min_le_left _ _
                          have h3 := depth_key (Doc.nd nm es)
                          omega
                        refine ⟨_, _, (g11.dt hk1).dp, hk2.dp, alike_key _ _, (by rw [Doc.key]; intro z; cases z), hroom, _, rfl, ?_⟩
                        have g79 := g10.trans g11
                        cases dataLt (Doc.nd nm es).key d.key with
                        | true => exact iteT ⟨_, rfl, _, rfl, by show 2 ≤ sizeLine; decide, fun p np => take _ _ _ _ _ g79 p np⟩
                        | false => exact iteF (skip _ _ _ _ _ (g39.trans g79) fun z => by cases z)
          · obtain ⟨bv, y2, y6, y7, y8, y9, rfl, g3, hbest3, hcand3⟩ := hI3.ex
            refine ⟨bv, _, _, _, _, _, _, _, rfl, g3, hbest3, fun e i hi ws' hws' w hw => ?_⟩
            by_cases hik : i < kk
            · exact (hcand3 e).1 i hik ws' hws' w hw
            · have eik : i = kk := by omega
              subst eik
              rw [hsk] at hws'
              cases hws'
              have := (hcand3 e).2
              rw [hkl, List.take_length] at this
              exact this w hw
      · obtain ⟨bv, y2, y4, y5, y6, y7, y8, y9, rfl, g2, hbest, hcand⟩ := hI2.ex
        refine ⟨_, rfl, rfl, _, rfl, ?_⟩
        have hL2 := g2.keep nN hL
        rcases hbest.ok with rfl | ⟨d, kd, hbd, hbk, hb1, hb2, hb3⟩
        · rw [decide_eq_true rfl]
          refine iteF ⟨us, os, _, _, _, _, _, _, _, _, rfl, gi.trans g2, hL2, g2.dta hus, hkn.next ?_⟩
          refine no_cand hg hrk hol fun i ws w h1 h2 => hcand rfl i ?_ ws h1 w h2
          have := (List.getElem?_eq_some_iff.mp h1).1
          omega
        · obtain ⟨ba, bx, rfl, hbs, hba⟩ := hbd.inv
          obtain ⟨v1, r1, rfl, hv1, hr1⟩ := hba.inv
          obtain ⟨v2, r2, rfl, hv2, hr2⟩ := hr1.inv
          have hv2' := hv2.inv_int
          subst hv2'
          rw [decide_eq_false (show ¬ V.ref ba = V.non from fun z => by cases z)]
          have hkd := (List.getElem?_eq_some_iff.mp hbk).1
          refine iteT ⟨_, rfl, ba, _, 0, v1, rfl, rfl, hbs, atI_nat (j := 0) rfl, _, rfl, _, rfl, ba, _, 1, _, rfl, rfl, hbs, atI_nat (j := 1) rfl, L, us, _, kd, rfl, rfl, hL2, ixN_nat' (by omega), ?_⟩
          refine ⟨us.set kd v1, os.set kd (some d), _, _, _, _, _, _, _, _, rfl, (gi.trans g2).put nL0, upd_same, ?_, hkn.put hbk hb1 hb2 hb3⟩
          have := dta_set kd (DtAll.ts (ts_lst (ws := us.set kd v1) hL2) _ _ (g2.dta hus)) (Dt.ts (ts_lst (ws := us.set kd v1) hL2) _ _ hv1)
          rw [List.map_set]
          exact this
    · obtain ⟨us, os, y2, y3, y4, y5, y6, y7, y8, y9, rfl, gi, hL, hus, hkn⟩ := hI.ex
      have h0 : nones os = 0 := by
        have := hkn.few
        rw [hsl] at this
        omega
      obtain ⟨ds, rfl⟩ := nones_all h0
      have hlen := hkn.len
      rw [List.length_map] at hlen
      refine ⟨_, rfl, q H' L us ds gi nL0 hL ?_ hlen fun d hd => ?_⟩
      · rw [encs_map]
        rw [List.map_map] at hus
        exact hus
      · have := hkn.docs d (List.mem_map.mpr ⟨d, hd, rfl⟩)
        rw [hsl] at this
        exact this
end
end K01

set_option Elab.async false
set_option linter.all false
set_option maxRecDepth 100000
set_option maxHeartbeats 4000000
/-! K1i: all documents of a shape up to five names. -/
namespace K01
open PySem PySem.Spec PyProof.Rows L2 Lf
open PySem.W (alike alikeAll dataLt)
abbrev s__law_rows : Stmt := topS 31
abbrev N__law_rows : List Str := ["found", "parts", "size", "rows", "here", "first", "rest"]
theorem sc__law_rows : FnScope N__law_rows ["found", "parts", "size"] (defScope s__law_rows) := ⟨rfl, rfl, rfl, by decide +kernel, rfl, by decide +kernel, by decide +kernel⟩
abbrev s__law_all : Stmt := topS 30
abbrev N__law_all : List Str := ["shape_so", "most", "found", "size", "kind", "ways", "name", "parts", "row"]
theorem sc__law_all : FnScope N__law_all ["shape_so", "most"] (defScope s__law_all) := ⟨rfl, rfl, rfl, by decide +kernel, rfl, by decide +kernel, by decide +kernel⟩
section
variable {P : Program} {w : World} {K : PySem.W.Frag} {mg : Str → Option Value} {base : Heap}
def Nb (i : Nat) : Nat := [0, 10, 100, 1000, 20000, 300000].getD i 0
def Rb : Nat → Nat → Nat
  | 0, s => if s = 0 then 1 else 0
  | p + 1, s => ((List.range s).map fun h => Nb (h + 1) * Rb p (s - (h + 1))).sum
theorem rb_nb {p s : Nat} (hp : p ≤ 3) (hs : s ≤ 4) : 10 * Rb p s ≤ Nb (s + 1) := by
  have : ∀ p : Fin 4, ∀ s : Fin 5, 10 * Rb p.val s.val ≤ Nb (s.val + 1) := by decide +kernel
  exact this ⟨p, by omega⟩ ⟨s, by omega⟩
theorem nb_le (i : Nat) : Nb i ≤ 300000 := by
  by_cases h : i < 6
  · have : ∀ i : Fin 6, Nb i.val ≤ 300000 := by decide +kernel
    exact this ⟨i, h⟩
  · unfold Nb
    rw [List.getD_eq_getElem?_getD, List.getElem?_eq_none (by simp; omega)]
    simp
theorem rb_le {p s : Nat} (hp : p ≤ 3) (hs : s ≤ 4) : Rb p s ≤ 30000 := by
  have h1 := rb_nb hp hs
  have h2 := nb_le (s + 1)
  omega
mutual
theorem deep_le_size : ∀ d : Doc, d.deep ≤ d.size
  | .nd n ps => by
    rw [Doc.deep, Doc.size]
    have := deeps_le_sizes ps
    omega
theorem deeps_le_sizes : ∀ ps : List Doc, deeps ps ≤ sizes ps
  | [] => Nat.le_refl _
  | d :: r => by
    rw [deeps, sizes]
    have := deep_le_size d
    have := deeps_le_sizes r
    omega
end
/-- the table of found documents: kinds by sizes -/
structure Tb (K : PySem.W.Frag) (F : Fr) (H : Hp) (fA : Addr) (n : Nat) (row : Nat → Addr) (cell : Nat → Nat → Addr) (docs : Nat → Nat → List Doc) : Prop where
  top : H fA = some (.lst ((List.range n).map fun k => V.ref (row k)))
  rows : ∀ k, k < n → H (row k) = some (.lst ((List.range 6).map fun i => V.ref (cell k i)))
  cells : ∀ k i, k < n → i < 6 → ∃ us, H (cell k i) = some (.lst us) ∧ DtAll K H us (encs (docs k i))
  ok : ∀ k i, k < n → i < 6 → (docs k i).length ≤ Nb i ∧ ∀ d ∈ docs k i, d.fine = true ∧ d.size ≤ i
  nf : ¬ F.N fA
  nr : ∀ k, k < n → ¬ F.N (row k)
  nc : ∀ k i, k < n → i < 6 → ¬ F.N (cell k i)
theorem Tb.go {F : Fr} {b c : Nat} {H H' : Hp} {fA : Addr} {n : Nat} {row : Nat → Addr} {cell : Nat → Nat → Addr} {docs : Nat → Nat → List Doc} (g : Go F b H c H') (h : Tb K F H fA n row cell docs) : Tb K F H' fA n row cell docs where
  top := g.keep h.nf h.top
  rows := fun k hk => g.keep (h.nr k hk) (h.rows k hk)
  cells := fun k i hk hi => by
    obtain ⟨us, h1, h2⟩ := h.cells k i hk hi
    exact ⟨us, g.keep (h.nc k i hk hi) h1, g.dta h2⟩
  ok := h.ok
  nf := h.nf
  nr := h.nr
  nc := h.nc
def RowOk (q s : Nat) (r : List Doc) : Prop := r.length = q ∧ fines r = true ∧ sizes r ≤ s
abbrev encR (r : List Doc) : PyData := .tuple (encs r)
def spRows (K : PySem.W.Frag) (n q : Nat) : Sp := fun vs H Q _ => ∃ (F : Fr) (b : Nat) (fA : Addr) (pv0 : V) (pp : List Nat) (s : Nat) (row : Nat → Addr) (cell : Nat → Nat → Addr) (docs : Nat → Nat → List Doc), vs = [.ref fA, pv0, .int (s : Nat)] ∧ F.T b H ∧ Tb K F H fA n row cell docs ∧ Dt K H pv0 (encPl pp) ∧ pp.length = q ∧ q ≤ 3 ∧ (∀ p ∈ pp, p < n) ∧ s ≤ 4 ∧
  ∀ H' L us (rws : List (List Doc)), Go F b H b H' → H L = none → H' L = some (.lst us) → DtAll K H' us (rws.map encR) → rws.length ≤ Rb q s → (∀ r ∈ rws, RowOk q s r) → Q (.ref L) H'
structure RwI (K : PySem.W.Frag) (F : Fr) (b : Nat) (H : Hp) (fA : Addr) (pv0 : V) (q s m : Nat) (X : List (Option V) → Prop) (σ : L2.St) (H' : Hp) : Prop where
  ex : ∃ (rA : Addr) (rus : List V) (rws : List (List Doc)) (ys : List (Option V)), σ = some (.ref fA) :: some pv0 :: some (.int (s : Nat)) :: some (.ref rA) :: ys ∧ X ys ∧ Go F b H b H' ∧ H rA = none ∧ H' rA = some (.lst rus) ∧ DtAll K H' rus (rws.map encR) ∧ rws.length ≤ m ∧ ∀ r ∈ rws, RowOk q s r
theorem sum_take_range (f : Nat → Nat) (i : Nat) : ((List.range (i + 1)).map f).sum = ((List.range i).map f).sum + f i := by
  rw [List.range_succ, List.map_append, List.sum_append]
  simp
theorem sum_range_le (f : Nat → Nat) {i s : Nat} (h : i ≤ s) : ((List.range i).map f).sum ≤ ((List.range s).map f).sum := by
  induction s with
  | zero =>
    have : i = 0 := by omega
    subst this
    exact Nat.le_refl _
  | succ s ih =>
    by_cases e : i = s + 1
    · subst e
      exact Nat.le_refl _
    · have := ih (by omega)
      rw [sum_take_range]
      omega
set_option maxHeartbeats 8000000 in
theorem fn__law_rows {f : Addr} {fd : FuncData} {k n : Nat} (T : Txt mg) (D : Def K mg "_law_rows" ["found", "parts", "size"] s__law_rows f fd) : ∀ q, FnG P w K mg base (k + q + 1) f fd ["found", "parts", "size"] (spRows K n q)
  | 0 => by
    have G__law_rows : Pr P w K mg base (k + 0) "_law_rows" ["found", "parts", "size"] (fun _ _ _ _ => False) := Pr.never D fun vs H Q E h => h
    refine fn_ofC D.fn sc__law_rows (fun vs H Q E h => ?_) fun cdv A outer s0 H vs Q E hcd hG hr h => ?_
    · obtain ⟨_, _, _, _, _, _, _, _, _, rfl, _⟩ := h
      rfl
    · obtain ⟨F, b, fA, pv0, pp, s, row, cell, docs, rfl, hT, hF, hp, hq, hq3, hpn, hs, q⟩ := h
      refine ⟨_, (pss_cons (ps_if (pt_cmpR (op_eqT0 (hu0 hr)) (pv 1) (pe_tup pa_nil) (nomark _)) (
    (pss_one (ps_ret (pe_ifExp (pt_cmpR op_eq (pv 2) pe_int (nomark _)) (pe_lst (pa_cons (pe_tup pa_nil) pa_nil)) (pe_lst pa_nil))))) (pss_nil))
  (pss_cons (ps_set (i := 3) sc__law_rows.nd rfl (Or.inl rfl) (pe_lst pa_nil))
  (pss_cons (ps_for (passes_of rfl) rfl (pi_range2 (by rfl) T.range (pa_cons pe_int (pa_cons (pe_op op_add (pv 2) pe_int) pa_nil))) (pg_name (i := 4) sc__law_rows.nd rfl (Or.inl rfl)) (
    (pss_one (ps_for (passes_of rfl) rfl (pi_list (pe_ix ix_list (pe_ix ix_list (pv 0) (pe_ix ix_tup (pv 1) pe_int (fun _ _ => rfl)) (fun _ _ => rfl)) (pv 4) (fun _ _ => rfl))) (pg_name (i := 5) sc__law_rows.nd rfl (Or.inr rfl)) (
      (pss_one (ps_set (i := 3) sc__law_rows.nd rfl (Or.inl rfl) (pe_op op_cat (pv 3) (pe_lc (own := [("rest", 6)]) rfl sc__law_rows.nd (pi_list (pcall hG G__law_rows hr (pa_cons (pv 0) (pa_cons (pe_slice sl_tupA (pv 1) (po_some pe_int) po_none) (pa_cons (pe_op op_sub (pv 2) (pv 4)) pa_nil))))) (blkOk_by (own := [("rest", 6)]) (N := N__law_rows) (sc := defScope s__law_rows) (by decide +kernel)) (fun _ _ _ _ _ => (pg_name (i := 6) sc__law_rows.nd rfl (Or.inl rfl))) (fun _ _ _ _ _ => pts_nil) (fun _ _ _ _ _ => (pe_op (show OpR _ (binaryOp .Add) (rCatA K) from op_catA) (pe_tup (pa_cons (pv 5) pa_nil)) (pv 6))))))))))))
  (pss_one (ps_ret (pv 3)))))), ?_⟩
      have epp : pp = [] := List.eq_nil_of_length_eq_zero hq
      subst epp
      refine ⟨_, rfl, eqT0 hT hp fun H1 g1 => ⟨_, rfl, iteT ?_⟩⟩
      refine ⟨_, rfl, rfl, _, rfl, ?_⟩
      by_cases h0 : s = 0
      · subst h0
        rw [decide_eq_true (show V.int ((0 : Nat) : Int) = V.int 0 from rfl)]
        refine iteT ⟨Nat.zero_le _, fun p0 n0 => ⟨by show 1 ≤ sizeLine; decide, fun L nL => ?_⟩⟩
        have g2 := g1.add (o := .tup []) n0
        have g3 := g2.add (o := .lst [.ref p0]) nL
        refine q _ L _ [[]] g3 (g2.was nL) upd_same (.cons ((Go.new (o := .lst [.ref p0]) g2.r nL).dt (dt_new n0 .nil)) .nil) (by simp [Rb]) fun r hr => ?_
        rcases List.mem_singleton.mp hr with rfl
        exact ⟨rfl, rfl, Nat.le_refl _⟩
      · rw [decide_eq_false (show ¬ V.int ((s : Nat) : Int) = V.int 0 from fun h => by injection h with h; omega)]
        refine iteF ⟨Nat.zero_le _, fun L nL => ?_⟩
        exact q _ L _ [] (g1.add nL) (g1.was nL) upd_same .nil (Nat.zero_le _) fun r hr => by cases hr
  | q0 + 1 => by
    have G__law_rows : Pr P w K mg base (k + q0 + 1) "_law_rows" ["found", "parts", "size"] (spRows K n q0) := ⟨f, fd, D.mg, D.fn.kp, fn__law_rows (k := k) (n := n) T D q0, D.bd⟩
    refine fn_ofC D.fn sc__law_rows (fun vs H Q E h => ?_) fun cdv A outer s0 H vs Q E hcd hG hr h => ?_
    · obtain ⟨_, _, _, _, _, _, _, _, _, rfl, _⟩ := h
      rfl
    · obtain ⟨F, b, fA, pv0, pp, s, row, cell, docs, rfl, hT, hF, hp, hq, hq3, hpn, hs, q⟩ := h
      refine ⟨_, (pss_cons (ps_if (pt_cmpR (op_eqT0 (hu0 hr)) (pv 1) (pe_tup pa_nil) (nomark _)) (
    (pss_one (ps_ret (pe_ifExp (pt_cmpR op_eq (pv 2) pe_int (nomark _)) (pe_lst (pa_cons (pe_tup pa_nil) pa_nil)) (pe_lst pa_nil))))) (pss_nil))
  (pss_cons (ps_set (i := 3) sc__law_rows.nd rfl (Or.inl rfl) (pe_lst pa_nil))
  (pss_cons (ps_for (passes_of rfl) rfl (pi_range2 (by rfl) T.range (pa_cons pe_int (pa_cons (pe_op op_add (pv 2) pe_int) pa_nil))) (pg_name (i := 4) sc__law_rows.nd rfl (Or.inl rfl)) (
    (pss_one (ps_for (passes_of rfl) rfl (pi_list (pe_ix ix_list (pe_ix ix_list (pv 0) (pe_ix ix_tup (pv 1) pe_int (fun _ _ => rfl)) (fun _ _ => rfl)) (pv 4) (fun _ _ => rfl))) (pg_name (i := 5) sc__law_rows.nd rfl (Or.inr rfl)) (
      (pss_one (ps_set (i := 3) sc__law_rows.nd rfl (Or.inl rfl) (pe_op op_cat (pv 3) (pe_lc (own := [("rest", 6)]) rfl sc__law_rows.nd (pi_list (pcall hG G__law_rows hr (pa_cons (pv 0) (pa_cons (pe_slice sl_tupA (pv 1) (po_some pe_int) po_none) (pa_cons (pe_op op_sub (pv 2) (pv 4)) pa_nil))))) (blkOk_by (own := [("rest", 6)]) (N := N__law_rows) (sc := defScope s__law_rows) (by decide +kernel)) (fun _ _ _ _ _ => (pg_name (i := 6) sc__law_rows.nd rfl (Or.inl rfl))) (fun _ _ _ _ _ => pts_nil) (fun _ _ _ _ _ => (pe_op (show OpR _ (binaryOp .Add) (rCatA K) from op_catA) (pe_tup (pa_cons (pv 5) pa_nil)) (pv 6))))))))))))
  (pss_one (ps_ret (pv 3)))))), ?_⟩
      obtain ⟨p0, pr, rfl⟩ : ∃ p0 pr, pp = p0 :: pr := by
        cases pp with
        | nil => simp at hq
        | cons a r => exact ⟨a, r, rfl⟩
      have hprl : pr.length = q0 := by simpa using hq
      have hp0 := hpn p0 List.mem_cons_self
      refine ⟨_, rfl, eqT0 hT hp fun H1 g1 => ⟨_, rfl, iteF ?_⟩⟩
      refine ⟨Nat.zero_le _, fun rA nrA => ?_⟩
      have g2 := g1.add (o := .lst []) nrA
      have hrb := rb_le (p := q0 + 1) hq3 hs
      have en : (((s : Nat) : Int) + 1 - 1).toNat = s := by omega
      have hstep : ∀ i, i < s → ((List.range i).map fun h => Nb (h + 1) * Rb q0 (s - (h + 1))).sum + Nb (i + 1) * Rb q0 (s - (i + 1)) = ((List.range (i + 1)).map fun h => Nb (h + 1) * Rb q0 (s - (h + 1))).sum := fun i hi => (sum_take_range _ i).symm
      have hle : ∀ i, i ≤ s → ((List.range i).map fun h => Nb (h + 1) * Rb q0 (s - (h + 1))).sum ≤ Rb (q0 + 1) s := fun i hi => sum_range_le _ hi
      obtain ⟨pa, px, rfl, hps, hpa⟩ := hp.inv
      obtain ⟨v0, vr, rfl, hv0, hvr⟩ := hpa.inv
      have hv0' := hv0.inv_int
      subst hv0'
      refine ⟨_, rfl, _, _, rfl, rfl, 1, ((s : Nat) : Int) + 1, rfl, by omega, for_range (lo := 1) (n := (((s : Nat) : Int) + 1 - 1).toNat) (fun i σ' H' => RwI K F b H fA (.ref pa) (q0 + 1) s (((List.range i).map fun h => Nb (h + 1) * Rb q0 (s - (h + 1))).sum) (fun ys => ∃ y4 y5 y6, ys = [y4, y5, y6]) σ' H')
        ⟨rA, [], [], _, rfl, ⟨_, _, _, rfl⟩, g2, g1.was nrA, upd_same, .nil, Nat.zero_le _, fun r hr => by cases hr⟩ (fun i σ' H' hi hI => ?_) fun σ' H' hI => ?_⟩
      · obtain ⟨rA1, rus, rws, ys, rfl, ⟨y4, y5, y6, rfl⟩, gi, nr1, hr1, hrd, hrl, hro⟩ := hI.ex
        have his : i < s := by omega
        have hFi := hF.go gi
        obtain ⟨us, hc1, hc2⟩ := hF.cells p0 (i + 1) hp0 (by omega)
        have hnc := hF.nc p0 (i + 1) hp0 (by omega)
        obtain ⟨hdl, hdo⟩ := hF.ok p0 (i + 1) hp0 (by omega)
        have hul : us.length = (docs p0 (i + 1)).length := by rw [hc2.length, encs_len]
        have e1 : (1 : Int) + ((i : Nat) : Int) = ((i + 1 : Nat) : Int) := by omega
        refine ⟨_, rfl, _, rfl, pa, _, 0, _, rfl, rfl, gi.sqT hps, atI_nat (j := 0) rfl, fA, _, _, .ref (row p0), rfl, rfl, .inl (.inl hFi.top), atI_nat (by rw [List.getElem?_map, List.getElem?_range hp0]; rfl), _, rfl, row p0, _, _, .ref (cell p0 (i + 1)), rfl, rfl, .inl (.inl (hFi.rows p0 hp0)), ?_, cell p0 (i + 1), rfl, ⟨us, .inl (.inl (gi.keep hnc hc1))⟩, ?_⟩
        · show atI _ ((1 : Int) + ((i : Nat) : Int)) = _
          rw [e1]
          exact atI_nat (by rw [List.getElem?_map, List.getElem?_range (by omega)]; rfl)
        refine for_list (xs := us) (fun j σ2 H2 => RwI K F b H fA (.ref pa) (q0 + 1) s (((List.range i).map fun h => Nb (h + 1) * Rb q0 (s - (h + 1))).sum + j * Rb q0 (s - (i + 1))) (fun ys => ∃ y5 y6, ys = [some (.int (1 + ((i : Nat) : Int))), y5, y6]) σ2 H2)
          ⟨rA1, rus, rws, _, rfl, ⟨_, _, rfl⟩, gi, nr1, hr1, hrd, by omega, hro⟩ (fun j σ2 H2 hj hI2 => ?_) (fun j x σ2 H2 hx hI2 => ?_) fun σ2 H2 hI2 => ?_
        · obtain ⟨rA2, rus2, rws2, ys2, rfl, _, g3, _⟩ := hI2.ex
          exact .inl (.inl (g3.keep hnc hc1))
        · obtain ⟨rA2, rus2, rws2, ys2, rfl, ⟨y5, y6, rfl⟩, g3, nr2, hr2, hrd2, hrl2, hro2⟩ := hI2.ex
          obtain ⟨dd, hdd, hxd⟩ := (g3.dta hc2).get hx
          rw [encs_map, List.getElem?_map] at hdd
          cases hdi : (docs p0 (i + 1))[j]? with
          | none => rw [hdi] at hdd; cases hdd
          | some d0 =>
            rw [hdi] at hdd
            cases hdd
            obtain ⟨hf0, hz0⟩ := hdo d0 (List.mem_of_getElem? hdi)
            have hjl := (List.getElem?_eq_some_iff.mp hdi).1
            have hP3 : Dt K H2 (.ref pa) (.tuple (.int (p0 : Nat) :: pr.map fun i : Nat => .int (i : Nat))) := g3.dt (.tup hps (.cons (.int _) hvr))
            refine ⟨_, rfl, ?_⟩
            refine tLc_iList ?_
            refine ⟨_, rfl, _, rfl, 1, rfl, sl1N g3.r hP3 fun p us2 H4 g4 hp4 hus4 => ⟨_, rfl, _, rfl, _, _, rfl, rfl, F, b, fA, .ref p, pr, s - (i + 1), row, cell, docs, ?_, g4.r, hF.go (g3.trans g4), .tup (.inl (.inl hp4)) hus4, hprl, by omega, fun p' hp' => hpn p' (List.mem_cons_of_mem _ hp'), by omega, fun H5 L2 us3 rws3 g5 nL2 hL2 hus3 hlen3 hok3 _ => ?_⟩⟩
            · show [V.ref fA, V.ref p, V.int (((s : Nat) : Int) - (1 + ((i : Nat) : Int)))] = _
              rw [show ((s : Nat) : Int) - (1 + ((i : Nat) : Int)) = ((s - (i + 1) : Nat) : Int) by omega]
            · have g45 := g4.trans g5
              have hrb3 := rb_le (p := q0) (s := s - (i + 1)) (by omega) (by omega)
              have hl3 : us3.length = rws3.length := by rw [hus3.length, List.length_map]
              have hx5 := g45.dt hxd
              refine lcL (K := K) (F := F) (b := b) (e := 0) (R := fun _ i y H => ∃ r, rws3[i]? = some r ∧ Dt K H y (encR (d0 :: r))) hL2 (g5.nn nL2) g5.r (by omega) (fun D i H H' y _ tt h => by
                obtain ⟨r, h1, h2⟩ := h
                exact ⟨r, h1, Dt.ts tt _ _ h2⟩) (fun D1 m x6 H6 hD1 hI6 hx6 Pq hPq => ?_) fun D1 zs H6 nD1 g7 hD6 hlz hallz => ?_
              · obtain ⟨rd, hrd3, hxr⟩ := (hI6.go.dta hus3).get hx6
                rw [List.getElem?_map] at hrd3
                cases hri : rws3[m]? with
                | none => rw [hri] at hrd3; cases hrd3
                | some r3 =>
                  rw [hri] at hrd3
                  cases hrd3
                  obtain ⟨k1, k2, k3⟩ := hok3 r3 (List.mem_of_getElem? hri)
                  refine ⟨rfl, _, rfl, by show 1 ≤ sizeLine; decide, fun p1 n1 => ⟨_, rfl, ?_⟩⟩
                  have g8 := Go.new (o := .tup [x]) hI6.go.r n1
                  refine catA (F := F) (b := b) g8.r (dt_new n1 (.cons (hI6.go.dt hx5) .nil)) (g8.dt hxr) (by rw [encs_len]; simp only [List.length_cons, List.length_nil]; omega) fun z H7 g9 hz => ?_
                  exact hPq z H7 (g8.trans g9) ⟨r3, hri, hz⟩
              · have g7' : Go F b H5 b H6 := g7
                have g46 := g45.trans g7'
                have hr6 := g46.keep (g3.nn nr2) hr2
                have hl1 := hrd2.length
                rw [List.length_map] at hl1
                have hbound : ((List.range i).map fun h => Nb (h + 1) * Rb q0 (s - (h + 1))).sum + (j + 1) * Rb q0 (s - (i + 1)) ≤ Rb (q0 + 1) s := by
                  have h1 := hle (i + 1) (by omega)
                  rw [← hstep i his] at h1
                  have h2 : (j + 1) * Rb q0 (s - (i + 1)) ≤ Nb (i + 1) * Rb q0 (s - (i + 1)) := Nat.mul_le_mul_right _ (by omega)
                  omega
                have hsucc : (j + 1) * Rb q0 (s - (i + 1)) = j * Rb q0 (s - (i + 1)) + Rb q0 (s - (i + 1)) := Nat.succ_mul _ _
                have hzd : DtAll K H6 zs ((rws3.map fun r => d0 :: r).map encR) := dtAll_idx (by rw [List.length_map, List.length_map]; omega) fun m y d h1 h2 => by
                  obtain ⟨r, h3, h4⟩ := hallz m y h1
                  rw [List.getElem?_map, List.getElem?_map, h3] at h2
                  cases h2
                  exact h4
                refine ⟨rA2, D1, rus2, zs, rfl, rfl, hr6, hD6, sz6 (by omega), fun p6 n6 => ?_⟩
                have gF := (g3.trans g46).add (o := .lst (rus2 ++ zs)) n6
                refine ⟨p6, rus2 ++ zs, rws2 ++ rws3.map (fun r => d0 :: r), _, rfl, ⟨_, _, rfl⟩, gF, (g3.trans g46).was n6, upd_same, ?_, by rw [List.length_append, List.length_map]; omega, fun r hr => ?_⟩
                · rw [List.map_append]
                  exact (Go.new (o := .lst (rus2 ++ zs)) g46.r n6).dta ((g46.dta hrd2).append hzd)
                · rcases List.mem_append.mp hr with z | z
                  · exact hro2 r z
                  · obtain ⟨r3, hr3, rfl⟩ := List.mem_map.mp z
                    obtain ⟨k1, k2, k3⟩ := hok3 r3 hr3
                    exact ⟨by simp [k1], by rw [fines, hf0, k2]; rfl, by rw [sizes]; omega⟩
        · obtain ⟨rA2, rus2, rws2, ys2, rfl, ⟨y5, y6, rfl⟩, g3, nr2, hr2, hrd2, hrl2, hro2⟩ := hI2.ex
          refine ⟨rA2, rus2, rws2, _, rfl, ⟨_, _, _, rfl⟩, g3, nr2, hr2, hrd2, ?_, hro2⟩
          have h2 : us.length * Rb q0 (s - (i + 1)) ≤ Nb (i + 1) * Rb q0 (s - (i + 1)) := Nat.mul_le_mul_right _ (by omega)
          have h3 := hstep i his
          omega
      · obtain ⟨rA1, rus, rws, ys, rfl, ⟨y4, y5, y6, rfl⟩, gi, nr1, hr1, hrd, hrl, hro⟩ := hI.ex
        rw [en] at hrl
        exact ⟨_, rfl, q H' rA1 rus rws gi nr1 hr1 hrd (Nat.le_trans hrl (hle s (Nat.le_refl _))) hro⟩
theorem FnG.mono {f : Addr} {fd : FuncData} {ps : List Str} {j k : Nat} {sp : Sp} (h : FnG P w K mg base j f fd ps sp) (l : j ≤ k) : FnG P w K mg base k f fd ps sp :=
  ⟨h.len, fun A outer s H args us vs Q E hG hr => h.run A outer s H args us vs Q E hG (hr.mono l)⟩
theorem FnG.any {ι : Type} {f : Addr} {fd : FuncData} {ps : List Str} {k : Nat} {sp : ι → Sp} (h : ∀ i, FnG P w K mg base k f fd ps (sp i)) : FnG P w K mg base k f fd ps (fun vs H Q E => ∃ i, sp i vs H Q E) :=
  ⟨fun vs H Q E ⟨i, q⟩ => (h i).len vs H Q E q, fun A outer s H args us vs Q E hG hr e0 hb r ⟨i, q⟩ => (h i).run A outer s H args us vs Q E hG hr e0 hb r q⟩
theorem FnG.never {f : Addr} {fd : FuncData} {ps : List Str} {k : Nat} {sp : Sp} (h : ∀ vs H Q E, ¬ sp vs H Q E) : FnG P w K mg base k f fd ps sp :=
  ⟨fun vs H Q E q => (h _ _ _ _ q).elim, fun A outer s H args us vs Q E _ _ _ _ _ q => (h _ _ _ _ q).elim⟩
def spRowsA (K : PySem.W.Frag) : Sp := fun vs H Q E => ∃ i : Nat × Nat, spRows K i.1 i.2 vs H Q E
theorem pr__law_rows {f : Addr} {fd : FuncData} {k : Nat} (T : Txt mg) (D : Def K mg "_law_rows" ["found", "parts", "size"] s__law_rows f fd) : Pr P w K mg base (k + 4) "_law_rows" ["found", "parts", "size"] (spRowsA K) :=
  ⟨f, fd, D.mg, D.fn.kp, FnG.any fun i => by
    by_cases h : i.2 ≤ 3
    · exact FnG.mono (fn__law_rows (k := k) T D i.2) (by omega)
    · refine FnG.never fun vs H Q E q => ?_
      obtain ⟨_, _, _, _, _, _, _, _, _, _, _, _, _, _, h3, _⟩ := q
      exact h h3, D.bd⟩
end
end K01

set_option Elab.async false
set_option linter.all false
set_option maxRecDepth 100000
set_option maxHeartbeats 4000000
/-! K1j: the table of all documents. -/
namespace K01
open PySem PySem.Spec PyProof.Rows L2 Lf
open PySem.W (alike alikeAll dataLt)
section
variable {P : Program} {w : World} {K : PySem.W.Frag} {mg : Str → Option Value} {base : Heap}
theorem tSeq_lc {wi : L2.TI} {g : TG} {tt : TT} {te : TE} {vs : List Nat} {gn : TG} {u : TS} {D : Ends} {σ : L2.St} {H : Hp} (h : tLc wi g tt te vs σ H fun x H1 => gn x σ H1 { D with nx := u D }.nx) : tSeq (tAsg (tLc wi g tt te vs) gn) u D σ H := h
structure Sep (n : Nat) (fA : Addr) (row : Nat → Addr) (cell : Nat → Nat → Addr) : Prop where
  inj : ∀ k i k' i', k < n → k' < n → i < 6 → i' < 6 → cell k i = cell k' i' → k = k' ∧ i = i'
  rows : ∀ k i k', k < n → k' < n → i < 6 → cell k i ≠ row k'
  top : ∀ k i, k < n → i < 6 → cell k i ≠ fA
theorem Tb.app {F : Fr} {H : Hp} {fA : Addr} {n : Nat} {row : Nat → Addr} {cell : Nat → Nat → Addr} {docs : Nat → Nat → List Doc} (h : Tb K F H fA n row cell docs) (hs : Sep n fA row cell) {kk sz : Nat} (hk : kk < n) (hz : sz < 6) {us : List V} {v : V} {d : Doc} (hu : H (cell kk sz) = some (.lst us)) (hd : Dt K H v d.enc) (hf : d.fine = true) (hds : d.size ≤ sz) (hl : (docs kk sz).length + 1 ≤ Nb sz) :
    Tb K F (upd H (cell kk sz) (.lst (us ++ [v]))) fA n row cell (fun k i => if k = kk ∧ i = sz then docs k i ++ [d] else docs k i) where
  top := (upd_ne (Ne.symm (hs.top kk sz hk hz))).trans h.top
  rows := fun k hk' => (upd_ne (Ne.symm (hs.rows kk sz k hk hk' hz))).trans (h.rows k hk')
  cells := fun k i hk' hi => by
    obtain ⟨us', h1, h2⟩ := h.cells k i hk' hi
    have t := ts_lst (ws := us ++ [v]) hu
    by_cases e : k = kk ∧ i = sz
    · obtain ⟨rfl, rfl⟩ := e
      rw [hu] at h1
      cases h1
      refine ⟨us ++ [v], upd_same, ?_⟩
      rw [if_pos ⟨rfl, rfl⟩, encs_map, List.map_append, ← encs_map]
      exact (DtAll.ts t _ _ h2).append (.cons (Dt.ts t _ _ hd) .nil)
    · refine ⟨us', (upd_ne fun z => e (hs.inj _ _ _ _ hk' hk hi hz z)).trans h1, ?_⟩
      rw [if_neg e]
      exact DtAll.ts t _ _ h2
  ok := fun k i hk' hi => by
    obtain ⟨h1, h2⟩ := h.ok k i hk' hi
    by_cases e : k = kk ∧ i = sz
    · obtain ⟨rfl, rfl⟩ := e
      rw [if_pos ⟨rfl, rfl⟩]
      refine ⟨by rw [List.length_append]; exact hl, fun x hx => ?_⟩
      rcases List.mem_append.mp hx with z | z
      · exact h2 x z
      · rcases List.mem_singleton.mp z with rfl
        exact ⟨hf, hds⟩
    · rw [if_neg e]
      exact ⟨h1, h2⟩
  nf := h.nf
  nr := h.nr
  nc := h.nc
/-- [[] for size in range(6)] -/
theorem newRow {F : Fr} {b j : Nat} {H1 : Hp} {σ : L2.St} {vs : List Nat} {Q : VK} (hT : F.T b H1) (hw : ∀ x : V, wipe ((wipe σ vs).set j (some x)) vs = wipe σ vs)
    (fin : ∀ D (c : Nat → Addr) H2, Go F b H1 b H2 → H1 D = none → H2 D = some (.lst ((List.range 6).map fun i => V.ref (c i))) → (∀ i, i < 6 → H1 (c i) = none ∧ H2 (c i) = some (.lst []) ∧ c i ≠ D) → (∀ i i', i < 6 → i' < 6 → c i = c i' → i = i') → Q (.ref D) H2) :
    tLc (iRng1 (tCons (tC (.int 6)) tNil)) (gName j) tYes (tLst tNil) vs σ H1 Q := by
  refine ⟨6, rfl, by decide, by decide, fun D hD => lc_range (lo := 0) (n := 6) (fun m H => ∃ c : Nat → Addr, Go F b H1 b H ∧ H D = some (.lst ((List.range m).map fun i => V.ref (c i))) ∧ (∀ i, i < m → H1 (c i) = none ∧ H (c i) = some (.lst []) ∧ c i ≠ D) ∧ ∀ i i', i < m → i' < m → c i = c i' → i = i') ⟨fun _ => 0, Go.new hT hD, upd_same, fun i hi => absurd hi (Nat.not_lt_zero _), fun i i' hi => absurd hi (Nat.not_lt_zero _)⟩ (fun m H hm p => ?_) fun H p => ?_⟩
  · obtain ⟨c, g, hd, hc, hi⟩ := p
    refine ⟨hw _, ?_⟩
    refine ⟨Nat.zero_le _, fun p np => ?_⟩
    have hpD : D ≠ p := ne_of_none hd np
    have hpc : ∀ i, i < m → c i ≠ p := fun i h => ne_of_none (hc i h).2.1 np
    have g2 := g.add (o := .lst []) np
    refine ⟨_, (upd_ne hpD).trans hd, by rw [List.length_map, List.length_range]; exact Nat.lt_of_lt_of_le hm (by decide), fun i => if i = m then p else c i, g2.put hD, ?_, fun i h => ?_, fun i i' h h' e => ?_⟩
    · have e1 : (List.range m).map (fun i => V.ref (c i)) = (List.range m).map (fun i => V.ref (if i = m then p else c i)) := List.map_congr_left fun i hi' => by
        have : i ≠ m := by
          have := List.mem_range.mp hi'
          omega
        simp [this]
      rw [upd_same, List.range_succ, List.map_append, e1]
      simp
    · by_cases q : i = m
      · subst q
        simp only [if_pos]
        exact ⟨g.was np, (upd_ne (Ne.symm hpD)).trans upd_same, Ne.symm hpD⟩
      · simp only [q, if_false]
        obtain ⟨a1, a2, a3⟩ := hc i (by omega)
        exact ⟨a1, (upd_ne a3).trans ((upd_ne (hpc i (by omega))).trans a2), a3⟩
    · by_cases q : i = m
      · by_cases q' : i' = m
        · omega
        · simp only [q, q', if_true, if_false] at e
          exact absurd e.symm (hpc i' (by omega))
      · by_cases q' : i' = m
        · simp only [q, q', if_true, if_false] at e
          exact absurd e (hpc i (by omega))
        · simp only [q, q', if_false] at e
          exact hi i i' (by omega) (by omega) e
  · obtain ⟨c, g, hd, hc, hi⟩ := p
    exact fin D c H g hD hd hc hi
structure TabI (F : Fr) (b : Nat) (H1 : Hp) (D : Addr) (n : Nat) (row : Nat → Addr) (cell : Nat → Nat → Addr) (H : Hp) : Prop where
  go : Go F b H1 b H
  top : H D = some (.lst ((List.range n).map fun k => V.ref (row k)))
  hrow : ∀ k, k < n → H1 (row k) = none ∧ H (row k) = some (.lst ((List.range 6).map fun i => V.ref (cell k i))) ∧ row k ≠ D
  hcell : ∀ k i, k < n → i < 6 → H1 (cell k i) = none ∧ H (cell k i) = some (.lst []) ∧ cell k i ≠ D
  inj : ∀ k i k' i', k < n → k' < n → i < 6 → i' < 6 → cell k i = cell k' i' → k = k' ∧ i = i'
  sep : ∀ k i k', k < n → k' < n → i < 6 → cell k i ≠ row k'
theorem TabI.next {F : Fr} {b n : Nat} {H1 H H2 : Hp} {D r : Addr} {row : Nat → Addr} {cell : Nat → Nat → Addr} {c : Nat → Addr} (h : TabI F b H1 D n row cell H) (hD : H1 D = none) (g : Go F b H b H2) (hr : H r = none) (hr2 : H2 r = some (.lst ((List.range 6).map fun i => V.ref (c i))))
    (hc : ∀ i, i < 6 → H (c i) = none ∧ H2 (c i) = some (.lst []) ∧ c i ≠ r) (hi : ∀ i i', i < 6 → i' < 6 → c i = c i' → i = i') :
    TabI F b H1 D (n + 1) (fun k => if k = n then r else row k) (fun k i => if k = n then c i else cell k i) (upd H2 D (.lst (((List.range n).map fun k => V.ref (row k)) ++ [.ref r]))) := by
  have nD := h.go.nn hD
  have hDr : D ≠ r := ne_of_none h.top hr
  have hDc : ∀ i, i < 6 → D ≠ c i := fun i q => ne_of_none h.top (hc i q).1
  have gH := h.go.trans g
  refine ⟨gH.put hD, ?_, fun k hk => ?_, fun k i hk hi' => ?_, fun k i k' i' hk hk' hi1 hi2 e => ?_, fun k i k' hk hk' hi1 => ?_⟩
  · have e1 : (List.range n).map (fun k => V.ref (row k)) = (List.range n).map (fun k => V.ref (if k = n then r else row k)) := List.map_congr_left fun i hi' => by
      have : i ≠ n := by
        have := List.mem_range.mp hi'
        omega
      simp [this]
    rw [upd_same, List.range_succ, List.map_append, e1]
    simp
  · by_cases q : k = n
    · subst q
      simp only [if_pos]
      exact ⟨h.go.was hr, (upd_ne (Ne.symm hDr)).trans hr2, Ne.symm hDr⟩
    · simp only [q, if_false]
      obtain ⟨a1, a2, a3⟩ := h.hrow k (by omega)
      exact ⟨a1, (upd_ne a3).trans (g.keep (h.go.nn a1) a2), a3⟩
  · by_cases q : k = n
    · subst q
      simp only [if_pos]
      obtain ⟨a1, a2, a3⟩ := hc i hi'
      exact ⟨h.go.was a1, (upd_ne (Ne.symm (hDc i hi'))).trans a2, Ne.symm (hDc i hi')⟩
    · simp only [q, if_false]
      obtain ⟨a1, a2, a3⟩ := h.hcell k i (by omega) hi'
      exact ⟨a1, (upd_ne a3).trans (g.keep (h.go.nn a1) a2), a3⟩
  · by_cases q : k = n
    · by_cases q' : k' = n
      · simp only [q, q', if_true] at e
        exact ⟨by omega, hi i i' hi1 hi2 e⟩
      · simp only [q, q', if_true, if_false] at e
        exact absurd e.symm (ne_of_none (h.hcell k' i' (by omega) hi2).2.1 (hc i hi1).1)
    · by_cases q' : k' = n
      · simp only [q, q', if_true, if_false] at e
        exact absurd e (ne_of_none (h.hcell k i (by omega) hi1).2.1 (hc i' hi2).1)
      · simp only [q, q', if_false] at e
        exact h.inj k i k' i' (by omega) (by omega) hi1 hi2 e
  · by_cases q : k = n
    · by_cases q' : k' = n
      · simp only [q, q', if_true]
        exact (hc i hi1).2.2
      · simp only [q, q', if_true, if_false]
        exact fun e => absurd e.symm (ne_of_none (h.hrow k' (by omega)).2.1 (hc i hi1).1)
    · by_cases q' : k' = n
      · simp only [q, q', if_true, if_false]
        exact ne_of_none (h.hcell k i (by omega) hi1).2.1 hr
      · simp only [q, q', if_false]
        exact h.sep k i k' (by omega) (by omega) hi1
theorem newTab {F : Fr} {b j j2 : Nat} {H1 : Hp} {σ : L2.St} {vs vs2 : List Nat} {Q : VK} {a : Addr} {xs : List V} {te : TE} (hs : SqT K H1 a xs) (hT : F.T b H1) (hz : xs.length ≤ 1000) (hw : ∀ x : V, wipe ((wipe σ vs).set j (some x)) vs = wipe σ vs)
    (hte : ∀ (x : V) (H : Hp) (P : VK), P (.int 6) H → te ((wipe σ vs).set j (some x)) H P) (hw2 : ∀ x y : V, wipe ((wipe ((wipe σ vs).set j (some x)) vs2).set j2 (some y)) vs2 = wipe ((wipe σ vs).set j (some x)) vs2)
    (fin : ∀ D row cell H2, TabI F b H1 D xs.length row cell H2 → H1 D = none → Q (.ref D) H2) :
    tLc (iTup K (tC (.ref a))) (gName j) tYes (tLc (iRng1 (tCons te tNil)) (gName j2) tYes (tLst tNil) vs2) vs σ H1 Q := by
  refine ⟨a, rfl, ⟨_, hs⟩, fun D hD => lc_tup (fun i H => ∃ row cell, TabI F b H1 D i row cell H) ⟨fun _ => 0, fun _ _ => 0, Go.new hT hD, upd_same, fun k hk => absurd hk (Nat.not_lt_zero _), fun k i hk => absurd hk (Nat.not_lt_zero _), fun k i k' i' hk => absurd hk (Nat.not_lt_zero _), fun k i k' hk => absurd hk (Nat.not_lt_zero _)⟩
    (fun i H _ p => by obtain ⟨row, cell, h⟩ := p; exact h.go.sqT hs) (fun i x H hx p => ?_) fun H p => ?_⟩
  · obtain ⟨row, cell, h⟩ := p
    refine ⟨hw x, ?_⟩
    dsimp only [tYes]
    rw [if_pos rfl]
    refine tLc_iRng1 ?_
    refine hte x H _ ?_
    refine newRow (F := F) (b := b) h.go.r (hw2 x) fun D2 c H2 g hr hr2 hc hi => ?_
    refine ⟨_, g.keep (h.go.nn hD) h.top, ?_, _, _, h.next hD g hr hr2 hc hi⟩
    rw [List.length_map, List.length_range]
    have := (List.getElem?_eq_some_iff.mp hx).1
    exact Nat.lt_of_lt_of_le (by omega : i < 1000) (by decide)
  · obtain ⟨row, cell, h⟩ := p
    exact fin D row cell H h hD
theorem TabI.tb {F : Fr} {b n : Nat} {H1 H : Hp} {D : Addr} {row : Nat → Addr} {cell : Nat → Nat → Addr} (h : TabI F b H1 D n row cell H) (hD : H1 D = none) : Tb K F H D n row cell (fun _ _ => []) ∧ Sep n D row cell :=
  ⟨⟨h.top, fun k hk => (h.hrow k hk).2.1, fun k i hk hi => ⟨[], (h.hcell k i hk hi).2.1, .nil⟩, fun k i hk hi => ⟨Nat.zero_le _, fun d hd => by cases hd⟩, h.go.nn hD, fun k hk => h.go.nn (h.hrow k hk).1, fun k i hk hi => h.go.nn (h.hcell k i hk hi).1⟩,
    ⟨h.inj, h.sep, fun k i hk hi => (h.hcell k i hk hi).2.2⟩⟩
end
end K01

set_option Elab.async false
set_option linter.all false
set_option maxRecDepth 100000
set_option maxHeartbeats 4000000
/-! K1k: all documents. -/
namespace K01
open PySem PySem.Spec PyProof.Rows L2 Lf
open PySem.W (alike alikeAll dataLt)
section
variable {P : Program} {w : World} {K : PySem.W.Frag} {mg : Str → Option Value} {base : Heap}
structure AllI (K : PySem.W.Frag) (F : Fr) (b : Nat) (H : Hp) (sv : V) (fA : Addr) (n : Nat) (row : Nat → Addr) (cell : Nat → Nat → Addr) (X : (Nat → Nat → List Doc) → Prop) (Y : Hp → Prop) (Z : List (Option V) → Prop) (σ : L2.St) (H' : Hp) : Prop where
  ex : ∃ (docs : Nat → Nat → List Doc) (ys : List (Option V)), σ = some sv :: some (.int 5) :: some (.ref fA) :: ys ∧ Z ys ∧ Go F b H b H' ∧ Tb K F H' fA n row cell docs ∧ X docs ∧ Y H'
def spAll (K : PySem.W.Frag) : Sp := fun vs H Q _ => ∃ (F : Fr) (b : Nat) (sv : V) (s : Shp), vs = [sv, .int 5] ∧ F.T b H ∧ Dt K H sv (encShp s) ∧ Good s ∧
  ∀ H' fA row cell docs, Go F b H b H' → H fA = none → Tb K F H' fA s.length row cell docs → Q (.ref fA) H'
set_option maxHeartbeats 8000000 in
theorem pr__law_all {f : Addr} {fd : FuncData} {k : Nat} (T : Txt mg) (D : Def K mg "_law_all" ["shape_so", "most"] s__law_all f fd) (G__law_rows : Pr P w K mg base k "_law_rows" ["found", "parts", "size"] (spRowsA K)) : Pr P w K mg base (k + 1) "_law_all" ["shape_so", "most"] (spAll K) := by
  refine Pr.of' D sc__law_all (fun vs H Q E h => ?_) fun cdv A outer s0 H vs Q E hcd hG hr h => ?_
  · obtain ⟨_, _, _, _, rfl, _⟩ := h
    rfl
  · obtain ⟨F, b, sv, s, rfl, hT, hs, hg, q⟩ := h
    refine ⟨_, (pss_cons (ps_setLc (i := 2) (own := [("kind", 4)]) rfl sc__law_all.nd rfl rfl (sw_true rfl rfl rfl (by decide +kernel)) (pi_tup (pv 0)) (blkOk_by (own := [("kind", 4)]) (N := N__law_all) (sc := defScope s__law_all) (by decide +kernel)) (fun _ _ _ _ _ => (pg_name (i := 4) sc__law_all.nd rfl (Or.inl rfl))) (fun _ _ _ _ _ => pts_nil) (fun _ _ _ _ _ => (pe_lc (own := [("size", 3)]) rfl sc__law_all.nd (pi_range1 (by rfl) T.range (pa_cons (pe_op op_add (pv 1) pe_int) pa_nil)) (blkOk_by (own := [("size", 3)]) (N := N__law_all) (sc := ({ kind := PySem.ScopeKind.function, names := [ (PySem.Str.ofString ".0", PySem.NameKind.local), (PySem.Str.ofString "kind", PySem.NameKind.local), (PySem.Str.ofString "range", PySem.NameKind.globalImplicit), (PySem.Str.ofString "most", PySem.NameKind.cell)], isGenerator := false, isCoroutine := false, more := [] : PySem.Scope })) (by decide +kernel)) (fun _ _ _ _ _ => (pg_name (i := 3) sc__law_all.nd rfl (Or.inl rfl))) (fun _ _ _ _ _ => pts_nil) (fun _ _ _ _ _ => (pe_lst pa_nil)))))
  (pss_cons (ps_for (passes_of rfl) rfl (pi_range2 (by rfl) T.range (pa_cons pe_int (pa_cons (pe_op op_add (pv 1) pe_int) pa_nil))) (pg_name (i := 3) sc__law_all.nd rfl (Or.inl rfl)) (
    (pss_one (ps_for (passes_of rfl) rfl (LfE.pi_enumT (by rfl) T.enumerate (pa_cons (pv 0) pa_nil)) (pg_tup rfl (pgs_cons (pg_name (i := 4) sc__law_all.nd rfl (Or.inl rfl)) (pgs_cons (pg_name (i := 5) sc__law_all.nd rfl (Or.inl rfl)) pgs_nil))) (
      (pss_one (ps_for (passes_of rfl) rfl (pi_tup (pv 5)) (pg_tup rfl (pgs_cons (pg_name (i := 6) sc__law_all.nd rfl (Or.inl rfl)) (pgs_cons (pg_name (i := 7) sc__law_all.nd rfl (Or.inl rfl)) pgs_nil))) (
        (pss_one (ps_for (passes_of rfl) rfl (pi_list (pcall hG G__law_rows hr (pa_cons (pv 2) (pa_cons (pv 7) (pa_cons (pe_op op_sub (pv 3) pe_int) pa_nil))))) (pg_name (i := 8) sc__law_all.nd rfl (Or.inl rfl)) (
          (pss_one (ps_expr (pe_bm PySem.F.plainAttrs_list PySem.F.slot_list_append PySem.F.type_list_append mt_append (pe_ix ix_list (pe_ix ix_list (pv 2) (pv 4) (fun _ _ => rfl)) (pv 3) (fun _ _ => rfl)) (pa_cons (pe_op op_catA (pe_tup (pa_cons (pv 6) pa_nil)) (pv 8)) pa_nil)))))))))))))))
  (pss_one (ps_ret (pv 2))))), ?_⟩
    obtain ⟨sa, sx, rfl, hsq, hsx⟩ := hs.inv
    have hsl : sx.length = s.length := by rw [hsx.length, List.length_map]
    have hg10 := hg.len
    refine tSeq_lc ?_
    refine tLc_iTup ?_
    refine ⟨_, rfl, ?_⟩
    refine newTab (F := F) (b := b) hsq hT (by omega) (fun x => rfl) (fun x H P h => ⟨_, rfl, _, _, rfl, rfl, h⟩) (fun x y => rfl) fun fA row cell H1 hTab nA => ?_
    rw [hsl] at hTab
    obtain ⟨hTb, hSep⟩ := TabI.tb (K := K) hTab nA
    have g1 := hTab.go
    have hM : ∀ i, i < 5 → ∀ q0, q0 ≤ 3 → Rb q0 i ≤ Nb (i + 1) / 10 := fun i hi q0 hq => by
      have := rb_nb (p := q0) (s := i) hq (by omega)
      omega
    refine ⟨_, rfl, _, _, rfl, rfl, 1, 5 + 1, rfl, by omega, for_range (lo := 1) (n := 5) (fun i σ' H' => AllI K F b H (.ref sa) fA s.length row cell (fun docs => ∀ k i', i + 1 ≤ i' → docs k i' = []) (fun _ => True) (fun ys => ∃ y3 y4 y5 y6 y7 y8, ys = [y3, y4, y5, y6, y7, y8]) σ' H')
      ⟨fun _ _ => [], _, rfl, ⟨_, _, _, _, _, _, rfl⟩, g1, hTb, fun _ _ _ => rfl, trivial⟩ (fun i σ' H' hi hI => ?_) fun σ' H' hI => ?_⟩
    · obtain ⟨docs, ys, rfl, ⟨y3, y4, y5, y6, y7, y8, rfl⟩, gi, hTi, hX, _⟩ := hI.ex
      have hsqi := gi.sqT hsq
      have e1 : (1 : Int) + ((i : Nat) : Int) = ((i + 1 : Nat) : Int) := by omega
      have hNb := nb_le (i + 1)
      refine ⟨_, rfl, sa, sx, rfl, hsqi, for_enumT (K := K) (xs := sx) (fun kk σ2 H2 => AllI K F b H (.ref sa) fA s.length row cell (fun docs => (∀ k i', i + 2 ≤ i' → docs k i' = []) ∧ ∀ k, kk ≤ k → docs k (i + 1) = []) (fun _ => True) (fun ys => ∃ y4 y5 y6 y7 y8, ys = [some (.int (1 + ((i : Nat) : Int))), y4, y5, y6, y7, y8]) σ2 H2)
        ⟨docs, _, rfl, ⟨_, _, _, _, _, rfl⟩, gi, hTi, ⟨fun k i' h => hX k i' (by omega), fun k _ => hX k (i + 1) (Nat.le_refl _)⟩, trivial⟩ (fun kk σ2 H2 hk hI2 => ?_) (fun kk x2 T2 σ2 H2 hx2 hI2 nT => ?_) fun σ2 H2 hI2 => ?_⟩
      · obtain ⟨docs2, ys2, rfl, _, g2, _⟩ := hI2.ex
        exact g2.sqT hsq
      · obtain ⟨docs2, ys2, rfl, ⟨y4, y5, y6, y7, y8, rfl⟩, g2, hT2, ⟨hX2, hX2'⟩, _⟩ := hI2.ex
        have gT := g2.add (o := .tup [.int (kk : Nat), x2]) nT
        have gT' := Go.new (o := .tup [.int (kk : Nat), x2]) g2.r nT
        obtain ⟨wd, hwd, hxd⟩ := hsx.get hx2
        rw [List.getElem?_map] at hwd
        cases hsk : s[kk]? with
        | none => rw [hsk] at hwd; cases hwd
        | some ws =>
          rw [hsk] at hwd
          cases hwd
          obtain ⟨ka, kx, rfl, hks, hka⟩ := hxd.inv
          have hkl : kx.length = ws.length := by rw [hka.length, List.length_map]
          obtain ⟨_, hw10, hways⟩ := hg.kinds _ (List.mem_of_getElem? hsk)
          have hkn : kk < s.length := (List.getElem?_eq_some_iff.mp hsk).1
          refine ⟨T2, _, rfl, .inl (.inl upd_same), rfl, _, _, rfl, _, _, rfl, rfl, ?_⟩
          refine ⟨_, rfl, ka, rfl, ⟨kx, gT.sqT hks⟩, for_tup (xs := kx) (fun j σ3 H3 => AllI K F b H (.ref sa) fA s.length row cell (fun docs => (∀ k i', i + 2 ≤ i' → docs k i' = []) ∧ (∀ k, kk + 1 ≤ k → docs k (i + 1) = []) ∧ (docs kk (i + 1)).length ≤ j * (Nb (i + 1) / 10)) (fun _ => True) (fun ys => ∃ y6 y7 y8, ys = [some (.int (1 + ((i : Nat) : Int))), some (.int (kk : Nat)), some (.ref ka), y6, y7, y8]) σ3 H3)
            ⟨docs2, _, rfl, ⟨_, _, _, rfl⟩, gT, hT2.go gT', ⟨hX2, fun k hk => hX2' k (by omega), by rw [hX2' kk (Nat.le_refl _)]; exact Nat.zero_le _⟩, trivial⟩ (fun j σ3 H3 hj hI3 => ?_) (fun j x3 σ3 H3 hx3 hI3 => ?_) fun σ3 H3 hI3 => ?_⟩
          · obtain ⟨docs3, ys3, rfl, _, g3, _⟩ := hI3.ex
            exact g3.sqT hks
          · obtain ⟨docs3, ys3, rfl, ⟨y6, y7, y8, rfl⟩, g3, hT3, ⟨hX3, hX3', hX3''⟩, _⟩ := hI3.ex
            obtain ⟨wd, hwd, hxd⟩ := (g3.dta hka).get hx3
            rw [List.getElem?_map] at hwd
            cases hwi : ws[j]? with
            | none => rw [hwi] at hwd; cases hwd
            | some wy =>
              rw [hwi] at hwd
              cases hwd
              obtain ⟨nm, pp⟩ := wy
              obtain ⟨g4, g5, g6⟩ := hways _ (List.mem_of_getElem? hwi)
              have g4' : isNameS nm = true := g4
              have g5' : pp.length ≤ 3 := g5
              have g6' : ∀ p ∈ pp, p < s.length := g6
              have hjw : j < ws.length := (List.getElem?_eq_some_iff.mp hwi).1
              obtain ⟨a, xs, rfl, hsqa, ha⟩ := hxd.inv
              obtain ⟨w1, r1, rfl, hw1, hr1⟩ := ha.inv
              obtain ⟨w2, r2, rfl, hw2, hr2⟩ := hr1.inv
              cases hr2
              have hw1' := hw1.inv_str
              subst hw1'
              refine ⟨a, _, rfl, hsqa, rfl, _, _, rfl, _, _, rfl, rfl, ?_⟩
              refine ⟨_, rfl, _, rfl, _, rfl, _, _, rfl, rfl, (s.length, pp.length), F, b, fA, w2, pp, i, row, cell, docs3, ?_, g3.r, hT3, hw2, rfl, g5', g6', by omega, fun H4 L us4 rws g4h nL hL hus4 hlen4 hok4 _ => ?_⟩
              · show [V.ref fA, w2, V.int (1 + ((i : Nat) : Int) - 1)] = _
                rw [show (1 : Int) + ((i : Nat) : Int) - 1 = ((i : Nat) : Int) by omega]
              have g34 := g3.trans g4h
              have hl4 : us4.length = rws.length := by rw [hus4.length, List.length_map]
              have hMi := hM i hi pp.length g5'
              have hlen4' : rws.length ≤ Rb pp.length i := hlen4
              have hT4 := hT3.go g4h
              have hLc : L ≠ cell kk (i + 1) := by
                obtain ⟨u0, hu0, _⟩ := hT3.cells kk (i + 1) hkn (by omega)
                exact fun z => by
                  rw [z, hu0] at nL
                  cases nL
              have hnone := (hTab.hcell kk (i + 1) hkn (by omega)).1
              refine ⟨L, rfl, ⟨us4, .inl (.inl hL)⟩, for_list (xs := us4) (fun m σ5 H5 => AllI K F b H (.ref sa) fA s.length row cell (fun docs => (∀ k i', i + 2 ≤ i' → docs k i' = []) ∧ (∀ k, kk + 1 ≤ k → docs k (i + 1) = []) ∧ (docs kk (i + 1)).length ≤ j * (Nb (i + 1) / 10) + m) (fun H5 => H5 L = some (.lst us4) ∧ Ts H4 H5) (fun ys => ∃ y8, ys = [some (.int (1 + ((i : Nat) : Int))), some (.int (kk : Nat)), some (.ref ka), some (.str nm), some w2, y8]) σ5 H5)
                ⟨docs3, _, rfl, ⟨_, rfl⟩, g34, hT4, ⟨hX3, hX3', hX3''⟩, hL, Ts.refl⟩ (fun m σ5 H5 hm hI5 => ?_) (fun m x5 σ5 H5 hx5 hI5 => ?_) fun σ5 H5 hI5 => ?_⟩
              · obtain ⟨docs5, ys5, rfl, _, g5h, _, _, hL5, _⟩ := hI5.ex
                exact .inl (.inl hL5)
              · obtain ⟨docs5, ys5, rfl, ⟨y8, rfl⟩, g5h, hT5, ⟨hX5, hX5', hX5''⟩, hL5, t5⟩ := hI5.ex
                obtain ⟨rd, hrd, hxr⟩ := (DtAll.ts t5 _ _ hus4).get hx5
                rw [List.getElem?_map] at hrd
                cases hri : rws[m]? with
                | none => rw [hri] at hrd; cases hrd
                | some r =>
                  rw [hri] at hrd
                  cases hrd
                  obtain ⟨k1, k2, k3⟩ := hok4 r (List.mem_of_getElem? hri)
                  have hmr := (List.getElem?_eq_some_iff.mp hri).1
                  obtain ⟨us6, hc6, hd6⟩ := hT5.cells kk (i + 1) hkn (by omega)
                  have hl6 : us6.length = (docs5 kk (i + 1)).length := by rw [hd6.length, encs_len]
                  have hj10 : (j + 1) * (Nb (i + 1) / 10) ≤ Nb (i + 1) := by
                    have h1 : (j + 1) * (Nb (i + 1) / 10) ≤ 10 * (Nb (i + 1) / 10) := Nat.mul_le_mul_right _ (by omega)
                    omega
                  have hsucc : (j + 1) * (Nb (i + 1) / 10) = j * (Nb (i + 1) / 10) + Nb (i + 1) / 10 := Nat.succ_mul _ _
                  refine ⟨_, rfl, _, rfl, fA, _, _, .ref (row kk), rfl, rfl, .inl (.inl hT5.top), atI_nat (by rw [List.getElem?_map, List.getElem?_range hkn]; rfl), _, rfl, row kk, _, _, .ref (cell kk (i + 1)), rfl, rfl, .inl (.inl (hT5.rows kk hkn)), ?_, isL hc6, _, rfl, by show 1 ≤ sizeLine; decide, fun p1 n1 => ⟨_, rfl, ?_⟩⟩
                  · show atI _ ((1 : Int) + ((i : Nat) : Int)) = _
                    rw [e1]
                    exact atI_nat (by rw [List.getElem?_map, List.getElem?_range (by omega)]; rfl)
                  have g8 := Go.new (o := .tup [V.str nm]) g5h.r n1
                  refine catA (F := F) (b := b) g8.r (dt_new n1 (.cons (.str nm) .nil)) (g8.dt hxr) (by rw [encs_len]; simp only [List.length_cons, List.length_nil]; omega) fun z H6 g9 hz => ?_
                  have g89 := g8.trans g9
                  have hT6 := hT5.go g89
                  have hc6' := g89.keep (hT5.nc kk (i + 1) hkn (by omega)) hc6
                  have hdz : Dt K H6 z (Doc.nd nm r).enc := by
                    rw [Doc.enc]
                    exact hz
                  have hfin : (Doc.nd nm r).fine = true := by
                    rw [Doc.fine, g4', k2]
                    simp
                    omega
                  refine ⟨cell kk (i + 1), us6, z, rfl, rfl, hc6', sz6' (by omega), _, _, rfl, ⟨_, rfl⟩, (g5h.trans g89).put hnone, hT6.app hSep hkn (by omega) hc6' hdz hfin (by rw [Doc.size]; omega) (by omega), ⟨fun k i' h => ?_, fun k h => ?_, ?_⟩, (upd_ne hLc).trans (g89.keep ((g3.nn' nL)) hL5), (t5.trans g89.ts).trans (ts_lst hc6')⟩
                  · show (if k = kk ∧ i' = i + 1 then _ else docs5 k i') = []
                    rw [if_neg (by omega)]
                    exact hX5 k i' h
                  · show (if k = kk ∧ i + 1 = i + 1 then _ else docs5 k (i + 1)) = []
                    rw [if_neg (by omega)]
                    exact hX5' k h
                  · show (if kk = kk ∧ i + 1 = i + 1 then docs5 kk (i + 1) ++ [Doc.nd nm r] else _).length ≤ _
                    rw [if_pos ⟨rfl, rfl⟩, List.length_append]
                    simp only [List.length_cons, List.length_nil]
                    omega
              · obtain ⟨docs5, ys5, rfl, ⟨y8, rfl⟩, g5h, hT5, ⟨hX5, hX5', hX5''⟩, hL5, t5⟩ := hI5.ex
                have hsucc : (j + 1) * (Nb (i + 1) / 10) = j * (Nb (i + 1) / 10) + Nb (i + 1) / 10 := Nat.succ_mul _ _
                exact ⟨docs5, _, rfl, ⟨_, _, _, rfl⟩, g5h, hT5, ⟨hX5, hX5', by omega⟩, trivial⟩
          · obtain ⟨docs3, ys3, rfl, ⟨y6, y7, y8, rfl⟩, g3, hT3, ⟨hX3, hX3', hX3''⟩, _⟩ := hI3.ex
            exact ⟨docs3, _, rfl, ⟨_, _, _, _, _, rfl⟩, g3, hT3, ⟨hX3, hX3'⟩, trivial⟩
      · obtain ⟨docs2, ys2, rfl, ⟨y4, y5, y6, y7, y8, rfl⟩, g2, hT2, ⟨hX2, hX2'⟩, _⟩ := hI2.ex
        exact ⟨docs2, _, rfl, ⟨_, _, _, _, _, _, rfl⟩, g2, hT2, fun k i' h => hX2 k i' (by omega), trivial⟩
    · obtain ⟨docs, ys, rfl, _, gi, hTi, _⟩ := hI.ex
      exact ⟨_, rfl, q H' fA row cell docs gi nA hTi⟩
end
end K01

set_option Elab.async false
set_option linter.all false
set_option maxRecDepth 100000
set_option maxHeartbeats 4000000
/-! K1l: the drawn shape. -/
namespace K01
open PySem PySem.Spec PyProof.Rows L2 Lf
open PySem.W (alike alikeAll dataLt)
abbrev s__law_shape : Stmt := topS 25
abbrev N__law_shape : List Str := ["state", "most", "wide", "size", "raw", "kind", "ways", "turn", "sign", "spot", "rows", "order", "found", "part", "name", "parts"]
theorem sc__law_shape : FnScope N__law_shape ["state", "most", "wide"] (defScope s__law_shape) := ⟨rfl, rfl, rfl, by decide +kernel, rfl, by decide +kernel, by decide +kernel⟩
section
variable {P : Program} {w : World} {K : PySem.W.Frag} {mg : Str → Option Value} {base : Heap}
abbrev kOf (nm : Str) (c : Int) : List Key := [.inr nm, .inl c]
def KL (F : Fr) (rA : Addr) (H H' : Hp) : Prop := ∀ l us, l ≠ rA → ¬ F.N l → H l = some (.lst us) → H' l = some (.lst us)
theorem KL.go {F : Fr} {b c : Nat} {H H' : Hp} {rA : Addr} (g : Go F b H c H') : KL F rA H H' := fun l us _ n h => g.keep n h
theorem KL.dict {F : Fr} {H : Hp} {rA x : Addr} {kvs : List (List Key × V)} {o : HO} (hx : H x = some (.dT kvs)) : KL F rA H (upd H x o) := fun l us _ _ h => (upd_ne (ne_of h hx (by intro z; cases z))).trans h
theorem KL.raw {F : Fr} {H : Hp} {rA : Addr} {o : HO} : KL F rA H (upd H rA o) := fun l us n _ h => (upd_ne n).trans h
theorem KL.trans {F : Fr} {rA : Addr} {H1 H2 H3 : Hp} (a : KL F rA H1 H2) (b : KL F rA H2 H3) : KL F rA H1 H3 := fun l us n n' h => b l us n n' (a l us n n' h)
def Ent (F : Fr) (n : Nat) (rA : Addr) (H : Hp) (k : List Key) (v : V) : Prop := ∃ (nm : Str) (c : Int) (l : Addr) (ps : List Nat), k = kOf nm c ∧ isNameS nm = true ∧ v = .ref l ∧ ¬ F.N l ∧ l ≠ rA ∧ H l = some (.lst (nI ps)) ∧ ps.length ≤ 3 ∧ ∀ p ∈ ps, p < n
theorem Ent.keep {F : Fr} {n : Nat} {rA : Addr} {H H' : Hp} {k : List Key} {v : V} (kl : KL F rA H H') (h : Ent F n rA H k v) : Ent F n rA H' k v := by
  obtain ⟨nm, c, l, ps, h1, h2, h3, h4, h5, h6, h7⟩ := h
  exact ⟨nm, c, l, ps, h1, h2, h3, h4, h5, kl l _ h5 h4 h6, h7⟩
def DOk (F : Fr) (n : Nat) (rA : Addr) (H : Hp) (kvs : List (List Key × V)) : Prop := ∀ k v, valV kvs k = some v → Ent F n rA H k v
theorem DOk.keep {F : Fr} {n : Nat} {rA : Addr} {H H' : Hp} {kvs : List (List Key × V)} (kl : KL F rA H H') (h : DOk F n rA H kvs) : DOk F n rA H' kvs := fun k v e => (h k v e).keep kl
theorem DOk.put {F : Fr} {n : Nat} {rA : Addr} {H : Hp} {kvs : List (List Key × V)} {k : List Key} {v : V} (h : DOk F n rA H kvs) (he : Ent F n rA H k v) : DOk F n rA H (putK kvs k v) := fun j u e => by
  rw [valV_put] at e
  by_cases q : j = k
  · rw [if_pos q] at e
    cases e
    rw [q]
    exact he
  · rw [if_neg q] at e
    exact h j u e
def Down (F : Fr) (rA : Addr) (H : Hp) (kvs : List (List Key × V)) (i : Nat) : Prop := ∃ (k : List Key) (l : Addr) (ps : List Nat), valV kvs k = some (.ref l) ∧ ¬ F.N l ∧ l ≠ rA ∧ H l = some (.lst (nI ps)) ∧ ∀ p ∈ ps, p < i
theorem Down.keep {F : Fr} {rA : Addr} {H H' : Hp} {kvs : List (List Key × V)} {i : Nat} (kl : KL F rA H H') (h : Down F rA H kvs i) : Down F rA H' kvs i := by
  obtain ⟨k, l, ps, h1, h2, h3, h4, h5⟩ := h
  exact ⟨k, l, ps, h1, h2, h3, kl l _ h3 h2 h4, h5⟩
def RawOk (F : Fr) (n : Nat) (rA : Addr) (H : Hp) (i : Nat) (d : Addr) : Prop := ∃ kvs, H d = some (.dT kvs) ∧ ¬ F.N d ∧ DOk F n rA H kvs ∧ kvs.length ≤ 6 ∧ Down F rA H kvs i
theorem RawOk.keep {F : Fr} {n : Nat} {rA : Addr} {H H' : Hp} {i : Nat} {d : Addr} (kl : KL F rA H H') (kd : ∀ kvs, H d = some (.dT kvs) → ¬ F.N d → H' d = some (.dT kvs)) (h : RawOk F n rA H i d) : RawOk F n rA H' i d := by
  obtain ⟨kvs, h1, h2, h3, h4, h5⟩ := h
  exact ⟨kvs, kd kvs h1 h2, h2, h3.keep kl, h4, h5.keep kl⟩
theorem valV_mem {κ : Type} [DecidableEq κ] {kvs : List (κ × V)} {k : κ} {v : V} (h : valV kvs k = some v) : k ∈ kvs.map (·.1) := by
  unfold valV at h
  cases e : kvs.find? fun kv => decide (kv.1 = k) with
  | none => rw [e] at h; cases h
  | some p =>
    have h1 := List.find?_some e
    have h2 := List.mem_of_find?_eq_some e
    exact List.mem_map.mpr ⟨p, h2, of_decide_eq_true h1⟩
theorem mem_valV {κ : Type} [DecidableEq κ] {kvs : List (κ × V)} {k : κ} (h : k ∈ kvs.map (·.1)) : ∃ v, valV kvs k = some v := by
  obtain ⟨p, hp, rfl⟩ := List.mem_map.mp h
  have q := valV_any p.1 kvs
  have : (kvs.any fun kv => decide (kv.1 = p.1)) = true := List.any_eq_true.mpr ⟨p, hp, by simp⟩
  rw [this] at q
  exact Option.isSome_iff_exists.mp q.symm
theorem nI_inj : ∀ {a b : List Nat}, nI a = nI b → a = b
  | [], [], _ => rfl
  | [], _ :: _, h => by cases h
  | _ :: _, [], h => by cases h
  | x :: a, y :: b, h => by
    have h1 : V.int (x : Nat) :: nI a = V.int (y : Nat) :: nI b := h
    injection h1 with h2 h3
    injection h2 with h4
    have h5 : x = y := by omega
    rw [h5, nI_inj h3]
/-! ### written signs -/
def tSigns : List (Str × Int) → TA
  | [] => tNil
  | (a, c) :: r => tCons (tTup (tCons (L2.tC (.str a)) (tCons (L2.tC (.int c)) tNil))) (tSigns r)
theorem signs_read {F : Fr} {b : Nat} {σ : L2.St} : ∀ (r : List (Str × Int)) {H : Hp} {P : List V → Hp → Prop}, F.T b H →
    (∀ vs H', Go F b H b H' → vs.length = r.length → (∀ (i : Nat) (v : V), vs[i]? = some v → ∃ (p : Addr) (nm : Str) (c : Int), r[i]? = some (nm, c) ∧ v = .ref p ∧ H' p = some (.tup [.str nm, .int c])) → P vs H') → tSigns r σ H P
  | [], H, P, hT, q => q [] H (Go.refl hT) rfl fun i v h => by simp at h
  | (a, c) :: r, H, P, hT, q => by
    refine ⟨by show 2 ≤ sizeLine; decide, fun p np => ?_⟩
    have g := Go.new (o := .tup [.str a, .int c]) hT np
    refine signs_read r g.r fun vs H' g' hl he => ?_
    refine q (.ref p :: vs) H' (g.trans g') (by simp [hl]) fun i v hv => ?_
    cases i with
    | zero =>
      cases hv
      exact ⟨p, a, c, rfl, rfl, g'.tup upd_same⟩
    | succ i => exact he i v (by simpa using hv)
theorem cons_signs {F : Fr} {b : Nat} {σ : L2.St} {H : Hp} {P : List V → Hp → Prop} (r : List (Str × Int)) (hT : F.T b H) (hr : r.length ≤ 100)
    (q : ∀ l vs H', Go F b H b H' → H l = none → H' l = some (.lst vs) → vs.length = r.length → (∀ (i : Nat) (v : V), vs[i]? = some v → ∃ (p : Addr) (nm : Str) (c : Int), r[i]? = some (nm, c) ∧ v = .ref p ∧ H' p = some (.tup [.str nm, .int c])) → P [.ref l] H') : tCons (tLst (tSigns r)) tNil σ H P := by
  refine signs_read r hT fun vs H' g hl he => ⟨sz6 (by omega), fun l nl => ?_⟩
  exact q l vs _ (g.add nl) (g.was nl) upd_same hl fun i v hv => by
    obtain ⟨p, nm, c, h1, h2, h3⟩ := he i v hv
    exact ⟨p, nm, c, h1, h2, (upd_ne (ne_of_none h3 nl)).trans h3⟩
theorem dput_lc {wi : L2.TI} {g : TG} {tt : TT} {te td ty : TE} {vs : List Nat} {D : Ends} {σ : L2.St} {H : Hp} (h : tLc wi g tt te vs σ H fun v H1 => td σ H1 fun x H2 => ty σ H2 fun y H3 => ∃ a H4, x = .ref a ∧ DPut H3 a y v H4 ∧ D.nx σ H4) : sDPut td ty (tLc wi g tt te vs) D σ H := h
theorem dput_cat {wi : L2.TI} {g : TG} {tt : TT} {te td ty tb : TE} {r : R2} {vs : List Nat} {D : Ends} {σ : L2.St} {H : Hp} (h : tLc wi g tt te vs σ H fun x0 H0 => tb σ H0 fun y0 H1 => r x0 y0 H1 fun v H1 => td σ H1 fun x H2 => ty σ H2 fun y H3 => ∃ a H4, x = .ref a ∧ DPut H3 a y v H4 ∧ D.nx σ H4) : sDPut td ty (tOp r (tLc wi g tt te vs) tb) D σ H := h
theorem nats_of {n : Nat} : ∀ {ys : List V}, (∀ (i : Nat) (y : V), ys[i]? = some y → ∃ p : Nat, y = .int (p : Nat) ∧ p < n) → ∃ ps : List Nat, ys = nI ps ∧ ∀ p ∈ ps, p < n
  | [], _ => ⟨[], rfl, fun _ h => by cases h⟩
  | y :: r, h => by
    obtain ⟨p, rfl, hp⟩ := h 0 y rfl
    obtain ⟨ps, rfl, h2⟩ := nats_of (ys := r) fun i x e => h (i + 1) x (by simpa using e)
    refine ⟨p :: ps, rfl, fun q hq => ?_⟩
    rcases List.mem_cons.mp hq with e | e
    · rw [e]; exact hp
    · exact h2 q e
/-! ### numbered anew -/
def Ren (ord : List Nat) (w w' : Way) : Prop := w'.1 = w.1 ∧ w'.2.length = w.2.length ∧ ∀ (m j : Nat), w'.2[m]? = some j → ∃ p, w.2[m]? = some p ∧ ord[j]? = some p
def RenK (ord : List Nat) (ws ws' : List Way) : Prop := ws'.length = ws.length ∧ ∀ (m : Nat) (w' : Way), ws'[m]? = some w' → ∃ w, ws[m]? = some w ∧ Ren ord w w'
theorem good_ren {rows s : Shp} {ord : List Nat} (hg : Good rows) (hr : Ranked rows) (hR : Reach rows ord) (hl : s.length = ord.length) (h : ∀ (j : Nat) (ws' : List Way), s[j]? = some ws' → ∃ k ws, ord[j]? = some k ∧ rows[k]? = some ws ∧ RenK ord ws ws') : Good s ∧ Ranked s := by
  have hol := nodup_len _ _ hR.nd hR.lt
  have h0 := (List.getElem?_eq_some_iff.mp hR.zero).1
  refine ⟨⟨by omega, by have := hg.len; omega, fun ws' hws => ?_⟩, ?_⟩
  · obtain ⟨j, hj⟩ := List.mem_iff_getElem?.mp hws
    obtain ⟨k, ws, h1, h2, h3, h4⟩ := h j ws' hj
    obtain ⟨g1, g2, g3⟩ := hg.kinds ws (List.mem_of_getElem? h2)
    refine ⟨by omega, by omega, fun w' hw' => ?_⟩
    obtain ⟨m, hm⟩ := List.mem_iff_getElem?.mp hw'
    obtain ⟨w, hw, hn, hln, hp⟩ := h4 m w' hm
    obtain ⟨g4, g5, g6⟩ := g3 w (List.mem_of_getElem? hw)
    refine ⟨by rw [hn]; exact g4, by omega, fun p hpm => ?_⟩
    obtain ⟨m', hm'⟩ := List.mem_iff_getElem?.mp hpm
    obtain ⟨p0, _, h6⟩ := hp m' p hm'
    have := (List.getElem?_eq_some_iff.mp h6).1
    omega
  · obtain ⟨rk, hrk⟩ := hr
    refine ⟨fun j => rk (ord.getD j 0), fun j ws' hj => ?_⟩
    obtain ⟨k, ws, h1, h2, h3, h4⟩ := h j ws' hj
    obtain ⟨w, hw, hdn⟩ := hrk k ws h2
    obtain ⟨m, hm⟩ := List.mem_iff_getElem?.mp hw
    have hml := (List.getElem?_eq_some_iff.mp hm).1
    have hm' : ws'[m]? = some (ws'[m]'(by omega)) := List.getElem?_eq_getElem _
    obtain ⟨w2, hw2, hn, hln, hp⟩ := h4 m _ hm'
    rw [hm] at hw2
    cases hw2
    refine ⟨_, List.mem_of_getElem? hm', fun p hpm => ?_⟩
    obtain ⟨m2, hm2⟩ := List.mem_iff_getElem?.mp hpm
    obtain ⟨p0, h5, h6⟩ := hp m2 p hm2
    have := hdn p0 (List.mem_of_getElem? h5)
    show rk (ord.getD p 0) < rk (ord.getD j 0)
    rw [List.getD_eq_getElem?_getD, List.getD_eq_getElem?_getD, h1, h6]
    exact this
structure WOk (n i : Nat) (ws : List Way) : Prop where
  pos : 0 < ws.length
  len : ws.length ≤ 6
  ways : ∀ w ∈ ws, isNameS w.1 = true ∧ w.2.length ≤ 3 ∧ ∀ p ∈ w.2, p < n
  down : ∃ w ∈ ws, ∀ p ∈ w.2, p < i
theorem ways_of {H : Hp} {R : Nat → Way → Prop} : ∀ {ys : List V}, (∀ (i : Nat) (y : V), ys[i]? = some y → ∃ w : Way, Dt K H y (encWay w) ∧ R i w) → ∃ ws : List Way, DtAll K H ys (ws.map encWay) ∧ ws.length = ys.length ∧ ∀ (i : Nat) (w : Way), ws[i]? = some w → R i w := by
  intro ys
  induction ys generalizing R with
  | nil => exact fun _ => ⟨[], .nil, rfl, fun i w h => by simp at h⟩
  | cons y r ih =>
    intro h
    obtain ⟨w, h1, h2⟩ := h 0 y rfl
    obtain ⟨ws, h3, h4, h5⟩ := ih (R := fun i w => R (i + 1) w) fun i x e => h (i + 1) x (by simpa using e)
    refine ⟨w :: ws, .cons h1 h3, by simp [h4], fun i w' e => ?_⟩
    cases i with
    | zero =>
      cases e
      exact h2
    | succ i => exact h5 i w' (by simpa using e)
def spShape (K : PySem.W.Frag) : Sp := fun vs H Q _ => ∃ (F : Fr) (b : Nat) (st : Addr) (m : Nat), vs = [.ref st, .int (m : Nat), .int 3] ∧ F.T b H ∧ HasSt F st ∧ 1 ≤ m ∧ m ≤ 5 ∧ b + 300 ≤ 1000000 ∧
  ∀ H' u (s : Shp), Go F b H (b + 300) H' → Dt K H' u (encShp s) → Good s → Ranked s → s.length ≤ m → Q u H'
end
end K01

set_option Elab.async false
set_option linter.all false
set_option maxRecDepth 100000
set_option maxHeartbeats 4000000
set_option pp.maxSteps 600
set_option pp.proofs false
/-! K1m: the drawn shape, walked. -/
namespace K01
open PySem PySem.Spec PyProof.Rows L2 Lf
open PySem.W (alike alikeAll dataLt)
section
variable {P : Program} {w : World} {K : PySem.W.Frag} {mg : Str → Option Value} {base : Heap}
theorem nodup_idx : ∀ {l : List Nat} {i j p : Nat}, l.Nodup → l[i]? = some p → l[j]? = some p → i = j
  | [], _, _, _, _, h, _ => by simp at h
  | a :: r, 0, 0, _, _, _, _ => rfl
  | a :: r, 0, j + 1, p, hd, h1, h2 => by
    cases h1
    exact absurd (List.mem_of_getElem? (by simpa using h2)) (List.nodup_cons.mp hd).1
  | a :: r, i + 1, 0, p, hd, h1, h2 => by
    cases h2
    exact absurd (List.mem_of_getElem? (by simpa using h1)) (List.nodup_cons.mp hd).1
  | a :: r, i + 1, j + 1, p, hd, h1, h2 => by
    have := nodup_idx (List.nodup_cons.mp hd).2 (by simpa using h1) (by simpa using h2)
    omega
theorem signs8 : ∀ e ∈ ([("f", 1), ("g", 2), ("h", 3), ("f", 2), ("k", 1), ("a", 0), ("b", 0), ("c", 0)] : List (Str × Int)), isNameS e.1 = true ∧ 0 ≤ e.2 ∧ e.2 ≤ 3 := by decide +kernel
theorem signs3 : ∀ e ∈ ([("g", 2), ("k", 1), ("m", 1)] : List (Str × Int)), isNameS e.1 = true ∧ 1 ≤ e.2 ∧ e.2 ≤ 3 := by decide +kernel
theorem name_f : isNameS "f" = true := by decide +kernel
theorem names_abc : ∀ x ∈ ([.str "a", .str "b", .str "c"] : List V), ∃ nm : Str, x = .str nm ∧ isNameS nm = true := by
  intro x hx
  rcases List.mem_cons.mp hx with e | hx
  · exact ⟨_, e, by decide +kernel⟩
  rcases List.mem_cons.mp hx with e | hx
  · exact ⟨_, e, by decide +kernel⟩
  rcases List.mem_cons.mp hx with e | hx
  · exact ⟨_, e, by decide +kernel⟩
  · cases hx
/-- between two kinds -/
structure KI (F : Fr) (b : Nat) (H : Hp) (st rA : Addr) (m dm : Nat) (i : Nat) (σ : L2.St) (H' : Hp) : Prop where
  ex : ∃ (ds : List Addr) (y5 y6 y7 y8 y9 y10 y11 y12 y13 y14 y15 : Option V), σ = [some (.ref st), some (.int (m : Nat)), some (.int 3), some (.int (1 + ((dm : Nat) : Int))), some (.ref rA), y5, y6, y7, y8, y9, y10, y11, y12, y13, y14, y15] ∧
    Go F b H (b + 1 + 30 * i) H' ∧ H' rA = some (.lst (ds.map V.ref)) ∧ ds.length = i ∧ ∀ j d, ds[j]? = some d → RawOk F (dm + 1) rA H' j d
/-- within one kind -/
structure WI (F : Fr) (b1 : Nat) (Hs : Hp) (st rA wA : Addr) (m dm i b2 c : Nat) (X : List (List Key × V) → Hp → Prop) (σ : L2.St) (H' : Hp) : Prop where
  ex : ∃ (kvs : List (List Key × V)) (y7 y8 y9 y10 y11 y12 y13 y14 y15 : Option V), σ = [some (.ref st), some (.int (m : Nat)), some (.int 3), some (.int (1 + ((dm : Nat) : Int))), some (.ref rA), some (.int (0 + ((i : Nat) : Int))), some (.ref wA), y7, y8, y9, y10, y11, y12, y13, y14, y15] ∧
    Go F b1 Hs b2 H' ∧ H' wA = some (.dT kvs) ∧ DOk F (dm + 1) rA H' kvs ∧ kvs.length ≤ c ∧ X kvs H'
/-- one way more is put -/
theorem WI.put {F : Fr} {b1 : Nat} {Hs : Hp} {st rA wA : Addr} {m dm i b2 b3 c : Nat} {H' H6 : Hp} {kvs : List (List Key × V)} {nm : Str} {k : Int} {L : Addr} {ps : List Nat} {y7 y8 y9 y10 y11 y12 y13 y14 y15 : Option V} {us : List V} {X : List (List Key × V) → Hp → Prop}
    (nwA : Hs wA = none) (hrs : Hs rA = some (.lst us)) (nr : ¬ F.N rA) (g0 : Go F b1 Hs b2 H') (hw : H' wA = some (.dT kvs)) (hd : DOk F (dm + 1) rA H' kvs) (hc : kvs.length ≤ c) (g : Go F b2 H' b3 H6) (hn : isNameS nm = true) (nL : Hs L = none) (hL : H6 L = some (.lst (nI ps))) (hl : ps.length ≤ 3) (hp : ∀ p ∈ ps, p < dm + 1)
    (hX : X (putK kvs (kOf nm k) (.ref L)) (upd H6 wA (.dT (putK kvs (kOf nm k) (.ref L))))) :
    WI F b1 Hs st rA wA m dm i b3 (c + 1) X [some (.ref st), some (.int (m : Nat)), some (.int 3), some (.int (1 + ((dm : Nat) : Int))), some (.ref rA), some (.int (0 + ((i : Nat) : Int))), some (.ref wA), y7, y8, y9, y10, y11, y12, y13, y14, y15] (upd H6 wA (.dT (putK kvs (kOf nm k) (.ref L)))) := by
  have hw6 := g.keep (g0.nn nwA) hw
  have hne : L ≠ rA := fun z => by
    rw [z, hrs] at nL
    cases nL
  have nnL : ¬ F.N L := g0.nn nL
  refine ⟨putK kvs (kOf nm k) (.ref L), _, _, _, _, _, _, _, _, _, rfl, (g0.trans g).put nwA, upd_same, ?_, Nat.le_trans (length_putK _ _ _) (by omega), hX⟩
  exact (((hd.keep (KL.go g)).keep (KL.dict hw6)).put ⟨nm, k, L, ps, rfl, hn, rfl, nnL, hne, KL.dict (rA := rA) hw6 L _ hne nnL hL, hl, hp⟩)
theorem WI.putD {F : Fr} {b1 : Nat} {Hs : Hp} {st rA wA : Addr} {m dm i b2 b3 c : Nat} {H' H6 : Hp} {kvs : List (List Key × V)} {nm : Str} {k : Int} {L : Addr} {ps : List Nat} {y7 y8 y9 y10 y11 y12 y13 y14 y15 : Option V} {us : List V}
    (nwA : Hs wA = none) (hrs : Hs rA = some (.lst us)) (nr : ¬ F.N rA) (g0 : Go F b1 Hs b2 H') (hw : H' wA = some (.dT kvs)) (hd : DOk F (dm + 1) rA H' kvs) (hc : kvs.length ≤ c) (g : Go F b2 H' b3 H6) (hn : isNameS nm = true) (nL : Hs L = none) (hL : H6 L = some (.lst (nI ps))) (hl : ps.length ≤ 3) (hp : ∀ p ∈ ps, p < dm + 1) (hi : ∀ p ∈ ps, p < i) :
    WI F b1 Hs st rA wA m dm i b3 (c + 1) (fun kvs H => Down F rA H kvs i) [some (.ref st), some (.int (m : Nat)), some (.int 3), some (.int (1 + ((dm : Nat) : Int))), some (.ref rA), some (.int (0 + ((i : Nat) : Int))), some (.ref wA), y7, y8, y9, y10, y11, y12, y13, y14, y15] (upd H6 wA (.dT (putK kvs (kOf nm k) (.ref L)))) := by
  have hw6 := g.keep (g0.nn nwA) hw
  have hne : L ≠ rA := fun z => by
    rw [z, hrs] at nL
    cases nL
  refine WI.put nwA hrs nr g0 hw hd hc g hn nL hL hl hp ⟨kOf nm k, L, ps, by rw [valV_put, if_pos rfl], g0.nn nL, hne, KL.dict (F := F) (rA := rA) hw6 L _ hne (g0.nn nL) hL, hi⟩
structure RowI (K : PySem.W.Frag) (F : Fr) (bE : Nat) (Hr : Hp) (st rA xA : Addr) (m dm : Nat) (j : Nat) (σ : L2.St) (H' : Hp) : Prop where
  ex : ∃ (vs : List V) (wss : Shp) (y5 y6 y7 y8 y9 y11 y12 y13 y14 y15 : Option V), σ = [some (.ref st), some (.int (m : Nat)), some (.int 3), some (.int (1 + ((dm : Nat) : Int))), some (.ref rA), y5, y6, y7, y8, y9, some (.ref xA), y11, y12, y13, y14, y15] ∧
    Go F bE Hr bE H' ∧ H' xA = some (.lst vs) ∧ DtAll K H' vs (wss.map encKind) ∧ wss.length = j ∧ ∀ i ws, wss[i]? = some ws → WOk (dm + 1) i ws
structure FndI (K : PySem.W.Frag) (F : Fr) (bE : Nat) (Hr : Hp) (st rA xA L fA : Addr) (m dm : Nat) (ord : List Nat) (wss : Shp) (j : Nat) (σ : L2.St) (H' : Hp) : Prop where
  ex : ∃ (fs : List V) (ss : Shp) (y5 y6 y7 y8 y9 y13 y14 y15 : Option V), σ = [some (.ref st), some (.int (m : Nat)), some (.int 3), some (.int (1 + ((dm : Nat) : Int))), some (.ref rA), y5, y6, y7, y8, y9, some (.ref xA), some (.ref L), some (.ref fA), y13, y14, y15] ∧
    Go F bE Hr bE H' ∧ H' fA = some (.lst fs) ∧ DtAll K H' fs (ss.map encKind) ∧ ss.length = j ∧ ∀ (i : Nat) (ws' : List Way), ss[i]? = some ws' → ∃ k ws, ord[i]? = some k ∧ wss[k]? = some ws ∧ RenK ord ws ws'
set_option maxHeartbeats 16000000 in
theorem pr__law_shape {f : Addr} {fd : FuncData} {k : Nat} (T : Txt mg) (D : Def K mg "_law_shape" ["state", "most", "wide"] s__law_shape f fd) (G__law_draw : Pr P w K mg base k "_law_draw" ["state", "limit"] spDraw)
    (G__law_of : Pr P w K mg base k "_law_of" ["state", "some"] (spOf K)) (G__law_reached : Pr P w K mg base k "_law_reached" ["shape_so"] (spReach K)) : Pr P w K mg base (k + 1) "_law_shape" ["state", "most", "wide"] (spShape K) := by
  refine Pr.of' D sc__law_shape (fun vs H Q E h => ?_) fun cdv A outer s0 H vs Q E hcd hG hr h => ?_
  · obtain ⟨_, _, _, _, rfl, _⟩ := h
    rfl
  · obtain ⟨F, b, st, m, rfl, hT, hS, hm1, hm5, hb, q⟩ := h
    refine ⟨_, (pss_cons (ps_set (i := 3) sc__law_shape.nd rfl (Or.inr rfl) (pe_op op_add pe_int (pcall hG G__law_draw hr (pa_cons (pv 0) (pa_cons (pv 1) pa_nil)))))
  (pss_cons (ps_set (i := 4) sc__law_shape.nd rfl (Or.inl rfl) (pe_lst pa_nil))
  (pss_cons (ps_for (passes_of rfl) rfl (pi_range1 (by rfl) T.range (pa_cons (pv 3) pa_nil)) (pg_name (i := 5) sc__law_shape.nd rfl (Or.inl rfl)) (
    (pss_cons (ps_set (i := 6) sc__law_shape.nd rfl (Or.inr rfl) (pe_dnewT))
    (pss_cons (ps_for (passes_of rfl) rfl (pi_range1 (by rfl) T.range (pa_cons (pcall hG G__law_draw hr (pa_cons (pv 0) (pa_cons (pe_op op_add (pv 2) pe_int) pa_nil))) pa_nil)) (pg_name (i := 7) sc__law_shape.nd rfl (Or.inl rfl)) (
      (pss_cons (ps_set (i := 8) sc__law_shape.nd rfl (Or.inl rfl) (pcall hG G__law_of hr (pa_cons (pv 0) (pa_cons (pe_lst (pa_cons (pe_tup (pa_cons pe_str (pa_cons pe_int pa_nil))) (pa_cons (pe_tup (pa_cons pe_str (pa_cons pe_int pa_nil))) (pa_cons (pe_tup (pa_cons pe_str (pa_cons pe_int pa_nil))) (pa_cons (pe_tup (pa_cons pe_str (pa_cons pe_int pa_nil))) (pa_cons (pe_tup (pa_cons pe_str (pa_cons pe_int pa_nil))) (pa_cons (pe_tup (pa_cons pe_str (pa_cons pe_int pa_nil))) (pa_cons (pe_tup (pa_cons pe_str (pa_cons pe_int pa_nil))) (pa_cons (pe_tup (pa_cons pe_str (pa_cons pe_int pa_nil))) pa_nil))))))))) pa_nil))))
      (pss_one (ps_dput (hu_of hr) (pv 6) (pv 8) (pe_lc (own := [("spot", 9)]) rfl sc__law_shape.nd (pi_range1 (by rfl) T.range (pa_cons (pe_ix ix_tup (pv 8) pe_int (fun _ _ => rfl)) pa_nil)) (blkOk_by (own := [("spot", 9)]) (N := N__law_shape) (sc := defScope s__law_shape) (by decide +kernel)) (fun _ _ _ _ _ => (pg_name (i := 9) sc__law_shape.nd rfl (Or.inl rfl))) (fun _ _ _ _ _ => pts_nil) (fun _ _ _ _ _ => (pcall hG G__law_draw hr (pa_cons (pv 0) (pa_cons (pv 3) pa_nil))))) rfl)))))
    (Evl.pss_cut (ps_if (PW.pt (pw_or (pt_cmpR op_lt (pe_op op_add (pv 5) pe_int) (pv 3) (nomark _)) (pw_or1 (pt_cmpR (LfQ.op_eqDict0 (hu0 hr)) (pv 6) (pe_dnewT) (nomark _))))) (
      (pss_cons (ps_set (i := 8) sc__law_shape.nd rfl (Or.inl rfl) (pcall hG G__law_of hr (pa_cons (pv 0) (pa_cons (pe_lst (pa_cons (pe_tup (pa_cons pe_str (pa_cons pe_int pa_nil))) (pa_cons (pe_tup (pa_cons pe_str (pa_cons pe_int pa_nil))) (pa_cons (pe_tup (pa_cons pe_str (pa_cons pe_int pa_nil))) pa_nil)))) pa_nil))))
      (pss_one (ps_dput (hu_of hr) (pv 6) (pv 8) (pe_op op_cat (pe_lc (own := [("spot", 9)]) rfl sc__law_shape.nd (pi_range1 (by rfl) T.range (pa_cons (pe_op op_sub (pe_ix ix_tup (pv 8) pe_int (fun _ _ => rfl)) pe_int) pa_nil)) (blkOk_by (own := [("spot", 9)]) (N := N__law_shape) (sc := defScope s__law_shape) (by decide +kernel)) (fun _ _ _ _ _ => (pg_name (i := 9) sc__law_shape.nd rfl (Or.inl rfl))) (fun _ _ _ _ _ => pts_nil) (fun _ _ _ _ _ => (pcall hG G__law_draw hr (pa_cons (pv 0) (pa_cons (pv 3) pa_nil))))) (pe_lst (pa_cons (pe_op op_modN (pe_callTy call_int1 (by rfl) T.int (by decide +kernel) (pa_cons (pe_op op_add (pv 5) pe_int) pa_nil)) (pv 3)) pa_nil))) rfl)))) (pss_nil))
    (Evl.pss_cut (ps_if (PW.pt (pw_and (pt_cmpR op_gt (pv 5) pe_int (nomark _)) (pw_and1 (pt_cmpR op_eq (pcall hG G__law_draw hr (pa_cons (pv 0) (pa_cons pe_int pa_nil))) pe_int (nomark _))))) (
      (pss_one (ps_dput (hu_of hr) (pv 6) (pe_tup (pa_cons pe_str (pa_cons pe_int pa_nil))) (pe_lst (pa_cons (pcall hG G__law_draw hr (pa_cons (pv 0) (pa_cons (pv 5) pa_nil))) pa_nil)) rfl))) (
      (pss_one (ps_dput (hu_of hr) (pv 6) (pe_tup (pa_cons (pcall hG G__law_of hr (pa_cons (pv 0) (pa_cons (pe_lst (pa_cons pe_str (pa_cons pe_str (pa_cons pe_str pa_nil)))) pa_nil))) (pa_cons pe_int pa_nil))) (pe_lst pa_nil) rfl))))
    (pss_one (ps_expr (pe_bm PySem.F.plainAttrs_list PySem.F.slot_list_append PySem.F.type_list_append mt_append (pv 4) (pa_cons (pv 6) pa_nil))))))))))
  (pss_cons (ps_set (i := 10) sc__law_shape.nd rfl (Or.inl rfl) (pe_lst pa_nil))
  (pss_cons (ps_for (passes_of rfl) rfl (pi_list (pv 4)) (pg_name (i := 6) sc__law_shape.nd rfl (Or.inr rfl)) (
    (pss_one (ps_expr (pe_bm PySem.F.plainAttrs_list PySem.F.slot_list_append PySem.F.type_list_append mt_append (pv 10) (pa_cons (pe_callTy call_tuple_of (by rfl) T.tuple (by decide +kernel) (pa_cons (pe_lc (own := [("sign", 8)]) rfl sc__law_shape.nd (pi_list (pe_callB (LfS.call_sortedT rfl (hu16 hr)) (by rfl) T.sorted (by decide +kernel) (pa_cons (pv 6) pa_nil))) (blkOk_by (own := [("sign", 8)]) (N := N__law_shape) (sc := defScope s__law_shape) (by decide +kernel)) (fun _ _ _ _ _ => (pg_name (i := 8) sc__law_shape.nd rfl (Or.inl rfl))) (fun _ _ _ _ _ => pts_nil) (fun _ _ _ _ _ => (pe_tup (pa_cons (pe_ix (show IxR _ (rIxT K) from ix_tup) (pv 8) pe_int (fun _ _ => rfl)) (pa_cons (pe_callTy (show CallR _ (.type "tuple") (rTupK K) from call_tuple_of) (by rfl) T.tuple (by decide +kernel) (pa_cons (pe_dget (hu_of hr) (pv 6) (pv 8) (fun _ _ => rfl)) pa_nil)) pa_nil))))) pa_nil)) pa_nil))))))
  (pss_cons (ps_set (i := 11) sc__law_shape.nd rfl (Or.inr rfl) (pcall hG G__law_reached hr (pa_cons (pv 10) pa_nil)))
  (pss_cons (ps_set (i := 12) sc__law_shape.nd rfl (Or.inl rfl) (pe_lst pa_nil))
  (pss_cons (ps_for (passes_of rfl) rfl (pi_list (pv 11)) (pg_name (i := 5) sc__law_shape.nd rfl (Or.inl rfl)) (
    (pss_one (ps_expr (pe_bm PySem.F.plainAttrs_list PySem.F.slot_list_append PySem.F.type_list_append mt_append (pv 12) (pa_cons (pe_callTy call_tuple_of (by rfl) T.tuple (by decide +kernel) (pa_cons (pe_lc (own := [("name", 14), ("parts", 15)]) rfl sc__law_shape.nd (pi_tup (pe_ix ix_list (pv 10) (pv 5) (fun _ _ => rfl))) (blkOk_by (own := [("name", 14), ("parts", 15)]) (N := N__law_shape) (sc := defScope s__law_shape) (by decide +kernel)) (fun _ _ _ _ _ => (show PG _ _ (gTup K 2 _) from pg_tup rfl (pgs_cons (pg_name (i := 14) sc__law_shape.nd rfl (Or.inl rfl)) (pgs_cons (pg_name (i := 15) sc__law_shape.nd rfl (Or.inl rfl)) pgs_nil)))) (fun _ _ _ _ _ => pts_nil) (fun _ _ _ _ _ => (pe_tup (pa_cons (pv 14) (pa_cons (pe_callTy (show CallR _ (.type "tuple") (rTupK K) from call_tuple_of) (by rfl) T.tuple (by decide +kernel) (pa_cons (pe_lc (own := [("part", 13)]) rfl sc__law_shape.nd (show PI _ _ _ (iTup K _) from pi_tup (pv 15)) (blkOk_by (own := [("part", 13)]) (N := N__law_shape) (sc := ({ kind := PySem.ScopeKind.function, names := [ (PySem.Str.ofString ".0", PySem.NameKind.local), (PySem.Str.ofString "name", PySem.NameKind.local), (PySem.Str.ofString "parts", PySem.NameKind.local), (PySem.Str.ofString "tuple", PySem.NameKind.globalImplicit), (PySem.Str.ofString "order", PySem.NameKind.cell)], isGenerator := false, isCoroutine := false, more := [] : PySem.Scope })) (by decide +kernel)) (fun _ _ _ _ _ => (pg_name (i := 13) sc__law_shape.nd rfl (Or.inl rfl))) (fun _ _ _ _ _ => pts_nil) (fun _ _ _ _ _ => (show PE _ _ (tBM K "list" _ _ _) from (pe_bm PySem.F.plainAttrs_list PySem.F.slot_list_index PySem.F.type_list_index (show MtR _ "list.index" (rIndex K) from mt_index) (pv 11) (pa_cons (pv 13) pa_nil))))) pa_nil)) pa_nil))))) pa_nil)) pa_nil))))))
  (pss_one (ps_ret (pe_callTy call_tuple_of (by rfl) T.tuple (by decide +kernel) (pa_cons (pv 12) pa_nil)))))))))))), ?_⟩
    refine ⟨_, rfl, _, rfl, F, b, st, m, rfl, hT, hS, hm1, by omega, by omega, fun dm H1 hdm g1 _ => ⟨_, _, rfl, rfl, ?_⟩⟩
    have en : (1 : Int) + ((dm : Nat) : Int) = ((dm + 1 : Nat) : Int) := by omega
    refine ⟨Nat.zero_le _, fun rA nrA => ?_⟩
    have nrA0 := g1.was nrA
    have g2 := g1.add (o := .lst []) nrA
    refine ⟨_, rfl, _, rfl, by omega, by omega, for_range (lo := 0) (n := (1 + ((dm : Nat) : Int)).toNat) (KI F b H st rA m dm) ⟨[], _, _, _, _, _, _, _, _, _, _, _, rfl, g2, upd_same, rfl, fun j d h => by simp at h⟩ (fun i σ' Hs hi hI => ?_) fun σ' H' hI => ?_⟩
    · obtain ⟨ds, y5, y6, y7, y8, y9, y10, y11, y12, y13, y14, y15, rfl, gi, hraw, hdl, hdr⟩ := hI.ex
      have hi' : i ≤ dm := by omega
      have nr : ¬ F.N rA := gi.nn nrA0
      generalize eb1 : b + 1 + 30 * i = b1 at *
      have hb1 : b1 + 30 ≤ 1000000 := by omega
      refine fun wA nwA => ?_
      have gw := Go.new (o := .dT []) gi.r nwA
      -- the drawn ways
      refine ⟨_, rfl, _, rfl, _, _, rfl, rfl, F, b1, st, 4, rfl, gw.r, hS, by decide, by decide, by omega, fun dt H3 hdt g3 _ => ⟨_, rfl, by omega, by omega, for_range (lo := 0) (n := ((dt : Nat) : Int).toNat) (fun t σ H => WI F b1 Hs st rA wA m dm i (b1 + 1 + 4 * t) t (fun _ _ => True) σ H) ⟨[], _, _, _, _, _, _, _, _, _, rfl, gw.trans g3, g3.keep (gi.nn' nwA) upd_same, fun k v e => (by cases e), Nat.le_refl _, trivial⟩ (fun t σ2 H2 ht hI2 => ?_) fun σ2 H2 hI2 => ?_⟩⟩
      · obtain ⟨kvs, y7, y8, y9, y10, y11, y12, y13, y14, y15, rfl, gb, hwb, hdb, hcb, _⟩ := hI2.ex
        have ht' : t < dt := by omega
        generalize ebb : b1 + 1 + 4 * t = bb at *
        have hbb : bb + 10 ≤ 1000000 := by omega
        refine ⟨_, rfl, ?_⟩
        refine cons_signs (F := F) (b := bb) [("f", 1), ("g", 2), ("h", 3), ("f", 2), ("k", 1), ("a", 0), ("b", 0), ("c", 0)] gb.r (by decide) fun l vs H4 g4 nl hl hvl hve => ?_
        refine ⟨F, bb, st, l, vs, rfl, g4.r, hS, .inl ⟨hl, g4.nn nl⟩, by rw [hvl]; decide, by rw [hvl]; decide, by omega, fun ix x H5 hx g5 _ => ?_⟩
        obtain ⟨p, nm, c, hr1, rfl, hp⟩ := hve ix x hx
        obtain ⟨hs1, hs2, hs3⟩ := signs8 _ (List.mem_of_getElem? hr1)
        have hs2' : 0 ≤ c := hs2
        have hs3' : c ≤ 3 := hs3
        have hp5 := g5.tup hp
        have g45 := g4.trans g5
        dsimp only [gName]
        refine dput_lc ?_
        refine tLc_iRng1 ?_
        refine ⟨_, rfl, p, _, 1, .int c, rfl, rfl, .inl (.inl hp5), atI_nat (j := 1) rfl, ?_⟩
        refine lcR (F := F) (b := bb + 1) (e := 1) (R := fun _ i y H => ∃ p : Nat, y = .int (p : Nat) ∧ p < dm + 1) hs2' (by omega) g5.r (fun D i H H' y _ t h => h) (fun D2 i2 H6 hD2 hI2 hi2 Pq hPq => ?_) fun L ys H6 nL g6 hL hyl hall => ?_
        · refine ⟨rfl, _, rfl, _, rfl, F, bb + 1 + i2 * 1, st, dm + 1, ?_, hI2.go.r, hS, by omega, by omega, by omega, fun q2 H7 hq2 g7 _ => ?_⟩
          · show [V.ref st, V.int (1 + ((dm : Nat) : Int))] = _
            rw [en]
          · refine hPq _ _ ?_ ⟨q2, rfl, hq2⟩
            rw [Nat.succ_mul, ← Nat.add_assoc]
            exact g7
        · obtain ⟨ps, rfl, hps⟩ := nats_of hall
          have hpl : ps.length = c.toNat := by rw [← hyl, List.length_map]
          have g46 := g45.trans g6
          refine ⟨_, rfl, _, rfl, wA, _, rfl, DPut.t (k := kOf nm c) (g46.keep (gb.nn nwA) hwb) (g6.tup hp5) (sz6' (by omega)), ?_⟩
          refine WI.put nwA hraw nr gb hwb hdb hcb (g46.le (by omega)) hs1 (gb.was (g45.was nL)) hL (by omega) hps trivial
      · obtain ⟨kvs, y7, y8, y9, y10, y11, y12, y13, y14, y15, rfl, gb0, hwb, hdb, hcb, _⟩ := hI2.ex
        have gb1 : Go F b1 Hs (b1 + 13) H2 := gb0.le (by omega)
        have hcb3 : kvs.length ≤ 3 := by omega
        clear gb0
        -- a way that goes on
        refine ⟨WI F b1 Hs st rA wA m dm i (b1 + 17) 4 (fun _ _ => True), ?_, fun σ3 H3' hI3 => ?_⟩
        · refine ⟨_, rfl, _, _, rfl, rfl, _, rfl, _, _, rfl, rfl, _, rfl, ?_⟩
          by_cases hk1 : (0 : Int) + ((i : Nat) : Int) + 1 < 1 + ((dm : Nat) : Int)
          · rw [decide_eq_true hk1]
            refine iteT (iteT ?_)
            have gb := gb1
            have hcb := hcb3
            refine ⟨_, rfl, ?_⟩
            refine cons_signs (F := F) (b := b1 + 13) [("g", 2), ("k", 1), ("m", 1)] gb.r (by decide) fun l vs H4 g4 nl hl hvl hve => ?_
            refine ⟨F, b1 + 13, st, l, vs, rfl, g4.r, hS, .inl ⟨hl, g4.nn nl⟩, by rw [hvl]; decide, by rw [hvl]; decide, by omega, fun ix x H5 hx g5 _ => ?_⟩
            obtain ⟨p, nm, c, hr1, rfl, hp⟩ := hve ix x hx
            obtain ⟨hs1, hs2, hs3⟩ := signs3 _ (List.mem_of_getElem? hr1)
            have hs2' : 1 ≤ c := hs2
            have hs3' : c ≤ 3 := hs3
            have hp5 := g5.tup hp
            have g05 := g4.trans g5
            dsimp only [gName]
            refine dput_cat ?_
            refine tLc_iRng1 ?_
            refine ⟨_, rfl, p, _, 1, .int c, rfl, rfl, .inl (.inl hp5), atI_nat (j := 1) rfl, _, _, rfl, rfl, ?_⟩
            refine lcR (F := F) (b := b1 + 13 + 1) (e := 1) (R := fun _ i y H => ∃ p : Nat, y = .int (p : Nat) ∧ p < dm + 1) (n := c - 1) (by omega) (by omega) g05.r (fun D i H H' y _ t h => h) (fun D2 i2 H6 hD2 hI2 hi2 Pq hPq => ?_) fun L ys H6 nL g6 hL hyl hall => ?_
            · refine ⟨rfl, _, rfl, _, rfl, F, b1 + 13 + 1 + i2 * 1, st, dm + 1, ?_, hI2.go.r, hS, by omega, by omega, by omega, fun q2 H7 hq2 g7 _ => ?_⟩
              · show [V.ref st, V.int (1 + ((dm : Nat) : Int))] = _
                rw [en]
              · refine hPq _ _ ?_ ⟨q2, rfl, hq2⟩
                rw [Nat.succ_mul, ← Nat.add_assoc]
                exact g7
            · obtain ⟨ps, rfl, hps⟩ := nats_of hall
              have hpl : ps.length = (c - 1).toNat := by rw [← hyl, List.length_map]
              have hmodlt : (i + 1) % (dm + 1) < dm + 1 := Nat.mod_lt _ (by omega)
              have eval : ((0 : Int) + ((i : Nat) : Int) + 1).fmod (1 + ((dm : Nat) : Int)) = (((i + 1) % (dm + 1) : Nat) : Int) := by
                rw [Int.fmod_eq_emod_of_nonneg _ (by omega), Int.zero_add, en]
                first
                  | exact (Int.natCast_emod (i + 1) (dm + 1)).symm
                  | exact (Int.ofNat_emod (i + 1) (dm + 1)).symm
              refine ⟨_, rfl, _, _, rfl, rfl, .inl ⟨_, rfl, _, rfl, _, _, rfl, rfl, (by show (1 : Int) + ((dm : Nat) : Int) ≠ 0; omega), by show 1 ≤ sizeLine; decide, fun l3 n3 => ?_⟩⟩
              dsimp only at n3 ⊢
              rw [eval]
              refine ⟨L, l3, nI ps, [.int (((i + 1) % (dm + 1) : Nat) : Int)], rfl, rfl, (upd_ne (ne_of_none hL n3)).trans hL, upd_same, sz6 (by rw [List.length_map]; simp only [List.length_cons, List.length_nil]; omega), fun l4 n4 => ?_⟩
              have g6a := g6.add (o := .lst [.int (((i + 1) % (dm + 1) : Nat) : Int)]) n3
              have g8 := g6a.add (o := .lst (nI ps ++ [.int (((i + 1) % (dm + 1) : Nat) : Int)])) n4
              have g08 := g05.trans g8
              have nl4 := (gb.trans (g05.trans g6a)).was n4
              have hl4 : (upd (upd H6 l3 (.lst [.int (((i + 1) % (dm + 1) : Nat) : Int)])) l4 (.lst (nI ps ++ [.int (((i + 1) % (dm + 1) : Nat) : Int)]))) l4 = some (.lst (nI (ps ++ [(i + 1) % (dm + 1)]))) := by
                rw [upd_same]
                show some (HO.lst (nI ps ++ _)) = some (HO.lst ((ps ++ [(i + 1) % (dm + 1)]).map fun n : Nat => V.int (n : Nat)))
                rw [List.map_append]
                rfl
              refine ⟨_, rfl, _, rfl, wA, _, rfl, DPut.t (k := kOf nm c) (g08.keep (gb.nn nwA) hwb) (g8.tup hp5) (sz6' (by omega)), ?_⟩
              refine WI.put nwA hraw nr gb hwb hdb hcb (g08.le (by omega)) hs1 nl4 hl4 (by rw [List.length_append]; simp only [List.length_cons, List.length_nil]; omega) (fun p' hp' => ?_) trivial
              rcases List.mem_append.mp hp' with z | z
              · exact hps p' z
              · rcases List.mem_singleton.mp z with rfl
                exact hmodlt
          · rw [decide_eq_false hk1]
            refine iteF ⟨_, rfl, fun e ne => ⟨wA, e, kvs, rfl, rfl, (upd_ne (ne_of_none hwb ne)).trans hwb, upd_same, _, rfl, ?_⟩⟩
            have gb := gb1.add (o := .dT []) ne
            have hwb' : (upd H2 e (.dT [])) wA = some (.dT kvs) := (upd_ne (ne_of_none hwb ne)).trans hwb
            have hdb' : DOk F (dm + 1) rA (upd H2 e (.dT [])) kvs := hdb.keep (KL.go (Go.new (o := .dT []) gb1.r ne))
            cases hem : kvs.isEmpty with
            | false => exact iteF ⟨kvs, _, _, _, _, _, _, _, _, _, rfl, gb.le (by omega), hwb', hdb', by omega, trivial⟩
            | true =>
              refine iteT ?_
              have hwb := hwb'
              have hdb := hdb'
              have hcb := hcb3
              refine ⟨_, rfl, ?_⟩
              refine cons_signs (F := F) (b := b1 + 13) [("g", 2), ("k", 1), ("m", 1)] gb.r (by decide) fun l vs H4 g4 nl hl hvl hve => ?_
              refine ⟨F, b1 + 13, st, l, vs, rfl, g4.r, hS, .inl ⟨hl, g4.nn nl⟩, by rw [hvl]; decide, by rw [hvl]; decide, by omega, fun ix x H5 hx g5 _ => ?_⟩
              obtain ⟨p, nm, c, hr1, rfl, hp⟩ := hve ix x hx
              obtain ⟨hs1, hs2, hs3⟩ := signs3 _ (List.mem_of_getElem? hr1)
              have hs2' : 1 ≤ c := hs2
              have hs3' : c ≤ 3 := hs3
              have hp5 := g5.tup hp
              have g05 := g4.trans g5
              dsimp only [gName]
              refine dput_cat ?_
              refine tLc_iRng1 ?_
              refine ⟨_, rfl, p, _, 1, .int c, rfl, rfl, .inl (.inl hp5), atI_nat (j := 1) rfl, _, _, rfl, rfl, ?_⟩
              refine lcR (F := F) (b := b1 + 13 + 1) (e := 1) (R := fun _ i y H => ∃ p : Nat, y = .int (p : Nat) ∧ p < dm + 1) (n := c - 1) (by omega) (by omega) g05.r (fun D i H H' y _ t h => h) (fun D2 i2 H6 hD2 hI2 hi2 Pq hPq => ?_) fun L ys H6 nL g6 hL hyl hall => ?_
              · refine ⟨rfl, _, rfl, _, rfl, F, b1 + 13 + 1 + i2 * 1, st, dm + 1, ?_, hI2.go.r, hS, by omega, by omega, by omega, fun q2 H7 hq2 g7 _ => ?_⟩
                · show [V.ref st, V.int (1 + ((dm : Nat) : Int))] = _
                  rw [en]
                · refine hPq _ _ ?_ ⟨q2, rfl, hq2⟩
                  rw [Nat.succ_mul, ← Nat.add_assoc]
                  exact g7
              · obtain ⟨ps, rfl, hps⟩ := nats_of hall
                have hpl : ps.length = (c - 1).toNat := by rw [← hyl, List.length_map]
                have hmodlt : (i + 1) % (dm + 1) < dm + 1 := Nat.mod_lt _ (by omega)
                have eval : ((0 : Int) + ((i : Nat) : Int) + 1).fmod (1 + ((dm : Nat) : Int)) = (((i + 1) % (dm + 1) : Nat) : Int) := by
                  rw [Int.fmod_eq_emod_of_nonneg _ (by omega), Int.zero_add, en]
                  first
                    | exact (Int.natCast_emod (i + 1) (dm + 1)).symm
                    | exact (Int.ofNat_emod (i + 1) (dm + 1)).symm
                refine ⟨_, rfl, _, _, rfl, rfl, .inl ⟨_, rfl, _, rfl, _, _, rfl, rfl, (by show (1 : Int) + ((dm : Nat) : Int) ≠ 0; omega), by show 1 ≤ sizeLine; decide, fun l3 n3 => ?_⟩⟩
                dsimp only at n3 ⊢
                rw [eval]
                refine ⟨L, l3, nI ps, [.int (((i + 1) % (dm + 1) : Nat) : Int)], rfl, rfl, (upd_ne (ne_of_none hL n3)).trans hL, upd_same, sz6 (by rw [List.length_map]; simp only [List.length_cons, List.length_nil]; omega), fun l4 n4 => ?_⟩
                have g6a := g6.add (o := .lst [.int (((i + 1) % (dm + 1) : Nat) : Int)]) n3
                have g8 := g6a.add (o := .lst (nI ps ++ [.int (((i + 1) % (dm + 1) : Nat) : Int)])) n4
                have g08 := g05.trans g8
                have nl4 := (gb.trans (g05.trans g6a)).was n4
                have hl4 : (upd (upd H6 l3 (.lst [.int (((i + 1) % (dm + 1) : Nat) : Int)])) l4 (.lst (nI ps ++ [.int (((i + 1) % (dm + 1) : Nat) : Int)]))) l4 = some (.lst (nI (ps ++ [(i + 1) % (dm + 1)]))) := by
                  rw [upd_same]
                  show some (HO.lst (nI ps ++ _)) = some (HO.lst ((ps ++ [(i + 1) % (dm + 1)]).map fun n : Nat => V.int (n : Nat)))
                  rw [List.map_append]
                  rfl
                refine ⟨_, rfl, _, rfl, wA, _, rfl, DPut.t (k := kOf nm c) (g08.keep (gb.nn nwA) hwb) (g8.tup hp5) (sz6' (by omega)), ?_⟩
                refine WI.put nwA hraw nr gb hwb hdb hcb (g08.le (by omega)) hs1 nl4 hl4 (by rw [List.length_append]; simp only [List.length_cons, List.length_nil]; omega) (fun p' hp' => ?_) trivial
                rcases List.mem_append.mp hp' with z | z
                · exact hps p' z
                · rcases List.mem_singleton.mp z with rfl
                  exact hmodlt
        · obtain ⟨kvs, y7, y8, y9, y10, y11, y12, y13, y14, y15, rfl, gb, hwb, hdb, hcb, _⟩ := hI3.ex
          -- a way that goes downward
          refine ⟨WI F b1 Hs st rA wA m dm i (b1 + 22) 5 (fun kvs H => Down F rA H kvs i), ?_, fun σ4 H4 hI4 => ?_⟩
          · refine ⟨_, rfl, _, _, rfl, rfl, _, rfl, ?_⟩
            by_cases hk0 : (0 : Int) < 0 + ((i : Nat) : Int)
            · rw [decide_eq_true hk0]
              refine iteT ⟨_, rfl, F, b1 + 17, st, 3, rfl, gb.r, hS, by decide, by decide, by omega, fun q0 H4 hq0 gE _ => ⟨rfl, _, rfl, ?_⟩⟩
              by_cases hq1 : q0 = 0
              · rw [decide_eq_true (show V.int ((q0 : Nat) : Int) = V.int 0 by rw [hq1]; rfl)]
                refine iteT ⟨_, rfl, _, rfl, F, b1 + 18, st, i, ?_, gE.r, hS, by omega, by omega, by omega, fun q2 H5 hq2 g5 _ => ⟨by show 1 ≤ sizeLine; decide, fun l nl => ⟨_, rfl, by show 2 ≤ sizeLine; decide, fun p np => ?_⟩⟩⟩
                · show [V.ref st, V.int (0 + ((i : Nat) : Int))] = _
                  rw [Int.zero_add]
                · have g6 := ((gE.trans g5).add (o := .lst [.int (q2 : Nat)]) nl).add (o := .tup [.str "f", .int 1]) np
                  have hl6 : (upd (upd H5 l (.lst [.int (q2 : Nat)])) p (.tup [.str "f", .int 1])) l = some (.lst (nI [q2])) := (upd_ne (ne_of_none (o := .lst [.int (q2 : Nat)]) upd_same np)).trans upd_same
                  refine ⟨wA, _, rfl, DPut.t (k := kOf "f" 1) (g6.keep (gb.nn nwA) hwb) upd_same (sz6' (by omega)), ?_⟩
                  exact WI.putD nwA hraw nr gb hwb hdb hcb (g6.le (by omega)) name_f ((gb.trans (gE.trans g5)).was nl) hl6 (by show 1 ≤ 3; decide) (fun p' hp' => by rcases List.mem_singleton.mp hp' with rfl; omega) (fun p' hp' => by rcases List.mem_singleton.mp hp' with rfl; exact hq2)
              · rw [decide_eq_false (show ¬ V.int ((q0 : Nat) : Int) = V.int 0 from fun z => by injection z with z; omega)]
                refine iteF ?_
                refine ⟨Nat.zero_le _, fun l nl => ⟨_, rfl, _, rfl, by show 3 ≤ sizeLine; decide, fun l2 n2 => ?_⟩⟩
                have gl := gE.add (o := .lst []) nl
                have gl2 := gl.add (o := .lst [.str "a", .str "b", .str "c"]) n2
                refine ⟨F, b1 + 18, st, l2, [.str "a", .str "b", .str "c"], rfl, gl2.r, hS, .inl ⟨upd_same, gl.nn' n2⟩, by decide, by decide, by omega, fun ix x H5 hx g5 _ => ?_⟩
                obtain ⟨nm, rfl, hnm⟩ := names_abc x (List.mem_of_getElem? hx)
                refine ⟨by show 2 ≤ sizeLine; decide, fun p np => ?_⟩
                have g6 := (gl2.trans g5).add (o := .tup [.str nm, .int 0]) np
                have gl0 := (gb.trans gE).was nl
                have hl5 : (upd H5 p (.tup [.str nm, .int 0])) l = some (.lst (nI [])) :=
                  ((g5.add (o := .tup [.str nm, .int 0]) np)).keep (gE.nn' nl) ((upd_ne (ne_of_none (o := .lst []) upd_same n2)).trans upd_same)
                refine ⟨wA, _, rfl, DPut.t (k := kOf nm 0) (g6.keep (gb.nn nwA) hwb) upd_same (sz6' (by omega)), ?_⟩
                exact WI.putD nwA hraw nr gb hwb hdb hcb (g6.le (by omega)) hnm gl0 hl5 (Nat.zero_le _) (fun _ h => by cases h) (fun _ h => by cases h)
            · rw [decide_eq_false hk0]
              refine iteF (iteF ?_)
              have gE : Go F (b1 + 17) H3' (b1 + 18) H3' := (Go.refl gb.r).le (by omega)
              refine ⟨Nat.zero_le _, fun l nl => ⟨_, rfl, _, rfl, by show 3 ≤ sizeLine; decide, fun l2 n2 => ?_⟩⟩
              have gl := gE.add (o := .lst []) nl
              have gl2 := gl.add (o := .lst [.str "a", .str "b", .str "c"]) n2
              refine ⟨F, b1 + 18, st, l2, [.str "a", .str "b", .str "c"], rfl, gl2.r, hS, .inl ⟨upd_same, gl.nn' n2⟩, by decide, by decide, by omega, fun ix x H5 hx g5 _ => ?_⟩
              obtain ⟨nm, rfl, hnm⟩ := names_abc x (List.mem_of_getElem? hx)
              refine ⟨by show 2 ≤ sizeLine; decide, fun p np => ?_⟩
              have g6 := (gl2.trans g5).add (o := .tup [.str nm, .int 0]) np
              have gl0 := (gb.trans gE).was nl
              have hl5 : (upd H5 p (.tup [.str nm, .int 0])) l = some (.lst (nI [])) :=
                ((g5.add (o := .tup [.str nm, .int 0]) np)).keep (gE.nn' nl) ((upd_ne (ne_of_none (o := .lst []) upd_same n2)).trans upd_same)
              refine ⟨wA, _, rfl, DPut.t (k := kOf nm 0) (g6.keep (gb.nn nwA) hwb) upd_same (sz6' (by omega)), ?_⟩
              exact WI.putD nwA hraw nr gb hwb hdb hcb (g6.le (by omega)) hnm gl0 hl5 (Nat.zero_le _) (fun _ h => by cases h) (fun _ h => by cases h)
          · obtain ⟨kvs, y7, y8, y9, y10, y11, y12, y13, y14, y15, rfl, g4, hw4, hd4, hc4, hdn⟩ := hI4.ex
            have hraw4 := g4.keep nr hraw
            have hwr : wA ≠ rA := ne_of hw4 hraw4 (by intro z; cases z)
            refine ⟨_, rfl, isL hraw4, _, rfl, rA, _, _, rfl, rfl, hraw4, sz6' (by rw [List.length_map]; omega), ?_⟩
            refine ⟨ds ++ [wA], _, _, _, _, _, _, _, _, _, _, _, rfl, ((gi.trans g4).put nrA0).le (by omega), ?_, by simp [hdl], fun j d hj => ?_⟩
            · rw [upd_same, List.map_append]
              rfl
            · by_cases hjl : j < ds.length
              · rw [List.getElem?_append_left hjl] at hj
                refine (hdr j d hj).keep ((KL.go g4).trans KL.raw) fun kv h1 h2 => ?_
                have h3 := g4.keep h2 h1
                exact (upd_ne (ne_of h3 hraw4 (by intro z; cases z))).trans h3
              · rw [List.getElem?_append_right (by omega)] at hj
                have ej : j = i := by
                  have := (List.getElem?_eq_some_iff.mp hj).1
                  simp at this
                  omega
                subst ej
                rw [hdl, Nat.sub_self] at hj
                cases hj
                exact ⟨kvs, (upd_ne hwr).trans hw4, g4.nn nwA, hd4.keep KL.raw, by omega, hdn.keep KL.raw⟩
    · obtain ⟨ds, y5, y6, y7, y8, y9, y10, y11, y12, y13, y14, y15, rfl, gi, hraw, hdl, hdr⟩ := hI.ex
      have hn1 : (1 + ((dm : Nat) : Int)).toNat = dm + 1 := by omega
      rw [hn1] at gi hdl
      have nr : ¬ F.N rA := gi.nn nrA0
      generalize ebE : b + 1 + 30 * (dm + 1) = bE at *
      have hbE : bE ≤ b + 151 := by omega
      refine ⟨Nat.zero_le _, fun xA nxA => ?_⟩
      have gx := Go.new (o := .lst []) gi.r nxA
      refine ⟨_, rfl, rA, rfl, ⟨_, .inl (.inl (gx.keep nr hraw))⟩, for_list (xs := ds.map V.ref) (RowI K F bE H' st rA xA m dm) ⟨[], [], _, _, _, _, _, _, _, _, _, _, rfl, gx, upd_same, .nil, rfl, fun i ws h => by simp at h⟩ (fun j σ2 H2 hj hI2 => ?_) (fun j x σ2 H2 hx hI2 => ?_) fun σ2 H2 hI2 => ?_⟩
      · obtain ⟨vs, wss, y5, y6, y7, y8, y9, y11, y12, y13, y14, y15, rfl, g2h, _⟩ := hI2.ex
        exact .inl (.inl (g2h.keep nr hraw))
      · obtain ⟨vs, wss, y5, y6, y7, y8, y9, y11, y12, y13, y14, y15, rfl, g2h, hxs, hvd, hwl, hwk⟩ := hI2.ex
        rw [List.getElem?_map] at hx
        cases hdj : ds[j]? with
        | none => rw [hdj] at hx; cases hx
        | some d =>
          rw [hdj] at hx
          cases hx
          obtain ⟨kvs, hd0, hdn, hok, hk6, hdown⟩ := (hdr j d hdj).keep (KL.go g2h) fun kv h1 h2 => g2h.keep h2 h1
          have hjl := (List.getElem?_eq_some_iff.mp hdj).1
          refine ⟨_, rfl, isL hxs, ?_⟩
          dsimp only [tCons, tCB, tNil]
          refine tLc_iList ?_
          refine ⟨_, rfl, d, kvs, rfl, hd0, fun p hp => ?_, fun p hp q' hq' => ?_, fun psL l hperm hpsd nl => ?_⟩
          · obtain ⟨v, hv⟩ := mem_valV (kvs := kvs) (List.mem_map.mpr ⟨p, hp, rfl⟩)
            obtain ⟨nm, c, _, _, e, _⟩ := hok _ _ hv
            rw [e]
            simp
          · obtain ⟨v, hv⟩ := mem_valV (kvs := kvs) (List.mem_map.mpr ⟨p, hp, rfl⟩)
            obtain ⟨nm, c, _, _, e, _⟩ := hok _ _ hv
            obtain ⟨v', hv'⟩ := mem_valV (kvs := kvs) (List.mem_map.mpr ⟨q', hq', rfl⟩)
            obtain ⟨nm', c', _, _, e', _⟩ := hok _ _ hv'
            rw [e, e']
            rfl
          · have gl := Go.new (o := .lst (psL.map fun b => V.ref b.2)) g2h.r nl
            have hpl : psL.length = kvs.length := by
              have := hperm.length_eq
              rw [List.length_map, List.length_map] at this
              exact this
            have hlt : (upd H2 l (.lst (psL.map fun b => V.ref b.2))) l = some (.lst (psL.map fun b => V.ref b.2)) := upd_same
            refine lcL (K := K) (F := F) (b := bE) (e := 0) (R := fun _ i y H => ∃ w : Way, Dt K H y (encWay w) ∧ ∃ b l', psL[i]? = some b ∧ valV kvs b.1 = some (.ref l') ∧ (∃ c, b.1 = kOf w.1 c) ∧ H2 l' = some (.lst (nI w.2))) hlt (g2h.nn' nl) gl.r (by rw [List.length_map]; omega) (fun D i H H' y _ tt h => by
              obtain ⟨w, h1, h2⟩ := h
              exact ⟨w, Dt.ts tt _ _ h1, h2⟩) (fun D i x H5 hD hI5 hx5 Pq hPq => ?_) fun D ys H5 nD g5 hD5 hyl hall => ?_
            · rw [List.getElem?_map] at hx5
              cases hbi : psL[i]? with
              | none => rw [hbi] at hx5; cases hx5
              | some bb =>
                rw [hbi] at hx5
                cases hx5
                have hbm := List.mem_of_getElem? hbi
                have hbt := hpsd bb hbm
                obtain ⟨v, hv⟩ := mem_valV (kvs := kvs) (hperm.mem_iff.mp (List.mem_map.mpr ⟨bb, hbm, rfl⟩))
                obtain ⟨nm, c, l', ps, e1, e2, e3, e4, e5, e6, e7, e8⟩ := hok _ _ hv
                have g05 := gl.trans hI5.go
                have hbt5 := g05.tup hbt
                have hd5 := g05.keep hdn hd0
                have hl5 := g05.keep e4 e6
                have hdg : DGet H5 d (.ref bb.2) (some v) := by
                  rw [← hv]
                  exact DGet.t hd5 hbt5
                rw [e1] at hbt5
                subst e3
                refine ⟨rfl, _, rfl, bb.2, _, 0, .str nm, rfl, rfl, .inl (.inl hbt5), atI_nat (j := 0) rfl, _, rfl, _, rfl, d, _, rfl, hdg, l', nI ps, rfl, .inl ⟨.inl (.inl hl5), fun p1 n1 => ⟨by show 2 ≤ sizeLine; decide, fun p2 n2 => ?_⟩⟩⟩
                have g7 := (Go.new (o := .tup (nI ps)) hI5.go.r n1).add (o := .tup [.str nm, .ref p1]) n2
                refine hPq _ _ g7 ⟨(nm, ps), dt_new n2 (.cons (.str nm) (.cons (dt_new n1 ?_) .nil)), bb, l', hbi, hv, ⟨c, e1⟩, e6⟩
                refine dtAll_idx (by rw [List.length_map, List.length_map]) fun i v d h1 h2 => ?_
                rw [List.getElem?_map] at h1 h2
                cases hpi : ps[i]? with
                | none => rw [hpi] at h1; cases h1
                | some p0 =>
                  rw [hpi] at h1 h2
                  cases h1
                  cases h2
                  exact .int _
            · obtain ⟨ws, hws1, hws2, hws3⟩ := ways_of hall
              have g5' : Go F bE (upd H2 l (.lst (psL.map fun b => V.ref b.2))) bE H5 := g5
              have g25 := gl.trans g5'
              have hxs5 := g25.keep (gi.nn' nxA) hxs
              have hyl' : ys.length = psL.length := by rw [hyl, List.length_map]
              refine ⟨D, ys, rfl, .inl ⟨.inl (.inl hD5), fun p6 n6 => ?_⟩⟩
              have g6 := g25.add (o := .tup ys) n6
              have hxs6 := g6.keep (gi.nn' nxA) hxs
              have hvl := hvd.length
              rw [List.length_map] at hvl
              refine ⟨xA, vs, _, rfl, rfl, hxs6, sz6' (by omega), vs ++ [.ref p6], wss ++ [ws], _, _, _, _, _, _, _, _, _, _, rfl, (g2h.trans g6).put nxA, upd_same, ?_, by simp [hwl], fun i2 ws2 h2 => ?_⟩
              · rw [List.map_append]
                exact DtAll.ts (ts_lst hxs6) _ _ ((g6.dta hvd).snoc (dt_new n6 hws1))
              · by_cases hil : i2 < wss.length
                · rw [List.getElem?_append_left hil] at h2
                  exact hwk i2 ws2 h2
                · rw [List.getElem?_append_right (by omega)] at h2
                  have ei : i2 = j := by
                    have := (List.getElem?_eq_some_iff.mp h2).1
                    simp at this
                    omega
                  subst ei
                  rw [hwl, Nat.sub_self] at h2
                  cases h2
                  obtain ⟨kD, lD, psD, v1, v2, v3, v4, v5⟩ := hdown
                  obtain ⟨bD, hbD, ebD⟩ := List.mem_map.mp (hperm.mem_iff.mpr (valV_mem v1))
                  obtain ⟨iD, hiD⟩ := List.mem_iff_getElem?.mp hbD
                  have hiDl := (List.getElem?_eq_some_iff.mp hiD).1
                  have hwD : ws[iD]? = some (ws[iD]'(by omega)) := List.getElem?_eq_getElem _
                  refine ⟨by omega, by omega, fun w hw => ?_, ws[iD]'(by omega), List.getElem_mem _, fun p hp => ?_⟩
                  · obtain ⟨iw, hiw⟩ := List.mem_iff_getElem?.mp hw
                    obtain ⟨bb, l', h4, h5, ⟨c, h6⟩, h7⟩ := hws3 iw w hiw
                    obtain ⟨nm, c', l2, ps, e1, e2, e3, e4, e5, e6, e7, e8⟩ := hok _ _ h5
                    cases e3
                    rw [h7] at e6
                    have eps : w.2 = ps := nI_inj (by injection e6 with e6; injection e6)
                    rw [h6] at e1
                    have enm : w.1 = nm := by
                      injection e1 with e1 _
                      injection e1
                    rw [enm, eps]
                    exact ⟨e2, e7, e8⟩
                  · obtain ⟨bb, l', h4, h5, ⟨c, h6⟩, h7⟩ := hws3 iD _ hwD
                    rw [hiD] at h4
                    cases h4
                    rw [ebD, v1] at h5
                    cases h5
                    rw [h7] at v4
                    have eps : (ws[iD]'(by omega)).2 = psD := nI_inj (by injection v4 with v4; injection v4)
                    exact v5 p (eps ▸ hp)
      · obtain ⟨vs, wss, y5, y6, y7, y8, y9, y11, y12, y13, y14, y15, rfl, g2h, hxs, hvd, hwl, hwk⟩ := hI2.ex
        rw [List.length_map, hdl] at hwl
        have hgood : Good wss := ⟨by omega, by omega, fun ws hws => by
          obtain ⟨i, hi⟩ := List.mem_iff_getElem?.mp hws
          have h := hwk i ws hi
          exact ⟨h.pos, Nat.le_trans h.len (by decide), fun w hw => by
            obtain ⟨a1, a2, a3⟩ := h.ways w hw
            exact ⟨a1, a2, fun p hp => by have := a3 p hp; omega⟩⟩⟩
        have hranked : Ranked wss := ⟨id, fun i ws hi => (hwk i ws hi).down⟩
        have nnx : ¬ F.N xA := gi.nn' nxA
        refine ⟨_, rfl, F, bE, xA, vs, wss, rfl, g2h.r, hxs, nnx, hvd, hgood, fun H3 L ord g3 nL hL hR _ => ?_⟩
        have hol := nodup_len _ _ hR.nd hR.lt
        refine ⟨Nat.zero_le _, fun fA nfA => ?_⟩
        have gf := Go.new (o := .lst []) g3.r nfA
        have nnL : ¬ F.N L := g3.nn nL
        have hx3 := g3.keep nnx hxs
        refine ⟨_, rfl, L, rfl, ⟨_, .inl (.inl (gf.keep nnL hL))⟩, for_list (xs := nI ord) (FndI K F bE H3 st rA xA L fA m dm ord wss) ⟨[], [], _, _, _, _, _, _, _, _, rfl, gf, upd_same, .nil, rfl, fun i ws h => by simp at h⟩ (fun j σ4 H4 hj hI4 => ?_) (fun j x σ4 H4 hx hI4 => ?_) fun σ4 H4 hI4 => ?_⟩
        · obtain ⟨fs, ss, y5, y6, y7, y8, y9, y13, y14, y15, rfl, g4, _⟩ := hI4.ex
          exact .inl (.inl (g4.keep nnL hL))
        · obtain ⟨fs, ss, y5, y6, y7, y8, y9, y13, y14, y15, rfl, g4, hf4, hfd, hsl, hsk⟩ := hI4.ex
          rw [List.getElem?_map] at hx
          cases hoj : ord[j]? with
          | none => rw [hoj] at hx; cases hx
          | some kk =>
            rw [hoj] at hx
            cases hx
            have hkk := hR.lt kk (List.mem_of_getElem? hoj)
            have hjo := (List.getElem?_eq_some_iff.mp hoj).1
            have hwk2 : wss[kk]? = some wss[kk] := List.getElem?_eq_getElem hkk
            have hL4 := g4.keep nnL hL
            have hx4 := g4.keep nnx hx3
            obtain ⟨kv, hkv, hkd⟩ := ((g3.trans g4).dta hvd).getD (i := kk) (d := encKind wss[kk]) (by rw [List.getElem?_map, hwk2]; rfl)
            obtain ⟨ka, kx, rfl, hks, hka⟩ := hkd.inv
            have hkl : kx.length = wss[kk].length := by rw [hka.length, List.length_map]
            obtain ⟨_, hw10, hwy⟩ := hgood.kinds _ (List.getElem_mem hkk)
            have hcl := hR.cl kk (List.mem_of_getElem? hoj) _ hwk2
            generalize wss[kk] = ws at *
            refine ⟨_, rfl, isL hf4, ?_⟩
            dsimp only [tCons, tCB, tNil]
            refine tLc_iTup ?_
            refine ⟨_, rfl, _, rfl, xA, vs, _, .ref ka, rfl, rfl, .inl (.inl hx4), atI_nat hkv, ?_⟩
            refine lcT (K := K) (F := F) (b := bE) (e := 0) (R := fun _ i y H => ∃ w' : Way, Dt K H y (encWay w') ∧ ∃ w, ws[i]? = some w ∧ Ren ord w w') hks g4.r (by omega) (fun D i H H' y _ tt h => by
              obtain ⟨w, h1, h2⟩ := h
              exact ⟨w, Dt.ts tt _ _ h1, h2⟩) (fun D i x H5 hD hI5 hx5 Pq hPq => ?_) fun D ys H5 nD g5 hD5 hyl hall => ?_
            · obtain ⟨wd, hwd, hxd⟩ := (hI5.go.dta hka).get hx5
              rw [List.getElem?_map] at hwd
              cases hwi : ws[i]? with
              | none => rw [hwi] at hwd; cases hwd
              | some wy =>
                rw [hwi] at hwd
                cases hwd
                obtain ⟨nm, pp⟩ := wy
                obtain ⟨g41, g51, g61⟩ := hwy _ (List.mem_of_getElem? hwi)
                have g51' : pp.length ≤ 3 := g51
                have hcl' : ∀ p ∈ pp, p ∈ ord := hcl _ (List.mem_of_getElem? hwi)
                obtain ⟨a, xs, rfl, hsqa, ha⟩ := hxd.inv
                obtain ⟨w1, r1, rfl, hw1, hr1⟩ := ha.inv
                obtain ⟨w2, r2, rfl, hw2, hr2⟩ := hr1.inv
                cases hr2
                obtain ⟨pa, px, rfl, hps, hpa⟩ := hw2.inv
                have hpl : px.length = pp.length := by rw [hpa.length, List.length_map]
                refine ⟨a, _, rfl, hsqa, rfl, _, _, rfl, _, _, rfl, rfl, rfl, ?_⟩
                refine ⟨_, rfl, ?_⟩
                dsimp only [tCons, tCB, tNil]
                refine tLc_iTup ?_
                refine ⟨_, rfl, ?_⟩
                refine lcT (K := K) (F := F) (b := bE) (e := 0) (R := fun _ i y H => ∃ (jj : Nat) (p : Nat), y = .int (jj : Nat) ∧ pp[i]? = some p ∧ ord[jj]? = some p) hps hI5.go.r (by omega) (fun D i H H' y _ tt h => h) (fun D2 i2 x2 H6 hD2 hI6 hx6 Pq2 hPq2 => ?_) fun D2 zs H6 nD2 g6 hD6 hzl hallz => ?_
                · obtain ⟨dd, hdd, hxd2⟩ := hpa.get hx6
                  rw [List.getElem?_map] at hdd
                  cases hpi : pp[i2]? with
                  | none => rw [hpi] at hdd; cases hdd
                  | some p =>
                    rw [hpi] at hdd
                    cases hdd
                    have hv := hxd2.inv_int
                    subst hv
                    obtain ⟨jj, hjj⟩ := List.mem_iff_getElem?.mp (hcl' p (List.mem_of_getElem? hpi))
                    have hL6 := (hI5.go.trans hI6.go).keep nnL hL4
                    refine ⟨rfl, _, rfl, isL hL6, _, rfl, L, nI ord, .int (p : Nat), jj, .int (p : Nat), rfl, rfl, .inl (.inl hL6), rfl, flat_ints ord, by rw [List.getElem?_map, hjj]; rfl, by show (((p : Nat) : Int) == ((p : Nat) : Int)) = true; simp, fun m2 z' hm2 hz' => ?_, hPq2 _ _ (Go.refl hI6.go.r) ⟨jj, p, rfl, hpi, hjj⟩⟩
                    rw [List.getElem?_map] at hz'
                    cases hom : ord[m2]? with
                    | none => rw [hom] at hz'; cases hz'
                    | some o2 =>
                      rw [hom] at hz'
                      cases hz'
                      have hne : o2 ≠ p := fun e => by
                        subst e
                        have := nodup_idx hR.nd hom hjj
                        omega
                      show (((o2 : Nat) : Int) == ((p : Nat) : Int)) = false
                      have : ¬ ((o2 : Nat) : Int) = ((p : Nat) : Int) := by omega
                      simp [this]
                · obtain ⟨js, rfl, _⟩ := nats_of (n := ord.length) (ys := zs) fun i y hy => by
                    obtain ⟨jj, p, h1, h2, h3⟩ := hallz i y hy
                    exact ⟨jj, h1, (List.getElem?_eq_some_iff.mp h3).1⟩
                  have g6' : Go F bE H5 bE H6 := g6
                  have hjl : js.length = pp.length := by
                    rw [List.length_map] at hzl
                    omega
                  refine ⟨D2, nI js, rfl, .inl ⟨.inl (.inl hD6), fun p1 n1 => ⟨by show 2 ≤ sizeLine; decide, fun p2 n2 => ?_⟩⟩⟩
                  have g8 := (g6'.add (o := .tup (nI js)) n1).add (o := .tup [w1, .ref p1]) n2
                  refine hPq _ _ g8 ⟨(nm, js), dt_new n2 (.cons ((g6'.add (o := .tup (nI js)) n1).dt hw1) (.cons (dt_new n1 ?_) .nil)), (nm, pp), hwi, rfl, hjl, fun m2 jj hm2 => ?_⟩
                  · refine dtAll_idx (by rw [List.length_map, List.length_map]) fun i v d h1 h2 => ?_
                    rw [List.getElem?_map] at h1 h2
                    cases hpi : js[i]? with
                    | none => rw [hpi] at h1; cases h1
                    | some p0 =>
                      rw [hpi] at h1 h2
                      cases h1
                      cases h2
                      exact .int _
                  · obtain ⟨jj2, p, h1, h2, h3⟩ := hallz m2 (.int (jj : Nat)) (by rw [List.getElem?_map, show js[m2]? = some jj from hm2]; rfl)
                    have e : jj = jj2 := by
                      injection h1 with h1
                      omega
                    rw [e]
                    exact ⟨p, h2, h3⟩
            · obtain ⟨ws', hws1, hws2, hws3⟩ := ways_of hall
              have g5' : Go F bE H4 bE H5 := g5
              refine ⟨D, ys, rfl, .inl ⟨.inl (.inl hD5), fun p6 n6 => ?_⟩⟩
              have g6 := g5'.add (o := .tup ys) n6
              have hf6 := g6.keep (g3.nn' nfA) hf4
              have hfl := hfd.length
              rw [List.length_map] at hfl
              refine ⟨fA, fs, _, rfl, rfl, hf6, sz6' (by omega), fs ++ [.ref p6], ss ++ [ws'], _, _, _, _, _, _, _, _, rfl, (g4.trans g6).put nfA, upd_same, ?_, by simp [hsl], fun i2 w2 h2 => ?_⟩
              · rw [List.map_append]
                exact DtAll.ts (ts_lst hf6) _ _ ((g6.dta hfd).snoc (dt_new n6 hws1))
              · by_cases hil : i2 < ss.length
                · rw [List.getElem?_append_left hil] at h2
                  exact hsk i2 w2 h2
                · rw [List.getElem?_append_right (by omega)] at h2
                  have ei : i2 = j := by
                    have := (List.getElem?_eq_some_iff.mp h2).1
                    simp at this
                    omega
                  subst ei
                  rw [hsl, Nat.sub_self] at h2
                  cases h2
                  exact ⟨kk, ws, hoj, hwk2, by omega, hws3⟩
        · obtain ⟨fs, ss, y5, y6, y7, y8, y9, y13, y14, y15, rfl, g4, hf4, hfd, hsl, hsk⟩ := hI4.ex
          rw [List.length_map] at hsl
          obtain ⟨hG', hR'⟩ := good_ren hgood hranked hR hsl hsk
          refine ⟨_, rfl, fA, fs, rfl, .inl ⟨.inl (.inl hf4), fun p np => ?_⟩⟩
          have gE := ((gi.trans g2h).trans (g3.trans g4)).add (o := .tup fs) np
          exact q _ _ ss (gE.le (by omega)) (dt_new np hfd) hG' hR' (by omega)
end
end K01

set_option Elab.async false
set_option linter.all false
set_option maxRecDepth 100000
set_option maxHeartbeats 4000000
set_option pp.maxSteps 600
set_option pp.proofs false
/-! K1n: the law. -/
namespace K01
open PySem PySem.Spec PyProof.Rows L2 Lf
open PySem.W (alike alikeAll dataLt)
abbrev s_law : Stmt := topS 37
abbrev N_law : List Str := ["script", "state", "shape_so", "firsts_so", "found", "row", "turn", "one", "other", "rows", "spot", "odd", "got"]
theorem sc_law : FnScope N_law ["script"] (defScope s_law) := ⟨rfl, rfl, rfl, by decide +kernel, rfl, by decide +kernel, by decide +kernel⟩
section
variable {P : Program} {w : World} {K : PySem.W.Frag} {mg : Str → Option Value} {base : Heap}
theorem for_enumL {a : Addr} {xs : List V} {g : TG} {tb : TS} {D : Ends} {σ : L2.St} {H : Hp} (Pv : Nat → L2.St → Hp → Prop) (h0 : Pv 0 σ H) (hl : ∀ i σ H, i ≤ xs.length → Pv i σ H → SqL K H a xs)
    (hs : ∀ (i : Nat) (x : V) (T : Addr) (σ : L2.St) (H : Hp), xs[i]? = some x → Pv i σ H → H T = none → g (.ref T) σ (upd H T (.tup [.int (i : Nat), x])) fun σ2 H2 => tb { D with nx := Pv (i + 1), ct := Pv (i + 1), bk := D.nx } σ2 H2) (hd : ∀ σ H, Pv xs.length σ H → D.nx σ H) :
    ∃ W : Nat → Nat → L2.St → Hp → Prop, (∃ m, W 0 m σ H) ∧ ∀ i m σ H, W i m σ H →
      ((Ite K a).stop i H ∧ D.nx σ H) ∨ ((Ite K a).go i H ∧ ∃ N : L2.St → Hp → Prop, (∀ σ' H', N σ' H' → ∃ m', m' < m ∧ W (i + 1) m' σ' H') ∧ ∀ v H', (Ite K a).yld i H v H' → g v σ H' fun σ2 H2 => tb { D with nx := N, ct := N, bk := D.nx } σ2 H2) := by
  refine ⟨fun i m σ H => m = xs.length - i ∧ i ≤ xs.length ∧ Pv i σ H, ⟨xs.length, by simp, Nat.zero_le _, h0⟩, ?_⟩
  rintro i m σ H ⟨rfl, hi, p⟩
  have q := hl i σ H hi p
  by_cases hlt : i < xs.length
  · have hx : xs[i]? = some xs[i] := List.getElem?_eq_getElem hlt
    refine .inr ⟨⟨xs, xs[i], q, hx⟩, Pv (i + 1), fun σ' H' p' => ⟨xs.length - (i + 1), by omega, rfl, hlt, p'⟩, fun v H' y => ?_⟩
    obtain ⟨T, x, rfl, nT, rfl, f⟩ := y
    have e : x = xs[i] := Option.some.inj ((f xs q).symm.trans hx)
    subst e
    exact hs i _ T σ H hx p nT
  · have e : i = xs.length := by omega
    subst e
    exact .inl ⟨⟨xs, q, Nat.le_refl _⟩, hd σ H p⟩
/-! ### written documents -/
mutual
def tDoc : Doc → TE
  | .nd n ps => tTup (tCons (L2.tC (.str n)) (tDocs ps))
def tDocs : List Doc → TA
  | [] => tNil
  | d :: r => tCons (tDoc d) (tDocs r)
end
mutual
theorem doc_read {F : Fr} {b : Nat} {σ : L2.St} : ∀ (d : Doc) {H : Hp} {P : V → Hp → Prop}, F.T b H → d.size ≤ 1000 → (∀ v H', Go F b H b H' → Dt K H' v d.enc → P v H') → tDoc d σ H P
  | .nd n ps, H, P, hT, hz, q => by
    rw [Doc.size] at hz
    refine docs_read ps hT (by omega) fun vs H' g h => ?_
    have hl := h.length
    rw [encs_len] at hl
    have := len_le_sizes ps
    refine ⟨sz6 (by simp only [List.length_cons]; omega), fun p np => q _ _ (g.add np) ?_⟩
    rw [Doc.enc]
    exact dt_new np (.cons (.str n) h)
theorem docs_read {F : Fr} {b : Nat} {σ : L2.St} : ∀ (ps : List Doc) {H : Hp} {P : List V → Hp → Prop}, F.T b H → sizes ps ≤ 1000 → (∀ vs H', Go F b H b H' → DtAll K H' vs (encs ps) → P vs H') → tDocs ps σ H P
  | [], H, P, hT, _, q => q [] H (Go.refl hT) .nil
  | d :: r, H, P, hT, hz, q => by
    rw [sizes] at hz
    refine doc_read d hT (by omega) fun v H' g h => ?_
    refine docs_read r g.r (by omega) fun vs H2 g2 h2 => q (v :: vs) H2 (g.trans g2) ?_
    rw [encs]
    exact .cons (g2.dt h) h2
end
def lf (n : Str) : Doc := .nd n []
def rowsD : List Doc := [lf "a", lf "a1", lf "b", .nd "a" [lf "b"], .nd "b" [lf "a"], .nd "a" [.nd "a" [lf "b"]], .nd "a" [lf "b", lf "b"]]
def oddD : Doc := .nd "a" [.nd "b" [lf "C"]]
theorem rows_fine : ∀ d ∈ rowsD, d.fine = true ∧ d.deep ≤ 20 ∧ d.size ≤ 2000 := by decide +kernel
def due (i j : Nat) : Int := if i = j then 0 else if j < i then 1 else -1
theorem rows_due : ∀ i j : Fin 7, Lf.ahead (rowsD.getD i.val (lf "a")) (rowsD.getD j.val (lf "a")) = due i.val j.val := by decide +kernel
theorem cut6 (xs : List V) : cutV xs none (some 6) = xs.take 6 := by
  unfold cutV
  rw [show HT.sIx xs.length xs.length (some 6) = min 6 xs.length from HT.sIx_nat xs.length xs.length 6, HT.sIx_none]
  show (xs.drop 0).take (min 6 xs.length - 0) = _
  rw [List.drop_zero, Nat.sub_zero]
  by_cases h : 6 ≤ xs.length
  · rw [Nat.min_eq_left h]
  · rw [Nat.min_eq_right (by omega), List.take_length, List.take_of_length_le (by omega)]
theorem lst_docs {F : Fr} {b : Nat} {σ : L2.St} {H : Hp} (ds : List Doc) {gn : TG} {u : TS} {D : Ends} (hT : F.T b H) (hz : sizes ds ≤ 1000) (q : ∀ l vs H', Go F b H b H' → H l = none → H' l = some (.lst vs) → DtAll K H' vs (encs ds) → gn (.ref l) σ H' { D with nx := u D }.nx) : tSeq (tAsg (tLst (tDocs ds)) gn) u D σ H :=
  docs_read (K := K) ds hT hz fun vs H' g h => ⟨sz6 (by have := h.length; rw [encs_len] at this; have := len_le_sizes ds; omega), fun l nl => q l vs _ (g.add nl) (g.was nl) upd_same ((Go.new (o := .lst vs) g.r nl).dta h)⟩
theorem one_doc {F : Fr} {b : Nat} {σ : L2.St} {H : Hp} (d : Doc) {gn : TG} {u : TS} {D : Ends} (hT : F.T b H) (hz : d.size ≤ 1000) (q : ∀ v H', Go F b H b H' → Dt K H' v d.enc → gn v σ H' { D with nx := u D }.nx) : tSeq (tAsg (tDoc d) gn) u D σ H :=
  doc_read (K := K) d hT hz fun v H' g h => q v H' g h
structure RwsI (F : Fr) (b : Nat) (Hr : Hp) (ys0 : List (Option V)) (l : Addr) (Z : List (Option V) → Prop) (σ : L2.St) (H' : Hp) : Prop where
  ex : ∃ y6 y7 y8 y10 y11 y12 : Option V, σ = ys0 ++ [y6, y7, y8, some (.ref l), y10, y11, y12] ∧ Z [y7, y10] ∧ Go F b Hr b H'
structure LawI (K : PySem.W.Frag) (F : Fr) (H1 : Hp) (a0 st fA : Addr) (sv : V) (fus : List V) (H5 : Hp) (b n lo : Nat) (σ : L2.St) (H' : Hp) : Prop where
  ex : ∃ (L : Addr) (vs : List V) (es : List Doc) (y5 y6 y7 y8 y9 y10 y11 y12 : Option V), σ = [some (.ref a0), some (.ref st), some sv, some (.ref fA), some (.ref L), y5, y6, y7, y8, y9, y10, y11, y12] ∧ Go F 0 H1 b H' ∧ H1 L = none ∧ H' L = some (.lst vs) ∧ DtAll K H' vs (encs es) ∧ es.length ≤ n ∧ lo ≤ es.length ∧ (∀ d ∈ es, d.fine = true ∧ d.deep ≤ 6 ∧ d.size ≤ 364) ∧
    L ≠ fA ∧ H' fA = some (.lst fus) ∧ Ts H5 H'
def spLaw (K : PySem.W.Frag) (P1 P2 : Addr) : Sp := fun vs H Q _ => ∃ (F : Fr) (a : Addr) (ns : List Int), vs = [.ref a] ∧ F.T 0 H ∧ HasTab F P1 ∧ HasTab F P2 ∧ ¬ F.N a ∧ SqL K H a (ns.map V.int) ∧ ns.length ≤ 63 ∧ ∀ H', Q (.bl true) H'
set_option maxHeartbeats 16000000 in
theorem pr_law {f P1 P2 C fI : Addr} {fd : FuncData} {k : Nat} (T : Txt mg) (D : Def K mg "law" ["script"] s_law f fd) (G__law_begin : Pr P w K mg base k "_law_begin" ["script"] (spBegin K)) (G__law_shape : Pr P w K mg base k "_law_shape" ["state", "most", "wide"] (spShape K))
    (G__law_firsts : Pr P w K mg base k "_law_firsts" ["shape_so"] (spFirsts K)) (G__law_all : Pr P w K mg base k "_law_all" ["shape_so", "most"] (spAll K)) (G__law_document : Pr P w K mg base k "_law_document" ["state", "shape_so", "firsts_so", "kind", "deep"] (spDoc K 3))
    (G__law_of : Pr P w K mg base k "_law_of" ["state", "some"] (spOf K)) (G__law_right : Pr P w K mg base k "_law_right" ["one", "other"] (spRight K P1 P2 20)) (G__law_exchange : Pr P w K mg base k "_law_exchange" ["state", "document", "near", "far"] (spExch K P1 P2))
    (G_compared : Pr P w K mg base k "compared" ["one", "other"] (spCmp K P1 P2 C 20)) (G__law_refused : Pr P w K mg base k "_law_refused" ["one", "other"] (spRef K P1 P2)) (G__law_like : Pr P w K mg base k "_law_like" ["got", "due"] (spLike K)) :
    Pr P w K mg base (k + 1) "law" ["script"] (spLaw K P1 P2) := by
  refine Pr.of' D sc_law (fun vs H Q E h => ?_) fun cdv A outer s0 H vs Q E hcd hG hr h => ?_
  · obtain ⟨_, _, _, rfl, _⟩ := h
    rfl
  · obtain ⟨F0, a0, ns, rfl, hT0, hP1', hP2', hn, hsq, hz, q⟩ := h
    refine ⟨_, (pss_cons (ps_set (i := 1) sc_law.nd rfl (Or.inl rfl) (pcall hG G__law_begin hr (pa_cons (pv 0) pa_nil)))
  (pss_cons (ps_set (i := 2) sc_law.nd rfl (Or.inl rfl) (pcall hG G__law_shape hr (pa_cons (pv 1) (pa_cons pe_int (pa_cons pe_int pa_nil)))))
  (pss_cons (ps_set (i := 3) sc_law.nd rfl (Or.inl rfl) (pcall hG G__law_firsts hr (pa_cons (pv 2) pa_nil)))
  (pss_cons (ps_set (i := 4) sc_law.nd rfl (Or.inl rfl) (pe_lst pa_nil))
  (pss_cons (ps_for (passes_of rfl) rfl (pi_list (pe_ix ix_list (pcall hG G__law_all hr (pa_cons (pv 2) (pa_cons pe_int pa_nil))) pe_int (fun _ _ => rfl))) (pg_name (i := 5) sc_law.nd rfl (Or.inl rfl)) (
    (pss_one (ps_set (i := 4) sc_law.nd rfl (Or.inl rfl) (pe_op op_cat (pv 4) (pe_slice sl_list (pv 5) po_none (po_some pe_int)))))))
  (pss_cons (ps_for (passes_of rfl) rfl (pi_range1 (by rfl) T.range (pa_cons pe_int pa_nil)) (pg_name (i := 6) sc_law.nd rfl (Or.inl rfl)) (
    (pss_one (ps_expr (pe_bm PySem.F.plainAttrs_list PySem.F.slot_list_append PySem.F.type_list_append mt_append (pv 4) (pa_cons (pcall hG G__law_document hr (pa_cons (pv 1) (pa_cons (pv 2) (pa_cons (pv 3) (pa_cons pe_int (pa_cons pe_int pa_nil)))))) pa_nil))))))
  (pss_cons (ps_for (passes_of rfl) rfl (pi_range1 (by rfl) T.range (pa_cons pe_int pa_nil)) (pg_name (i := 6) sc_law.nd rfl (Or.inl rfl)) (
    (pss_cons (ps_par (i := 7) (j := 8) (by rfl) sc_law.nd rfl rfl (by decide) rfl rfl (pa_cons (pcall hG G__law_of hr (pa_cons (pv 1) (pa_cons (pv 4) pa_nil))) (pa_cons (pcall hG G__law_of hr (pa_cons (pv 1) (pa_cons (pv 4) pa_nil))) pa_nil)) (by rfl))
    (pss_one (ps_if (PW.pt (pw_or (pt_not (pt_val (pcall hG G__law_right hr (pa_cons (pv 7) (pa_cons (pv 8) pa_nil))))) (pw_or1 (pt_not (pt_val (pcall hG G__law_exchange hr (pa_cons (pv 1) (pa_cons (pcall hG G__law_of hr (pa_cons (pv 1) (pa_cons (pv 4) pa_nil))) (pa_cons (pv 7) (pa_cons (pv 8) pa_nil)))))))))) (
      (pss_one (ps_ret pe_bl))) (pss_nil))))))
  (pss_cons (ps_set (i := 9) sc_law.nd rfl (Or.inl rfl) (pe_lst (pa_cons (pe_tup (pa_cons pe_str pa_nil)) (pa_cons (pe_tup (pa_cons pe_str pa_nil)) (pa_cons (pe_tup (pa_cons pe_str pa_nil)) (pa_cons (pe_tup (pa_cons pe_str (pa_cons (pe_tup (pa_cons pe_str pa_nil)) pa_nil))) (pa_cons (pe_tup (pa_cons pe_str (pa_cons (pe_tup (pa_cons pe_str pa_nil)) pa_nil))) (pa_cons (pe_tup (pa_cons pe_str (pa_cons (pe_tup (pa_cons pe_str (pa_cons (pe_tup (pa_cons pe_str pa_nil)) pa_nil))) pa_nil))) (pa_cons (pe_tup (pa_cons pe_str (pa_cons (pe_tup (pa_cons pe_str pa_nil)) (pa_cons (pe_tup (pa_cons pe_str pa_nil)) pa_nil)))) pa_nil)))))))))
  (pss_cons (ps_for (passes_of rfl) rfl (pi_enum (by rfl) T.enumerate (pa_cons (pv 9) pa_nil)) (pg_tup rfl (pgs_cons (pg_name (i := 10) sc_law.nd rfl (Or.inl rfl)) (pgs_cons (pg_name (i := 7) sc_law.nd rfl (Or.inl rfl)) pgs_nil))) (
    (pss_one (ps_for (passes_of rfl) rfl (pi_range1 (by rfl) T.range (pa_cons (pe_callB call_len_seq (by rfl) T.len PySem.boot_len (pa_cons (pv 9) pa_nil)) pa_nil)) (pg_name (i := 6) sc_law.nd rfl (Or.inl rfl)) (
      (pss_one (ps_if (pt_cmpR op_ne (pcall hG G_compared hr (pa_cons (pv 7) (pa_cons (pe_ix ix_list (pv 9) (pv 6) (fun _ _ => rfl)) pa_nil))) (pe_ifExp (pt_cmpR op_eq (pv 10) (pv 6) (nomark _)) pe_int (pe_ifExp (pt_cmpR op_gt (pv 10) (pv 6) (nomark _)) pe_int (pe_un un_neg pe_int))) (nomark _)) (
        (pss_one (ps_ret pe_bl))) (pss_nil))))))))
  (pss_cons (ps_set (i := 11) sc_law.nd rfl (Or.inl rfl) (pe_tup (pa_cons pe_str (pa_cons (pe_tup (pa_cons pe_str (pa_cons (pe_tup (pa_cons pe_str pa_nil)) pa_nil))) pa_nil))))
  (pss_cons (ps_set (i := 12) sc_law.nd rfl (Or.inl rfl) (pe_lst (pa_cons (pcall hG G__law_refused hr (pa_cons (pv 11) (pa_cons pe_non pa_nil))) (pa_cons (pcall hG G__law_refused hr (pa_cons (pe_tup (pa_cons pe_str pa_nil)) (pa_cons (pv 11) pa_nil))) pa_nil))))
  (pss_cons (ps_set (i := 12) sc_law.nd rfl (Or.inl rfl) (pe_op op_cat (pv 12) (pe_lst (pa_cons (pcall hG G__law_refused hr (pa_cons (pe_tup (pa_cons pe_str (pa_cons (pe_tup (pa_cons pe_str pa_nil)) (pa_cons pe_int pa_nil)))) (pa_cons (pv 11) pa_nil))) (pa_cons (pcall hG G__law_refused hr (pa_cons (pv 11) (pa_cons (pv 11) pa_nil))) pa_nil)))))
  (pss_one (ps_ret (pcall hG G__law_like hr (pa_cons (pv 12) (pa_cons (pe_lst (pa_cons (pe_tup (pa_cons pe_int (pa_cons pe_int pa_nil))) (pa_cons (pe_tup (pa_cons pe_int (pa_cons pe_int pa_nil))) (pa_cons (pe_tup (pa_cons pe_int pa_nil)) (pa_cons (pe_tup (pa_cons pe_int (pa_cons pe_int pa_nil))) pa_nil))))) pa_nil))))))))))))))))), ?_⟩
    refine ⟨_, rfl, F0, 0, a0, ns, rfl, hT0, hn, hsq, hz, fun H1 st cA lA g1 n1 n2 n3 hst _ => ?_⟩
    have hT1 := g1.st n1 n2 n3 hst
    have hS := F0.st_has st cA lA
    have hP1 := Fr.st_tab (st := st) (cA := cA) (lA := lA) hP1'
    have hP2 := Fr.st_tab (st := st) (cA := cA) (lA := lA) hP2'
    generalize F0.st st cA lA = F at *
    clear g1 hT0 hP1' hP2' hn hsq hst
    refine ⟨_, rfl, F, 0, st, 3, rfl, hT1, hS, by decide, by decide, by decide, fun H2 sv s g2 hs hg hrk hl _ => ?_⟩
    refine ⟨_, rfl, F, 300, sv, s, rfl, g2.r, hs, hg, hrk, by omega, fun H3 fA fus ds g3 nfA hfA hfd hdl hdo _ => ?_⟩
    have hz3 : szOf s.length ≤ 13 := by
      have : ∀ t : Fin 4, szOf t.val ≤ 13 := by decide
      exact this ⟨s.length, by omega⟩
    refine ⟨Nat.zero_le _, fun L0 nL0 => ?_⟩
    have g23 := g2.trans g3
    have g4 := Go.new (o := .lst []) g3.r nL0
    have nfN := g3.nn nfA
    refine ⟨_, rfl, F, 300, sv, s, rfl, g4.r, (g3.trans g4).dt hs, hg, fun H5 tA row cell docs g5 ntA hTb _ => ?_⟩
    have g35 := g4.trans g5
    have hfA5 := g35.keep nfN hfA
    have hpos := hg.pos
    have hL05 := g5.keep (g3.nn' nL0) upd_same
    have hL0f : L0 ≠ fA := (ne_of_none hfA nL0).symm
    refine ⟨tA, _, _, .ref (row 0), rfl, rfl, .inl (.inl hTb.top), atI_nat (j := 0) (by rw [List.getElem?_map, List.getElem?_range hpos]; rfl), row 0, rfl, ⟨_, .inl (.inl (hTb.rows 0 hpos))⟩, for_list (xs := (List.range 6).map fun i => V.ref (cell 0 i)) (fun i σ' H' => LawI K F H1 a0 st fA sv fus H5 300 (6 * i) 0 σ' H' ∧ Go F 300 H5 300 H')
      ⟨⟨L0, [], [], _, _, _, _, _, _, _, _, rfl, g23.trans g35, g23.was nL0, hL05, .nil, Nat.le_refl _, Nat.zero_le _, (fun d h => by cases h), hL0f, hfA5, Ts.refl⟩, Go.refl g5.r⟩ (fun i σ' H' hi hI => .inl (.inl (hI.2.keep (hTb.nr 0 hpos) (hTb.rows 0 hpos)))) (fun i x σ' H' hx hI => ?_) fun σ' H' hI => ?_⟩
    · obtain ⟨hI, g6⟩ := hI
      obtain ⟨L, vs, es, y5, y6, y7, y8, y9, y10, y11, y12, rfl, gi, nL, hL, hvd, hel, hlo, heo, hLf, hf6, t6⟩ := hI.ex
      rw [List.getElem?_map] at hx
      have hi6 : i < 6 := by
        cases h : (List.range 6)[i]? with
        | none => rw [h] at hx; cases hx
        | some v => simpa using (List.getElem?_eq_some_iff.mp h).1
      rw [List.getElem?_range hi6] at hx
      cases hx
      obtain ⟨us, hc1, hc2⟩ := hTb.cells 0 i hpos hi6
      obtain ⟨ho1, ho2⟩ := hTb.ok 0 i hpos hi6
      have hc6 := g6.keep (hTb.nc 0 i hpos hi6) hc1
      refine ⟨_, rfl, _, rfl, 6, rfl, cell 0 i, us, rfl, .inl (.inl hc6), fun p np => ⟨L, p, vs, cutV us none (some 6), rfl, rfl, (upd_ne (ne_of_none hL np)).trans hL, upd_same, ?_, fun p6 n6 => ?_⟩⟩
      · have := hvd.length
        rw [encs_len] at this
        rw [cut6]
        exact sz6 (by rw [List.length_take]; omega)
      · have gp := Go.new (o := .lst (cutV us none (some 6))) gi.r np
        have gp2 := gp.add (o := .lst (vs ++ cutV us none (some 6))) n6
        have hcd' : DtAll K (upd (upd H' p (.lst (cutV us none (some 6)))) p6 (.lst (vs ++ cutV us none (some 6)))) (us.take 6) (encs ((docs 0 i).take 6)) := by
          rw [encs_map, List.map_take, ← encs_map]
          exact (gp2.dta (g6.dta hc2)).take 6
        refine ⟨⟨p6, _, es ++ (docs 0 i).take 6, _, _, _, _, _, _, _, _, rfl, gi.trans gp2, (gi.trans gp).was n6, upd_same, ?_, ?_, ?_, fun d hd => ?_, ?_, gp2.keep nfN hf6, t6.trans gp2.ts⟩, g6.trans gp2⟩
        · have hh := (gp2.dta hvd).append hcd'
          rw [cut6] at hh ⊢
          rw [encs_map, List.map_append, ← encs_map, ← encs_map]
          exact hh
        · rw [List.length_append, List.length_take]
          omega
        · exact Nat.zero_le _
        · rcases List.mem_append.mp hd with z | z
          · exact heo d z
          · obtain ⟨h1, h2⟩ := ho2 d (List.mem_of_mem_take z)
            have := deep_le_size d
            exact ⟨h1, by omega, by omega⟩
        · exact (ne_of_none (gp.keep nfN hf6) n6).symm
    · obtain ⟨hI, g6⟩ := hI
      have hI' : LawI K F H1 a0 st fA sv fus H5 300 36 0 σ' H' := hI
      clear hI
      have hs5 := (g3.trans g35).dt hs
      have hfd5 := g35.dta hfd
      have hzd : zDoc 13 3 = 364 := by decide
      have hcd : cDoc 3 = 13 := by decide
      -- four drawn documents
      refine ⟨4, rfl, by decide, by decide, for_range (lo := 0) (n := 4) (fun i σ2 H2' => LawI K F H1 a0 st fA sv fus H5 (300 + 13 * i) (36 + i) i σ2 H2') hI' (fun i σ2 H2' hi hI2 => ?_) fun σ2 H2' hI2 => ?_⟩
      · obtain ⟨L, vs, es, y5, y6, y7, y8, y9, y10, y11, y12, rfl, gi, nL, hL, hvd, hel, hlo, heo, hLf, hf6, t6⟩ := hI2.ex
        refine ⟨_, rfl, isL hL, _, rfl, _, rfl, _, rfl, F, 300 + 13 * i, st, sv, fA, 0, s, fus, ds, 3, 13, rfl, gi.r, hS, by rw [hcd]; omega, Dt.ts t6 _ _ hs5, hg, hf6, nfN, DtAll.ts t6 _ _ hfd5, hdl, (fun d hd => by
          obtain ⟨a1, a2, a3⟩ := hdo d hd
          exact ⟨a1, by omega, by omega⟩), hpos, fun H7 u d g7 hu f1 f2 f3 _ => ?_⟩
        rw [hzd] at f3
        rw [hcd] at g7
        have hL7 := g7.keep (gi.nn nL) hL
        have hvl := hvd.length
        rw [encs_len] at hvl
        refine ⟨L, vs, u, rfl, rfl, hL7, sz6' (by omega), L, vs ++ [u], es ++ [d], _, _, _, _, _, _, _, _, rfl, ((gi.trans g7).put nL).le (by omega), nL, upd_same, ?_, by rw [List.length_append]; simp only [List.length_cons, List.length_nil]; omega, by rw [List.length_append]; simp only [List.length_cons, List.length_nil]; omega, fun x hx => ?_, hLf, (upd_ne hLf.symm).trans (g7.keep nfN hf6), (t6.trans g7.ts).trans (ts_lst hL7)⟩
        · rw [encs_map, List.map_append, ← encs_map]
          exact DtAll.ts (ts_lst hL7) _ _ ((g7.dta hvd).snoc hu)
        · rcases List.mem_append.mp hx with z | z
          · exact heo x z
          · rcases List.mem_singleton.mp z with rfl
            exact ⟨f1, by omega, f3⟩
      · have hI3 : LawI K F H1 a0 st fA sv fus H5 352 40 4 σ2 H2' := hI2
        -- thirty turns
        refine ⟨30, rfl, by decide, by decide, for_range (lo := 0) (n := 30) (fun i σ3 H3' => LawI K F H1 a0 st fA sv fus H5 (352 + 4 * i) 40 4 σ3 H3') hI3 (fun i σ3 H3' hi hI4 => ?_) fun σ3 H3' hI4 => ?_⟩
        · obtain ⟨L, vs, es, y5, y6, y7, y8, y9, y10, y11, y12, rfl, gi, nL, hL, hvd, hel, hlo, heo, hLf, hf6, t6⟩ := hI4.ex
          generalize ebb : 352 + 4 * i = bb at *
          have hvl := hvd.length
          rw [encs_len] at hvl
          have nN := gi.nn nL
          have pick : ∀ (i1 : Nat) (x1 : V), vs[i1]? = some x1 → ∃ d : Doc, Dt K H3' x1 d.enc ∧ d.fine = true ∧ d.deep ≤ 6 ∧ d.size ≤ 364 := fun i1 x1 hx1 => by
            obtain ⟨dd, hdd, hxd⟩ := hvd.get hx1
            rw [encs_map, List.getElem?_map] at hdd
            cases hei : es[i1]? with
            | none => rw [hei] at hdd; cases hdd
            | some d =>
              rw [hei] at hdd
              cases hdd
              obtain ⟨a1, a2, a3⟩ := heo d (List.mem_of_getElem? hei)
              exact ⟨d, hxd, a1, a2, a3⟩
          refine ⟨_, rfl, _, rfl, F, bb, st, L, vs, rfl, gi.r, hS, .inl ⟨hL, nN⟩, by omega, by omega, by omega, fun i1 x1 H6 hx1 g7 _ => ⟨_, rfl, _, rfl, F, bb + 1, st, L, vs, rfl, g7.r, hS, .inl ⟨g7.keep nN hL, nN⟩, by omega, by omega, by omega, fun i2 x2 H7 hx2 g8 _ => ⟨_, _, rfl, ?_⟩⟩⟩
          obtain ⟨d1, p1, p2, p3, p4⟩ := pick i1 x1 hx1
          obtain ⟨d2, q1, q2, q3, q4⟩ := pick i2 x2 hx2
          have g78 := g7.trans g8
          refine ⟨_, rfl, _, rfl, F, bb + 1 + 1, x1, x2, d1, d2, rfl, g8.r, hP1, hP2, g78.dt p1, g78.dt q1, p2, q2, by omega, by omega, by omega, by omega, fun H8 g9 _ => ⟨_, rfl, iteF ?_⟩⟩
          have g79 := g78.trans g9
          refine ⟨_, rfl, _, rfl, _, rfl, F, bb + 1 + 1, st, L, vs, rfl, g9.r, hS, .inl ⟨g79.keep nN hL, nN⟩, by omega, by omega, by omega, fun i3 x3 H9 hx3 g10 _ => ?_⟩
          obtain ⟨d3, r1, r2, r3, r4⟩ := pick i3 x3 hx3
          have g710 := g79.trans g10
          refine ⟨_, rfl, _, rfl, F, bb + 1 + 1 + 1, st, x3, x1, x2, d3, d1, d2, rfl, g10.r, hS, hP1, hP2, by omega, g710.dt r1, g710.dt p1, g710.dt q1, r2, p2, q2, by omega, by omega, by omega, by omega, by omega, by omega, fun H10 g11 _ => ⟨_, rfl, iteF ?_⟩⟩
          have gE := g710.trans g11
          exact ⟨L, vs, es, _, _, _, _, _, _, _, _, rfl, (gi.trans gE).le (by omega), nL, gE.keep nN hL, gE.dta hvd, hel, hlo, heo, hLf, gE.keep nfN hf6, t6.trans gE.ts⟩
        · obtain ⟨L, vs, es, y5, y6, y7, y8, y9, y10, y11, y12, rfl, gi, nL, hL, hvd, hel, hlo, heo, hLf, hf6, t6⟩ := hI4.ex
          have hT9 := gi.r
          generalize (352 + 4 * 30 : Nat) = b9 at hT9
          clear gi hL hvd hf6 t6 hI4 hI3 hI2 hI'
          -- rows
          refine lst_docs (K := K) (F := F) (b := b9) rowsD hT9 (by decide) fun l rvs Hr gr nl hlr hrd => ?_
          have nnl := gr.nn nl
          have hrl : rvs.length = 7 := by rw [hrd.length]; rfl
          have hrow : ∀ (i : Nat) (v : V), rvs[i]? = some v → i < 7 ∧ Dt K Hr v (rowsD.getD i (lf "a")).enc := fun i v hv => by
            obtain ⟨d, hd, hvd⟩ := hrd.get hv
            have hi : i < 7 := by
              have := (List.getElem?_eq_some_iff.mp hv).1
              omega
            refine ⟨hi, ?_⟩
            rw [encs_map, List.getElem?_map] at hd
            cases hr : rowsD[i]? with
            | none => rw [hr] at hd; cases hd
            | some e =>
              rw [hr] at hd
              cases hd
              rw [List.getD_eq_getElem?_getD, hr]
              exact hvd
          refine ⟨_, rfl, l, rvs, rfl, .inl (.inl hlr), for_enumL (K := K) (xs := rvs) (fun _ σ4 H4 => RwsI F b9 Hr [some (.ref a0), some (.ref st), some sv, some (.ref fA), some (.ref L), y5] l (fun _ => True) σ4 H4) ⟨_, _, _, _, _, _, rfl, trivial, Go.refl gr.r⟩ (fun i σ4 H4 hi hI5 => ?_) (fun i x T2 σ4 H4 hx hI5 nT => ?_) fun σ4 H4 hI5 => ?_⟩
          · obtain ⟨z6, z7, z8, z10, z11, z12, rfl, _, g4'⟩ := hI5.ex
            exact .inl (.inl (g4'.keep nnl hlr))
          · obtain ⟨z6, z7, z8, z10, z11, z12, rfl, _, g4'⟩ := hI5.ex
            have gT := g4'.add (o := .tup [.int (i : Nat), x]) nT
            obtain ⟨hi7, hxd⟩ := hrow i x hx
            refine ⟨T2, _, rfl, .inl (.inl upd_same), rfl, _, _, rfl, _, _, rfl, rfl, ?_⟩
            refine ⟨_, rfl, l, rvs, rfl, .inl (.inl (.inl (gT.keep nnl hlr))), _, rfl, by omega, by omega, for_range (lo := 0) (n := ((rvs.length : Nat) : Int).toNat) (fun j σ5 H5' => RwsI F b9 Hr [some (.ref a0), some (.ref st), some sv, some (.ref fA), some (.ref L), y5] l (fun z => z = [some x, some (.int (i : Nat))]) σ5 H5') ⟨_, _, _, _, _, _, rfl, rfl, gT⟩ (fun j σ5 H5' hj hI6 => ?_) fun σ5 H5' hI6 => ?_⟩
            · obtain ⟨w6, w7, w8, w10, w11, w12, rfl, hzz, g5'⟩ := hI6.ex
              cases hzz
              have hj7 : j < 7 := by omega
              obtain ⟨v, hv⟩ : ∃ v, rvs[j]? = some v := ⟨rvs[j]'(by omega), List.getElem?_eq_getElem _⟩
              obtain ⟨_, hvd⟩ := hrow j v hv
              have hDi := rows_fine _ (show rowsD.getD i (lf "a") ∈ rowsD by
                rw [List.getD_eq_getElem?_getD, List.getElem?_eq_getElem (show i < rowsD.length from hi7)]
                exact List.getElem_mem _)
              have hDj := rows_fine _ (show rowsD.getD j (lf "a") ∈ rowsD by
                rw [List.getD_eq_getElem?_getD, List.getElem?_eq_getElem (show j < rowsD.length from hj7)]
                exact List.getElem_mem _)
              have hdue := rows_due ⟨i, hi7⟩ ⟨j, hj7⟩
              have hdue' : Lf.ahead (rowsD.getD i (lf "a")) (rowsD.getD j (lf "a")) = due i j := hdue
              generalize rowsD.getD i (lf "a") = dI at *
              generalize rowsD.getD j (lf "a") = dJ at *
              obtain ⟨i1, i2, i3⟩ := hDi
              obtain ⟨j1, j2, j3⟩ := hDj
              refine ⟨_, rfl, _, rfl, _, rfl, l, rvs, _, v, rfl, rfl, .inl (.inl (g5'.keep nnl hlr)), (by rw [Int.zero_add]; exact atI_nat hv), F, b9, x, v, _, _, rfl, g5'.r, hP1, hP2, g5'.dt hxd, g5'.dt hvd, sh_enc _ i1, sh_enc _ j1, .inr (.inr ⟨dI, dJ, rfl, rfl, i1, j1, i2, j2, i3, j3, fun H6 g6' _ => ?_⟩)⟩
              have fin : ∀ z : Int, due i j = z → (V.int (Lf.ahead dI dJ) = V.int z) := fun z e => by rw [hdue', e]
              have nxt := g5'.trans g6'
              refine ⟨_, rfl, _, rfl, rfl, _, rfl, ?_⟩
              by_cases hij : i = j
              · rw [decide_eq_true (show V.int ((i : Nat) : Int) = V.int (0 + ((j : Nat) : Int)) by rw [hij, Int.zero_add])]
                refine iteT ⟨rfl, _, rfl, ?_⟩
                rw [decide_eq_true (fin 0 (by simp [due, hij]))]
                exact iteF ⟨_, _, _, _, _, _, rfl, rfl, nxt⟩
              · rw [decide_eq_false (show ¬ V.int ((i : Nat) : Int) = V.int (0 + ((j : Nat) : Int)) from fun e => hij (by injection e with e; omega))]
                refine iteF ⟨_, rfl, _, rfl, _, _, rfl, rfl, _, rfl, ?_⟩
                by_cases hlt : (0 : Int) + ((j : Nat) : Int) < ((i : Nat) : Int)
                · rw [decide_eq_true hlt]
                  refine iteT ⟨rfl, _, rfl, ?_⟩
                  rw [decide_eq_true (fin 1 (by unfold due; rw [if_neg hij, if_pos (by omega)]))]
                  exact iteF ⟨_, _, _, _, _, _, rfl, rfl, nxt⟩
                · rw [decide_eq_false hlt]
                  refine iteF ⟨1, rfl, rfl, _, rfl, ?_⟩
                  rw [decide_eq_true (fin (-1) (by unfold due; rw [if_neg hij, if_neg (by omega)]))]
                  exact iteF ⟨_, _, _, _, _, _, rfl, rfl, nxt⟩
            · obtain ⟨w6, w7, w8, w10, w11, w12, rfl, hzz, g5'⟩ := hI6.ex
              exact ⟨_, _, _, _, _, _, rfl, trivial, g5'⟩
          · obtain ⟨z6, z7, z8, z10, z11, z12, rfl, _, g4'⟩ := hI5.ex
            -- odd
            refine one_doc (K := K) (F := F) (b := b9) oddD g4'.r (by decide) fun ov Ho go hov => ?_
            have hoc : chk 10 [(oddD.enc, [])] 0 = some (some [0, 0]) := by decide +kernel
            have hac : chk 10 [((lf "a").enc, [])] 0 = some none := by decide +kernel
            have hfc : chk 10 [(.tuple [.str "f", (lf "a").enc, .int 7], [])] 0 = some (some [1]) := by decide +kernel
            have so : sh oddD.enc = true := by decide +kernel
            have sa : sh (lf "a").enc = true := by decide +kernel
            have sf : sh (.tuple [.str "f", (lf "a").enc, .int 7]) = true := by decide +kernel
            refine ⟨_, rfl, F, b9, ov, .non, oddD.enc, .none, [0, 0], rfl, go.r, hP1, hP2, hov, .non, so, rfl, .inl ⟨10, hoc⟩, fun H9 r1 g9 hr1 _ => ?_⟩
            refine ⟨by show 1 ≤ sizeLine; decide, fun p1 np1 => ?_⟩
            have ga := Go.new (o := .tup [.str "a"]) g9.r np1
            have hA : Dt K (upd H9 p1 (.tup [.str "a"])) (.ref p1) (lf "a").enc := dt_new np1 (.cons (.str "a") .nil)
            have g9a := g9.trans ga
            refine ⟨_, rfl, F, b9, .ref p1, ov, (lf "a").enc, oddD.enc, [0, 0], rfl, ga.r, hP1, hP2, hA, g9a.dt hov, sa, so, .inr ⟨10, 10, hac, hoc⟩, fun H10 r2 g10 hr2 _ => ?_⟩
            refine ⟨by show 2 ≤ sizeLine; decide, fun l1 nl1 => ?_⟩
            have gb := Go.new (o := .lst [r1, r2]) g10.r nl1
            have nl1n : ¬ F.N l1 := g10.nn' nl1
            have hl1 : (upd H10 l1 (.lst [r1, r2])) l1 = some (.lst [r1, r2]) := upd_same
            have hr1' := (ga.trans (g10.trans gb)).dt hr1
            have hr2' := gb.dt hr2
            have hov' := (g9a.trans (g10.trans gb)).dt hov
            generalize upd H10 l1 (.lst [r1, r2]) = H11 at *
            refine ⟨_, rfl, by show 1 ≤ sizeLine; decide, fun p2 np2 => ⟨by show 3 ≤ sizeLine; decide, fun p3 np3 => ?_⟩⟩
            have gc := (Go.new (o := .tup [.str "a"]) gb.r np2)
            have gd := gc.add (o := .tup [.str "f", .ref p2, .int 7]) np3
            have hF : Dt K (upd (upd H11 p2 (.tup [.str "a"])) p3 (.tup [.str "f", .ref p2, .int 7])) (.ref p3) (.tuple [.str "f", (lf "a").enc, .int 7]) := dt_new np3 (.cons (.str "f") (.cons (dt_new np2 (.cons (.str "a") .nil)) (.cons (.int 7) .nil)))
            refine ⟨_, rfl, F, b9, .ref p3, ov, .tuple [.str "f", (lf "a").enc, .int 7], oddD.enc, [1], rfl, gd.r, hP1, hP2, hF, gd.dt hov', sf, so, .inl ⟨10, hfc⟩, fun H12 r3 g12 hr3 _ => ?_⟩
            have gd12 := gd.trans g12
            refine ⟨_, rfl, _, rfl, F, b9, ov, ov, oddD.enc, oddD.enc, [0, 0], rfl, g12.r, hP1, hP2, gd12.dt hov', gd12.dt hov', so, so, .inl ⟨10, hoc⟩, fun H13 r4 g13 hr4 _ => ?_⟩
            have gd13 := gd12.trans g13
            refine ⟨by show 2 ≤ sizeLine; decide, fun l2 nl2 => ?_⟩
            have gl2 := gd13.add (o := .lst [r3, r4]) nl2
            refine ⟨l1, l2, [r1, r2], [r3, r4], rfl, rfl, gl2.keep nl1n hl1, upd_same, by show 4 ≤ sizeLine; decide, fun l3 nl3 => ?_⟩
            have gl3 := gl2.add (o := .lst ([r1, r2] ++ [r3, r4])) nl3
            have g13l := (Go.new (o := .lst [r3, r4]) gd13.r nl2).add (o := .lst ([r1, r2] ++ [r3, r4])) nl3
            have e1 := gl3.dt hr1'
            have e2 := gl3.dt hr2'
            have e3 := (g13.trans g13l).dt hr3
            have e4 := g13l.dt hr4
            have nl3n : ¬ F.N l3 := gl2.nn' nl3
            have hl3 : (upd (upd H13 l2 (.lst [r3, r4])) l3 (.lst ([r1, r2] ++ [r3, r4]))) l3 = some (.lst [r1, r2, r3, r4]) := upd_same
            generalize upd (upd H13 l2 (.lst [r3, r4])) l3 (.lst ([r1, r2] ++ [r3, r4])) = H14 at *
            have hT14 := gl3.r
            refine ⟨_, rfl, by show 2 ≤ sizeLine; decide, fun q1 nq1 => ⟨by show 2 ≤ sizeLine; decide, fun q2 nq2 => ⟨by show 1 ≤ sizeLine; decide, fun q3 nq3 => ⟨by show 2 ≤ sizeLine; decide, fun q4 nq4 => ⟨by show 4 ≤ sizeLine; decide, fun l4 nl4 => ?_⟩⟩⟩⟩⟩
            have k1 := Go.new (o := .tup [.int 0, .int 0]) hT14 nq1
            have k2 := Go.new (o := .tup [.int 0, .int 0]) k1.r nq2
            have k3 := Go.new (o := .tup [.int 1]) k2.r nq3
            have k4 := Go.new (o := .tup [.int 0, .int 0]) k3.r nq4
            have k5 := Go.new (o := .lst [.ref q1, .ref q2, .ref q3, .ref q4]) k4.r nl4
            have k15 := k1.trans (k2.trans (k3.trans (k4.trans k5)))
            have d00 : ∀ {Hh : Hp} {p : Addr}, Hh p = none → Dt K (upd Hh p (.tup [.int 0, .int 0])) (.ref p) (encPl [0, 0]) := fun np => dt_new np (.cons (.int 0) (.cons (.int 0) .nil))
            have d1 : ∀ {Hh : Hp} {p : Addr}, Hh p = none → Dt K (upd Hh p (.tup [.int 1])) (.ref p) (encPl [1]) := fun np => dt_new np (.cons (.int 1) .nil)
            refine ⟨l3, l4, _, _, [encPl [0, 0], encPl [0, 0], encPl [1], encPl [0, 0]], rfl, k15.keep nl3n hl3, upd_same, .cons (k15.dt e1) (.cons (k15.dt e2) (.cons (k15.dt e3) (.cons (k15.dt e4) .nil))),
              .cons ((k2.trans (k3.trans (k4.trans k5))).dt (d00 nq1)) (.cons ((k3.trans (k4.trans k5)).dt (d00 nq2)) (.cons ((k4.trans k5).dt (d1 nq3)) (.cons (k5.dt (d00 nq4)) .nil))), by decide +kernel, by decide +kernel, by decide +kernel, fun _ => q _⟩
end
end K01

set_option Elab.async false
set_option linter.all false
set_option maxRecDepth 100000
set_option maxHeartbeats 4000000
/-! Leaf Z: the end: the Hook of facts with one own error whose __init__ calls super().__init__; the law called by a promise that is told that no repr runs. -/
namespace Lf
open PySem PySem.Spec PyProof.Rows L2
open He (DefD Fa Defn cT frT emptyTab tabsB eqO eqO_ok ba)
/-! ### a method with a closure, as it is read -/
abbrev FnC : Type := Option (Str × Str × Arguments × FuncBody × Scope × Addr × List Str × Addr)
def fnC (K : PySem.W.Frag) (f : Addr) : FnC := match K.lookup f with
  | some ⟨_, _, .func fd, _⟩ => some (fd.name, fd.qualname, fd.params, fd.body, fd.scope, fd.globals, fd.closure.map (·.1), fd.builtins)
  | _ => none
/-- a code object's file -/
def fileB (K : PySem.W.Frag) (file : Str) : Value → Bool
  | .ref c => (match K.lookup c with
    | some ⟨_, _, .fields vs, _⟩ => (match (vs[2]? : Option Value) with
      | some (Value.str fl _) => file == fl
      | _ => false)
    | _ => false)
  | _ => false
theorem fileB_ok {K : PySem.W.Frag} {file : Str} {v : Value} (h : fileB K file v = true) : ∃ cda c1 d1 vs s1 fl tf, v = .ref cda ∧ K.lookup cda = some ⟨c1, d1, .fields vs, s1⟩ ∧ vs[2]? = some (.str fl tf) ∧ (file == fl) = true := by
  cases v with
  | ref c =>
    have h2 : (match K.lookup c with
      | some ⟨_, _, .fields vs, _⟩ => (match (vs[2]? : Option Value) with
        | some (Value.str fl _) => file == fl
        | _ => false)
      | _ => false) = true := h
    split at h2
    · rename_i w1 w2 vs w3 hco
      split at h2
      · rename_i fl tf hvs
        exact ⟨c, w1, w2, vs, w3, fl, tf, rfl, hco, hvs, h2⟩
      · cases h2
    · cases h2
  | _ => cases h
/-- one cell, of the class -/
def cellB (K : PySem.W.Frag) (C : Addr) : List (Str × Addr) → Bool
  | [(_, cc)] => (match K.lookup cc with
    | some ⟨_, _, .cell (some (.ref D)), _⟩ => decide (D = C)
    | _ => false)
  | _ => false
theorem cellB_ok {K : PySem.W.Frag} {C : Addr} {x : Str} {l : List (Str × Addr)} (h : cellB K C l = true) (e : l.map (·.1) = [x]) : ∃ cc c2 d2 s2, l = [(x, cc)] ∧ K.lookup cc = some ⟨c2, d2, .cell (some (.ref C)), s2⟩ := by
  match l, h, e with
  | [(y, cc)], h, e =>
    have e2 : y = x := (List.cons.inj e).1
    subst e2
    have h2 : (match K.lookup cc with
      | some ⟨_, _, .cell (some (.ref D)), _⟩ => decide (D = C)
      | _ => false) = true := h
    split at h2
    · rename_i u1 u2 D u3 hc
      have e3 : D = C := of_decide_eq_true h2
      subst e3
      exact ⟨cc, _, _, _, rfl, hc⟩
    · cases h2
  | [], h, _ => cases h
  | _ :: _ :: _, _, e => cases e
def noneB : Value → Bool
  | .none => true
  | _ => false
theorem noneB_ok {v : Value} (h : noneB v = true) : v = .none := by
  cases v with
  | none => rfl
  | _ => cases h
/-- its code object's file, its cell -/
def fnRest (K : PySem.W.Frag) (f : Addr) (qual file : Str) (C : Addr) : Bool := match K.lookup f with
  | some ⟨_, _, .func fd, _⟩ => noneB fd.defaults && (PySem.W.codeIn K fd.code qual && (fileB K file fd.code && cellB K C fd.closure))
  | _ => false
/-- the class's own object -/
def clsB (K : PySem.W.Frag) (C : Addr) : Bool := match K.lookup C with
  | some ⟨.type "type", _, .cls cd, sl⟩ => (match cd.mro, sl.toList with
    | .ref C' :: bm, [_, _, _, _, some (.builtin n), _] => decide (C' = C) && (decide (n = "ValueError.__new__") && (!cd.hasDel && (cd.hasDict && HandSPX.refsVE bm)))
    | _, _ => false)
  | _ => false
theorem clsB_ok {K : PySem.W.Frag} {C : Addr} (q : clsB K C = true) : ∃ nm qn N bs bm sn sub ab col dd k0 k1 k2 k3 k5, K.lookup C = some (excClassObj nm qn C N bs bm true sn sub ab col dd k0 k1 k2 k3 k5 "ValueError.__new__") ∧ HandSPX.refsVE bm = true := by
  unfold clsB at q
  split at q
  · rename_i dd cd sl ho
    split at q
    · rename_i C' bm k0 k1 k2 k3 n k5 hm hs
      obtain ⟨q1, q⟩ := ba q
      obtain ⟨q2, q⟩ := ba q
      obtain ⟨q3, q⟩ := ba q
      obtain ⟨q4, q5⟩ := ba q
      have e1 : C' = C := of_decide_eq_true q1
      have e2 : n = "ValueError.__new__" := of_decide_eq_true q2
      obtain ⟨nm, bs, mro, ns, qn, hd, sn, sub, ab, col, del⟩ := cd
      have e3 : del = false := by
        cases del with
        | false => rfl
        | true => cases q3
      have e4 : hd = true := q4
      have e5 : mro = .ref C' :: bm := hm
      subst e1 e2 e3 e4 e5
      have hsl : sl = #[k0, k1, k2, k3, some (.builtin "ValueError.__new__"), k5] := by
        obtain ⟨l⟩ := sl
        simp only at hs
        rw [hs]
      subst hsl
      exact ⟨nm, qn, ns, bs, bm, sn, sub, ab, col, dd, k0, k1, k2, k3, k5, ho, q5⟩
    · cases q
  · cases q
/-- what K says of the class at C, its __init__ at fI, its field -/
def supB (K : PySem.W.Frag) (C fI : Addr) (fld qual file : Str) : Bool :=
  clsB K C && (eqO (PySem.W.ks_superIn K C C "__init__") (some (some (.builtin "ValueError.__init__"))) && (decide (PySem.W.subIn K (.ref C) (.type "ValueError") = some true) && (decide (PySem.W.mroIn K C (.ref C) = some true) && (eqO (PySem.W.nsIn K cStatics "thirdparty.any") (some none) &&
  (eqO (PySem.W.findIn K (.ref C) "__setattr__") (some (some (.builtin "object.__setattr__"))) && (eqO (PySem.W.findIn K (.ref C) "__getattribute__") (some (some (.builtin "BaseException.__getattribute__"))) && (eqO (PySem.W.findIn K (.ref C) "__getattr__") (some none) && (eqO (PySem.W.findIn K (.ref C) fld) (some none) &&
  (eqO (PySem.W.findIn K (.ref C) "__init__") (some (some (.ref fI))) && (decide (PySem.W.typeIn K (.ref fI) = some (.type "function")) && (PySem.W.keepIn K (.ref C) && (decide (PySem.W.subIn K (.ref C) (.type "BaseException") = some true) && (decide (PySem.W.typeIn K (.ref C) = some (.type "type")) && (PySem.W.hasDictIn K C && (decide (PySem.W.exmOne K (.ref C) (.ref C) = some true) && fnRest K fI qual file C)))))))))))))))
theorem supTxt_of {P : Program} {K : PySem.W.Frag} {mg : Str → Option Value} {x : Str} {C fI : Addr} {fld qual msg : Str} {j : Nat} {p1 p2 a1 a2 a3 a4 a5 a6 q1 q2 q3 q4 : Pos}
    (b : supB K C fI fld qual P.main.file = true) (t : fnC K fI = some (("__init__" : Str), qual, LfX.iArgs fld p1 p2, FuncBody.stmts [LfX.iStm1 msg j a1 a2 a3 a4 a5 a6, LfX.iStm2 fld q1 q2 q3 q4], LfX.iScope fld, mainGlobals, [("__class__" : Str)], builtinsNs))
    (gC : mg x = some (.ref C)) (sg : mg "super" = none) (top : (P.main.scope.names.lookup ("super" : Str)).isSome = false) (par : fld = ("place" : Str) ∨ fld = ("value" : Str))
    (ev : ∀ env : Env, eval (.Call (.Attribute (.Call (.Name "super" a1) [] [] a2) "__init__" a3) [.Constant (.str msg) j a4] [] a5) env = (do
      let ov ← attributeBase (.Call (.Name "super" a1) [] [] a2) "__init__" env (eval (.Call (.Name "super" a1) [] [] a2) env)
      standAt a3.atName
      let (f, first) ← holding [ov] (getMethod ov "__init__" (L2.plainOf (.Call (.Name "super" a1) [] [] a2) env))
      callWith a5 f first (backTo a5 (starEach [.Constant (.str msg) j a4] env)) [])) : LfX.SupTxt P K mg x C fI fld := by
  obtain ⟨b1, b⟩ := ba b
  obtain ⟨b2, b⟩ := ba b
  obtain ⟨b3, b⟩ := ba b
  obtain ⟨b4, b⟩ := ba b
  obtain ⟨b5, b⟩ := ba b
  obtain ⟨b6, b⟩ := ba b
  obtain ⟨b7, b⟩ := ba b
  obtain ⟨b8, b⟩ := ba b
  obtain ⟨b9, b⟩ := ba b
  obtain ⟨b10, b⟩ := ba b
  obtain ⟨b11, b⟩ := ba b
  obtain ⟨b12, b⟩ := ba b
  obtain ⟨b13, b⟩ := ba b
  obtain ⟨b14, b⟩ := ba b
  obtain ⟨b15, b⟩ := ba b
  obtain ⟨b16, b17⟩ := ba b
  refine ⟨gC, clsB_ok b1, eqO_ok b2, of_decide_eq_true b3, of_decide_eq_true b4, eqO_ok b5, sg, eqO_ok b6, eqO_ok b7, eqO_ok b8, eqO_ok b9, eqO_ok b10, of_decide_eq_true b11, b12, of_decide_eq_true b13, of_decide_eq_true b14, b15, of_decide_eq_true b16, top, par, ?_⟩
  unfold fnRest at b17
  unfold fnC at t
  cases q : K.lookup fI with
  | none =>
    rw [q] at b17
    cases b17
  | some o =>
    obtain ⟨oc, od, dt, osl⟩ := o
    rw [q] at b17 t
    cases dt with
    | func fd =>
      obtain ⟨n1, n2, n3, n4, n5, n6, n7, n8, n9, n10, n11, n12, n13, n14, n15⟩ := fd
      have e2 : (some (n1, n2, n3, n4, n5, n6, n7.map (·.1), n15) : FnC) = some (("__init__" : Str), qual, LfX.iArgs fld p1 p2, FuncBody.stmts [LfX.iStm1 msg j a1 a2 a3 a4 a5 a6, LfX.iStm2 fld q1 q2 q3 q4], LfX.iScope fld, mainGlobals, [("__class__" : Str)], builtinsNs) := t
      simp only [Option.some.injEq, Prod.mk.injEq] at e2
      obtain ⟨h1, h2, h3, h4, h5, h6, h7, h8⟩ := e2
      subst h1 h2 h3 h4 h5 h6 h8
      have b18 : (noneB n8 && (PySem.W.codeIn K n13 n2 && (fileB K P.main.file n13 && cellB K C n7))) = true := b17
      obtain ⟨c1, c⟩ := ba b18
      obtain ⟨c2, c⟩ := ba c
      obtain ⟨c3, c4⟩ := ba c
      have d1 := noneB_ok c1
      subst d1
      obtain ⟨cda, w1, w2, vs, w3, fl, tf, e13, hco, hvs, hfl⟩ := fileB_ok c3
      subst e13
      obtain ⟨cc, u1, u2, u3, el, hcell⟩ := cellB_ok c4 h7
      subst el
      exact ⟨oc, n14, n10, n11, n9, od, n12, n2, msg, cda, cc, osl, j, p1, p2, a1, a2, a3, a4, a5, a6, q1, q2, q3, q4, vs, fl, tf, _, _, _, _, _, _, rfl, c2, hco, hvs, hfl, ev, hcell⟩
    | _ => cases b17
/-! ### the Hook -/
def asL (g : Addr → Option Obj) (n : Nat) : List Addr := He.asD g n ++ [cStatics]
structure SaysL (fa : List Fa) (fn : List DefD) (tf : List Defn) (ex : PySem.W.Frag → Bool) (ia : PySem.W.Frag → Addr) (iv : FnC) (h : Heap) (K : PySem.W.Frag) : Prop where
  d : He.SaysD fa fn K
  more : ex K = true
  ini : fnC K (ia K) = iv
  hd : ∀ p ∈ tf, PySem.W.codeHdIn K (cT K p).1 (cT K p).2 = true
  out : ∀ p ∈ tf, K.lookup (cT K p).2 = none
  empty : ∀ p ∈ tf, h.get? (cT K p).2 = some { cls := .none, data := .fields #[] }
abbrev AlL : Type := He.AlD × Bool × FnC
def obsL (n : Nat) (fa : List Fa) (fn : List DefD) (tf : List Defn) (ex : PySem.W.Frag → Bool) (ia : PySem.W.Frag → Addr) (g : Addr → Option Obj) : AlL :=
  (He.obsD fa fn (frT g (asL g n)), ex (frT g (asL g n)) && tabsB g tf (frT g (asL g n)), fnC (frT g (asL g n)) (ia (frT g (asL g n))))
def valL (fn : List DefD) (iv : FnC) : AlL := (He.valD fn, true, iv)
theorem saysL_of {n : Nat} {fa : List Fa} {fn : List DefD} {tf : List Defn} {ex : PySem.W.Frag → Bool} {ia : PySem.W.Frag → Addr} {iv : FnC} {h : Heap} (e : obsL n fa fn tf ex ia h.get? = valL fn iv) : SaysL fa fn tf ex ia iv h (frT h.get? (asL h.get? n)) := by
  have e1 : He.obsD fa fn (frT h.get? (asL h.get? n)) = He.valD fn := congrArg (fun z : AlL => z.1) e
  have e2 : (ex (frT h.get? (asL h.get? n)) && tabsB h.get? tf (frT h.get? (asL h.get? n))) = true := congrArg (fun z : AlL => z.2.1) e
  have e3 : fnC (frT h.get? (asL h.get? n)) (ia (frT h.get? (asL h.get? n))) = iv := congrArg (fun z : AlL => z.2.2) e
  obtain ⟨h1, h2⟩ := ba e2
  have key : ∀ p ∈ tf, PySem.W.codeHdIn (frT h.get? (asL h.get? n)) (cT (frT h.get? (asL h.get? n)) p).1 (cT (frT h.get? (asL h.get? n)) p).2 = true ∧ ∃ o, h.get? (cT (frT h.get? (asL h.get? n)) p).2 = some o ∧ emptyTab o = true := fun p hp => by
    obtain ⟨h3, h4⟩ := ba (List.all_eq_true.mp h2 p hp)
    refine ⟨h3, ?_⟩
    split at h4
    · rename_i o q
      exact ⟨o, q, h4⟩
    · cases h4
  refine ⟨e1, h1, e3, fun p hp => (key p hp).1, fun p hp => ?_, fun p hp => ?_⟩
  · obtain ⟨_, o, q, z⟩ := key p hp
    exact He.frT_none q z
  · obtain ⟨_, o, q, z⟩ := key p hp
    rw [q, He.emptyTab_eq z]
def hookL (n : Nat) (fa : List Fa) (fn : List DefD) (tf : List Defn) (ex : PySem.W.Frag → Bool) (ia : PySem.W.Frag → Addr) (iv : FnC) : PySem.W.Hook where
  α := AlL
  obs := fun s => obsL n fa fn tf ex ia s.heap.get?
  val := fun _ => valL fn iv
  says := fun _ h => ∃ K : PySem.W.Frag, K.In h ∧ SaysL fa fn tf ex ia iv h K
  of := fun _ _ e => ⟨_, He.frT_in, saysL_of e⟩
  keeps := fun _ _ _ ⟨K, hK, c⟩ k => ⟨K, PySem.W.Frag.In.keeps hK k, ⟨c.d, c.more, c.ini, c.hd, c.out, fun p hp => k _ _ (c.empty p hp)⟩⟩
theorem obsL_eq {n : Nat} {fa : List Fa} {fn : List DefD} {tf : List Defn} {ex : PySem.W.Frag → Bool} {ia : PySem.W.Frag → Addr} {iv : FnC} {g : Addr → Option Obj} {s : Shared} (h : ∀ a, g a = s.heap.get? a) : obsL n fa fn tf ex ia g = (hookL n fa fn tf ex ia iv).obs s := by
  have e : g = s.heap.get? := funext h
  rw [e] <;> rfl
/-! ### the law, called -/
/-- at the start: the tables are empty, the script is a list that nobody writes -/
def H0 (K : PySem.W.Frag) (ts : List Addr) (a : Addr) (vs : List Value) (ns : List Int) : Hp := fun b => if b ∈ ts then some (.tbl #[]) else if b = a ∧ (K.lookup a).isNone = true then some (.frz { cls := .type "list", data := .seq vs.toArray } (.lst (ns.map V.int))) else none
section
variable {K : PySem.W.Frag} {ts : List Addr} {a b : Addr} {vs : List Value} {ns : List Int}
theorem H0_t (h : b ∈ ts) : H0 K ts a vs ns b = some (.tbl #[]) := if_pos h
theorem H0_a (h : a ∉ ts) (n : K.lookup a = none) : H0 K ts a vs ns a = some (.frz { cls := .type "list", data := .seq vs.toArray } (.lst (ns.map V.int))) := (if_neg h).trans (if_pos ⟨rfl, by rw [n]; rfl⟩)
theorem H0_n (h : b ∉ ts) (n : ¬ (b = a ∧ K.lookup a = none)) : H0 K ts a vs ns b = none := (if_neg h).trans (if_neg fun z => n ⟨z.1, Option.isNone_iff_eq_none.mp z.2⟩)
theorem H0_cases (K : PySem.W.Frag) (ts : List Addr) (a : Addr) (vs : List Value) (ns : List Int) (b : Addr) : b ∈ ts ∨ (b ∉ ts ∧ b = a ∧ K.lookup a = none) ∨ (b ∉ ts ∧ ¬ (b = a ∧ K.lookup a = none)) := by
  by_cases h : b ∈ ts
  · exact .inl h
  · by_cases h2 : b = a ∧ K.lookup a = none
    · exact .inr (.inl ⟨h, h2⟩)
    · exact .inr (.inr ⟨h, h2⟩)
end
theorem law_callG {P : Program} {w : World} {K : PySem.W.Frag} {mg mb : Str → Option Value} {k : Nat} {fa a : Addr} {cs : List (Addr × Addr)} {nm x : Str} {sp : Sp} {s₁ : Shared} {vs : List Value} {ns : List Int}
    (KX : K.In s₁.heap) (hns : s₁.heap.Ns mainGlobals mg) (hb : s₁.heap.Ns builtinsNs mb) (hbb : ∀ x : Str, x ≠ "__name__" → mb x = bootBuiltins x) (hlim : s₁.heap.NoLimit) (hg : s₁.gens = #[])
    (hT : ∀ p ∈ cs, s₁.heap.get? p.2 = some { cls := .none, data := .fields #[] }) (nT : ∀ p ∈ cs, K.lookup p.2 = none) (C : ∀ p ∈ cs, PySem.W.CodeHd s₁.heap p.1 p.2)
    (hbm : ∃ (bm : Addr) (ob : Obj), mg "__builtins__" = some (.ref bm) ∧ bm ≠ builtinsNs ∧ s₁.heap.get? bm = some ob ∧ ob.cls = .type "module" ∧ ob.dict = some builtinsNs ∧ ob.data = .plain)
    (ha : s₁.heap.get? a = some { cls := .type "list", data := .seq vs.toArray }) (hi : IntsAre vs ns) (hl : ns.length ≤ sizeLine) (hr : Room k callerA)
    (hmg : mg nm = some (.ref fa)) (F : ∀ base : Heap, K.In base → base.Ns mainGlobals mg → (∀ p ∈ cs, GxR.TabB base mg p.1 p.2) → Pr P w K mg base k nm [x] sp)
    (hsp : ∀ H : Hp, (∀ p ∈ cs, H p.2 = some (.tbl #[])) → (∀ p ∈ cs, p.2 ≠ a) → SqL K H a (ns.map V.int) → sp [.ref a] H (fun v _ => v = .bl true) fun _ _ _ => False)
    (hCX : ∀ H e s', L2.CX P w [] H s₁ (fun _ _ _ => False) e s' → False) :
    codeAny (model P w) callerA (.call (.ref fa) ⟨[.ref a], []⟩) (fun r s' => r = .ok (.ret (.bool true)) ∧ OldK s₁.heap s'.heap ∧ s'.os = s₁.os ∧ AllBare s'.gens) s₁ := by
  have rv := vals_ints hi
  have memT : ∀ p ∈ cs, p.2 ∈ cs.map (·.2) := fun p hp => List.mem_map_of_mem hp
  have isT : ∀ b : Addr, b ∈ cs.map (·.2) → s₁.heap.get? b = some { cls := .none, data := .fields #[] } := fun b hb => by
    obtain ⟨p, hp, e⟩ := List.mem_map.mp hb
    rw [← e]
    exact hT p hp
  have notT : ∀ {b : Addr} {o : Obj}, s₁.heap.get? b = some o → o.data ≠ .fields #[] → b ∉ cs.map (·.2) := fun e n z => by
    rw [isT _ z] at e
    cases e
    exact n rfl
  have aT : a ∉ cs.map (·.2) := notT ha fun z => by cases z
  have lst : ∀ {b : Addr} {o : Obj}, s₁.heap.get? b = some o → (∀ vs n, o.data ≠ .seq vs n) → b ≠ a := fun e n z => by
    rw [z, ha] at e
    cases e
    exact n _ _ rfl
  -- below: all but the tables and the script
  have low : ∀ {b : Addr} {o : Obj}, s₁.heap.get? b = some o → (∀ vs n, o.data ≠ .seq vs n) → o.data ≠ .fields #[] → (hidT s₁.heap (H0 K (cs.map (·.2)) a vs ns)).get? b = some o := fun e n1 n2 => hidT_get e (H0_n (notT e n2) fun z => lst e n1 z.1)
  have nsK : ∀ {b : Addr} {m : Str → Option Value}, s₁.heap.Ns b m → (hidT s₁.heap (H0 K (cs.map (·.2)) a vs ns)).Ns b m := fun {b m} ⟨o, es, ep, e, d, r⟩ => ⟨o, es, ep, low e (fun vs n z => by rw [d] at z; cases z) (fun z => by rw [d] at z; cases z), d, r⟩
  have hKb : K.In (hidT s₁.heap (H0 K (cs.map (·.2)) a vs ns)) := fun b o e => hidT_get (KX b o e) (H0_n (fun z => by
    obtain ⟨p, hp, ep⟩ := List.mem_map.mp z
    rw [← ep, nT p hp] at e
    cases e) fun z => by
    rw [z.1, z.2] at e
    cases e)
  have hM : L2.Mod K mg (hidT s₁.heap (H0 K (cs.map (·.2)) a vs ns)) := ⟨hKb, nsK hns, ⟨mb, nsK hb, hbb⟩, let ⟨mc, h1, h2⟩ := hlim; ⟨mc, nsK h1, h2⟩⟩
  have glob : ∀ {b : Addr} {o : Obj}, s₁.heap.get? b = some o → (∀ es ep, o.data ≠ .dict es ep) → mainGlobals ≠ b := fun e n z => by
    obtain ⟨o2, es, ep, e2, hd, _⟩ := hns
    rw [z, e] at e2
    cases e2
    exact n _ _ hd
  have TB : ∀ p ∈ cs, GxR.TabB (hidT s₁.heap (H0 K (cs.map (·.2)) a vs ns)) mg p.1 p.2 := fun p hp => by
    refine ⟨?_, ?_, glob (hT p hp) fun es ep z => by cases z⟩
    · obtain ⟨o, us, file, tf, flags, tg, inF, text, tt, e1, r1, r2, r3, r⟩ := C p hp
      refine ⟨o, us, file, tf, flags, tg, inF, text, tt, low e1 (fun vs n z => ?_) (fun z => ?_), r1, r2, r3, r⟩
      · rw [r2] at z
        cases z
      · rw [r2] at z
        cases z
        simp at r3
    · obtain ⟨bm, ob, b1, b2, b3, b4, b5, b6⟩ := hbm
      refine ⟨bm, ob, b1, b2, (glob b3 fun es ep z => by rw [b6] at z; cases z).symm, fun q => ?_, low b3 (fun vs n z => by rw [b6] at z; cases z) (fun z => by rw [b6] at z; cases z), b4, b5, b6⟩
      rw [q, hT p hp] at b3
      cases b3
      cases b6
  have hok : HOk P w (H0 K (cs.map (·.2)) a vs ns) s₁.heap := fun b u z => by
    rcases H0_cases K (cs.map (·.2)) a vs ns b with h | ⟨h1, rfl, h2⟩ | ⟨h1, h2⟩
    · rw [H0_t h] at z
      cases z
      exact isT b h
    · rw [H0_a h1 h2] at z
      cases z
      exact ⟨ha, by rw [List.length_map]; exact hl, vs, _, rv, ha⟩
    · rw [H0_n h1 h2] at z
      cases z
  have e0 : Env0 P w K mg (hidT s₁.heap (H0 K (cs.map (·.2)) a vs ns)) callerA [] s₁ (H0 K (cs.map (·.2)) a vs ns) := ⟨rfl, hM, fun b o e => of_hidT e, Nat.le_of_eq (hidT_size _ _), trivial, fun b hb => absurd (show b ∈ ([] : List Addr) from hb) (by simp), hok, .of_eq hg⟩
  have hS : SqL K (H0 K (cs.map (·.2)) a vs ns) a (ns.map V.int) := by
    cases hk : K.lookup a with
    | some o =>
      have e := KX a o hk
      rw [ha] at e
      cases e
      exact .inr ⟨_, vs.toArray, _, hk, rfl, rfl, rfl, by rw [List.size_toArray, hi.length]; exact hl, by simpa using rv⟩
    | none => exact .inl (.inr ⟨_, H0_a aT hk⟩)
  obtain ⟨fa', fd, g', _, G, bd⟩ := (F _ hKb (nsK hns) TB).ex
  have ef : fa' = fa := by
    rw [hmg] at g'
    cases g'
    rfl
  subst ef
  refine codeAny_mono (G.run callerA [] s₁ _ ⟨[.ref a], []⟩ [.ref a] [.ref a] _ _ rfl hr e0 (bd s₁ [.ref a] KX rfl) (.cons rfl .nil) (hsp _ (fun p hp => H0_t (memT p hp)) (fun p hp z => aT (z ▸ memT p hp)) hS)) fun r s' h => ?_
  cases r with
  | error e => exact (hCX _ e s' h).elim
  | ok fl =>
    cases fl with
    | next => exact False.elim h
    | brk => exact False.elim h
    | cont => exact False.elim h
    | ret u =>
      obtain ⟨v, H', os, bare, un, hok', r', q⟩ := h
      have q' : v = .bl true := q
      subst q'
      obtain rfl : u = Value.bool true := r'
      have key : ∀ b o, b ∉ cs.map (·.2) → s₁.heap.get? b = some o → s'.heap.get? b = some o := fun b o nb e => by
        rcases H0_cases K (cs.map (·.2)) a vs ns b with h | ⟨h1, rfl, h2⟩ | ⟨h1, h2⟩
        · exact absurd h nb
        · obtain ⟨e2, _⟩ := hok' b _ (un.frzs b _ _ (H0_a h1 h2))
          rw [ha] at e
          cases e
          exact e2
        · exact un.keep b o e (H0_n h1 h2) (by intro z; exact absurd (show b ∈ ([] : List Addr) from z) (by simp)) (by simp)
      have grown : ∀ p ∈ cs, ∃ more : Array Value, s'.heap.get? p.2 = some { cls := .none, data := .fields more } := fun p hp => by
        obtain ⟨more, z⟩ := un.tbls p.2 #[] (H0_t (memT p hp))
        exact ⟨_, hok' p.2 _ z⟩
      refine ⟨rfl, ⟨fun b o e => ?_, fun b o e => ?_⟩, os, bare⟩
      · by_cases hb : b ∈ cs.map (·.2)
        · obtain ⟨p, hp, ep⟩ := List.mem_map.mp hb
          obtain ⟨more, hm⟩ := grown p hp
          rw [← ep] at e ⊢
          rw [hT p hp] at e
          cases e
          exact .inr (.inl ⟨((C p hp).tab (hT p hp)).isCodeTable, rfl, #[], more, rfl, by rw [Array.empty_append]; exact hm⟩)
        · exact .inl (key b o hb e)
      · by_cases hb : b ∈ cs.map (·.2)
        · obtain ⟨p, hp, ep⟩ := List.mem_map.mp hb
          obtain ⟨more, hm⟩ := grown p hp
          rw [← ep]
          exact ⟨_, hm⟩
        · exact ⟨o, key b o hb e⟩
theorem walk_ofG {l : PySem.W.OpenLaw} {n k : Nat} {q : Program} {loose : List Str} {XP : (Str → Option Value) → Heap → Prop} {YP : World → Heap → Prop} {d : DefRec} {x : Str}
    (hn : l.most = some n) (hn2 : n ≤ sizeLine) (hdf : d.params.defaults = []) (hr : Room k callerA)
    (F : ∀ (w : World) (mg : Str → Option Value) (fa : Addr) (h : Heap), YP w h → h.Ns mainGlobals mg → mg d.name = some (.ref fa) → ∃ K : PySem.W.Frag, K.In h ∧
      ∃ (cs : List (Addr × Addr)) (sp : Sp), (∀ p ∈ cs, h.get? p.2 = some { cls := .none, data := .fields #[] }) ∧ (∀ p ∈ cs, K.lookup p.2 = none) ∧ (∀ p ∈ cs, PySem.W.CodeHd h p.1 p.2) ∧
        (∀ (H : Hp) (a : Addr) (ns : List Int), ns.length ≤ n → (∀ p ∈ cs, H p.2 = some (.tbl #[])) → (∀ p ∈ cs, p.2 ≠ a) → SqL K H a (ns.map V.int) → sp [.ref a] H (fun v _ => v = .bl true) fun _ _ _ => False) ∧
        ∀ base : Heap, K.In base → base.Ns mainGlobals mg → (∀ p ∈ cs, GxR.TabB base mg p.1 p.2) → Pr l.prog w K mg base k d.name [x] sp)
    (hCX : ∀ (w : World) (H : Hp) (s : Shared) (e : Value) (s' : Shared), L2.CX l.prog w [] H s (fun _ _ _ => False) e s' → False) :
    PySem.W.WalkO q loose XP YP l.row.toRowW d [] (fun f vs => PySem.call f vs) := by
  refine Att.attach_callB hn hdf fun w s₀ s₁ mg mb fa o pm cd doc a vs ns G Y ho hd hcd hmg hobj hints hlen hbits hg => ?_
  obtain ⟨K, KX, cs, sp, hT, nT, C, hsp, hF⟩ := F w mg fa _ Y G.T.g hmg
  exact law_callG KX G.T.g G.T.b G.T.builtins G.T.nolimit hg hT nT C G.T.bmain hobj hints (Nat.le_trans hlen hn2) hr hmg hF (fun H hH hA hS => hsp H a ns hlen hH hA hS) fun H e s' => hCX w H s₁ e s'
end Lf

set_option Elab.async false
set_option linter.all false
set_option maxRecDepth 100000
set_option maxHeartbeats 0
/-! K1z: the head's facts, the end of law_k01. -/
namespace K01
open PySem PySem.Spec PyProof.Rows L2 Lf
open GxR (TabB TabG Tabbed)
/-! ### what the Hook tells -/
def d_is_name : He.DefD := ⟨("is_name", none), "is_name", "is_name", defArgs s_is_name, defBody s_is_name, defScope s_is_name, [], []⟩
def d_check_document : He.DefD := ⟨("check_document", none), "check_document", "check_document", defArgs s_check_document, defBody s_check_document, defScope s_check_document, [], []⟩
def d_need_document : He.DefD := ⟨("need_document", none), "need_document", "need_document", defArgs s_need_document, defBody s_need_document, defScope s_need_document, [], []⟩
def d_key_of : He.DefD := ⟨("key_of", none), "key_of", "key_of", defArgs s_key_of, defBody s_key_of, defScope s_key_of, [], []⟩
def d_compared : He.DefD := ⟨("compared", none), "compared", "compared", defArgs s_compared, defBody s_compared, defScope s_compared, [], []⟩
def d__law_begin : He.DefD := ⟨("_law_begin", none), "_law_begin", "_law_begin", defArgs s__law_begin, defBody s__law_begin, defScope s__law_begin, [], []⟩
def d__law_mixed : He.DefD := ⟨("_law_mixed", none), "_law_mixed", "_law_mixed", defArgs s__law_mixed, defBody s__law_mixed, defScope s__law_mixed, [], []⟩
def d__law_draw : He.DefD := ⟨("_law_draw", none), "_law_draw", "_law_draw", defArgs s__law_draw, defBody s__law_draw, defScope s__law_draw, [], []⟩
def d__law_of : He.DefD := ⟨("_law_of", none), "_law_of", "_law_of", defArgs s__law_of, defBody s__law_of, defScope s__law_of, [], []⟩
def d__law_key : He.DefD := ⟨("_law_key", none), "_law_key", "_law_key", defArgs s__law_key, defBody s__law_key, defScope s__law_key, [], []⟩
def d__law_firsts : He.DefD := ⟨("_law_firsts", none), "_law_firsts", "_law_firsts", defArgs s__law_firsts, defBody s__law_firsts, defScope s__law_firsts, [], []⟩
def d__law_reached : He.DefD := ⟨("_law_reached", none), "_law_reached", "_law_reached", defArgs s__law_reached, defBody s__law_reached, defScope s__law_reached, [], []⟩
def d__law_shape : He.DefD := ⟨("_law_shape", none), "_law_shape", "_law_shape", defArgs s__law_shape, defBody s__law_shape, defScope s__law_shape, [], []⟩
def d__law_document : He.DefD := ⟨("_law_document", none), "_law_document", "_law_document", defArgs s__law_document, defBody s__law_document, defScope s__law_document, [], []⟩
def d__law_parts : He.DefD := ⟨("_law_parts", none), "_law_parts", "_law_parts", defArgs s__law_parts, defBody s__law_parts, defScope s__law_parts, [], []⟩
def d__law_with : He.DefD := ⟨("_law_with", none), "_law_with", "_law_with", defArgs s__law_with, defBody s__law_with, defScope s__law_with, [], []⟩
def d__law_size : He.DefD := ⟨("_law_size", none), "_law_size", "_law_size", defArgs s__law_size, defBody s__law_size, defScope s__law_size, [], []⟩
def d__law_all : He.DefD := ⟨("_law_all", none), "_law_all", "_law_all", defArgs s__law_all, defBody s__law_all, defScope s__law_all, [], []⟩
def d__law_rows : He.DefD := ⟨("_law_rows", none), "_law_rows", "_law_rows", defArgs s__law_rows, defBody s__law_rows, defScope s__law_rows, [], []⟩
def d__law_like : He.DefD := ⟨("_law_like", none), "_law_like", "_law_like", defArgs s__law_like, defBody s__law_like, defScope s__law_like, [], []⟩
def d__law_ahead : He.DefD := ⟨("_law_ahead", none), "_law_ahead", "_law_ahead", defArgs s__law_ahead, defBody s__law_ahead, defScope s__law_ahead, [], []⟩
def d__law_right : He.DefD := ⟨("_law_right", none), "_law_right", "_law_right", defArgs s__law_right, defBody s__law_right, defScope s__law_right, [], []⟩
def d__law_exchange : He.DefD := ⟨("_law_exchange", none), "_law_exchange", "_law_exchange", defArgs s__law_exchange, defBody s__law_exchange, defScope s__law_exchange, [], []⟩
def d__law_refused : He.DefD := ⟨("_law_refused", none), "_law_refused", "_law_refused", defArgs s__law_refused, defBody s__law_refused, defScope s__law_refused, [], []⟩
def d_law : He.DefD := ⟨("law", none), "law", "law", defArgs s_law, defBody s_law, defScope s_law, [], []⟩
def fn : List He.DefD := [d_is_name, d_check_document, d_need_document, d_key_of, d_compared, d__law_begin, d__law_mixed, d__law_draw, d__law_of, d__law_key, d__law_firsts, d__law_reached, d__law_shape, d__law_document, d__law_parts, d__law_with, d__law_size, d__law_all, d__law_rows, d__law_like, d__law_ahead, d__law_right, d__law_exchange, d__law_refused, d_law]
def fa : List He.Fa := [.glo "is_name", .glo "check_document", .glo "need_document", .glo "key_of", .glo "compared", .glo "_law_begin", .glo "_law_mixed", .glo "_law_draw", .glo "_law_of", .glo "_law_key", .glo "_law_firsts", .glo "_law_reached", .glo "_law_shape", .glo "_law_document", .glo "_law_parts", .glo "_law_with", .glo "_law_size", .glo "_law_all", .glo "_law_rows", .glo "_law_like", .glo "_law_ahead", .glo "_law_right", .glo "_law_exchange", .glo "_law_refused", .glo "law", .glo "BadDocument", .free "len", .free "isinstance", .free "str", .free "tuple", .free "list", .free "int", .free "all", .free "sum", .free "range", .free "enumerate", .free "zip", .free "repr", .free "sorted", .free "super", .str "SMALL" smalls, .str "SIGNS" Lf.signs, .int "LONGEST" 8, .int "MOST_NAMES" 2000, .int "MOST_DEEP" 100, .int "MOST_PARTS" 3]
/-- BadDocument's __init__ -/
def sI : Stmt := match topS 2 with
  | .ClassDef _ _ _ (s :: _) .. => s
  | _ => .Pass ⟨0, 0, 0, 0⟩
def ia (K : PySem.W.Frag) : Addr := He.ma K (He.ga K "BadDocument") "__init__"
def iv : FnC := some ("__init__", "BadDocument.__init__", defArgs sI, .stmts (defBody sI), defScope sI, mainGlobals, ["__class__"], builtinsNs)
def ex (K : PySem.W.Frag) : Bool := supB K (He.ga K "BadDocument") (ia K) "place" "BadDocument.__init__" PySem.Challenge.pw_everyleaf_k01_whole_the_order_of_documen.main.file
def tf : List He.Defn := [("is_name", none), ("key_of", none)]
abbrev hk : PySem.W.Hook := hookL 4 fa fn tf ex ia iv
def ob (s : PySem.W.SharedT) : AlL := obsL 4 fa fn tf ex ia (HandSHeadRun.getT s)
theorem ob_eq (s : PySem.W.SharedT) : ob s = hk.obs s.abs := obsL_eq (HandSHeadRun.getT_eq s)
def loose : List PySem.Str := ["LeafError", "BadDocument", "SMALL", "SIGNS", "LONGEST", "is_name", "MOST_NAMES", "MOST_DEEP", "MOST_PARTS", "check_document", "need_document", "key_of", "compared", "_law_begin", "_law_mixed", "_law_draw", "_law_of", "_law_key", "_law_firsts", "_law_reached", "_law_shape", "_law_document", "_law_parts", "_law_with", "_law_size", "_law_all", "_law_rows", "_law_like", "_law_ahead", "_law_right", "_law_exchange", "_law_refused"]
theorem run (w : World) : HandSHeadRun.RunEq R (PySem.W.view R.prog [37]) hk ob 4000 loose w := by
  intro os
  kernel_rfl
/-! ### the facts, used -/
theorem code_of {K : PySem.W.Frag} {p : He.Defn} {x qual : Str} {params : Arguments} {body : List Stmt} {scope : Scope} {dvs : List V} {kws : List (Str × V)} {fd : FuncData} (F : FunD K x qual params body scope dvs kws (He.fAd K p) fd) : fd.code = .ref (He.codeOf K p) := by
  obtain ⟨oc, od, dV, kV, doc, pm, an, cdv, ct, osl, rfl, lk, hcd, _, _⟩ := F.ex
  obtain ⟨c, rfl⟩ := He.codeIn_ref hcd
  exact congrArg Value.ref (He.codeOf_eq lk rfl).symm
section
variable {P : Program} {w : World} {K : PySem.W.Frag} {mg : Str → Option Value} {h : Heap}
theorem def_is_name (X : K.In h) (G : h.Ns mainGlobals mg) (c : He.SaysD fa fn K) : ∃ fd, Def K mg "is_name" ["value"] s_is_name (He.ga K "is_name") fd ∧ fd.code = .ref (He.cT K ("is_name", none)).1 := by
  obtain ⟨fd, F⟩ := c.def_ 0 (d := d_is_name) rfl
  exact ⟨fd, ⟨⟨He5.fun_of F, He.glo_ok X G (c.fact 0 (f := .glo "is_name") rfl), FunD.bindsN (ps := ["value"]) F fun _ _ _ _ _ _ us hl => match us, hl with | [_], _ => rfl⟩, code_of F⟩⟩
theorem def_check_document (X : K.In h) (G : h.Ns mainGlobals mg) (c : He.SaysD fa fn K) : ∃ fd, Def K mg "check_document" ["value"] s_check_document (He.ga K "check_document") fd := by
  obtain ⟨fd, F⟩ := c.def_ 1 (d := d_check_document) rfl
  exact ⟨fd, ⟨He5.fun_of F, He.glo_ok X G (c.fact 1 (f := .glo "check_document") rfl), FunD.bindsN (ps := ["value"]) F fun _ _ _ _ _ _ us hl => match us, hl with | [_], _ => rfl⟩⟩
theorem def_need_document (X : K.In h) (G : h.Ns mainGlobals mg) (c : He.SaysD fa fn K) : ∃ fd, Def K mg "need_document" ["document"] s_need_document (He.ga K "need_document") fd := by
  obtain ⟨fd, F⟩ := c.def_ 2 (d := d_need_document) rfl
  exact ⟨fd, ⟨He5.fun_of F, He.glo_ok X G (c.fact 2 (f := .glo "need_document") rfl), FunD.bindsN (ps := ["document"]) F fun _ _ _ _ _ _ us hl => match us, hl with | [_], _ => rfl⟩⟩
theorem def_key_of (X : K.In h) (G : h.Ns mainGlobals mg) (c : He.SaysD fa fn K) : ∃ fd, Def K mg "key_of" ["document"] s_key_of (He.ga K "key_of") fd ∧ fd.code = .ref (He.cT K ("key_of", none)).1 := by
  obtain ⟨fd, F⟩ := c.def_ 3 (d := d_key_of) rfl
  exact ⟨fd, ⟨⟨He5.fun_of F, He.glo_ok X G (c.fact 3 (f := .glo "key_of") rfl), FunD.bindsN (ps := ["document"]) F fun _ _ _ _ _ _ us hl => match us, hl with | [_], _ => rfl⟩, code_of F⟩⟩
theorem def_compared (X : K.In h) (G : h.Ns mainGlobals mg) (c : He.SaysD fa fn K) : ∃ fd, Def K mg "compared" ["one", "other"] s_compared (He.ga K "compared") fd := by
  obtain ⟨fd, F⟩ := c.def_ 4 (d := d_compared) rfl
  exact ⟨fd, ⟨He5.fun_of F, He.glo_ok X G (c.fact 4 (f := .glo "compared") rfl), FunD.bindsN (ps := ["one", "other"]) F fun _ _ _ _ _ _ us hl => match us, hl with | [_, _], _ => rfl⟩⟩
theorem def__law_begin (X : K.In h) (G : h.Ns mainGlobals mg) (c : He.SaysD fa fn K) : ∃ fd, Def K mg "_law_begin" ["script"] s__law_begin (He.ga K "_law_begin") fd := by
  obtain ⟨fd, F⟩ := c.def_ 5 (d := d__law_begin) rfl
  exact ⟨fd, ⟨He5.fun_of F, He.glo_ok X G (c.fact 5 (f := .glo "_law_begin") rfl), FunD.bindsN (ps := ["script"]) F fun _ _ _ _ _ _ us hl => match us, hl with | [_], _ => rfl⟩⟩
theorem def__law_mixed (X : K.In h) (G : h.Ns mainGlobals mg) (c : He.SaysD fa fn K) : ∃ fd, Def K mg "_law_mixed" ["cell", "k"] s__law_mixed (He.ga K "_law_mixed") fd := by
  obtain ⟨fd, F⟩ := c.def_ 6 (d := d__law_mixed) rfl
  exact ⟨fd, ⟨He5.fun_of F, He.glo_ok X G (c.fact 6 (f := .glo "_law_mixed") rfl), FunD.bindsN (ps := ["cell", "k"]) F fun _ _ _ _ _ _ us hl => match us, hl with | [_, _], _ => rfl⟩⟩
theorem def__law_draw (X : K.In h) (G : h.Ns mainGlobals mg) (c : He.SaysD fa fn K) : ∃ fd, Def K mg "_law_draw" ["state", "limit"] s__law_draw (He.ga K "_law_draw") fd := by
  obtain ⟨fd, F⟩ := c.def_ 7 (d := d__law_draw) rfl
  exact ⟨fd, ⟨He5.fun_of F, He.glo_ok X G (c.fact 7 (f := .glo "_law_draw") rfl), FunD.bindsN (ps := ["state", "limit"]) F fun _ _ _ _ _ _ us hl => match us, hl with | [_, _], _ => rfl⟩⟩
theorem def__law_of (X : K.In h) (G : h.Ns mainGlobals mg) (c : He.SaysD fa fn K) : ∃ fd, Def K mg "_law_of" ["state", "some"] s__law_of (He.ga K "_law_of") fd := by
  obtain ⟨fd, F⟩ := c.def_ 8 (d := d__law_of) rfl
  exact ⟨fd, ⟨He5.fun_of F, He.glo_ok X G (c.fact 8 (f := .glo "_law_of") rfl), FunD.bindsN (ps := ["state", "some"]) F fun _ _ _ _ _ _ us hl => match us, hl with | [_, _], _ => rfl⟩⟩
theorem def__law_key (X : K.In h) (G : h.Ns mainGlobals mg) (c : He.SaysD fa fn K) : ∃ fd, Def K mg "_law_key" ["document"] s__law_key (He.ga K "_law_key") fd := by
  obtain ⟨fd, F⟩ := c.def_ 9 (d := d__law_key) rfl
  exact ⟨fd, ⟨He5.fun_of F, He.glo_ok X G (c.fact 9 (f := .glo "_law_key") rfl), FunD.bindsN (ps := ["document"]) F fun _ _ _ _ _ _ us hl => match us, hl with | [_], _ => rfl⟩⟩
theorem def__law_firsts (X : K.In h) (G : h.Ns mainGlobals mg) (c : He.SaysD fa fn K) : ∃ fd, Def K mg "_law_firsts" ["shape_so"] s__law_firsts (He.ga K "_law_firsts") fd := by
  obtain ⟨fd, F⟩ := c.def_ 10 (d := d__law_firsts) rfl
  exact ⟨fd, ⟨He5.fun_of F, He.glo_ok X G (c.fact 10 (f := .glo "_law_firsts") rfl), FunD.bindsN (ps := ["shape_so"]) F fun _ _ _ _ _ _ us hl => match us, hl with | [_], _ => rfl⟩⟩
theorem def__law_reached (X : K.In h) (G : h.Ns mainGlobals mg) (c : He.SaysD fa fn K) : ∃ fd, Def K mg "_law_reached" ["shape_so"] s__law_reached (He.ga K "_law_reached") fd := by
  obtain ⟨fd, F⟩ := c.def_ 11 (d := d__law_reached) rfl
  exact ⟨fd, ⟨He5.fun_of F, He.glo_ok X G (c.fact 11 (f := .glo "_law_reached") rfl), FunD.bindsN (ps := ["shape_so"]) F fun _ _ _ _ _ _ us hl => match us, hl with | [_], _ => rfl⟩⟩
theorem def__law_shape (X : K.In h) (G : h.Ns mainGlobals mg) (c : He.SaysD fa fn K) : ∃ fd, Def K mg "_law_shape" ["state", "most", "wide"] s__law_shape (He.ga K "_law_shape") fd := by
  obtain ⟨fd, F⟩ := c.def_ 12 (d := d__law_shape) rfl
  exact ⟨fd, ⟨He5.fun_of F, He.glo_ok X G (c.fact 12 (f := .glo "_law_shape") rfl), FunD.bindsN (ps := ["state", "most", "wide"]) F fun _ _ _ _ _ _ us hl => match us, hl with | [_, _, _], _ => rfl⟩⟩
theorem def__law_document (X : K.In h) (G : h.Ns mainGlobals mg) (c : He.SaysD fa fn K) : ∃ fd, Def K mg "_law_document" ["state", "shape_so", "firsts_so", "kind", "deep"] s__law_document (He.ga K "_law_document") fd := by
  obtain ⟨fd, F⟩ := c.def_ 13 (d := d__law_document) rfl
  exact ⟨fd, ⟨He5.fun_of F, He.glo_ok X G (c.fact 13 (f := .glo "_law_document") rfl), FunD.bindsN (ps := ["state", "shape_so", "firsts_so", "kind", "deep"]) F fun _ _ _ _ _ _ us hl => match us, hl with | [_, _, _, _, _], _ => rfl⟩⟩
theorem def__law_parts (X : K.In h) (G : h.Ns mainGlobals mg) (c : He.SaysD fa fn K) : ∃ fd, Def K mg "_law_parts" ["output", "place"] s__law_parts (He.ga K "_law_parts") fd := by
  obtain ⟨fd, F⟩ := c.def_ 14 (d := d__law_parts) rfl
  exact ⟨fd, ⟨He5.fun_of F, He.glo_ok X G (c.fact 14 (f := .glo "_law_parts") rfl), FunD.bindsN (ps := ["output", "place"]) F fun _ _ _ _ _ _ us hl => match us, hl with | [_, _], _ => rfl⟩⟩
theorem def__law_with (X : K.In h) (G : h.Ns mainGlobals mg) (c : He.SaysD fa fn K) : ∃ fd, Def K mg "_law_with" ["output", "place", "part"] s__law_with (He.ga K "_law_with") fd := by
  obtain ⟨fd, F⟩ := c.def_ 15 (d := d__law_with) rfl
  exact ⟨fd, ⟨He5.fun_of F, He.glo_ok X G (c.fact 15 (f := .glo "_law_with") rfl), FunD.bindsN (ps := ["output", "place", "part"]) F fun _ _ _ _ _ _ us hl => match us, hl with | [_, _, _], _ => rfl⟩⟩
theorem def__law_size (X : K.In h) (G : h.Ns mainGlobals mg) (c : He.SaysD fa fn K) : ∃ fd, Def K mg "_law_size" ["document"] s__law_size (He.ga K "_law_size") fd := by
  obtain ⟨fd, F⟩ := c.def_ 16 (d := d__law_size) rfl
  exact ⟨fd, ⟨He5.fun_of F, He.glo_ok X G (c.fact 16 (f := .glo "_law_size") rfl), FunD.bindsN (ps := ["document"]) F fun _ _ _ _ _ _ us hl => match us, hl with | [_], _ => rfl⟩⟩
theorem def__law_all (X : K.In h) (G : h.Ns mainGlobals mg) (c : He.SaysD fa fn K) : ∃ fd, Def K mg "_law_all" ["shape_so", "most"] s__law_all (He.ga K "_law_all") fd := by
  obtain ⟨fd, F⟩ := c.def_ 17 (d := d__law_all) rfl
  exact ⟨fd, ⟨He5.fun_of F, He.glo_ok X G (c.fact 17 (f := .glo "_law_all") rfl), FunD.bindsN (ps := ["shape_so", "most"]) F fun _ _ _ _ _ _ us hl => match us, hl with | [_, _], _ => rfl⟩⟩
theorem def__law_rows (X : K.In h) (G : h.Ns mainGlobals mg) (c : He.SaysD fa fn K) : ∃ fd, Def K mg "_law_rows" ["found", "parts", "size"] s__law_rows (He.ga K "_law_rows") fd := by
  obtain ⟨fd, F⟩ := c.def_ 18 (d := d__law_rows) rfl
  exact ⟨fd, ⟨He5.fun_of F, He.glo_ok X G (c.fact 18 (f := .glo "_law_rows") rfl), FunD.bindsN (ps := ["found", "parts", "size"]) F fun _ _ _ _ _ _ us hl => match us, hl with | [_, _, _], _ => rfl⟩⟩
theorem def__law_like (X : K.In h) (G : h.Ns mainGlobals mg) (c : He.SaysD fa fn K) : ∃ fd, Def K mg "_law_like" ["got", "due"] s__law_like (He.ga K "_law_like") fd := by
  obtain ⟨fd, F⟩ := c.def_ 19 (d := d__law_like) rfl
  exact ⟨fd, ⟨He5.fun_of F, He.glo_ok X G (c.fact 19 (f := .glo "_law_like") rfl), FunD.bindsN (ps := ["got", "due"]) F fun _ _ _ _ _ _ us hl => match us, hl with | [_, _], _ => rfl⟩⟩
theorem def__law_ahead (X : K.In h) (G : h.Ns mainGlobals mg) (c : He.SaysD fa fn K) : ∃ fd, Def K mg "_law_ahead" ["one", "other"] s__law_ahead (He.ga K "_law_ahead") fd := by
  obtain ⟨fd, F⟩ := c.def_ 20 (d := d__law_ahead) rfl
  exact ⟨fd, ⟨He5.fun_of F, He.glo_ok X G (c.fact 20 (f := .glo "_law_ahead") rfl), FunD.bindsN (ps := ["one", "other"]) F fun _ _ _ _ _ _ us hl => match us, hl with | [_, _], _ => rfl⟩⟩
theorem def__law_right (X : K.In h) (G : h.Ns mainGlobals mg) (c : He.SaysD fa fn K) : ∃ fd, Def K mg "_law_right" ["one", "other"] s__law_right (He.ga K "_law_right") fd := by
  obtain ⟨fd, F⟩ := c.def_ 21 (d := d__law_right) rfl
  exact ⟨fd, ⟨He5.fun_of F, He.glo_ok X G (c.fact 21 (f := .glo "_law_right") rfl), FunD.bindsN (ps := ["one", "other"]) F fun _ _ _ _ _ _ us hl => match us, hl with | [_, _], _ => rfl⟩⟩
theorem def__law_exchange (X : K.In h) (G : h.Ns mainGlobals mg) (c : He.SaysD fa fn K) : ∃ fd, Def K mg "_law_exchange" ["state", "document", "near", "far"] s__law_exchange (He.ga K "_law_exchange") fd := by
  obtain ⟨fd, F⟩ := c.def_ 22 (d := d__law_exchange) rfl
  exact ⟨fd, ⟨He5.fun_of F, He.glo_ok X G (c.fact 22 (f := .glo "_law_exchange") rfl), FunD.bindsN (ps := ["state", "document", "near", "far"]) F fun _ _ _ _ _ _ us hl => match us, hl with | [_, _, _, _], _ => rfl⟩⟩
theorem def__law_refused (X : K.In h) (G : h.Ns mainGlobals mg) (c : He.SaysD fa fn K) : ∃ fd, Def K mg "_law_refused" ["one", "other"] s__law_refused (He.ga K "_law_refused") fd := by
  obtain ⟨fd, F⟩ := c.def_ 23 (d := d__law_refused) rfl
  exact ⟨fd, ⟨He5.fun_of F, He.glo_ok X G (c.fact 23 (f := .glo "_law_refused") rfl), FunD.bindsN (ps := ["one", "other"]) F fun _ _ _ _ _ _ us hl => match us, hl with | [_, _], _ => rfl⟩⟩
theorem def_law (X : K.In h) (G : h.Ns mainGlobals mg) (c : He.SaysD fa fn K) : ∃ fd, Def K mg "law" ["script"] s_law (He.ga K "law") fd := by
  obtain ⟨fd, F⟩ := c.def_ 24 (d := d_law) rfl
  exact ⟨fd, ⟨He5.fun_of F, He.glo_ok X G (c.fact 24 (f := .glo "law") rfl), FunD.bindsN (ps := ["script"]) F fun _ _ _ _ _ _ us hl => match us, hl with | [_], _ => rfl⟩⟩
theorem txt (X : K.In h) (G : h.Ns mainGlobals mg) (c : He.SaysD fa fn K) : Txt mg where
  len := He.free_ok X G (c.fact 26 (f := .free "len") rfl)
  isinstance := He.free_ok X G (c.fact 27 (f := .free "isinstance") rfl)
  str := He.free_ok X G (c.fact 28 (f := .free "str") rfl)
  tuple := He.free_ok X G (c.fact 29 (f := .free "tuple") rfl)
  list := He.free_ok X G (c.fact 30 (f := .free "list") rfl)
  int := He.free_ok X G (c.fact 31 (f := .free "int") rfl)
  all := He.free_ok X G (c.fact 32 (f := .free "all") rfl)
  sum := He.free_ok X G (c.fact 33 (f := .free "sum") rfl)
  range := He.free_ok X G (c.fact 34 (f := .free "range") rfl)
  enumerate := He.free_ok X G (c.fact 35 (f := .free "enumerate") rfl)
  zip := He.free_ok X G (c.fact 36 (f := .free "zip") rfl)
  repr := He.free_ok X G (c.fact 37 (f := .free "repr") rfl)
  sorted := He.free_ok X G (c.fact 38 (f := .free "sorted") rfl)
  small := He.str_ok X G (c.fact 40 (f := .str "SMALL" smalls) rfl)
  sign := He.str_ok X G (c.fact 41 (f := .str "SIGNS" Lf.signs) rfl)
  longest := He.int_ok X G (c.fact 42 (f := .int "LONGEST" 8) rfl)
  names := He.int_ok X G (c.fact 43 (f := .int "MOST_NAMES" 2000) rfl)
  deeps := He.int_ok X G (c.fact 44 (f := .int "MOST_DEEP" 100) rfl)
  parts := He.int_ok X G (c.fact 45 (f := .int "MOST_PARTS" 3) rfl)
theorem sup (X : K.In h) (G : h.Ns mainGlobals mg) (c : SaysL fa fn tf ex ia iv h K) : LfX.SupTxt (PySem.Challenge.rw_everyleaf_k01_whole_the_order_of_documen).prog K mg "BadDocument" (He.ga K "BadDocument") (ia K) "place" :=
  supTxt_of (qual := "BadDocument.__init__") c.more c.ini (He.glo_ok X G (c.d.fact 25 (f := .glo "BadDocument") rfl)) (He.free_ok X G (c.d.fact 39 (f := .free "super") rfl)) (by kernel_rfl) (.inl rfl) (fun env => by rfl)
end
/-! ### the start's frame -/
def F0 (P1 P2 : Addr) : Fr where
  N := fun a => a = P1 ∨ a = P2
  T := fun _ H => TabG H P1 ∧ TabG H P2
  pos := fun b H a hT n => by
    obtain ⟨⟨p1, e1, _⟩, ⟨p2, e2, _⟩⟩ := hT
    rcases n with rfl | rfl
    · exact ⟨_, e1, ⟨fun xs z => (by cases z), fun ob w z => (by cases z)⟩⟩
    · exact ⟨_, e2, ⟨fun xs z => (by cases z), fun ob w z => (by cases z)⟩⟩
  loc := fun b H H' hT q => by
    obtain ⟨⟨p1, e1, t1⟩, ⟨p2, e2, t2⟩⟩ := hT
    exact ⟨⟨p1, (q P1 (.inl rfl)).trans e1, t1⟩, ⟨p2, (q P2 (.inr rfl)).trans e2, t2⟩⟩
  mono := fun b c H hT _ => hT
theorem F0_1 (P1 P2 : Addr) : HasTab (F0 P1 P2) P1 := ⟨.inl rfl, fun b H hT => hT.1, fun b H H' hT t => ⟨t.1, by
  by_cases e : P2 = P1
  · rw [e]
    exact t.1
  · obtain ⟨p2, e2, t2⟩ := hT.2
    exact ⟨p2, (t.2 P2 e).trans e2, t2⟩⟩⟩
theorem F0_2 (P1 P2 : Addr) : HasTab (F0 P1 P2) P2 := ⟨.inr rfl, fun b H hT => hT.2, fun b H H' hT t => ⟨by
  by_cases e : P1 = P2
  · rw [e]
    exact t.1
  · obtain ⟨p1, e1, t1⟩ := hT.1
    exact ⟨p1, (t.2 P1 e).trans e1, t1⟩, t.1⟩⟩
/-! ### law's promise -/
set_option maxHeartbeats 8000000 in
theorem law_all {w : World} {K : PySem.W.Frag} {mg : Str → Option Value} {h base : Heap} (X : K.In h) (G : h.Ns mainGlobals mg) (c : SaysL fa fn tf ex ia iv h K) (TB1 : TabB base mg (He.cT K ("is_name", none)).1 (He.cT K ("is_name", none)).2) (TB2 : TabB base mg (He.cT K ("key_of", none)).1 (He.cT K ("key_of", none)).2) :
    Pr (PySem.Challenge.rw_everyleaf_k01_whole_the_order_of_documen).prog w K mg base 42 "law" ["script"] (spLaw K (He.cT K ("is_name", none)).2 (He.cT K ("key_of", none)).2) := by
  have T := txt X G c.d
  have TS := sup X G c
  obtain ⟨f_is_name, D_is_name, hc_is_name⟩ := def_is_name X G c.d
  obtain ⟨f_check_document, D_check_document⟩ := def_check_document X G c.d
  obtain ⟨f_need_document, D_need_document⟩ := def_need_document X G c.d
  obtain ⟨f_key_of, D_key_of, hc_key_of⟩ := def_key_of X G c.d
  obtain ⟨f_compared, D_compared⟩ := def_compared X G c.d
  obtain ⟨f__law_begin, D__law_begin⟩ := def__law_begin X G c.d
  obtain ⟨f__law_mixed, D__law_mixed⟩ := def__law_mixed X G c.d
  obtain ⟨f__law_draw, D__law_draw⟩ := def__law_draw X G c.d
  obtain ⟨f__law_of, D__law_of⟩ := def__law_of X G c.d
  obtain ⟨f__law_key, D__law_key⟩ := def__law_key X G c.d
  obtain ⟨f__law_firsts, D__law_firsts⟩ := def__law_firsts X G c.d
  obtain ⟨f__law_reached, D__law_reached⟩ := def__law_reached X G c.d
  obtain ⟨f__law_shape, D__law_shape⟩ := def__law_shape X G c.d
  obtain ⟨f__law_document, D__law_document⟩ := def__law_document X G c.d
  obtain ⟨f__law_parts, D__law_parts⟩ := def__law_parts X G c.d
  obtain ⟨f__law_with, D__law_with⟩ := def__law_with X G c.d
  obtain ⟨f__law_size, D__law_size⟩ := def__law_size X G c.d
  obtain ⟨f__law_all, D__law_all⟩ := def__law_all X G c.d
  obtain ⟨f__law_rows, D__law_rows⟩ := def__law_rows X G c.d
  obtain ⟨f__law_like, D__law_like⟩ := def__law_like X G c.d
  obtain ⟨f__law_ahead, D__law_ahead⟩ := def__law_ahead X G c.d
  obtain ⟨f__law_right, D__law_right⟩ := def__law_right X G c.d
  obtain ⟨f__law_exchange, D__law_exchange⟩ := def__law_exchange X G c.d
  obtain ⟨f__law_refused, D__law_refused⟩ := def__law_refused X G c.d
  obtain ⟨f_law, D_law⟩ := def_law X G c.d
  have G_is_name := pr_is_name (P := (PySem.Challenge.rw_everyleaf_k01_whole_the_order_of_documen).prog) (w := w) (k := 0) T D_is_name hc_is_name TB1
  have G_check := pr_check_document T D_check_document G_is_name
  have G_need := pr_need_document T TS D_need_document G_check
  have G_key := pr_key_of (P := (PySem.Challenge.rw_everyleaf_k01_whole_the_order_of_documen).prog) (w := w) (k := 0) T D_key_of hc_key_of TB2 20
  have G_cmp := pr_compared (n := 20) (k := 20) (by decide) (by decide) T D_compared (G_need.mono (by decide)) (G_key.mono (by decide))
  have G_mixed := pr__law_mixed (P := (PySem.Challenge.rw_everyleaf_k01_whole_the_order_of_documen).prog) (w := w) (base := base) (k := 0) T D__law_mixed
  have G_draw := pr__law_draw T D__law_draw G_mixed
  have G_of := pr__law_of T D__law_of G_draw
  have G_begin := pr__law_begin (P := (PySem.Challenge.rw_everyleaf_k01_whole_the_order_of_documen).prog) (w := w) (base := base) (k := 0) T D__law_begin
  have G_size := pr__law_size (P := (PySem.Challenge.rw_everyleaf_k01_whole_the_order_of_documen).prog) (w := w) (base := base) (k := 0) T D__law_size 20
  have G_lkey := pr__law_key (P := (PySem.Challenge.rw_everyleaf_k01_whole_the_order_of_documen).prog) (w := w) (base := base) (k := 0) T D__law_key 7
  have G_parts := pr__law_parts (P := (PySem.Challenge.rw_everyleaf_k01_whole_the_order_of_documen).prog) (w := w) (base := base) (k := 0) T D__law_parts 20
  have G_with := pr__law_with (P := (PySem.Challenge.rw_everyleaf_k01_whole_the_order_of_documen).prog) (w := w) (base := base) (k := 0) T D__law_with 20
  have G_ahead := pr__law_ahead (k := 20) T D__law_ahead G_size (by decide) 20 (by decide)
  have G_like := pr__law_like (P := (PySem.Challenge.rw_everyleaf_k01_whole_the_order_of_documen).prog) (w := w) (base := base) (k := 0) T D__law_like
  have G_right := pr__law_right (k := 40) T D__law_right (G_cmp.mono (by decide)) (G_ahead.mono (by decide)) (G_like.mono (by decide))
  have G_exch := pr__law_exchange (k := 40) T D__law_exchange (G_cmp.mono (by decide)) (G_ahead.mono (by decide)) (G_of.mono (by decide)) (G_parts.mono (by decide)) (G_with.mono (by decide))
  have G_ref := pr__law_refused (k := 40) T TS D__law_refused (G_cmp.mono (by decide))
  have G_doc := pr__law_document (k := 3) T D__law_document G_of (by decide) 3
  have G_reach := pr__law_reached (P := (PySem.Challenge.rw_everyleaf_k01_whole_the_order_of_documen).prog) (w := w) (base := base) (k := 0) T D__law_reached
  have G_firsts := pr__law_firsts T D__law_firsts G_lkey
  have G_rows := pr__law_rows (P := (PySem.Challenge.rw_everyleaf_k01_whole_the_order_of_documen).prog) (w := w) (base := base) (k := 0) T D__law_rows
  have G_all := pr__law_all T D__law_all G_rows
  have G_shape := pr__law_shape (k := 3) T D__law_shape (G_draw.mono (by decide)) (G_of.mono (by decide)) (G_reach.mono (by decide))
  exact pr_law (fI := ia K) (k := 41) T D_law (G_begin.mono (by decide)) (G_shape.mono (by decide)) (G_firsts.mono (by decide)) (G_all.mono (by decide)) (G_doc.mono (by decide)) (G_of.mono (by decide)) (G_right.mono (by decide)) (G_exch.mono (by decide)) (G_cmp.mono (by decide)) (G_ref.mono (by decide)) (G_like.mono (by decide))
end K01
open PySem PySem.W PySem.Calls PyProof.Rows
theorem PySem.Challenge.cw_everyleaf_k01_whole_the_order_of_documen_holds : PySem.Challenge.rw_everyleaf_k01_whole_the_order_of_documen.Holds := by
  w_on; o_law
  refine HandSHeadRun.head_any (r := OpenLaw.row PySem.Challenge.rw_everyleaf_k01_whole_the_order_of_documen) (q := view (OpenLaw.row PySem.Challenge.rw_everyleaf_k01_whole_the_order_of_documen).prog [37]) (H := K01.hk) (ob := K01.ob) (M := 4000) (loose := K01.loose) (d := HandSHeadRun.topDef (OpenLaw.row PySem.Challenge.rw_everyleaf_k01_whole_the_order_of_documen).prog 37) (kwd := []) K01.ob_eq
    (by kernel_rfl) (fun s => by kernel_rfl) K01.run (by kernel_rfl) (by kernel_rfl) (by kernel_rfl) (by rfl) (by first | assumption | decide +kernel) (by decide +kernel) ⟨rfl, rfl, rfl, rfl, rfl, by decide +kernel⟩ ?hw ?hc
  case hw => w_witness2
  case hc =>
    refine Lf.walk_ofG (l := PySem.Challenge.rw_everyleaf_k01_whole_the_order_of_documen) (n := 63) (k := 42) (x := "script") rfl (by decide) (by kernel_rfl) ⟨rfl, by decide, by decide⟩ ?F (fun w H s e s' z => by
      obtain ⟨_, _, _, _, _, _, _, _, _, _, _, _, z⟩ := z
      exact z)
    intro w mg fa h Y G hmg0
    obtain ⟨K, KX, c⟩ := Y
    have hnm : (HandSHeadRun.topDef (OpenLaw.row PySem.Challenge.rw_everyleaf_k01_whole_the_order_of_documen).prog 37).name = ("law" : PySem.Str) := by kernel_rfl
    refine ⟨K, KX, [He.cT K ("is_name", none), He.cT K ("key_of", none)], K01.spLaw K (He.cT K ("is_name", none)).2 (He.cT K ("key_of", none)).2, fun p hp => ?_, fun p hp => ?_, fun p hp => ?_, fun H a ns hl hT hA hS => ?_, fun base X G2 TB => ?_⟩
    · rcases List.mem_cons.mp hp with rfl | hp
      · exact c.empty _ (List.mem_cons_self ..)
      · rcases List.mem_cons.mp hp with rfl | hp
        · exact c.empty _ (List.mem_cons_of_mem _ (List.mem_cons_self ..))
        · cases hp
    · rcases List.mem_cons.mp hp with rfl | hp
      · exact c.out _ (List.mem_cons_self ..)
      · rcases List.mem_cons.mp hp with rfl | hp
        · exact c.out _ (List.mem_cons_of_mem _ (List.mem_cons_self ..))
        · cases hp
    · rcases List.mem_cons.mp hp with rfl | hp
      · exact codeHd_of_K KX (c.hd _ (List.mem_cons_self ..))
      · rcases List.mem_cons.mp hp with rfl | hp
        · exact codeHd_of_K KX (c.hd _ (List.mem_cons_of_mem _ (List.mem_cons_self ..)))
        · cases hp
    · have t1 := hT _ (List.mem_cons_self ..)
      have t2 := hT _ (List.mem_cons_of_mem _ (List.mem_cons_self ..))
      refine ⟨K01.F0 (He.cT K ("is_name", none)).2 (He.cT K ("key_of", none)).2, a, ns, rfl, ⟨⟨#[], t1, trivial⟩, ⟨#[], t2, trivial⟩⟩, K01.F0_1 _ _, K01.F0_2 _ _, fun n => ?_, hS, hl, fun _ => rfl⟩
      rcases n with e | e
      · exact hA _ (List.mem_cons_self ..) e.symm
      · exact hA _ (List.mem_cons_of_mem _ (List.mem_cons_self ..)) e.symm
    · rw [hnm]
      exact K01.law_all KX G c (TB _ (List.mem_cons_self ..)) (TB _ (List.mem_cons_of_mem _ (List.mem_cons_self ..)))

