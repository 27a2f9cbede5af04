import PyProof.Rows.All
import Wide.All
import OpenK.AllK
import Wide.FinOn
import PyProof.EqAt
import PyProof.EqKinds
import PyProof.TupleCall
import PyProof.ReprRoads
import KE.KStateDown
import KE.SortData
import KE.DataCmp
import HandS.ForMost
import HandS.ForExc
import HandS.TryMany
import HandS.TupAny
import HandS.Evl
import HandS.Conv
import HandS.Walk
import HandS.Zip
import HandS.AnyAll
import HandS.Lambda
import HandS.IsInst
import HandS.More
import HandS.Deep
import HandS.DictTup
import HandS.Defaults
import HandS.Head0
import HandS.Head1
import HandS.Head2
import HandS.HeadEnd
import HandS.HeadHook1
import HandS.HeadHook2
import HandS.HeadHook3
import HandS.HeadHook4
import HandS.HeadWalk
import HandS.EndTab
import KE.GoesEnum
import KE.KExcSuper
import HandS.ExcSuper
import KE.KDictSum
import HandS.DictEq
import HandS.HeadNt
import HandS.ExcIs
import KE.KDflt
import KE.DataEq
import HandS.Wide
import HandS.Flow
import HandS.StrMore
import HandS.TupMul
import HandS.RevTup
import HandS.SetKeys
import HandS.Strs
import PyProof.AutoSeq1
import KE.KExcIs
import PyProof.ReprBulk
import PyProof.Rows.ReprShort
import PyProof.StrOps2
import PySem.Challenge.RW_everyleaf_k00_whole_documents_and_places
set_option Elab.async false
set_option linter.all false
set_option maxRecDepth 100000
set_option maxHeartbeats 4000000
/-! Leaf A: what is kept of the heap (Kp), promises by name (Pr), data over the heap, first rules of our own. -/
namespace Lf
open PySem PySem.Spec PyProof.Rows L2

/-! ### what stays: everything but what N says -/
def Kp (N : Addr → Prop) (H H' : Hp) : Prop := ∀ a o, ¬ N a → H a = some o → H' a = some o
theorem Kp.refl {N : Addr → Prop} {H : Hp} : Kp N H H := fun _ _ _ h => h
theorem Kp.trans {N : Addr → Prop} {H H1 H2 : Hp} (a : Kp N H H1) (b : Kp N H1 H2) : Kp N H H2 := fun x o n h => b x o n (a x o n h)
theorem Kp.mono {N M : Addr → Prop} {H H1 : Hp} (a : Kp N H H1) (h : ∀ x, N x → M x) : Kp M H H1 := fun x o n e => a x o (fun z => n (h x z)) e
theorem Kp.new {N : Addr → Prop} {H : Hp} {p : Addr} {o : HO} (h : H p = none) : Kp N H (upd H p o) := fun a u _ e => by
  rw [upd_ne (ne_of_none e h)]
  exact e
theorem Kp.mut {N : Addr → Prop} {H : Hp} {p : Addr} {o : HO} (h : N p) : Kp N H (upd H p o) := fun a u n e => by
  rw [upd_ne (fun z => n (by rw [z]; exact h))]
  exact e
theorem Kp.of_none {N : Addr → Prop} {H H' : Hp} {p : Addr} (k : Kp N H H') (hn : ¬ N p) (h : H' p = none) : H p = none := by
  cases q : H p with
  | none => rfl
  | some o =>
    rw [k p o hn q] at h
    cases h

/-! ### tuples stay, whatever runs -/
def Ts (H H' : Hp) : Prop := ∀ a xs, Rd H a (.tup xs) → Rd H' a (.tup xs)
theorem Ts.refl {H : Hp} : Ts H H := fun _ _ h => h
theorem Ts.trans {H H1 H2 : Hp} (a : Ts H H1) (b : Ts H1 H2) : Ts H H2 := fun x xs h => b x xs (a x xs h)
theorem Ts.of_un {fs ex : List Addr} {H H' : Hp} {h h' : Heap} (u : Un fs ex H H' h h') : Ts H H' := fun a xs r => by
  rcases r with r | ⟨ob, r⟩
  · exact .inl (u.tups a xs r)
  · exact .inr ⟨ob, u.frzs a ob _ r⟩

/-- a def's promise where no repr runs around it: called at room k it keeps sp; tuples stay -/
structure FnG (P : Program) (w : World) (K : PySem.W.Frag) (mg : Str → Option Value) (base : Heap) (k : Nat) (f : Addr) (fd : FuncData) (ps : List Str) (sp : Sp) : Prop where
  len : ∀ vs H Q E, sp vs H Q E → vs.length = ps.length
  run : ∀ (A : Around) (outer : List Env) (s : Shared) (H : Hp) (args : Args) (us : List Value) (vs : List V) (Q : VK) (E : XK), A.guards = some [] → Room k A → Env0 P w K mg base A outer s H → BindsTo s fd args (ps.zip us) → Vals vs us →
    sp vs H Q E → codeAny (model P w) A (.call (.ref f) args) (CR (L2.CX P w) outer P w H s Q E) s
/-- the wish, told that tuples stood -/
def wT (H : Hp) (Q : VK) : VK := fun v H' => Ts H H' → Q v H'
theorem CE.ts {outer : List Env} {P : Program} {w : World} {H : Hp} {s : Shared} {Q : VK} {u : Value} {s' : Shared} (c : CE outer P w H s (wT H Q) u s') : CE outer P w H s Q u s' := by
  obtain ⟨v, H', a, b, un, d, e, q⟩ := c
  exact ⟨v, H', a, b, un, d, e, q (Ts.of_un un)⟩
/-- THE RULE for a def by its body -/
theorem fn_ofG {P : Program} {w : World} {K : PySem.W.Frag} {mg : Str → Option Value} {base : Heap} {k : Nat} {f : Addr} {x qual : Str} {st : Stmt} {fd : FuncData} {N ps : List Str} {sp : Sp} (F : Fun K x qual st f fd) (S : FnScope N ps (defScope st))
    (len : ∀ vs H Q E, sp vs H Q E → vs.length = ps.length)
    (hbody : ∀ (cdv : Value) (A : Around) (outer : List Env) (s : Shared) (H : Hp) (vs : List V) (Q : VK) (E : XK), A.guards = some [] → Room k (A.deeper (envOfC qual (defScope st) s.heap.objs.size f cdv)) → sp vs H Q E →
      ∃ t, PSs (cxOf (L2.CX P w) P w K mg base N qual (defScope st) f cdv A outer s H E) (defBody st) t ∧ t { nx := fun _ H' => Q .non H', rt := Q } (start N vs) H) : FnG P w K mg base (k + 1) f fd ps sp := by
  obtain ⟨oc, od, kV, doc, pm, an, cdv, ct, osl, rfl, lk, hcd⟩ := F.ex
  refine ⟨len, fun A outer s H args us vs Q E hG hr e0 hb r hsp => ?_⟩
  have KX : K.In s.heap := e0.mod.kin.keeps fun b o e => (e0.bs b o e).1
  have lim : s.heap.NoLimit := e0.mod.nolimit.keeps fun b o e => (e0.bs b o e).1
  have hkind : ∀ y ∈ ps.zip us, (defScope st).names.lookup y.1 = some .local ∨ ((defScope st).names.lookup y.1 = some .cell ∧ ((cellsFrom (s.heap.objs.size + 1) (defScope st).names []).lookup y.1).isSome = true) := fun y hy => by
    rcases S.par y.1 (List.of_mem_zip (show (y.1, y.2) ∈ ps.zip us from hy)).1 with q | q
    · exact .inl q
    · exact .inr ⟨q, PySem.W.cellsFrom_some _ _ _ (.inl q)⟩
  refine codeAny_call_function hr.depth (KX _ _ lk) rfl S.co S.gen rfl (PySem.W.codeRec_of KX hcd) (hb _ _ _ _ ?_)
  refine wpAny_newFunctionEnv_cells S.kind hkind fun env he s1 x1 => ?_
  subst he
  refine ⟨lim.keeps x1.toInCall.keep, codeAny_func ?_⟩
  obtain ⟨t, ht, hq⟩ := hbody cdv A outer s H vs Q E hG (hr.deeper _) hsp
  have I0 := inv_start (CX := L2.CX P w) (E := E) S hr.hd e0 (len _ _ _ _ hsp) r x1
  refine wpAny_mono (ht.run [] s1 (start N vs) H _ I0 hq) (fun fl s' hs => ?_) fun _ _ hs => hs
  cases fl with
  | ret u =>
    obtain ⟨v, σ', H', J, rv, q⟩ := hs
    exact ⟨v, H', J.os, J.bare, J.base, J.hok, rv, q⟩
  | next =>
    obtain ⟨σ', H', J, q⟩ := hs
    exact ⟨V.non, H', J.os, J.bare, J.base, J.hok, rfl, q⟩
  | brk => exact hs.elim fun _ z => z.elim fun _ z => z.2.elim
  | cont => exact hs.elim fun _ z => z.elim fun _ z => z.2.elim

/-- the promise of the def x, by its name -/
structure Pr (P : Program) (w : World) (K : PySem.W.Frag) (mg : Str → Option Value) (base : Heap) (k : Nat) (x : Str) (ps : List Str) (sp : Sp) : Prop where
  ex : ∃ (f : Addr) (fd : FuncData), mg x = some (.ref f) ∧ PySem.W.keepIn K (.ref f) = true ∧ FnG P w K mg base k f fd ps sp ∧ Binds K fd ps []
/-- f(..): the promise, told that tuples stood -/
def tC1 (sp : Sp) (E : L2.St → XK) (t : TA) : TE := fun σ H Q => t σ H fun vs H1 => sp vs H1 (wT H1 Q) (E σ)
section
variable {P : Program} {w : World} {K : PySem.W.Frag} {mg : Str → Option Value} {base : Heap} {X : Cx} {x : Str} {k j : Nat} {ps : List Str} {sp sp' : Sp} {p pos : Pos} {e : Expr} {es : List Expr} {t : TA}
theorem Pr.mono (G : Pr P w K mg base j x ps sp) (h : j ≤ k) : Pr P w K mg base k x ps sp := by
  obtain ⟨f, fd, a, b, c, d⟩ := G.ex
  exact ⟨f, fd, a, b, ⟨c.len, fun A outer s H args us vs Q E hG hr => c.run A outer s H args us vs Q E hG (hr.mono h)⟩, d⟩
theorem Pr.imp (G : Pr P w K mg base j x ps sp) (h : ∀ vs H Q E, sp' vs H Q E → sp vs H Q E) : Pr P w K mg base j x ps sp' := by
  obtain ⟨f, fd, a, b, c, d⟩ := G.ex
  exact ⟨f, fd, a, b, ⟨fun vs H Q E q => c.len vs H Q E (h _ _ _ _ q), fun A outer s H args us vs Q E hG hr he hb hv hs => c.run A outer s H args us vs Q E hG hr he hb hv (h _ _ _ _ hs)⟩, d⟩
/-- f(a, ..); E: what is wished of an error that leaves it, by the slots -/
theorem pcallE {E : L2.St → XK} (hG : X.A.guards = some []) (G : Pr X.prog X.w X.K X.mg X.base k x ps sp) (hr : Room k X.A) (hx : ∀ σ, PassesAt (L2.CX X.prog X.w) X σ (E σ)) (ha : PA X (e :: es) t) (hg : Gl X x)
    (hdb : (x == ("__debug__" : Str)) = false) (he : starEach (e :: es) X.env = (false, eval e X.env) :: starEach es X.env) (hpl : (backTo pos (starEach es X.env)).any (·.1) = false) :
    PE X (.Call (.Name x p) (e :: es) [] pos) (tC1 sp E t) := by
  obtain ⟨f, fd, hm, hk, F, hb⟩ := G.ex
  refine ⟨fun pins s σ H Q I h => ?_⟩
  refine wpAny_Call_Name_kw (ld_glob I hg hm ?_ hdb)
  refine PySem.W.callWith_K (h₀ := X.base) I.ok.mod.kin hk (thn (ha.run pos pins s σ H _ I h) fun us s1 ⟨vs, H1, I1, r, q⟩ => ⟨I1.kIn, ?_⟩) he hpl
  have hl : us.length = ps.length := by
    rw [← r.length]
    exact F.len _ _ _ _ q
  have bt := hb s1 us I1.kIn (by rw [List.append_nil]; exact hl)
  rw [List.append_nil] at bt
  refine wpAny_call (codeAny_mono (F.run X.A X.stack s1 H1 ⟨us, []⟩ us vs _ (E σ) hG hr I1.env0 bt r q) fun z s' hq => ?_)
  cases z with
  | error e => exact hx σ pins H1 s1 e s' I1 hq
  | ok fl =>
    cases fl with
    | ret u => exact I1.after (CE.ts hq)
    | next => exact False.elim hq
    | brk => exact False.elim hq
    | cont => exact False.elim hq
/-- of a def that lets nothing out -/
theorem pcall (hG : X.A.guards = some []) (G : Pr X.prog X.w X.K X.mg X.base k x ps sp) (hr : Room k X.A) (ha : PA X (e :: es) t) (hg : Gl X x := by rfl)
    (hdb : (x == ("__debug__" : Str)) = false := by decide) (he : starEach (e :: es) X.env = (false, eval e X.env) :: starEach es X.env := by rfl) (hpl : (backTo pos (starEach es X.env)).any (·.1) = false := by rfl) :
    PE X (.Call (.Name x p) (e :: es) [] pos) (tC1 sp (fun _ => E0) t) :=
  pcallE hG G hr (fun σ _ _ _ _ _ _ c => by
    obtain ⟨_, _, _, _, _, _, _, _, _, _, _, _, z⟩ := c
    exact z.elim) ha hg hdb he hpl
/-- what leaves it is taken by our own wish -/
theorem pcallX {W : WX} (hG : X.A.guards = some []) (G : Pr X.prog X.w X.K X.mg X.base k x ps sp) (hr : Room k X.A) (tk : Takes X W) (ha : PA X (e :: es) t) (hg : Gl X x := by rfl)
    (hdb : (x == ("__debug__" : Str)) = false := by decide) (he : starEach (e :: es) X.env = (false, eval e X.env) :: starEach es X.env := by rfl) (hpl : (backTo pos (starEach es X.env)).any (·.1) = false := by rfl) :
    PE X (.Call (.Name x p) (e :: es) [] pos) (tC1 sp (WE W) t) := pcallE hG G hr (fun σ => passAt tk σ) ha hg hdb he hpl
/-- a def of the text, its body, makes its promise -/
theorem Pr.of {fd : FuncData} {f : Addr} {st : Stmt} {N : List Str} (F : Fun K x x st f fd) (hm : mg x = some (.ref f)) (hb : Binds K fd ps []) (S : FnScope N ps (defScope st)) (len : ∀ vs H Q E, sp vs H Q E → vs.length = ps.length)
    (hbody : ∀ (cdv : Value) (A : Around) (outer : List Env) (s : Shared) (H : Hp) (vs : List V) (Q : VK) (E : XK), A.guards = some [] → Room k (A.deeper (envOfC x (defScope st) s.heap.objs.size f cdv)) → sp vs H Q E →
      ∃ t, PSs (cxOf (L2.CX P w) P w K mg base N x (defScope st) f cdv A outer s H E) (defBody st) t ∧ t { nx := fun _ H' => Q .non H', rt := Q } (start N vs) H) : Pr P w K mg base (k + 1) x ps sp :=
  ⟨f, fd, hm, F.kp, fn_ofG F S len hbody, hb⟩
end
end Lf

set_option Elab.async false
set_option linter.all false
set_option maxRecDepth 100000
set_option maxHeartbeats 4000000
/-! Leaf B: data over the abstract heap (Dp), kept; order, equality, repr, isinstance of data. -/
namespace Lf
open PySem PySem.Spec PyProof.Rows L2
open PySem.W (alike alikeAll dataLt)

/-! ### data stays -/
theorem rd_kp {N : Addr → Prop} {H H' : Hp} {a : Addr} {u : HO} (k : Kp N H H') (hn : ¬ N a) (h : Rd H a u) : Rd H' a u := by
  rcases h with h | ⟨o, h⟩
  · exact .inl (k a _ hn h)
  · exact .inr ⟨o, k a _ hn h⟩
/-- no list or tuple stands where N may write -/
def Clear (N : Addr → Prop) (H : Hp) : Prop := ∀ a xs, N a → ¬ Rd H a (.tup xs)
section
variable {K : PySem.W.Frag}
mutual
/-- data of tuples and plain things alone -/
inductive Dt (K : PySem.W.Frag) (H : Hp) : V → PyData → Prop
  | non : Dt K H .non .none
  | bl (b : Bool) : Dt K H (.bl b) (.bool b)
  | int (i : Int) : Dt K H (.int i) (.int i)
  | str (x : Str) : Dt K H (.str x) (.str x)
  | tup {a : Addr} {xs : List V} {ds : List PyData} : SqT K H a xs → DtAll K H xs ds → Dt K H (.ref a) (.tuple ds)
inductive DtAll (K : PySem.W.Frag) (H : Hp) : List V → List PyData → Prop
  | nil : DtAll K H [] []
  | cons {v : V} {vs : List V} {d : PyData} {ds : List PyData} : Dt K H v d → DtAll K H vs ds → DtAll K H (v :: vs) (d :: ds)
end
theorem sqT_ts {H H' : Hp} {a : Addr} {xs : List V} (k : Ts H H') (h : SqT K H a xs) : SqT K H' a xs := by
  rcases h with h | h
  · exact .inl (k a xs h)
  · exact .inr h
mutual
theorem Dt.ts {H H' : Hp} (k : Ts H H') : ∀ (d : PyData) (v : V), Dt K H v d → Dt K H' v d
  | .none, _, h => by cases h; exact .non
  | .bool b, _, h => by cases h; exact .bl b
  | .int i, _, h => by cases h; exact .int i
  | .str x, _, h => by cases h; exact .str x
  | .tuple ds, _, h => by
    cases h with
    | tup hs ha => exact .tup (sqT_ts k hs) (DtAll.ts k ds _ ha)
  | .list _, _, h => by cases h
  | .dict _, _, h => by cases h
theorem DtAll.ts {H H' : Hp} (k : Ts H H') : ∀ (ds : List PyData) (vs : List V), DtAll K H vs ds → DtAll K H' vs ds
  | [], _, h => by cases h; exact .nil
  | d :: ds, _, h => by
    cases h with
    | cons h1 h2 => exact .cons (Dt.ts k d _ h1) (DtAll.ts k ds _ h2)
end
mutual
theorem Dt.dp {H : Hp} : ∀ (d : PyData) (v : V), Dt K H v d → Dp K H v d
  | .none, _, h => by cases h; exact .non
  | .bool b, _, h => by cases h; exact .bl b
  | .int i, _, h => by cases h; exact .int i
  | .str x, _, h => by cases h; exact .str x
  | .tuple ds, _, h => by
    cases h with
    | tup hs ha => exact .tup hs (DtAll.dp ds _ ha)
  | .list _, _, h => by cases h
  | .dict _, _, h => by cases h
theorem DtAll.dp {H : Hp} : ∀ (ds : List PyData) (vs : List V), DtAll K H vs ds → DpAll K H vs ds
  | [], _, h => by cases h; exact .nil
  | d :: ds, _, h => by
    cases h with
    | cons h1 h2 => exact .cons (Dt.dp d _ h1) (DtAll.dp ds _ h2)
end
theorem DtAll.length {H : Hp} : ∀ {ds : List PyData} {vs : List V}, DtAll K H vs ds → vs.length = ds.length
  | [], _, h => by cases h; rfl
  | d :: ds, _, h => by
    cases h with
    | cons _ h2 => show _ + 1 = _ + 1; rw [DtAll.length h2]
theorem DtAll.get {H : Hp} : ∀ {ds : List PyData} {vs : List V} {i : Nat} {v : V}, DtAll K H vs ds → vs[i]? = some v → ∃ d, ds[i]? = some d ∧ Dt K H v d
  | [], _, _, _, h, e => by cases h; simp at e
  | d :: ds, _, 0, v, h, e => by
    cases h with
    | cons h1 h2 =>
      cases e
      exact ⟨d, rfl, h1⟩
  | d :: ds, _, i + 1, v, h, e => by
    cases h with
    | cons h1 h2 => exact DtAll.get (i := i) h2 (by simpa using e)
theorem DtAll.getD {H : Hp} : ∀ {ds : List PyData} {vs : List V} {i : Nat} {d : PyData}, DtAll K H vs ds → ds[i]? = some d → ∃ v, vs[i]? = some v ∧ Dt K H v d
  | [], _, _, _, h, e => by simp at e
  | d :: ds, _, 0, v, h, e => by
    cases h with
    | cons h1 h2 =>
      cases e
      exact ⟨_, rfl, h1⟩
  | d :: ds, _, i + 1, v, h, e => by
    cases h with
    | cons h1 h2 => exact DtAll.getD (i := i) h2 (by simpa using e)
theorem DtAll.append {H : Hp} : ∀ {ds es : List PyData} {vs ws : List V}, DtAll K H vs ds → DtAll K H ws es → DtAll K H (vs ++ ws) (ds ++ es)
  | [], _, _, _, h, h' => by cases h; exact h'
  | d :: ds, _, _, _, h, h' => by
    cases h with
    | cons h1 h2 => exact .cons h1 (DtAll.append h2 h')
theorem DtAll.take {H : Hp} : ∀ {ds : List PyData} {vs : List V} (n : Nat), DtAll K H vs ds → DtAll K H (vs.take n) (ds.take n)
  | [], _, n, h => by cases h; simp; exact .nil
  | d :: ds, _, 0, h => by simp; exact .nil
  | d :: ds, _, n + 1, h => by
    cases h with
    | cons h1 h2 => exact .cons h1 (DtAll.take n h2)
theorem DtAll.drop {H : Hp} : ∀ {ds : List PyData} {vs : List V} (n : Nat), DtAll K H vs ds → DtAll K H (vs.drop n) (ds.drop n)
  | [], _, n, h => by cases h; simp; exact .nil
  | d :: ds, _, 0, h => h
  | d :: ds, _, n + 1, h => by
    cases h with
    | cons h1 h2 => exact DtAll.drop n h2
theorem Kp.ts {N : Addr → Prop} {H H' : Hp} (k : Kp N H H') (c : Clear N H) : Ts H H' := fun a xs h => rd_kp k (fun n => c a xs n h) h
theorem ts_new {H : Hp} {p : Addr} {o : HO} (h : H p = none) : Ts H (upd H p o) := fun a xs r => by
  rcases r with r | ⟨ob, r⟩
  · exact .inl (by rw [upd_ne (ne_of_none r h)]; exact r)
  · exact .inr ⟨ob, by rw [upd_ne (ne_of_none r h)]; exact r⟩
/-- a list, a dict, a table is written -/
theorem ts_mut {H : Hp} {p : Addr} {o u : HO} (h : H p = some u) (hu : ∀ xs, u ≠ .tup xs) (hf : ∀ ob w, u ≠ .frz ob w) : Ts H (upd H p o) := fun a xs r => by
  rcases r with r | ⟨ob, r⟩
  · refine .inl ?_
    rw [upd_ne (fun z => by rw [z, h] at r; exact hu xs (Option.some.inj r))]
    exact r
  · refine .inr ⟨ob, ?_⟩
    rw [upd_ne (fun z => by rw [z, h] at r; exact hf ob _ (Option.some.inj r))]
    exact r
end

/-! ### rules by data -/
section
variable {X : Cx}
def rLtD (K : PySem.W.Frag) (A : Around) : R2 := fun x y H Q => ∃ d e, Dp K H x d ∧ Dp K H y e ∧ alike d e = true ∧ d ≠ .none ∧ A.units + min d.depth e.depth < cLine ∧ Q (.bl (dataLt d e)) H
theorem op_ltX : OpR X (compareOp .Lt) (rLtD X.K X.A) := by
  intro pins s σ H x y v u Q I rx ry h
  obtain ⟨d, e, hd, he, ha, hn, hu, q⟩ := h
  obtain ⟨as, r1⟩ := Dp.reads I d x v hd rx
  obtain ⟨bs, r2⟩ := Dp.reads I e y u he ry
  exact PySem.W.lt_data r1 r2 ha hn hu ⟨.bl _, H, I, rfl, q⟩
def rEqX (K : PySem.W.Frag) (A : Around) : R2 := fun x y H Q => ∃ d e, Dp K H x d ∧ Dp K H y e ∧ d.canLay0 = true ∧ e.canLay0 = true ∧ A.units + min d.depth e.depth < cLine ∧ Q (.bl (PyData.eqv d e)) H
theorem op_eqX : OpR X (compareOp .Eq) (rEqX X.K X.A) := by
  intro pins s σ H x y v u Q I rx ry h
  obtain ⟨d, e, hd, he, ha, hn, hu, q⟩ := h
  obtain ⟨as, r1⟩ := Dp.reads I d x v hd rx
  obtain ⟨bs, r2⟩ := Dp.reads I e y u he ry
  exact SeqAt.compareEq_reads r1 r2 ha hn hu ⟨.bl _, H, I, rfl, q⟩
/-- xs == [], xs != [], t == (): whatever the items are -/
def rEqL0 (K : PySem.W.Frag) : R2 := fun x y H Q => ∃ a b xs, x = .ref a ∧ y = .ref b ∧ SqL K H a xs ∧ SqL K H b [] ∧ Q (.bl xs.isEmpty) H
def rNeL0 (K : PySem.W.Frag) : R2 := fun x y H Q => ∃ a b xs, x = .ref a ∧ y = .ref b ∧ SqL K H a xs ∧ SqL K H b [] ∧ Q (.bl (!xs.isEmpty)) H
def rEqT0 (K : PySem.W.Frag) : R2 := fun x y H Q => ∃ a b xs, x = .ref a ∧ y = .ref b ∧ SqT K H a xs ∧ SqT K H b [] ∧ Q (.bl xs.isEmpty) H
theorem vals_nil_size {us : List Value} (r : Vals [] us) : us.toArray.size = 0 := by
  cases r
  rfl
theorem op_eqL0 (hu : X.A.units < cLine) : OpR X (compareOp .Eq) (rEqL0 X.K) := by
  intro pins s σ H x y v u Q I rx ry h
  obtain ⟨a, b, xs, rfl, rfl, h1, h2, q⟩ := h
  cases rx
  cases ry
  obtain ⟨i1, v1, p1, _⟩ := I.list h1
  obtain ⟨i2, v2, p2, _⟩ := I.list h2
  have z2 := vals_nil_size v2
  cases v1 with
  | nil => exact SeqAt.eq_listAt (e := fun _ => true) p1.isList p2.isList z2.symm hu (fun j h1 _ => absurd h1 (by simp)) ⟨.bl _, H, I, rfl, q⟩
  | cons r1 r2 => exact SeqAt.eq_list_lengthsAt p1.isList p2.isList (by rw [z2]; simp) hu ⟨.bl _, H, I, rfl, q⟩
theorem op_neL0 (hu : X.A.units < cLine) : OpR X (compareOp .NotEq) (rNeL0 X.K) := by
  intro pins s σ H x y v u Q I rx ry h
  obtain ⟨a, b, xs, rfl, rfl, h1, h2, q⟩ := h
  cases rx
  cases ry
  obtain ⟨i1, v1, p1, _⟩ := I.list h1
  obtain ⟨i2, v2, p2, _⟩ := I.list h2
  have z2 := vals_nil_size v2
  cases v1 with
  | nil => exact SeqAt.RcNeAt.lists (e := fun _ => true) p1.isList p2.isList z2.symm hu (fun j h1 _ => absurd h1 (by simp)) X.prog X.w X.xe _ ⟨.bl _, H, I, rfl, q⟩
  | cons r1 r2 => exact SeqAt.RcNeAt.lists_lengths p1.isList p2.isList (by rw [z2]; simp) hu X.prog X.w X.xe _ ⟨.bl _, H, I, rfl, q⟩
theorem op_eqT0 (hu : X.A.units < cLine) : OpR X (compareOp .Eq) (rEqT0 X.K) := by
  intro pins s σ H x y v u Q I rx ry h
  obtain ⟨a, b, xs, rfl, rfl, h1, h2, q⟩ := h
  cases rx
  cases ry
  obtain ⟨i1, v1, p1, _⟩ := I.tuple h1
  obtain ⟨i2, v2, p2, _⟩ := I.tuple h2
  have z2 := vals_nil_size v2
  refine SeqAt.eq_tupleAt (e := fun _ => true) (show s.heap.IsTuple a i1.toArray from p1) (show s.heap.IsTuple b i2.toArray from p2) hu (fun j _ h2 => absurd h2 (by rw [z2]; omega)) ?_
  refine ⟨.bl xs.isEmpty, H, I, ?_, q⟩
  show Value.bool _ = Value.bool _
  rw [z2]
  cases v1 with
  | nil => rfl
  | cons r1 r2 => simp
/-- isinstance of data -/
def tyD : PyData → String
  | .none => "NoneType"
  | .bool _ => "bool"
  | .int _ => "int"
  | .str _ => "str"
  | .tuple _ => "tuple"
  | .list _ => "list"
  | .dict _ => "dict"
theorem tyX_of {K : PySem.W.Frag} {H : Hp} {v : V} {d : PyData} (h : Dt K H v d) (hk : ∀ a xs, SqT K H a xs → Rd H a (.tup xs) ∨ ∃ o, K.lookup a = some o ∧ o.cls = .type "tuple") : TyX K H v (.type (tyD d)) := by
  cases h with
  | non => exact .base .non
  | bl b => exact .base (.bl b)
  | int i => exact .base (.int i)
  | str x => exact .base (.str x)
  | tup hs ha =>
    rcases hk _ _ hs with (q | ⟨o, q⟩) | ⟨o, q, c⟩
    · exact .base (.tup q)
    · exact .fTuple q
    · exact .kTuple q c
theorem sqT_kinds {K : PySem.W.Frag} {H : Hp} : ∀ a xs, SqT K H a xs → Rd H a (.tup xs) ∨ ∃ o, K.lookup a = some o ∧ o.cls = .type "tuple" := fun a xs h => by
  rcases h with h | ⟨o, its, n, hk, hc, _⟩
  · exact .inl h
  · exact .inr ⟨o, hk, hc⟩
def rIsD (K : PySem.W.Frag) : List V → Hp → VK → Prop := fun xs H Q => ∃ (x : V) (T : String) (d : PyData) (b : Bool), xs = [x, .ty T] ∧ Dt K H x d ∧ kitB (tyD d) T = some b ∧ Q (.bl b) H
theorem call_isD : CallR X (.builtin "isinstance") (rIsD X.K) := by
  intro pins s σ H xs us Q I r h
  obtain ⟨x, T, d, b, rfl, hd, hb, q⟩ := h
  exact call_isi pins s σ H _ us Q I r ⟨x, .ty T, .type (tyD d), .type T, b, rfl, .ty T, tyX_of hd sqT_kinds, kit_ty hb, q⟩
mutual
theorem dp_noDict {K : PySem.W.Frag} {H : Hp} : ∀ (d : PyData) (v : V), Dp K H v d → d.hasDict = false
  | .none, _, _ => rfl
  | .bool _, _, _ => rfl
  | .int _, _, _ => rfl
  | .str _, _, _ => rfl
  | .tuple ds, _, h => by
    cases h with
    | tup hs ha => simp only [PyData.hasDict]; exact dpAll_noDict ds _ ha
  | .list ds, _, h => by
    cases h with
    | lst hs ha => simp only [PyData.hasDict]; exact dpAll_noDict ds _ ha
  | .dict _, _, h => by cases h
theorem dpAll_noDict {K : PySem.W.Frag} {H : Hp} : ∀ (ds : List PyData) (vs : List V), DpAll K H vs ds → PyData.hasDictAll ds = false
  | [], _, _ => rfl
  | d :: ds, _, h => by
    cases h with
    | cons h1 h2 => simp only [PyData.hasDictAll]; rw [dp_noDict d _ h1, dpAll_noDict ds _ h2]; rfl
end
/-- repr of a list, a tuple of data -/
def rReprD (K : PySem.W.Frag) (A : Around) : List V → Hp → VK → Prop := fun xs H Q => ∃ (a : Addr) (d : PyData), xs = [.ref a] ∧ Dp K H (.ref a) d ∧ d.showable = true ∧ d.shown.length ≤ sizeLine ∧ A.units + (d.depth + 1) < cLine ∧ Q (.str d.shown) H
theorem call_reprD (hG : X.A.guards = some []) : CallR X (.builtin "repr") (rReprD X.K X.A) := by
  intro pins s σ H xs us Q I r h
  obtain ⟨a, d, rfl, hd, hs, hl, hu, q⟩ := h
  obtain ⟨u, rfl, ru⟩ : ∃ u, us = [u] ∧ RelV (.ref a) u := by
    cases r with
    | cons r1 r2 =>
      cases r2
      exact ⟨_, rfl, r1⟩
  cases ru
  obtain ⟨as, r1⟩ := Dp.reads I d (.ref a) (.ref a) hd rfl
  refine repr_of_reads' r1 hs (fun z => ?_) hG hu (fun _ _ e => e) (fun h' u tk hk => ?_) hl
  · rw [dp_noDict d _ hd] at z
    cases z
  · exact ⟨.str _, H, I.kept (t' := tk) hk, ⟨u, rfl⟩, q⟩
end
end Lf

set_option Elab.async false
set_option linter.all false
set_option maxRecDepth 100000
set_option maxHeartbeats 4000000
/-! Leaf E: for a, b in enumerate(t), t a tuple. -/
namespace LfE
open PySem PySem.Spec PyProof.Rows L2
open Sem (wp)
open AutoSeq1 (wpAny_loadPart')
theorem meets_enumT {v : Value} {o : Obj} {H : Heap → Prop} (B : Begins v o H) :
    Meets (Builtin.«enumerate.__new__» ⟨[.type "enumerate", v], []⟩) (fun _ R s => H s.heap ∧
      R (.ok (.ret (.ref (s.heap.push o).objs.size))) { s with heap := (s.heap.push o).push { cls := .type "enumerate", data := .fields #[.none, .bool false, .ref s.heap.objs.size, rawInt 0, .none, .none] } }) :=
  .of_wp fun prog w A R s h => by
    obtain ⟨hp, g, d, tk, os⟩ := s
    obtain ⟨h1, h⟩ := h
    have hsub := sub_enumerate
    have q1 : ∀ {A' : Around} {E : Value → Shared → Prop} {Q : Value → Shared → Prop}, Q (.ref hp.objs.size) ⟨hp.push o, g, d, tk, os⟩ → wpAny (model prog w) A' (pyIter v) Q E ⟨hp, g, d, tk, os⟩ :=
      fun q => B.iter prog w _ _ ⟨hp, g, d, tk, os⟩ _ h1 q
    wp_walk using q1
    refine wpAny_stack_any fun st => wpAny_pure ?_
    split
    · rename_i c _ _ _ _ _
      cases (c == Value.type "enumerate")
      · wp_walk using q1
        exact ⟨_, rfl, h⟩
      · wp_walk using q1
        exact ⟨_, rfl, h⟩
    · wp_walk using q1
      exact ⟨_, rfl, h⟩
section
variable {prog : Program} {w : World} {A : Around} {E : Value → Shared → Prop} {s : Shared}
theorem call_enumT {v : Value} {o : Obj} {H : Heap → Prop} {Q : Value → Shared → Prop} (B : Begins v o H) (h1 : H s.heap)
    (h : ∀ h', IsEnum h' (s.heap.objs.size + 1) s.heap.objs.size 0 .none → h'.get? s.heap.objs.size = some o → h'.objs.size = s.heap.objs.size + 2 →
      (∀ b o, s.heap.get? b = some o → h'.get? b = some o) → Q (.ref (s.heap.objs.size + 1)) { s with heap := h' }) :
    wpAny (model prog w) A (call (.type "enumerate") [v]) Q E s := by
  refine callType_new F.called_enumerate (by decide) (F.typeCall_enumerate_1 _) (F.newCall_enumerate_1 _) (fun obj => F.args_object_init_2 obj _) F.entry_enumerate_new
    (meets_enumT B) ⟨h1, ?_⟩
  have hz : (s.heap.push o).objs.size = s.heap.objs.size + 1 := Heap.size_push ..
  show _ ∧ _
  rw [hz]
  have he : IsEnum ((s.heap.push o).push { cls := .type "enumerate", data := .fields #[.none, .bool false, .ref s.heap.objs.size, rawInt 0, .none, .none] }) (s.heap.objs.size + 1) s.heap.objs.size 0 .none := by
    have q := Heap.get?_push_size (s.heap.push o) (o := { cls := .type "enumerate", data := .fields #[.none, .bool false, .ref s.heap.objs.size, rawInt 0, .none, .none] }) rfl
    rw [hz] at q
    exact q
  refine ⟨⟨_, he, rfl⟩, h _ he (Heap.get?_push_of_some _ (Heap.get?_push_size _ B.free)) (by rw [Heap.size_push, hz]) fun b o x => Heap.get?_push_of_some _ (Heap.get?_push_of_some _ x)⟩
end
/-- the tuple at a, its items with their numbers in new pairs -/
def IteT (K : PySem.W.Frag) (a : Addr) : It :=
  ⟨fun i H => ∃ (xs : List V) (x : V), SqT K H a xs ∧ xs[i]? = some x,
    fun i H v H' => ∃ T x, v = .ref T ∧ H T = none ∧ H' = upd H T (.tup [.int (i : Nat), x]) ∧ ∀ xs, SqT K H a xs → xs[i]? = some x,
    fun i H => ∃ xs : List V, SqT K H a xs ∧ xs.length ≤ i⟩
theorem turn_enumT {P : Program} {w : World} {K : PySem.W.Frag} {elts : List Expr} {kk : Nat} {tpos : Pos} (a e it : Addr) :
    Turn P w K (.Tuple elts kk tpos) (IteT K a) [e, it] e (fun i h => (∃ old, IsEnum h e it ((i : Nat) : Int) old) ∧ h.IsTupleIter it a i ∧ e ≠ it) where
  mem := by simp
  obj := fun i h st b hb => by
    obtain ⟨⟨old, he⟩, ⟨o, ho, hc, hd⟩, _⟩ := st
    have e' : b = e ∨ b = it := by simpa using hb
    rcases e' with z | z
    · rw [z]; exact ⟨_, he, fun v q => nomatch q⟩
    · rw [z]; exact ⟨o, ho, fun v q => by rw [hd] at q; cases q⟩
  keep := fun i h h' st k => let ⟨⟨old, he⟩, hi, hne⟩ := st; ⟨⟨old, k e (by simp) _ he⟩, hi.at fun o q => k it (by simp) o q, hne⟩
  item := by
    intro X hP hw hK hc i pins s σ H E I hf st hg
    subst hP hw hK
    obtain ⟨⟨old, he⟩, hit, hne⟩ := st
    obtain ⟨xs, x, hq, hx⟩ := hg
    obtain ⟨its, rv, p, hz⟩ := I.tuple hq
    obtain ⟨u, hu, ru⟩ := rv.get hx
    have pT : s.heap.IsTuple a its.toArray := p
    have hel : e < s.heap.objs.size := Heap.lt_size he
    have hil : it < s.heap.objs.size := by obtain ⟨_, q, _⟩ := hit; exact Heap.lt_size q
    have hea : e ≠ a := fun z => by
      obtain ⟨o, ho, hcl, _⟩ := pT
      rw [← z, he] at ho
      cases ho
      have hcl2 : Value.type "enumerate" = Value.type "tuple" := hcl
      exact absurd hcl2 (by decide)
    have hia : a ≠ it := fun z => by
      obtain ⟨o, ho, hcl, _⟩ := pT
      obtain ⟨o2, ho2, hc2, _⟩ := id hit
      rw [z, ho2] at ho
      cases ho
      rw [hc2] at hcl
      exact absurd hcl (by decide)
    have D := Draws.tuple (prog := X.prog) (w := X.w) (A := X.A.in1) (I.ok.hd hc) it a hia its.toArray
    have hlt : i < its.toArray.size := by
      obtain ⟨h1, _⟩ := List.getElem?_eq_some_iff.mp hu
      simpa using h1
    refine wpAny_pyNext_enum_itemD D he ⟨hit, pT⟩ hlt hne (by simp; exact ⟨hne, hea⟩) fun y h' tk hy ho ⟨hit', _⟩ hT hsz hk => ?_
    have hyu : y = u := by
      have q : its[i]? = some y := by simpa using hy
      rw [hu] at q
      exact (Option.some.inj q).symm
    subst hyu
    refine ⟨_, rfl, wpAny_letOwnedTupleGo_enum (s := { s with heap := h', toks := tk + 1 }) ho fun h'' he' sb => ?_⟩
    have hT2 : h''.get? s.heap.objs.size = some { cls := .type "tuple", data := .seq #[.int i tk, y] } := (sb.2 _ (Nat.ne_of_gt hel)).trans hT
    have new : ObjOk X.prog X.w (upd H s.heap.objs.size (.tup [.int (i : Nat), x])) h'' s.heap.objs.size (.tup [.int (i : Nat), x]) :=
      ⟨by show 2 ≤ sizeLine; decide, [.int i tk, y], .cons ⟨_, rfl⟩ (.cons ru .nil), ⟨_, hT2, rfl, _, rfl⟩⟩
    have I1 : Inv X pins σ (upd H s.heap.objs.size (.tup [.int (i : Nat), x])) { s with heap := h'', toks := tk + 1 } :=
      I.turnedNew (ch := [e, it]) (fun b ob hb q => (sb.2 b (fun z => hb (by simp [z]))).trans (hk b ob (fun z => hb (by simp [z])) (fun z => hb (by simp [z])) q)) hf (Nat.le_refl _) new
    refine ⟨.ref s.heap.objs.size, _, I1, rfl, ⟨_, x, rfl, I.hok.fresh (Nat.le_refl _), rfl, fun ys hy2 => by rw [I.tuple_inj hy2 hq]; exact hx⟩, ⟨⟨y, ?_⟩, hit'.at fun o q => (sb.2 it (Ne.symm hne)).trans q, hne⟩, fun b hb => ?_⟩
    · have e1 : ((i + 1 : Nat) : Int) = (i : Int) + 1 := by omega
      rw [e1]; exact he'
    · have hb' : b < s.heap.objs.size := by
        have e' : b = e ∨ b = it := by simpa using hb
        rcases e' with z | z
        · rw [z]; exact hel
        · rw [z]; exact hil
      rw [upd_ne (Nat.ne_of_lt hb')]
      exact (hf b hb).1
  done := by
    intro X hP hw hK hc i pins s σ H E I hf st hg
    subst hP hw hK
    obtain ⟨⟨old, he⟩, hit, hne⟩ := st
    obtain ⟨xs, hq, hx⟩ := hg
    obtain ⟨its, rv, p, hz⟩ := I.tuple hq
    have pT : s.heap.IsTuple a its.toArray := p
    obtain ⟨f0, f1, f2, f3, f4, f5⟩ := hf it (by simp)
    have hl := rv.length
    have hT : s.TypeIs (.ref e) "enumerate" := ⟨_, he, rfl⟩
    unfold pyNext
    refine wpAny_bind (wpAny_attempt (wpAny_callSpecial?_slot (name := Str.ofString "__next__") hT F.slot_enumerate_next
      (wpAny_call_entry F.slot_enumerate_next hT F.entry_enumerate_next ?_ (F.args_enumerate_next_1 _))))
    show wpAny _ _ (field (.ref e) 2 >>= _) _ _ _
    refine wpAny_bind (wpAny_field he rfl (x := .ref it) rfl ?_)
    refine wpAny_bind (wpAny_nextOf_tuple_end (I.ok.hd hc) hit pT (by simp; omega) fun h' x he' hx' => ?_)
    obtain ⟨o, ho, hcc⟩ := hx'
    refine wpAny_bind (wpAny_isInstance (T := "StopIteration") (b := true) ⟨o, ho, hcc⟩ isSubtype_stop ?_)
    exact wpAny_pure ⟨rfl, I.turned (t' := s.toks) (fun b o hb q => he' b o hb q) f0 f1 f3 f4 f5⟩
  self := fun A i s Q E st h => let ⟨⟨_, he⟩, _⟩ := st; wpAny_pyIter_enum he h
def iEnumT (K : PySem.W.Frag) (ta : TA) : TI := fun σ H R => ta σ H fun vs H1 => ∃ a xs, vs = [.ref a] ∧ SqT K H1 a xs ∧ R (IteT K a) H1
theorem pi_enumT {X : Cx} {e : Expr} {ta : TA} {p pos tpos : Pos} {elts : List Expr} {kk : Nat} (hg : Gl X "enumerate") (hm : X.mg "enumerate" = none) (ha : PA X [e] ta) (hs : starEach [e] X.env = [(false, eval e X.env)] := by rfl) :
    PI X (.Tuple elts kk tpos) (.Call (.Name "enumerate" p) [e] [] pos) (iEnumT X.K ta) := by
  refine ⟨fun pins s σ H R I h => ?_⟩
  refine Call_ (ld_blt I hg hm boot_enumerate (PyProof.Rows.callWith_type1 (thn (ha.run pos pins s σ H _ I h) fun us s1 ⟨vs, H1, I1, r1, q1⟩ => ?_) hs rfl))
  obtain ⟨a, xs, ex, hq, q⟩ := q1
  subst ex
  cases r1 with
  | cons r rr =>
    cases rr
    cases r
    obtain ⟨its, rv, p', hz⟩ := I1.tuple hq
    have pT : s1.heap.IsTuple a its.toArray := p'
    refine call_enumT (begins_tuple a its.toArray) pT fun h' he hit hsz hk => wpAny_pyIter_enum he ?_
    have I2 : Inv X pins σ H1 { s1 with heap := h' } := I1.kept (t' := s1.toks) hk
    refine ⟨s1.heap.objs.size + 1, [s1.heap.objs.size + 1, s1.heap.objs.size], _, _, H1, rfl, I2, turn_enumT a (s1.heap.objs.size + 1) s1.heap.objs.size, ⟨⟨.none, he⟩, ⟨_, hit, rfl, rfl⟩, Nat.succ_ne_self _⟩, fun b hb => ?_, q⟩
    have e' : b = s1.heap.objs.size + 1 ∨ b = s1.heap.objs.size := by simpa using hb
    have hle : s1.heap.objs.size ≤ b := by
      rcases e' with z | z
      · rw [z]; exact Nat.le_add_right _ _
      · rw [z]; exact Nat.le_refl _
    exact I1.fpOk hle (I1.hok.fresh hle)
end LfE

set_option Elab.async false
set_option linter.all false
set_option maxRecDepth 100000
set_option maxHeartbeats 4000000
/-! Leaf X: an own error class whose __init__ says super().__init__('..') and self.f = f, over a chain of own classes down to ValueError. -/
namespace LfX
open PySem PySem.W PySem.Calls PyProof.Rows PySem.HandSPX
/-! ### the text of such an __init__ -/
def iArgs (par : Str) (p1 p2 : Pos) : Arguments := { posonlyargs := [], args := [{ arg := "self", annotation := none, pos := p1 }, { arg := par, annotation := none, pos := p2 }], vararg := none, kwonlyargs := [], kw_defaults := [], kwarg := none, defaults := [] }
def iStm1 (msg : Str) (j : Nat) (a1 a2 a3 a4 a5 a6 : Pos) : Stmt := .Expr (.Call (.Attribute (.Call (.Name "super" a1) [] [] a2) "__init__" a3) [.Constant (.str msg) j a4] [] a5) a6
def iStm2 (fld : Str) (q1 q2 q3 q4 : Pos) : Stmt := .Assign [.Attribute (.Name "self" q1) fld q2] (.Name fld q3) q4
def iScope (fld : Str) : Scope := { kind := .function, names := [(PySem.Str.ofString "self", .local), (fld, .local), (PySem.Str.ofString "__class__", .free), (PySem.Str.ofString "super", .globalImplicit)], isGenerator := false, isCoroutine := false, more := [] }
/-- what the written part says of the class x at C, its __init__ at fI, its one field -/
structure SupTxt (P : Program) (K : Frag) (mg : Str → Option Value) (x : Str) (C fI : Addr) (fld : Str) : Prop where
  gC : mg x = some (.ref C)
  cls : ∃ nm q N bs bm sn sub ab col dd k0 k1 k2 k3 k5, K.lookup C = some (excClassObj nm q C N bs bm true sn sub ab col dd k0 k1 k2 k3 k5 "ValueError.__new__") ∧ refsVE bm = true
  sup : ks_superIn K C C "__init__" = some (some (.builtin "ValueError.__init__"))
  subVE : subIn K (.ref C) (.type "ValueError") = some true
  selfsub : mroIn K C (.ref C) = some true
  opq : nsIn K cStatics "thirdparty.any" = some none
  sg : mg "super" = none
  sa : findIn K (.ref C) "__setattr__" = some (some (.builtin "object.__setattr__"))
  ga : findIn K (.ref C) "__getattribute__" = some (some (.builtin "BaseException.__getattribute__"))
  gg : findIn K (.ref C) "__getattr__" = some none
  noN : findIn K (.ref C) fld = some none
  iC : findIn K (.ref C) "__init__" = some (some (.ref fI))
  tC : typeIn K (.ref fI) = some (.type "function")
  kC : keepIn K (.ref C) = true
  exC : subIn K (.ref C) (.type "BaseException") = some true
  tyC : typeIn K (.ref C) = some (.type "type")
  hdC : hasDictIn K C = true
  te : exmOne K (.ref C) (.ref C) = some true
  top : (P.main.scope.names.lookup ("super" : Str)).isSome = false
  par : fld = ("place" : Str) ∨ fld = ("value" : Str)
  fn : ∃ (oc ct doc pm kv : Value) (od an : Option Addr) (qual msg : Str) (cda cc : Addr) (osl : Array (Option Value)) (j : Nat) (p1 p2 a1 a2 a3 a4 a5 a6 q1 q2 q3 q4 : Pos) (vs : Array Value) (file : Str) (tf : Tok) (c1 c2 : Value) (d1 d2 : Option Addr) (s1 s2 : Array (Option Value)),
    K.lookup fI = some ⟨oc, od, .func (ksFn "__init__" qual (iArgs fld p1 p2) [iStm1 msg j a1 a2 a3 a4 a5 a6, iStm2 fld q1 q2 q3 q4] (iScope fld) .none kv doc pm an (.ref cda) ct cc), osl⟩ ∧ codeIn K (.ref cda) qual = true ∧
    K.lookup cda = some ⟨c1, d1, .fields vs, s1⟩ ∧ vs[2]? = some (.str file tf) ∧ ((P.main.file : Str) == file) = true ∧
    (∀ env : Env, eval (.Call (.Attribute (.Call (.Name "super" a1) [] [] a2) "__init__" a3) [.Constant (.str msg) j a4] [] a5) env = (do
      let ov ← attributeBase (.Call (.Name "super" a1) [] [] a2) "__init__" env (eval (.Call (.Name "super" a1) [] [] a2) env)
      standAt a3.atName
      let (f, first) ← holding [ov] (getMethod ov "__init__" (L2.plainOf (.Call (.Name "super" a1) [] [] a2) env))
      callWith a5 f first (backTo a5 (starEach [.Constant (.str msg) j a4] env)) [])) ∧ K.lookup cc = some ⟨c2, d2, .cell (some (.ref C)), s2⟩
/-- what __init__ leaves of a fresh error at x -/
structure InitEnd (h h' : Heap) (x C dx t1 : Addr) (fld : Str) (v : Value) : Prop where
  keep : ∀ b o, b ≠ x → h.get? b = some o → h'.get? b = some o
  obj : h'.get? x = some { cls := .ref C, dict := some dx, data := .fields #[.ref t1, .none, .none, .none, .bool false, .none] }
  dbig : h.objs.size ≤ dx
  dne : dx ≠ x
  ns : h'.Ns1 dx (fun y => if y = fld then some v else none)
/-- a made error -/
structure OwnMade (h h' : Heap) (e C d : Addr) (fld : Str) (v : Value) : Prop where
  keep : ∀ b o, h.get? b = some o → h'.get? b = some o
  new : h.objs.size ≤ e
  obj : ∃ oe vs, h'.get? e = some oe ∧ oe.cls = .ref C ∧ oe.dict = some d ∧ oe.data = .fields vs ∧ vs[1]? = some .none
  dbig : h.objs.size ≤ d
  dne : d ≠ e
  ns : h'.Ns1 d (fun y => if y = fld then some v else none)
section
variable {prog : Program} {w : World} {A : Around} {E : Value → Shared → Prop} {h : Heap} {g : Array GenState} {d : Drawn} {t : Nat} {os : OsState}
variable {nm q : Str} {C N : Addr} {bs bm bmB : List Value} {hdct : Bool} {sn : List Str} {sub : List Value} {ab : Bool} {col : Option Bool} {dd : Option Addr} {k0 k1 k2 k3 k5 : Option Value} {B i newId : String}
/-- the built-in __init__, bound to the fresh error e, is called -/
theorem bound_call (FB : ExcBaseFacts B newId i bmB) {u e t0 : Addr} {rest : List Value} {Q : Value → Shared → Prop}
    (hC : h.get? C = some (excClassObj nm q C N bs bm hdct sn sub ab col dd k0 k1 k2 k3 k5 newId)) (he : h.get? e = some (HandSPX.excO C t0)) (hu : h.get? u = some (kxs_mw i e)) (hrest : rest.length ≤ sizeLine)
    (hq : ∀ h' t1, (∀ b o, b ≠ e → h.get? b = some o → h'.get? b = some o) → h'.get? e = some (HandSPX.excO C t1) → Q .none ⟨h', g, d, t, os⟩) :
    wpAny (model prog w) A (call (.ref u) rest) Q E ⟨h, g, d, t, os⟩ := by
  refine wpAny_call (codeAny_of_tree ?_)
  show wpAny _ A.in1 (callAny (.ref u) ⟨rest, []⟩) _ _ _
  simp only [callAny]
  refine wpAny_bind (wpAny_load hu ?_)
  simp only [kxs_mw, show (Value.type "method-wrapper" == Value.type "method" || Value.type "method-wrapper" == Value.type "builtin_function_or_method" || Value.type "method-wrapper" == Value.type "method-wrapper") = true by decide, if_true]
  refine KFB.if_so (by decide) ?_
  refine wpAny_bind (check_bound_init FB.toExcCallFacts hC he rfl ?_)
  refine wpAny_bind (wpAny_pure (wpAny_pure ?_))
  refine ⟨plainId_quiet FB.init.plain _, codeAny_builtin FB.initEntry ?_⟩
  exact exc_init_tree (cls := .ref C) (t0 := t0) (dv := none) (c2 := .none) (c3 := .none) (b4 := .bool false) he hrest fun h' k e1 _ => hq h' _ k e1
end
theorem one_size (v : Value) : [v].length ≤ sizeLine := by
  rw [sizeLine_eq]
  exact (by decide : 1 ≤ 16777216)
theorem ldC {M : Model} {A : Around} {E : Value → Shared → Prop} {s : Shared} {env : Env} {m : Str → Option Value} {x : Str} {pos : Pos} {v : Value} {Q : Value → Shared → Prop} (hn : s.heap.Ns env.locals m) (hv : m x = some v) (h : Q v s)
    (hk : env.scope.kind = .function) (hl : env.kindOf x = some .local) (hd : (x == ("__debug__" : Str)) = false) : wpAny M A (eval (.Name x pos) env) Q E s := wpAny_Name (wpAny_loadName_local hk hl hn hv h) hd
section
variable {prog : Program} {w : World} {A : Around} {R : Result → Shared → Prop} {s : Shared} {K : Frag} {mg : Str → Option Value} {C fI : Addr} {xn fld : Str}
theorem sup_init (T : SupTxt prog K mg xn C fI fld) {x t0 : Addr} {v : Value} {base : Heap} (hM : L2.Mod K mg base) (hkp : ∀ b o, base.get? b = some o → s.heap.get? b = some o) (hx : s.heap.get? x = some (excO C t0)) (hnx : K.lookup x = none) (hroom : A.depth < recursionLimit)
    (hq : ∀ h' tk dx t1, InitEnd s.heap h' x C dx t1 fld v → R (.ok (.ret .none)) { s with heap := h', toks := tk }) :
    codeAny (model prog w) A (.call (.ref fI) ⟨[.ref x, v], []⟩) R s := by
  obtain ⟨oc, ct, doc, pm, kv, od, an, qual, msg, cda, cc, osl, j, p1, p2, a1, a2, a3, a4, a5, a6, q1, q2, q3, q4, vs, file, tf, c1, c2, d1, d2, s1, s2, ho, hcd, hco, hvs, hfile, hev, hcell⟩ := T.fn
  obtain ⟨nm, q, N, bs, bm, sn, sub, ab, col, dd, k0, k1, k2, k3, k5, hC, hbm⟩ := T.cls
  have X : K.In s.heap := hM.kin.keeps hkp
  have hcl : clsIn K C = some { name := nm, bases := bs, mro := .ref C :: bm, ns := N, qualname := q, hasDict := true, slotNames := sn, subclasses := sub, abstract := ab, collection := col, hasDel := false } := by unfold clsIn; rw [hC] <;> rfl
  have lim : s.heap.NoLimit := hM.nolimit.keeps hkp
  obtain ⟨mb, hb1, hb2⟩ := hM.blt
  have hxC : x ≠ C := fun z => by
    rw [z, hC] at hnx
    cases hnx
  have hxL : s.heap.objs.size ≠ x := Nat.ne_of_gt (Heap.lt_size hx)
  have hf := T.sup
  unfold ks_superIn at hf
  rw [hcl] at hf
  rcases T.par with hp | hp <;> subst hp
  all_goals
    refine ks_codeAny_call_defAt (binds := [("self", .ref x), (_, v)]) hroom (X _ _ ho) rfl lim (codeRec_of X hcd) rfl (BindsTo.of_eq (by first | rfl | with_unfolding_all rfl)) (by show ∀ y ∈ (iScope _).names, y.2 ≠ .cell; decide) (fun y hy => by
      rcases List.mem_cons.mp hy with rfl | hy
      · rfl
      rcases List.mem_cons.mp hy with rfl | hy
      · rfl
      · cases hy) (fun h1 hns k1 => ?_)
    have X1 : K.In h1 := X.keeps k1
    have hx1 := k1 _ _ hx
    refine ks_wpAt_execs_cons (ks_wpAt_Expr_any (ks_wpAt_MethodCall ?_ (hev _)))
    refine ks_wpAt_super_base rfl rfl rfl rfl (X1 _ _ ho) rfl rfl rfl (X1 _ _ hco) rfl hvs hfile T.top ?_
    refine ks_loadName_global rfl rfl (loadGlobal_builtin ((hM.glob.keeps hkp).keeps k1) T.sg ((hb1.keeps hkp).keeps k1) ((hb2 _ (by decide)).trans (by decide +kernel)) ⟨rfl, ?_⟩)
    refine wpAny_loadName_free rfl rfl rfl ⟨_, X1 _ _ hcell, rfl⟩ ?_
    refine wpAny_loadName_local rfl rfl hns (by first | rfl | with_unfolding_all rfl | kernel_rfl) ?_
    refine ks_wpAny_isType_cls (X1 _ _ hC) rfl ⟨rfl, ?_⟩
    refine ks_wpAny_call_super (X1 _ _ hC) rfl hx1 rfl (fun c e => by cases e) (looks_mroIn X1 T.selfsub) (fun h2 e2 k2 => ?_)
    have X2 : K.In h2 := X1.keeps k2
    have hx2 := k2 _ _ hx1
    have I2 : InstAt h2 x (excO C t0) C none := ⟨hx2, rfl, rfl, trivial⟩
    refine kxs_getMethod kxs_ValueError e2 (looks_opaque X2 T.opq) (l₀ := .ref C :: bm) ((looks_clsIn X2 hcl).andThen .now) rfl X2 hf (I2.type.andThen (looks_subIn X2 T.subVE)) hxC rfl ?_
    refine kxs_callWith (i := "ValueError.__init__") (x := x) rfl (evalArgs_plain (Calls.spliced_cons (Calls.Constant_str (k := j) (pos := a4) (Calls.spliced_nil ?_))))
    have hu : (h2.push (kxs_mw "ValueError.__init__" x)).get? h2.objs.size = some (kxs_mw "ValueError.__init__" x) := Heap.get?_push_at rfl rfl
    refine ⟨hu, ?_⟩
    refine bound_call F.excBase_ValueError (Heap.get?_push_of_some _ (X2 _ _ hC)) (Heap.get?_push_of_some _ hx2) hu (one_size _) (fun h4 t1 k4 e4 => ?_)
    have k14 : ∀ b o, b ≠ x → h1.get? b = some o → h4.get? b = some o := fun b o hb e => k4 b o hb (Heap.get?_push_of_some _ (k2 b o e))
    have X4 : K.In h4 := fun b o e => k14 b o (fun z => by rw [z, hnx] at e; cases e) (X1 b o e)
    have hn4 : ∀ m, h1.Ns s.heap.objs.size m → h4.Ns s.heap.objs.size m := fun m ⟨o, es, ep, ho, r⟩ => ⟨o, es, ep, k14 _ _ hxL ho, r⟩
    have hn5 := hn4 _ hns
    refine wpAt_of_wpAny ?_
    refine wpAny_execs_cons (plainObj_wpAny_Assign_Attribute ?_)
    refine ldC (v := v) hn5 (by first | rfl | with_unfolding_all rfl | kernel_rfl) (ldC (v := .ref x) hn5 (by first | rfl | with_unfolding_all rfl | kernel_rfl) ?_ rfl rfl (by decide)) rfl rfl (by decide)
    refine set_plain X4 (ox := excO C t1) (od := none) ⟨e4, rfl, rfl, trivial⟩ T.sa ?_
    refine exc_osa X4 e4 hcl (show refsVE (.ref C :: bm) = true from hbm) rfl T.noN (fun h5 tk5 dx k5 dn dne hx5 hn6 => ?_)
    refine wpAny_execs_nil (hq h5 tk5 dx t1 ⟨fun b o hb e => k5 b o hb (k14 b o hb (k1 b o e)), hx5, ?_, dne, hn6⟩)
    have z1 : s.heap.objs.size < h4.objs.size := hn5.lt
    exact Nat.le_of_lt (Nat.lt_of_lt_of_le z1 dn)
theorem sup_made (T : SupTxt prog K mg xn C fI fld) {v : Value} {base : Heap} (hM : L2.Mod K mg base) (hkp : ∀ b o, base.get? b = some o → s.heap.get? b = some o) (hroom : A.depth + 1 < recursionLimit)
    (hq : ∀ h' tk e d, OwnMade s.heap h' e C d fld v → R (.ok (.ret (.ref e))) { s with heap := h', toks := tk }) :
    codeAny (model prog w) A (.call (.ref C) ⟨[v], []⟩) R s := by
  obtain ⟨nm, q, N, bs, bm, sn, sub, ab, col, dd, k0, k1, k2, k3, k5, hC, hbm⟩ := T.cls
  have X : K.In s.heap := hM.kin.keeps hkp
  obtain ⟨hp, g, dr, tk, os⟩ := s
  have k : ∀ b o, hp.get? b = some o → ((hp.push (kdv_tup [v])).push (excO C hp.objs.size)).get? b = some o := fun b o e => Heap.get?_push_of_some _ (Heap.get?_push_of_some _ e)
  have hnx : K.lookup (hp.objs.size + 1) = none := by
    cases e : K.lookup (hp.objs.size + 1) with
    | none => rfl
    | some o =>
      have z : hp.get? (hp.objs.size + 1) = some o := X _ _ e
      exact absurd (Nat.lt_of_succ_lt (Heap.lt_size z)) (Nat.lt_irrefl _)
  have hget : ((hp.push (kdv_tup [v])).push (excO C hp.objs.size)).get? (hp.objs.size + 1) = some (excO C hp.objs.size) := by heap_get
  refine call_own F.excBase_ValueError (fun X => refsVE_contains X bm hbm) (X _ _ hC) (looks_findIn X T.iC) (fun self => bind_fn X self T.tC) (one_size v) ?_
  refine sup_init (s := ⟨(hp.push (kdv_tup [v])).push (excO C hp.objs.size), g, dr, tk, os⟩) (base := base) T hM (fun b o e => k b o (hkp b o e)) hget hnx hroom fun h' tk' dx t1 ⟨k', hx, dn, dne, hns⟩ => ?_
  have z : hp.objs.size + 1 + 1 ≤ dx := by
    have q := dn
    first
      | exact q
      | (rw [Heap.size_push, Heap.size_push] at q; exact q)
  refine ⟨rfl, hq h' tk' (hp.objs.size + 1) dx ⟨fun b o e => k' b o (Nat.ne_of_lt (Nat.lt_succ_of_lt (Heap.lt_size e))) (k b o e), Nat.le_succ _, ⟨_, _, hx, rfl, rfl, rfl, rfl⟩, Nat.le_trans (Nat.le_trans (Nat.le_succ _) (Nat.le_succ _)) z, dne, hns⟩⟩
end
end LfX

set_option Elab.async false
set_option linter.all false
set_option maxRecDepth 100000
set_option maxHeartbeats 4000000
/-! Leaf R: such an error raised, caught, its field read, over the layer. -/
namespace LfX
open PySem PySem.Spec PyProof.Rows L2
theorem relO_sup {v : V} {v' : Value} {fld : Str} (r : RelV v v') (f : Str) : RelO (List.lookup f [(fld, v)]) (if f = fld then some v' else none) := by
  by_cases hw : f = fld
  · subst hw
    rw [if_pos rfl]
    have q : List.lookup f [(f, v)] = some v := by simp [List.lookup]
    rw [q]
    exact r
  · rw [if_neg hw]
    have qw : (f == fld) = false := by simpa using hw
    have q2 : List.lookup f [(fld, v)] = none := by simp [List.lookup, qw]
    rw [q2]
    trivial
section
variable {X : Cx} {C fI : Addr} {xn fld : Str}
/-- the error x(e) is made -/
def tMkSup (C : Addr) (fld : Str) (ta : TA) : L2.St → Hp → XK → Prop := fun σ H Q => ta σ H fun vs H1 => ∃ v, vs = [v] ∧ ∀ d, H1 d = none → Q (.ref C) (some d) (upd H1 d (.xd [(fld, v)]))
theorem pmk_sup {a : Expr} {ta : TA} {p pos : Pos} {k : Nat} (T : SupTxt X.prog X.K X.mg xn C fI fld) (hr : Room k X.A) (ha : PA X [a] ta) (hg : Gl X xn)
    (he : starEach (a :: []) X.env = (false, eval a X.env) :: starEach [] X.env := by rfl) (hpl : (backTo pos (starEach [] X.env)).any (·.1) = false := by rfl) (hdb : (xn == ("__debug__" : Str)) = false := by decide) :
    PMk X (.Call (.Name xn p) [a] [] pos) (tMkSup C fld ta) := by
  intro pins s σ H Q I h
  refine wpAny_Call_Name_kw (ld_glob I hg T.gC ?_ hdb)
  refine PySem.W.callWith_K (h₀ := X.base) I.ok.mod.kin T.kC (thn (ha.run pos pins s σ H _ I h) fun us s1 hh => ?_) he hpl
  obtain ⟨vs, H1, I1, r1, v, ev, q1⟩ := hh
  subst ev
  refine ⟨I1.kIn, ?_⟩
  cases r1 with
  | cons rv rn =>
    rename_i v' us'
    cases rn
    show wpAny _ _ (call (.ref C) [v']) _ _ _
    have hM := I1.ok.mod
    have hkp := I1.bk
    obtain ⟨hp, g, dr, tk, os⟩ := s1
    refine wpAny_call (sup_made T hM hkp (by have := hr.dp; omega) fun h' tk' e d M => ?_)
    show MkP X pins σ Q (.ref e) ⟨h', g, dr, tk', os⟩
    obtain ⟨oe, fv, hoe, hc, hd, hdat, h1⟩ := M.obj
    have hns := M.ns
    obtain ⟨G', g1, g2⟩ := restrict h' fun b => decide (b ≠ e)
    have gk : ∀ b, b ≠ e → G'.get? b = h'.get? b := fun b hb => g1 b (decide_eq_true hb)
    have ge : G'.get? e = none := g2 e (by simp)
    have old : ∀ b o, hp.get? b = some o → G'.get? b = some o := fun b o q => (gk b (Nat.ne_of_lt (Nat.lt_of_lt_of_le (Heap.lt_size q) M.new))).trans (M.keep b o q)
    have ob : ObjOk X.prog X.w (upd H1 d (.xd [(fld, v)])) G' d (.xd [(fld, v)]) :=
      ⟨_, hns.at (fun o q => (gk d M.dne).trans q), fun f => relO_sup rv f⟩
    have J : Inv X pins σ (upd H1 d (.xd [(fld, v)])) ⟨G', g, dr, tk', os⟩ := I1.laid (t' := tk') old M.dbig ob
    refine ⟨e, oe, fv, ⟨G', g, dr, tk', os⟩, _, .ref C, some d, rfl, J, fun b o q => ?_, ge, hoe, ⟨hc, hd⟩, hdat, h1, ?_, rfl, I1.bare, raises_own T.exC T.tyC, q1 d (I1.hok.fresh M.dbig)⟩
    · by_cases hb : b = e
      · have q' : G'.get? b = some o := q
        rw [hb, ge] at q'
        cases q'
      · exact (gk b hb).symm.trans q
    · rw [upd_ne (Ne.symm M.dne)]
      exact I1.hok.fresh M.new
/-- raise x(e) -/
def tRaiseSup (C : Addr) (fld : Str) (W : WX) (ta : TA) : TS := fun _ σ H => tMkSup C fld ta σ H fun cls d H' => W cls d σ H'
theorem ps_raiseSup {a : Expr} {ta : TA} {W : WX} {p pos pos2 : Pos} {k : Nat} (hc : X.calm = true) (T : SupTxt X.prog X.K X.mg xn C fI fld) (hr : Room k X.A) (tk : Takes X W) (ha : PA X [a] ta) (hg : Gl X xn := by rfl)
    (he : starEach (a :: []) X.env = (false, eval a X.env) :: starEach [] X.env := by rfl) (hpl : (backTo pos (starEach [] X.env)).any (·.1) = false := by rfl) (hdb : (xn == ("__debug__" : Str)) = false := by decide) :
    PS X (.Raise (some (.Call (.Name xn p) [a] [] pos)) none pos2) (tRaiseSup C fld W ta) := ps_raise hc tk (pmk_sup T hr ha hg he hpl hdb)
/-- n.f in the suite of «except x as n»: n the error at a, its class cls, its dict d -/
def tBySup (C : Addr) (fld : Str) (a : Addr) (cls : Value) (d : Option Addr) (te : TE) : TE := fun σ H Q => te σ H fun x H1 => x = .ref a ∧ cls = .ref C ∧ ∃ (dd : Addr) (v : V), d = some dd ∧ H1 dd = some (.xd [(fld, v)]) ∧ Q v H1
theorem pe_bySup {a : Addr} {oe : Obj} {cls : Value} {d : Option Addr} {pn : List (Addr × Obj)} {e : Expr} {te : TE} {pos : Pos} (T : SupTxt X.prog X.K X.mg xn C fI fld) (hz : Zc cls d oe) (hf : ∃ vs, oe.data = .fields vs) (he : PE (X.suite a ((a, oe) :: pn)) e te)
    (hb : attributeBase e fld X.env (eval e X.env) = eval e X.env := by rfl) :
    PE (X.suite a ((a, oe) :: pn)) (.Attribute e fld pos) (tBySup C fld a cls d te) := by
  refine ⟨fun pins s σ H Q I h => ?_⟩
  refine attr_of hb (thn (he.run pins s σ H _ I h) fun u s1 hh => ?_)
  obtain ⟨x, H1, I1, rx, ex, ec, dd, v, ed, ea, q⟩ := hh
  subst ex
  obtain rfl : u = Value.ref a := rx
  subst ec
  subst ed
  obtain ⟨ha, _⟩ := I1.pin (a, oe) (List.mem_append_left _ List.mem_cons_self)
  obtain ⟨vs, hd⟩ := hf
  have hx : ObjOk X.prog X.w H1 s1.heap dd (.xd [(fld, v)]) := I1.hok dd _ ea
  obtain ⟨mA, hns, hr⟩ := hx
  obtain ⟨od, ho, hl⟩ := lookIn_ns hns
  have l : List.lookup fld [(fld, v)] = some v := by simp [List.lookup]
  obtain ⟨u, hu, ru⟩ := RelO.some_of (v := v) (o := mA fld) (by rw [← l]; exact hr fld)
  have J : PySem.W.InstAt s1.heap a oe C (some od) := ⟨ha, hz.1, by unfold PySem.W.notCls; rw [hd] <;> rfl, by rw [hz.2]; exact ho⟩
  exact HandSPX.exc_get I1.kIn J T.ga T.gg T.exC (PySem.W.findObj_own T.hdC T.noN rfl (by rw [hl, hu])) (handed_of ru) ⟨v, H1, I1.tok _, ru, q⟩
end
end LfX

set_option Elab.async false
set_option linter.all false
set_option maxRecDepth 100000
set_option maxHeartbeats 4000000
/-! Leaf G: generator expressions handed to all and sum: whatever is walked, whatever the element is. -/
namespace LfG
open PySem PySem.Spec PyProof.Rows L2
open GxR (TabB TabG Tabbed GenS)
/-- what the walked thing xv gives to a generator expression whose element is elt: n items; F i y: y is what the element is worth at the item i -/
structure Src (X : Cx) (P : Addr) (scope : Scope) (x : Str) (elt : Expr) (s1 : Shared) (xv : Value) (n : Nat) (F : Nat → Value → Prop) : Prop where
  ex : ∃ (o : Obj) (old : List Addr) (Pf : Nat → Value → Prop) (St : Nat → Heap → Prop),
    (∀ Q' : Value → Shared → Prop, Q' (.ref s1.heap.objs.size) { s1 with heap := s1.heap.push o } → wpAny (model X.prog X.w) X.A (pyIter xv) Q' X.xe s1) ∧
    (∀ A' : Around, A'.handled = none → Walks X.prog X.w A' s1.heap.objs.size (s1.heap.objs.size :: old) [s1.heap.objs.size] n Pf St) ∧
    (∀ b ∈ old, b < s1.heap.objs.size ∧ b ≠ P) ∧ St 0 (s1.heap.push o) ∧
    ∀ (cenv : Env) (A' : Around) (E' : Value → Shared → Prop) (i : Nat) (v : Value) (s2 : Shared) (m2 : Str → Option Value), cenv.scope = scope → cenv.globals = mainGlobals → s2.heap.Ns cenv.locals m2 → m2 x = some v → Pf i v →
      (∀ b u, b ≠ P → s1.heap.get? b = some u → s2.heap.get? b = some u) → wpAny (model X.prog X.w) A' (eval elt cenv) (fun y s3 => F i y ∧ Keeps s2 s3) E' s2
/-- the generator g is made and ready -/
def Ready (X : Cx) (pins : List (Addr × Obj)) (σ : L2.St) (H1 : Hp) (P : Addr) (n : Nat) (F : Nat → Value → Prop) (g : Addr) (s5 : Shared) : Prop :=
  ∃ (fp wr : List Addr) (G : Array GenState → Array GenState → Prop) (St : Nat → Shared → Prop),
    WalksS X.prog X.w X.A.in1 g fp wr G n (fun j y => ∃ i, (List.range n)[j]? = some i ∧ F i y) St ∧ St 0 s5 ∧ (∀ b ∈ fp, b < s5.heap.objs.size) ∧
    ∀ s', Moved wr G s5 s' → ∃ H2, Tabbed P H1 H2 ∧ Inv X pins σ H2 s'
section
variable {X : Cx} {pins : List (Addr × Obj)} {σ : L2.St} {H : Hp} {s : Shared}
theorem gen_core {c P : Addr} {elt iter : Expr} {x : Str} {px gpos : Pos} {scope : Scope} {te : TE} {k : Nat} {Q' : Value → Shared → Prop} {R : V → Hp → Nat → (Nat → Value → Prop) → Prop}
    (hr : Room k X.A) (TB : TabB X.base X.mg c P) (hcode : X.env.code = .ref c) (S : GenS X.env scope x) (hi : PE X iter te)
    (hs : ∀ v, genFold iter X.env v = pure v) (I : Inv X pins σ H s)
    {Kt : V → Hp → Prop} (h : te σ H Kt) (hK : ∀ v H1, Kt v H1 → TabG H1 P ∧ ∃ n F, R v H1 n F ∧ ∀ (s1 : Shared) (u : Value), Inv X pins σ H1 s1 → RelV v u → Src X P scope x elt s1 u n F)
    (hQ : ∀ v H1 n F g s5, R v H1 n F → Ready X pins σ H1 P n F g s5 → Q' (.ref g) s5) :
    wpAny (model X.prog X.w) X.A (eval (.GeneratorExp elt [⟨.Name x px, iter, [], 0⟩] scope gpos) X.env) Q' X.xe s := by
  refine wpAny_GeneratorExp_walksQ hr.hd S.co (closure_ok S.free) S.cell S.dot S.loc S.kind (by have := hr.dp; omega) ?_ hs
  refine thn (hi.run pins s σ H _ I h) fun xv s1 ⟨v, H1, I1, r1, q1⟩ => ?_
  obtain ⟨⟨ps, hP, ht⟩, n, F, hR, hsrc⟩ := hK v H1 q1
  obtain ⟨o, old, Pf, St, hit, W, hold, hst, hel⟩ := (hsrc s1 xv I1 r1).ex
  refine hit _ ?_
  have hPs : s1.heap.get? P = some { cls := .none, data := .fields ps } := I1.hok P _ hP
  have hPlt : P < s1.heap.objs.size := Heap.lt_size hPs
  have hP2 : (s1.heap.push o).get? P = some { cls := .none, data := .fields ps } := Heap.get?_push_of_some _ hPs
  have cd : PySem.W.CodeHd (s1.heap.push o) c P := TB.code.keeps fun b u e => Heap.get?_push_of_some _ (I1.bk b u e)
  have lim2 : (s1.heap.push o).NoLimit := I1.nolimit.push o
  have cont : ∀ (code : Value) (h3 : Heap) (tk : Nat) (ps' : Array Value), Heap.ExtBut P (s1.heap.push o) h3 → (s1.heap.push o).objs.size ≤ h3.objs.size → h3.get? P = some { cls := .none, data := .fields ps' } → (∃ more, ps' = ps ++ more) → TriplesOk ps'.toList →
      wpAny (model X.prog X.w) X.A (builtinsFor X.env.globals X.env.builtins) (fun bi s4 =>
        ∃ Ia fp wr n0 Pf St0 pz F, Value.ref s1.heap.objs.size = .ref Ia ∧ (∀ A' : Around, A'.handled = none → Walks X.prog X.w A' Ia fp wr n0 Pf St0) ∧ St0 0 s4.heap ∧ (∀ b ∈ fp, b < s4.heap.objs.size) ∧ s4.heap.NoLimit ∧ cStatics ∉ wr ∧
          (∀ href : Heap, (∀ b o, s4.heap.get? b = some o → href.get? b = some o) →
            QuietGen X.prog X.w (genEnv scope (cloFrom X.env.cells scope.names []) s4.heap.objs.size code bi X.env) x [] elt (List.range s4.heap.objs.size) wr Pf pz F href) ∧
          (∀ a h5 tk gs, gs.bare = true → s4.heap.objs.size < a → h5.objs.size = a + 1 → (∀ b o, s4.heap.get? b = some o → h5.get? b = some o) →
            WalksS X.prog X.w X.A.in4 a (a :: s4.heap.objs.size :: List.range s4.heap.objs.size) (s4.heap.objs.size :: wr) (GenOnlyQ s4.gens.size) (passing pz n0 0).length
              (fun j y => ∃ i, (passing pz n0 0)[j]? = some i ∧ F i y) (GenAt X.prog X.w X.A.in4 a s4.gens.size s4.heap.objs.size (List.range s4.heap.objs.size) wr pz n0 F) →
            GenAt X.prog X.w X.A.in4 a s4.gens.size s4.heap.objs.size (List.range s4.heap.objs.size) wr pz n0 F 0 { s4 with gens := s4.gens.push gs, toks := tk, heap := h5 } →
            Q' (.ref a) { s4 with gens := s4.gens.push gs, toks := tk, heap := h5 })) X.xe { s1 with heap := h3, toks := tk } := by
    intro code h3 tk ps' hx hsz hP3 hmore ht3
    obtain ⟨bm, ob, e1, e2, e3, e4, e5, e6, e7, e8⟩ := TB.bm
    have hcP : cStatics ≠ P := fun e => by
      obtain ⟨_, hns, _⟩ := I1.nolimit
      obtain ⟨o', es, ep, ho, hd, _⟩ := hns
      rw [e, hPs] at ho
      cases ho
      cases hd
    have hcl : cStatics < s1.heap.objs.size := let ⟨_, hns, _⟩ := I1.nolimit; hns.lt
    have sz2 : (s1.heap.push o).objs.size = s1.heap.objs.size + 1 := Heap.size_push ..
    have keep3 : ∀ b u, b ≠ P → s1.heap.get? b = some u → h3.get? b = some u := fun b u hb e => hx b u hb (Heap.get?_push_of_some _ e)
    refine wpAny_builtinsFor (m := X.mg) (by rw [I1.ok.glob]; exact ((I1.mod.glob.keeps I1.bk).push o).extBut hx TB.gP) e1 e2 (keep3 _ _ e4 (I1.bk _ _ e5)) e6 e7 e8 ?_
    refine ⟨s1.heap.objs.size, s1.heap.objs.size :: old, [s1.heap.objs.size], n, Pf, St, (fun _ => true), F, rfl, W, ?_, ?_, lim2.extBut hx hcP, ?_, ?_, ?_⟩
    · refine (W X.A hr.hd).frame _ _ _ hst fun b hb u e => hx b u (fun z => ?_) e
      rcases List.mem_cons.mp hb with z2 | z2
      · exact Nat.ne_of_lt hPlt (z.symm.trans z2)
      · exact (hold b z2).2 z
    · intro b hb
      rcases List.mem_cons.mp hb with z | z
      · rw [z]
        show s1.heap.objs.size < h3.objs.size
        omega
      · have e9 := (hold b z).1
        show b < h3.objs.size
        have e10 : s1.heap.objs.size ≤ h3.objs.size := by omega
        exact Nat.lt_of_lt_of_le e9 e10
    · intro z
      rcases List.mem_cons.mp z with z | z
      · exact Nat.ne_of_lt hcl z
      · cases z
    · intro href hhref
      refine ⟨fun A' E' i v s2 m2 hA hPv hn hm hk => ?_, fun A' E' i v s2 m2 hA hPv hp hn hm hk => ?_⟩
      · simp only [List.forIn_nil]
        exact wpAny_pure ⟨rfl, GxR.keeps_refl _⟩
      · refine hel _ A' E' i v s2 m2 rfl I1.ok.glob hn hm hPv fun b u hb e => ?_
        have e11 := keep3 b u hb e
        refine hk b (List.mem_range.mpr (Heap.lt_size e11)) (fun z => ?_) u (hhref b u e11)
        rcases List.mem_cons.mp z with z | z
        · rw [z] at e
          exact Nat.lt_irrefl _ (Heap.lt_size e)
        · cases z
    · intro g h5 tk5 gs hgb hag hsz5 hk5 W5 hat
      simp only [GxR.passing_true, List.length_range] at W5
      have W6 : WalksS X.prog X.w X.A.in1 _ _ _ _ n (fun j y => ∃ i, (List.range n)[j]? = some i ∧ F i y) _ := W5.in4_1
      refine hQ v H1 n F g _ hR ⟨_, _, _, _, W6, hat, ?_, fun s' hm => ?_⟩
      · intro b hb
        show b < h5.objs.size
        have e5 : h5.objs.size = g + 1 := hsz5
        have h8 : h3.objs.size < g := hag
        rw [e5]
        rcases List.mem_cons.mp hb with z | z
        · rw [z]
          exact Nat.lt_succ_self g
        · rcases List.mem_cons.mp z with z | z
          · rw [z]
            exact Nat.lt_succ_of_lt h8
          · have z2 := List.mem_range.mp z
            have h7 : b < h3.objs.size := z2
            exact Nat.lt_succ_of_lt (Nat.lt_trans h7 h8)
      · obtain ⟨more, em⟩ := hmore
        have nwr : ∀ b u, s1.heap.get? b = some u → b ∉ h3.objs.size :: [s1.heap.objs.size] := fun b u e hb => by
          have hl := Heap.lt_size e
          rcases List.mem_cons.mp hb with z | z
          · rw [z] at hl
            have h9 : (h3.objs.size : Nat) < s1.heap.objs.size := hl
            omega
          · rcases List.mem_cons.mp z with z | z
            · rw [z] at hl
              exact Nat.lt_irrefl _ hl
            · cases z
        have J := GxR.inv_tab (more := more) (h' := s'.heap) (g' := s'.gens) (d' := s'.drawn) (t' := s'.toks) I1 hP (fun b u hb e => hm.heap b u (nwr b u e) (hk5 b u (keep3 b u hb e)))
          (by rw [← em]; exact hm.heap P _ (nwr P _ hPs) (hk5 P _ hP3)) (AllBare.movedS (I1.bare.push hgb) hm)
        rw [GxR.sh_eta s1 s' hm.os] at J
        refine ⟨upd H1 P (.tbl (ps ++ more)), ⟨⟨ps ++ more, upd_same, by rw [← em]; exact ht3⟩, fun b hb => upd_ne hb⟩, J⟩
  refine ⟨lim2, ?_⟩
  cases hf : codeAmong gpos ps.toList with
  | none =>
    refine wpAny_genexprCodeX hcode (cd.code hP2 ht) (cd.tab hP2) hf fun c' h' tk hx hge hlt hco' _ htab' _ => ?_
    obtain ⟨o1, vs, f1, tf, fl, tg, inF, tx, tt, op, _, _, _, _, _, _, _, _, _, htr, _⟩ := hco'
    exact cont _ h' tk _ hx (Nat.le_trans hge (Nat.le_of_lt hlt)) htab'.2 ⟨_, rfl⟩ htr
  | some cv =>
    refine wpAny_genexprCode_hit hcode (cd.code hP2 ht) hf ?_
    exact cont cv (s1.heap.push o) s1.toks ps (Heap.ExtBut.refl _ _) (Nat.le_refl _) hP2 ⟨#[], by simp⟩ ht
theorem rng_at {n j i : Nat} (h : (List.range n)[j]? = some i) : i = j ∧ j < n := by
  obtain ⟨h7, h8⟩ := List.getElem?_eq_some_iff.mp h
  rw [List.getElem_range] at h8
  exact ⟨h8.symm, by simpa using h7⟩
/-- all(elt for x in iter): R tells of the walked thing how many and what the elements are -/
def tAllG (P : Addr) (R : V → Hp → Nat → (Nat → Bool) → Prop) (te : TE) : TE := fun σ H Q => te σ H fun v H1 => TabG H1 P ∧ ∃ n f, R v H1 n f ∧ ∀ H2, Tabbed P H1 H2 → Q (.bl ((List.range n).all f)) H2
theorem pe_allG {c P : Addr} {elt iter : Expr} {x : Str} {px p pos gpos : Pos} {scope : Scope} {R : V → Hp → Nat → (Nat → Bool) → Prop} {te : TE} {k : Nat}
    (hr : Room k X.A) (hm : X.mg "all" = none) (TB : TabB X.base X.mg c P) (hcode : X.env.code = .ref c) (S : GenS X.env scope x) (hi : PE X iter te)
    (hsrc : ∀ (pins : List (Addr × Obj)) (σ : L2.St) (v : V) (H1 : Hp) (n : Nat) (f : Nat → Bool) (s1 : Shared) (u : Value), R v H1 n f → Inv X pins σ H1 s1 → RelV v u → Src X P scope x elt s1 u n (fun i y => y = .bool (f i)))
    (hg : Gl X "all" := by rfl) (hs : ∀ v, genFold iter X.env v = pure v := by intro _; rfl)
    (he : starEach [.GeneratorExp elt [⟨.Name x px, iter, [], 0⟩] scope gpos] X.env = (false, eval (.GeneratorExp elt [⟨.Name x px, iter, [], 0⟩] scope gpos) X.env) :: starEach [] X.env := by rfl) :
    PE X (.Call (.Name "all" p) [.GeneratorExp elt [⟨.Name x px, iter, [], 0⟩] scope gpos] [] pos) (tAllG P R te) := by
  refine ⟨fun pins s σ H Q I h => ?_⟩
  refine wpAny_Call_Name_kw (ld_blt I hg hm boot_all ?_)
  refine PyProof.Rows.callWith_builtin1 ?_ he (by rfl)
  rw [he]
  show wpAny _ _ (spliced ((false, eval (.GeneratorExp elt [⟨.Name x px, iter, [], 0⟩] scope gpos) X.env) :: backTo pos (starEach [] X.env))) _ _ s
  refine Calls.spliced_cons (gen_core (R := fun v H1 n F => ∃ f : Nat → Bool, F = (fun i y => y = .bool (f i)) ∧ ∀ H2, Tabbed P H1 H2 → Q (.bl ((List.range n).all f)) H2) hr TB hcode S hi hs I h
    (fun v H1 ⟨ht, n, f, hR, hq⟩ => ⟨ht, n, _, ⟨f, rfl, hq⟩, fun s1 u I1 r1 => hsrc pins σ v H1 n f s1 u hR I1 r1⟩) fun v H1 n F g s5 hR hG => ?_)
  obtain ⟨f, rfl, hq⟩ := hR
  obtain ⟨fp, wr, G, St, W, hst, hfp, hI⟩ := hG
  refine Calls.spliced_nil ?_
  refine call_all_walkS (W.self 0 _ _ _ hst ⟨g, fp, wr, G, n, _, St, f, rfl, W, hst, fun j y sj Qj Ej hy hQj => ?_, fun s' hmv => ?_⟩)
  · obtain ⟨i, hi1, rfl⟩ := hy
    obtain ⟨rfl, _⟩ := rng_at hi1
    exact wpAny_truthy_bool hQj
  · obtain ⟨H2, hT, J⟩ := hI s' hmv
    exact ⟨.bl _, H2, J, rfl, hq H2 hT⟩
/-- sum(elt for x in iter) of small numbers -/
def tSumG (P : Addr) (R : V → Hp → List Int → Prop) (te : TE) : TE := fun σ H Q => te σ H fun v H1 => TabG H1 P ∧ ∃ ns : List Int, R v H1 ns ∧ (∀ z ∈ ns, 0 ≤ z) ∧ ns.sum < 2 ^ 62 ∧ ∀ H2, Tabbed P H1 H2 → Q (.int ns.sum) H2
theorem preSum_le {val : Nat → Int} (h : ∀ j, 0 ≤ val j) : ∀ n m, n ≤ m → preSum val n ≤ preSum val m
  | n, 0, e => by
    have z : n = 0 := by omega
    subst z
    exact Int.le_refl _
  | n, m + 1, e => by
    by_cases z : n = m + 1
    · subst z
      exact Int.le_refl _
    · have ih := preSum_le h n m (by omega)
      have hv := h m
      show _ ≤ preSum val m + val m
      omega
theorem preSum_list : ∀ ns : List Int, preSum (fun i => ns.getD i 0) ns.length = ns.sum := by
  intro ns
  have key : ∀ n, n ≤ ns.length → preSum (fun i => ns.getD i 0) n = (ns.take n).sum := by
    intro n
    induction n with
    | zero => intro _; rfl
    | succ m ih =>
      intro h
      show preSum _ m + ns.getD m 0 = _
      rw [ih (by omega)]
      have e : ns[m]? = some (ns.getD m 0) := by
        rw [List.getD_eq_getElem?_getD, List.getElem?_eq_getElem (by omega)]
        rfl
      exact (sum_take e).symm
  rw [key _ (Nat.le_refl _), List.take_length]
theorem pe_sumG {c P : Addr} {elt iter : Expr} {x : Str} {px p pos gpos : Pos} {scope : Scope} {R : V → Hp → List Int → Prop} {te : TE} {k : Nat}
    (hr : Room k X.A) (hm : X.mg "sum" = none) (TB : TabB X.base X.mg c P) (hcode : X.env.code = .ref c) (S : GenS X.env scope x) (hi : PE X iter te)
    (hsrc : ∀ (pins : List (Addr × Obj)) (σ : L2.St) (v : V) (H1 : Hp) (ns : List Int) (s1 : Shared) (u : Value), R v H1 ns → Inv X pins σ H1 s1 → RelV v u → Src X P scope x elt s1 u ns.length (fun i y => ∃ t, y = .int (ns.getD i 0) t))
    (hg : Gl X "sum" := by rfl) (hs : ∀ v, genFold iter X.env v = pure v := by intro _; rfl)
    (he : starEach [.GeneratorExp elt [⟨.Name x px, iter, [], 0⟩] scope gpos] X.env = (false, eval (.GeneratorExp elt [⟨.Name x px, iter, [], 0⟩] scope gpos) X.env) :: starEach [] X.env := by rfl) :
    PE X (.Call (.Name "sum" p) [.GeneratorExp elt [⟨.Name x px, iter, [], 0⟩] scope gpos] [] pos) (tSumG P R te) := by
  refine ⟨fun pins s σ H Q I h => ?_⟩
  refine wpAny_Call_Name_kw (ld_blt I hg hm boot_sum ?_)
  refine PyProof.Rows.callWith_builtin1 ?_ he (by rfl)
  rw [he]
  show wpAny _ _ (spliced ((false, eval (.GeneratorExp elt [⟨.Name x px, iter, [], 0⟩] scope gpos) X.env) :: backTo pos (starEach [] X.env))) _ _ s
  refine Calls.spliced_cons (gen_core (R := fun v H1 n F => ∃ ns : List Int, n = ns.length ∧ F = (fun i y => ∃ t, y = .int (ns.getD i 0) t) ∧ (∀ z ∈ ns, 0 ≤ z) ∧ ns.sum < 2 ^ 62 ∧ ∀ H2, Tabbed P H1 H2 → Q (.int ns.sum) H2) hr TB hcode S hi hs I h
    (fun v H1 ⟨ht, ns, hR, h0, hb, hq⟩ => ⟨ht, _, _, ⟨ns, rfl, rfl, h0, hb, hq⟩, fun s1 u I1 r1 => hsrc pins σ v H1 ns s1 u hR I1 r1⟩) fun v H1 n F g s5 hR hG => ?_)
  obtain ⟨ns, rfl, rfl, h0, hb, hq⟩ := hR
  obtain ⟨fp, wr, G, St, W, hst, hfp, hI⟩ := hG
  refine Calls.spliced_nil ?_
  have hv0 : ∀ j, 0 ≤ ns.getD j 0 := fun j => by
    rw [List.getD_eq_getElem?_getD]
    cases e : ns[j]? with
    | none => exact Int.le_refl _
    | some z => exact h0 z (List.mem_of_getElem? e)
  refine call_sum_walkS (W.self 0 _ _ _ hst ⟨g, fp, wr, G, ns.length, _, St, (fun i => ns.getD i 0), rfl, W, hst, hfp, fun j y hy => ?_, fun j hj => ?_, fun s' t' hmv => ?_⟩)
  · obtain ⟨i, hi1, t, rfl⟩ := hy
    obtain ⟨rfl, _⟩ := rng_at hi1
    exact ⟨t, rfl⟩
  · have e1 : preSum (fun i => ns.getD i 0) (j + 1) ≤ preSum (fun i => ns.getD i 0) ns.length := preSum_le hv0 _ _ (by omega)
    rw [preSum_list] at e1
    have e2 : preSum (fun i => ns.getD i 0) 0 ≤ preSum (fun i => ns.getD i 0) j := preSum_le hv0 _ _ (Nat.zero_le _)
    have e3 : preSum (fun i => ns.getD i 0) (j + 1) = preSum (fun i => ns.getD i 0) j + ns.getD j 0 := rfl
    have e4 : preSum (fun i => ns.getD i 0) 0 = 0 := rfl
    have e5 := hv0 j
    refine ⟨⟨?_, ?_⟩, ⟨?_, ?_⟩⟩ <;> simp only [] at * <;> omega
  · obtain ⟨H2, hT, J⟩ := hI s' hmv
    refine ⟨.int _, H2, J, ⟨t', ?_⟩, hq H2 hT⟩
    rw [preSum_list]
end
end LfG

set_option Elab.async false
set_option linter.all false
set_option maxRecDepth 100000
set_option maxHeartbeats 4000000
/-! Leaf H: what walks in a generator expression: a text's signs, each asked to be in a global text; a list of tuples, the first item of each. -/
namespace LfG
open PySem PySem.Spec PyProof.Rows L2
open GxR (TabB TabG Tabbed GenS)
section
variable {X : Cx} {pins : List (Addr × Obj)} {σ : L2.St}
theorem ld_loc {M : Model} {A : Around} {E : Value → Shared → Prop} {s : Shared} {cenv : Env} {m : Str → Option Value} {x : Str} {p : Pos} {v : Value} {Q : Value → Shared → Prop} (hk : cenv.scope.kind = .function) (hl : cenv.scope.names.lookup x = some .local) (hn : s.heap.Ns cenv.locals m) (hm : m x = some v)
    (hd : (x == ("__debug__" : Str)) = false) (h : Q v s) : wpAny M A (eval (.Name x p) cenv) Q E s := wpAny_Name (wpAny_loadName_local hk hl hn hm h) hd
/-- sign in SIGNS, over the signs of a text -/
theorem src_signs {P : Addr} {scope : Scope} {x gx : Str} {p1 p2 p3 : Pos} {a z : Str} {t tz : Tok} {H1 : Hp} {s1 : Shared} (I : Inv X pins σ H1 s1) (hP : ∃ q, H1 P = some (.tbl q)) (hk : scope.kind = .function) (hl : scope.names.lookup x = some .local) (hgl : scope.names.lookup gx = some .globalImplicit) (hm : X.mg gx = some (.str z tz))
    (hd : (x == ("__debug__" : Str)) = false := by decide) (hd2 : (gx == ("__debug__" : Str)) = false := by decide) :
    Src X P scope x (.Compare (.Name x p1) [.In] [.Name gx p2] p3) s1 (.str a t) a.cps.size (fun i y => y = .bool (match a.cps.toList[i]? with | some c => decide (c ∈ z.cps.toList) | none => false)) := by
  have nP : ∀ b o, X.base.get? b = some o → b ≠ P := fun b o e n => by
    have q := (I.bs b o e).2
    obtain ⟨ps, hP⟩ := hP
    rw [n, hP] at q
    cases q
  have hel : ∀ (cenv : Env) (A' : Around) (E' : Value → Shared → Prop) (i : Nat) (v : Value) (s2 : Shared) (m2 : Str → Option Value), cenv.scope = scope → cenv.globals = mainGlobals → s2.heap.Ns cenv.locals m2 → m2 x = some v → SignAt a i v →
      (∀ b u, b ≠ P → s1.heap.get? b = some u → s2.heap.get? b = some u) → wpAny (model X.prog X.w) A' (eval (.Compare (.Name x p1) [.In] [.Name gx p2] p3) cenv)
        (fun y s3 => y = .bool (match a.cps.toList[i]? with | some c => decide (c ∈ z.cps.toList) | none => false) ∧ Keeps s2 s3) E' s2 := by
    intro cenv A' E' i v s2 m2 hsc hgb hn hv ⟨c, u, hc, ev⟩ hkp
    subst ev
    refine wpAny_Compare1 ?_
    refine ld_loc (by rw [hsc]; exact hk) (by rw [hsc]; exact hl) hn hv hd ?_
    have hG : s2.heap.Ns cenv.globals X.mg := by
      rw [hgb]
      exact I.mod.glob.keeps fun b o e => hkp b o (nP b o e) (I.bk b o e)
    refine wpAny_Name (PySem.W.ks_loadName_global (by rw [hsc]; exact hk) (show cenv.scope.names.lookup gx = _ by rw [hsc]; exact hgl) (Calls.loadGlobal_global hG hm ?_)) hd2
    refine PyProof.Rows.in_str ⟨?_, GxR.keeps_refl _⟩
    have e9 : a.cps.toList[i]? = some c := by rw [Array.getElem?_toList]; exact hc
    rw [e9]
    exact congrArg Value.bool (PySem.StrLaws.found_one z c)
  cases ha : a.cps.all (· < 128) with
  | false => exact ⟨_, [], SignAt a, _, fun Q' h => wpAny_pyIter_wide ha h, fun A' hA => Walks.strWide hA _ a t, fun b hb => absurd hb (by simp), ⟨_, Heap.get?_push_size _ rfl, rfl, rfl⟩, hel⟩
  | true => exact ⟨_, [], SignAt a, _, fun Q' h => wpAny_pyIter_ascii ha h, fun A' hA => Walks.strAscii hA _ a t, fun b hb => absurd hb (by simp), ⟨_, Heap.get?_push_size _ rfl, rfl, rfl⟩, hel⟩
/-- x[0], over a list of tuples that begin with whole numbers -/
theorem src_heads {P : Addr} {scope : Scope} {x : Str} {j : Nat} {p1 p2 p3 : Pos} {l : Addr} {vs : List V} {ns : List Int} {H1 : Hp} {s1 : Shared} (I : Inv X pins σ H1 s1) (hP : ∃ q, H1 P = some (.tbl q)) (hL : SqL X.K H1 l vs) (hlen : vs.length = ns.length)
    (hv : ∀ (i : Nat) (v : V) (n : Int), vs[i]? = some v → ns[i]? = some n → ∃ a r, v = .ref a ∧ SqT X.K H1 a (.int n :: r)) (hk : scope.kind = .function) (hl : scope.names.lookup x = some .local) (hd : (x == ("__debug__" : Str)) = false := by decide) :
    Src X P scope x (.Subscript (.Name x p1) (.Constant (.int 0) j p2) p3) s1 (.ref l) ns.length (fun i y => ∃ t, y = .int (ns.getD i 0) t) := by
  obtain ⟨q, hP⟩ := hP
  have hPs : s1.heap.get? P = some { cls := .none, data := .fields q } := I.hok P _ hP
  obtain ⟨its, rv, hIL, hz⟩ := I.list hL
  have hI := hIL.isList
  have hlt : l < s1.heap.objs.size := by
    obtain ⟨_, e, _⟩ := _root_.id hI
    exact Heap.lt_size e
  have hlP : l ≠ P := fun z => by
    obtain ⟨_, e, hc1, _, hd1⟩ := _root_.id hI
    rw [z, hPs] at e
    cases e
    cases hd1
  have hil : its.length = ns.length := by rw [← rv.length, hlen]
  refine ⟨{ cls := .type "list_iterator", data := .fields #[.ref l, .int 0 0] }, [l], fun i v => its.toArray[i]? = some v, fun i h => h.IsListIter s1.heap.objs.size l i ∧ h.IsList l its.toArray, fun Q' h => wpAny_pyIter_list hI h, fun A' hA => by
      have W := Walks.list (prog := X.prog) (w := X.w) hA s1.heap.objs.size l (Nat.ne_of_lt hlt) its.toArray
      have ez : its.toArray.size = ns.length := by rw [List.size_toArray, hil]
      rw [ez] at W
      exact W, fun b hb => ?_, ⟨⟨_, Heap.get?_push_size _ rfl, rfl, rfl⟩, ?_⟩, ?_⟩
  · have eb : b = l := by simpa using hb
    rw [eb]
    exact ⟨hlt, hlP⟩
  · obtain ⟨o, e1, e2⟩ := _root_.id hI
    exact ⟨o, Heap.get?_push_of_some _ e1, e2⟩
  · intro cenv A' E' i v s2 m2 hsc hgb hn hm hPf hkp
    have hit : its[i]? = some v := by simpa using hPf
    have hi : i < its.length := (List.getElem?_eq_some_iff.mp hit).1
    have hvs : vs[i]? = some (vs[i]'(by rw [rv.length]; exact hi)) := List.getElem?_eq_getElem _
    have hns : ns[i]? = some (ns[i]'(by omega)) := List.getElem?_eq_getElem _
    obtain ⟨u, hu, ru⟩ := rv.get hvs
    rw [hit] at hu
    cases hu
    obtain ⟨a, r, ea, hT⟩ := hv i _ _ hvs hns
    rw [ea] at ru
    cases ru
    obtain ⟨ts, rt, pT, _⟩ := I.tuple hT
    have haP : a ≠ P := fun z => by
      obtain ⟨_, e1, _, _, hd1⟩ := _root_.id pT
      rw [z, hPs] at e1
      cases e1
      cases hd1
    have pT2 : IsTup s2.heap a ts.toArray := by
      obtain ⟨o, e1, e2⟩ := _root_.id pT
      exact ⟨o, hkp a o haP e1, e2⟩
    cases rt with
    | cons r0 rr =>
      obtain ⟨t0, rfl⟩ := r0
      refine Subscript_Constant (ld_loc (by rw [hsc]; exact hk) (by rw [hsc]; exact hl) hn hm hd ?_)
      refine wpAny_Constant_int ?_
      have eg : ns.getD i 0 = ns[i]'(by omega) := by
        rw [List.getD_eq_getElem?_getD, hns]
        rfl
      refine ⟨"tuple", _, slot_tuple_getitem.lookup, pT2.typeIs, getItem_tuple (j := 0) pT2 (by decide) (by decide) (by simp [seqIndex?]) (by simp; rfl) ⟨⟨t0, ?_⟩, GxR.keeps_tok _ _⟩⟩
      rw [eg]
end
end LfG

set_option Elab.async false
set_option linter.all false
set_option maxRecDepth 100000
set_option maxHeartbeats 4000000
/-! Leaf S: sorted(d) of a dict with tuple keys: a new list of the keys' own tuples, in some order. -/
namespace LfS
open PySem PySem.Spec PyProof.Rows L2
open PySem.W (EachIs KdlSrc)
def keyD : Key → PyData
  | .inl i => .int i
  | .inr z => .str z
def encK (b : List Key × Addr) : PyData := .tuple (b.1.map keyD)
def isRef (v : Value) (b : List Key × Addr) : Prop := v = .ref b.2
theorem src_dictT {prog : Program} {w : World} {d : Addr} {o : Obj} {es : Array DictEntry} {ep : Nat} (lo : (d == sysModules) = false) (hx : o.ExactDict) (hdt : o.data = .dict es ep) :
    KdlSrc prog w "dict" d d es.size (fun i v => ∃ en, es[i]? = some en ∧ v = en.key) (fun h => h.get? d = some o) where
  type := fun s hm => ⟨o, hm, hx.1⟩
  there := fun h hm => ⟨Heap.lt_size hm, Heap.lt_size hm⟩
  keep := fun h h' hm hk => hk d (.inl rfl) o hm
  notList := by decide
  notTuple := by decide
  hint := fun A E s Q hm hq => PySem.W.kdl_hint_dict ⟨o, hm, hx.1⟩ hq
  iter := fun A s hh hm => by
    have hlt : d < s.heap.objs.size := Heap.lt_size hm
    refine ⟨{ cls := .type "dict_keyiterator", data := .fields #[.ref d, .int 0 0, .int es.size 0, .int ep 0] }, fun i h => h.IsKeyIter s.heap.objs.size d i es.size ep ∧ h.get? d = some o, fun E Q hq => iter_keys lo hm hx hdt hq, ?_, ⟨_, Heap.get?_push_size _ rfl, rfl, rfl⟩, Heap.get?_push_of_some _ hm⟩
    refine ⟨by simp, fun i h h' st hk => ⟨st.1.at fun o e => hk _ (by simp) o e, hk d (by simp) o st.2⟩, fun i s2 Q E hi st hQ => ?_, fun s2 Q E st hQ => ?_, fun i s2 Q E st hQ => ?_⟩
    · have he : es[i]? = some es[i] := by simp [hi]
      refine next_key_item st.1 st.2 hdt rfl he fun h' st' sb => hQ _ h' s2.toks ⟨_, he, rfl⟩ ⟨st', (sb.2 d (Nat.ne_of_lt hlt)).trans st.2⟩ fun b ob hb e => (sb.2 b (fun z => hb (by simp [z]))).trans e
    · exact next_key_end hh st.1 st.2 hdt rfl (Nat.le_refl _) fun h' eb => hQ h' s2.toks fun b ob hb e => eb b ob (fun z => hb (by simp [z])) e
    · refine wpAny_pyIter_slot st.1.typeIs F.slot_dict_keyiterator_iter (wpAny_call_entry F.slot_dict_keyiterator_iter st.1.typeIs F.entry_dict_keyiterator_iter ?_ (F.args_dict_keyiterator_iter_1 _))
      show wpAny _ _ (ret (.ref _)) _ _ s2
      exact wpAny_pure ⟨_, rfl, "dict_keyiterator", _, st.1.typeIs, F.slot_dict_keyiterator_next.lookup, hQ⟩
theorem reads_keys {h : Heap} : ∀ {ks : List Key} {us : List Value}, Vals (ks.map kV) us → ReadsAll h us (ks.map keyD) []
  | [], _, r => by cases r; exact .nil
  | k :: ks, _, r => by
    cases r with
    | cons r1 r2 =>
      have e : ([] : List Addr) = [] ++ [] := rfl
      rw [List.map_cons, e]
      refine .cons ?_ (reads_keys r2)
      cases k with
      | inl i => obtain ⟨t, rfl⟩ := r1; exact .int i t
      | inr z => obtain ⟨t, rfl⟩ := r1; exact .str z t
theorem each_idx {α β : Type} {R : α → β → Prop} : ∀ {as : List α} {bs : List β}, as.length = bs.length → (∀ (i : Nat) (a : α) (b : β), as[i]? = some a → bs[i]? = some b → R a b) → EachIs R as bs
  | [], [], _, _ => .nil
  | a :: as, b :: bs, hl, h => .cons (h 0 a b rfl rfl) (each_idx (by simpa using hl) fun i x y e1 e2 => h (i + 1) x y (by simpa using e1) (by simpa using e2))
  | [], _ :: _, hl, _ => by simp at hl
  | _ :: _, [], hl, _ => by simp at hl
theorem each_refs : ∀ {vs : List Value} {bs : List (List Key × Addr)}, EachIs isRef vs bs → Vals (bs.map fun b => V.ref b.2) vs
  | _, _, .nil => .nil
  | _, _, .cons h t => .cons h (each_refs t)
def rSortT : List V → Hp → VK → Prop := fun xs H Q => ∃ (a : Addr) (kvs : List (List Key × V)), xs = [.ref a] ∧ H a = some (.dT kvs) ∧ (∀ p ∈ kvs, p.1 ≠ []) ∧ (∀ p ∈ kvs, ∀ q ∈ kvs, PySem.W.alike (.tuple (p.1.map keyD)) (.tuple (q.1.map keyD)) = true) ∧
  ∀ (ps : List (List Key × Addr)) (p : Addr), (ps.map (·.1)).Perm (kvs.map (·.1)) → (∀ b ∈ ps, H b.2 = some (.tup (b.1.map kV))) → H p = none → Q (.ref p) (upd H p (.lst (ps.map fun b => V.ref b.2)))
theorem depth_keys : ∀ ks : List Key, PyData.depthAll (ks.map keyD) = 0
  | [] => rfl
  | k :: ks => by
    rw [List.map_cons, PyData.depthAll, depth_keys ks]
    cases k <;> rfl
section
variable {X : Cx}
theorem call_sortedT (hcalm : X.calm = true) (hu : X.A.units + 16 < cLine) : CallR X (.builtin "sorted") rSortT := by
  intro pins s σ H xs us Q I r q
  obtain ⟨a, kvs, ex, hd, hne, hal, q⟩ := q
  subst ex
  obtain ⟨u, eu, rx⟩ := vals1 r
  subst eu
  cases rx
  obtain ⟨hz, lo, xs', rel, o, es, ep, ho, hx, hdt, hes, his, hn⟩ := dt_of I.hok hd
  have l1 : kvs.length = xs'.length := Paired.length rel
  have l2 : es.size = xs'.length := size_of_entries hes
  have h16 : es.size ≤ sizeLine := by omega
  refine Calls.call_function_entry PyProof.Rows.kind_sorted PyProof.Rows.plain_sorted PyProof.Rows.entry_sorted (PyProof.Rows.args_sorted1 _) ?_
  unfold Builtin.«sorted»
  refine wpAny_bind (m := checkCount "sorted" 1 1 _) (wpAny_pure ?_)
  refine wpAny_bind (PySem.W.kdu_collect (A := X.A.in1) (src_dictT lo hx hdt) (I.ok.hd hcalm) ho h16 fun h' tk acc hk hacc => ?_)
  have hal' : acc.toList.length = es.size := by rw [Array.length_toList, hacc.1]
  have I1 : Inv X pins σ H { s with heap := h', toks := tk } := I.kept hk
  refine wpAny_bind (wpAny_newList ?_ (by rw [hal']; exact h16))
  have hoL : (h'.push (seqObj "list" acc.toList.toArray 0)).get? h'.objs.size = some (seqObj "list" acc.toList.toArray 0) := Heap.get?_push_size _ rfl
  show wpAny _ _ _ _ _ { s with heap := h'.push (seqObj "list" acc.toList.toArray 0), toks := tk }
  have I2 : Inv X pins σ H { s with heap := h'.push (seqObj "list" acc.toList.toArray 0), toks := tk } := I1.kept (t' := tk) fun b ob e => Heap.get?_push_of_some _ e
  -- the keys that are collected
  have hE : EachIs isRef acc.toList (xs'.map fun x => (x.1, x.2.1)) := each_idx (by rw [hal', l2, List.length_map]) fun i v b e1 e2 => by
    obtain ⟨en, e3, e4⟩ := hacc.2 i v (by rw [← Array.getElem?_toList]; exact e1)
    rw [List.getElem?_map] at e2
    rw [entry_at hes i] at e3
    cases hx' : xs'[i]? with
    | none => rw [hx'] at e2; cases e2
    | some x =>
      rw [hx'] at e2 e3
      cases e2
      have e5 : entryOfKey (tupleKind (mixKind X.prog X.w)) x = en := Option.some.inj e3
      show v = _
      rw [e4, ← e5]
      rfl
  have hmem : ∀ b ∈ xs'.map (fun x => (x.1, x.2.1)), H b.2 = some (.tup (b.1.map kV)) ∧ ∃ v, (b.1, v) ∈ kvs := fun b hb => by
    obtain ⟨x, hxm, rfl⟩ := List.mem_map.mp hb
    obtain ⟨i, hi⟩ := List.mem_iff_getElem?.mp hxm
    obtain ⟨e0, he0, r1, r2, r3⟩ := L2.DX.pget rel hi
    rw [r1] at r2
    exact ⟨r2, e0.2, by rw [← r1]; exact List.mem_of_getElem? he0⟩
  have hkeys : (xs'.map (fun x => (x.1, x.2.1))).map (·.1) = kvs.map (·.1) := by
    rw [List.map_map]
    refine List.ext_getElem? fun i => ?_
    rw [List.getElem?_map, List.getElem?_map]
    cases hi : xs'[i]? with
    | none =>
      have : kvs[i]? = none := by
        rw [List.getElem?_eq_none_iff] at hi ⊢
        omega
      rw [this]
      rfl
    | some x =>
      obtain ⟨e0, he0, r1, _⟩ := L2.DX.pget rel hi
      rw [he0]
      show some x.1 = some e0.1
      rw [r1]
  have hR : EachIs (fun v b => ∃ as, Reads (h'.push (seqObj "list" acc.toList.toArray 0)) v (encK b) as ∧ h'.objs.size ∉ as) acc.toList (xs'.map fun x => (x.1, x.2.1)) := by
    have key : ∀ {vs : List Value} {bs : List (List Key × Addr)}, EachIs isRef vs bs → (∀ b ∈ bs, H b.2 = some (.tup (b.1.map kV))) → EachIs (fun v b => ∃ as, Reads (h'.push (seqObj "list" acc.toList.toArray 0)) v (encK b) as ∧ h'.objs.size ∉ as) vs bs := by
      intro vs bs e
      induction e with
      | nil => intro _; exact .nil
      | @cons v b vs bs hv ht ih =>
        intro hm
        refine .cons ?_ (ih fun b hb => hm b (List.mem_cons_of_mem _ hb))
        obtain ⟨_, its, rv, ot, hot, hct, nt, hdt'⟩ := (show ObjOk X.prog X.w H _ b.2 (.tup (b.1.map kV)) from I2.hok b.2 _ (hm b List.mem_cons_self))
        have ev : v = .ref b.2 := hv
        rw [ev]
        refine ⟨[], .tuple hot hct hdt' (by simpa using reads_keys rv), by simp⟩
    exact key hE fun b hb => (hmem b hb).1
  have hAl : PySem.W.AllAlike ((xs'.map fun x => (x.1, x.2.1)).map encK) := fun d hd d' hd' => by
    obtain ⟨b, hb, rfl⟩ := List.mem_map.mp hd
    obtain ⟨b', hb', rfl⟩ := List.mem_map.mp hd'
    obtain ⟨_, v, hv⟩ := hmem b hb
    obtain ⟨_, v', hv'⟩ := hmem b' hb'
    exact hal _ hv _ hv'
  have hSo : PySem.W.Sortable ((xs'.map fun x => (x.1, x.2.1)).map encK) := .inl fun d hd => by
    obtain ⟨b, hb, rfl⟩ := List.mem_map.mp hd
    obtain ⟨_, v, hv⟩ := hmem b hb
    have hn0 := hne _ hv
    show ∃ x r, PyData.tuple (b.1.map keyD) = _
    cases hb1 : b.1 with
    | nil => exact absurd hb1 hn0
    | cons k ks => exact ⟨keyD k, ks.map keyD, rfl⟩
  refine wpAny_bind (wpAny_holding (PySem.W.list_sort_data (s := { s with heap := h'.push (seqObj "list" acc.toList.toArray 0), toks := tk }) hoL hE hR hAl hSo (by rw [List.length_map]; omega) (fun b hb => ?_) fun out hl hs => ?_))
  · have e : (encK b).depth ≤ 1 := by
      show (PyData.tuple (b.1.map keyD)).depth ≤ 1
      rw [PyData.depth, depth_keys]
      exact Nat.le_refl _
    have e2 : X.A.in1.units ≤ X.A.units + 10 := by
      show X.A.units + 1 ≤ _
      omega
    omega
  · obtain ⟨e', he'⟩ := PyProof.Rows.sortedHeap_at (vs := acc.toList) (out := out.toArray) hoL
    have hperm := List.mergeSort_perm (xs'.map fun x => (x.1, x.2.1)) (PySem.W.dataLe false encK)
    have hlen : (((xs'.map fun x => (x.1, x.2.1)).mergeSort (PySem.W.dataLe false encK)).map fun b => V.ref b.2).length ≤ sizeLine := by
      rw [List.length_map, hperm.length_eq, List.length_map]
      omega
    refine wpAny_pure ⟨_, rfl, .ref h'.objs.size, upd H h'.objs.size (.lst (((xs'.map fun x => (x.1, x.2.1)).mergeSort (PySem.W.dataLe false encK)).map fun b => V.ref b.2)), I1.laid (t' := tk) (fun b u e => ?_) (Nat.le_refl _)
      (show ObjOk X.prog X.w _ _ _ (.lst _) from ⟨hlen, out, e', each_refs hs, he'⟩), rfl, q _ _ (hkeys ▸ hperm.map (·.1)) (fun b hb => (hmem b (hperm.mem_iff.mp hb)).1) (I1.hok.fresh (Nat.le_refl _))⟩
    have hb : b < h'.objs.size := Heap.lt_size e
    rw [PyProof.Rows.sortedHeap_old (Nat.ne_of_lt hb) (by rw [size_push']; exact Nat.lt_succ_of_lt hb)]
    exact Heap.get?_push_of_some _ e
end
end LfS

set_option Elab.async false
set_option linter.all false
set_option maxRecDepth 100000
set_option maxHeartbeats 4000000
/-! Leaf F: frames: what may be written (N), what is true of it (T, at a count b). -/
namespace Lf
open PySem PySem.Spec PyProof.Rows L2
open GxR (TabB TabG Tabbed GenS)
structure Fr where
  N : Addr → Prop
  T : Nat → Hp → Prop
  pos : ∀ b H a, T b H → N a → ∃ o, H a = some o ∧ (∀ xs, o ≠ .tup xs) ∧ (∀ ob w, o ≠ .frz ob w) ∧ ∀ φ, o ≠ .ext φ
  loc : ∀ b H H', T b H → (∀ a, N a → H' a = H a) → (∀ a o, H a = some (.ext o) → H' a = some (.ext o)) → T b H'
  mono : ∀ b c H, T b H → b ≤ c → T c H
structure Go (F : Fr) (b : Nat) (H : Hp) (c : Nat) (H' : Hp) : Prop where
  kp : Kp F.N H H'
  l : F.T b H
  r : F.T c H'
section
variable {F : Fr} {b c d : Nat} {H H1 H2 H' : Hp}
theorem Go.refl (h : F.T b H) : Go F b H b H := ⟨Kp.refl, h, h⟩
theorem Go.trans (g : Go F b H c H1) (g' : Go F c H1 d H2) : Go F b H d H2 := ⟨g.kp.trans g'.kp, g.l, g'.r⟩
theorem Go.le (g : Go F b H c H1) (h : c ≤ d) : Go F b H d H1 := ⟨g.kp, g.l, F.mono _ _ _ g.r h⟩
theorem Fr.fresh (F : Fr) {p : Addr} (h : F.T b H) (e : H p = none) : ¬ F.N p := fun n => by
  obtain ⟨o, q, _⟩ := F.pos _ _ _ h n
  rw [e] at q
  cases q
theorem Go.nn (g : Go F b H c H') {p : Addr} (e : H p = none) : ¬ F.N p := F.fresh g.l e
theorem Go.nn' (g : Go F b H c H') {p : Addr} (e : H' p = none) : ¬ F.N p := F.fresh g.r e
theorem nx_none {p : Addr} (h : H p = none) : ∀ o, H p ≠ some (.ext o) := fun o z => by rw [h] at z; cases z
theorem nx_lst {p : Addr} {xs : List V} (h : H p = some (.lst xs)) : ∀ o, H p ≠ some (.ext o) := fun o z => by rw [h] at z; cases z
theorem nx_dK {p : Addr} {kvs : List (Key × V)} (h : H p = some (.dK kvs)) : ∀ o, H p ≠ some (.ext o) := fun o z => by rw [h] at z; cases z
theorem nx_dT {p : Addr} {kvs : List (List Key × V)} (h : H p = some (.dT kvs)) : ∀ o, H p ≠ some (.ext o) := fun o z => by rw [h] at z; cases z
theorem Fr.upd (F : Fr) {p : Addr} {o : HO} (h : F.T b H) (n : ¬ F.N p) (x : ∀ o, H p ≠ some (.ext o)) : F.T b (upd H p o) := F.loc _ _ _ h (fun a ha => upd_ne fun z => n (z ▸ ha)) fun a u e => (upd_ne fun z => x u (by rw [← z]; exact e)).trans e
theorem Go.new (h : F.T b H) {p : Addr} {o : HO} (e : H p = none) : Go F b H b (upd H p o) := ⟨Kp.new e, h, F.upd h (F.fresh h e) (nx_none e)⟩
/-- one more thing is laid -/
theorem Go.add (g : Go F b H c H') {p : Addr} {o : HO} (e : H' p = none) : Go F b H c (upd H' p o) := g.trans (Go.new g.r e)
/-- a thing of one's own is written -/
theorem Go.put (g : Go F b H c H') {p : Addr} {o : HO} (e : H p = none) (x : ∀ o, H' p ≠ some (.ext o) := by first | exact nx_lst (by assumption) | exact nx_dK (by assumption) | exact nx_dT (by assumption)) : Go F b H c (upd H' p o) := by
  have n := g.nn e
  refine ⟨fun a u na ha => ?_, g.l, F.upd g.r n x⟩
  rw [upd_ne (fun z => by rw [z, e] at ha; cases ha)]
  exact g.kp a u na ha
theorem Go.keep (g : Go F b H c H') {p : Addr} {o : HO} (n : ¬ F.N p) (h : H p = some o) : H' p = some o := g.kp p o n h
theorem Go.back (g : Go F b H c H') {p : Addr} (n : ¬ F.N p) (h : H' p = none) : H p = none := g.kp.of_none n h
/-- what is new now was new then -/
theorem Go.was (g : Go F b H c H') {p : Addr} (h : H' p = none) : H p = none := g.back (g.nn' h) h
theorem Go.ts (g : Go F b H c H') : Ts H H' := fun a xs h => by
  have n : ¬ F.N a := fun n => by
    obtain ⟨o, q, q1, q2⟩ := F.pos _ _ _ g.l n
    rcases h with h | ⟨ob, h⟩
    · rw [q] at h
      exact q1 xs (Option.some.inj h)
    · rw [q] at h
      exact q2.1 ob _ (Option.some.inj h)
  exact rd_kp g.kp n h
theorem Go.tup (g : Go F b H c H') {a : Addr} {xs : List V} (h : H a = some (.tup xs)) : H' a = some (.tup xs) := g.kp a _ (fun n => by
  obtain ⟨o, q, q1, q2⟩ := F.pos _ _ _ g.l n
  rw [q] at h
  exact q1 xs (Option.some.inj h)) h
variable {K : PySem.W.Frag}
theorem Go.sqT (g : Go F b H c H') {a : Addr} {xs : List V} (h : SqT K H a xs) : SqT K H' a xs := sqT_ts g.ts h
theorem Go.dt (g : Go F b H c H') {v : V} {e : PyData} (h : Dt K H v e) : Dt K H' v e := Dt.ts g.ts _ _ h
theorem Go.dta (g : Go F b H c H') {vs : List V} {es : List PyData} (h : DtAll K H vs es) : DtAll K H' vs es := DtAll.ts g.ts _ _ h
/-- a new tuple is data -/
theorem dt_new {p : Addr} {vs : List V} {ds : List PyData} (e : H p = none) (h : DtAll K H vs ds) : Dt K (upd H p (.tup vs)) (.ref p) (.tuple ds) := .tup (Or.inl (Or.inl upd_same)) (DtAll.ts (ts_new e) _ _ h)
theorem Dt.inv {v : V} {ds : List PyData} (h : Dt K H v (.tuple ds)) : ∃ a xs, v = .ref a ∧ SqT K H a xs ∧ DtAll K H xs ds := by
  cases h with
  | tup hs ha => exact ⟨_, _, rfl, hs, ha⟩
theorem Dt.inv_str {v : V} {x : Str} (h : Dt K H v (.str x)) : v = .str x := by
  cases h
  rfl
theorem Dt.inv_int {v : V} {x : Int} (h : Dt K H v (.int x)) : v = .int x := by
  cases h
  rfl
theorem DtAll.inv {vs : List V} {d : PyData} {ds : List PyData} (h : DtAll K H vs (d :: ds)) : ∃ v r, vs = v :: r ∧ Dt K H v d ∧ DtAll K H r ds := by
  cases h with
  | cons h1 h2 => exact ⟨_, _, rfl, h1, h2⟩
theorem DtAll.inv0 {vs : List V} (h : DtAll K H vs []) : vs = [] := by
  cases h
  rfl
theorem DtAll.snoc {vs : List V} {ds : List PyData} {v : V} {d : PyData} (h : DtAll K H vs ds) (h1 : Dt K H v d) : DtAll K H (vs ++ [v]) (ds ++ [d]) := h.append (.cons h1 .nil)
end
/-- the code table at P may grow -/
structure HasTab (F : Fr) (P : Addr) : Prop where
  n : F.N P
  g : ∀ b H, F.T b H → TabG H P
  t : ∀ b H H', F.T b H → Tabbed P H H' → F.T b H'
theorem Go.tabbed {F : Fr} {P : Addr} (h : HasTab F P) {b : Nat} {H H' : Hp} (hT : F.T b H) (t : Tabbed P H H') : Go F b H b H' := by
  refine ⟨fun a o n e => ?_, hT, h.t _ _ _ hT t⟩
  rw [t.2 a (fun z => n (by rw [z]; exact h.n))]
  exact e
/-- a lambda is made: the table at P told anew, all else stays -/
def Lamd (P : Addr) (q : Str) (H H' : Hp) : Prop := LamX.TabS H' P q ∧ ∀ b o, b ≠ P → H b = some o → H' b = some o
/-- the code table at P tells code objects of the name q alone; it may grow -/
structure HasLam (F : Fr) (P : Addr) (q : Str) : Prop where
  n : F.N P
  g : ∀ b H, F.T b H → LamX.TabS H P q
  t : ∀ b H H', F.T b H → Lamd P q H H' → F.T b H'
theorem Go.lamd {F : Fr} {P : Addr} {q : Str} (h : HasLam F P q) {b : Nat} {H H' : Hp} (hT : F.T b H) (t : Lamd P q H H') : Go F b H b H' :=
  ⟨fun a o n e => t.2 a o (fun z => n (z ▸ h.n)) e, hT, h.t _ _ _ hT t⟩
/-- a code table, of code objects of a name or of any -/
def HasT (F : Fr) : Addr × Option Str → Prop
  | (P, none) => HasTab F P
  | (P, some q) => HasLam F P q
end Lf

set_option Elab.async false
set_option linter.all false
set_option maxRecDepth 100000
set_option maxHeartbeats 4000000
/-! Leaf C: comprehensions and loops in a frame. -/
namespace Lf
open PySem PySem.Spec PyProof.Rows L2
/-- it stays, whatever runs in the frame, and when D is written -/
def Per (F : Fr) (D : Addr) (R : V → Hp → Prop) : Prop := ∀ H H' y, Kp (fun a => F.N a ∨ a = D) H H' → Ts H H' → R y H → R y H'
theorem Per.dt {K : PySem.W.Frag} {F : Fr} {D : Addr} {d : PyData} : Per F D (fun y H => Dt K H y d) := fun _ _ _ _ t h => Dt.ts t _ _ h
theorem Per.val {F : Fr} {D : Addr} {p : V → Prop} : Per F D (fun y _ => p y) := fun _ _ _ _ _ h => h
section
variable {K : PySem.W.Frag} {F : Fr} {b e : Nat} {H1 : Hp} {a : Addr} {xs : List V} {σ : L2.St} {vs : List Nat} {g : TG} {te : TE} {Q : VK}
/-- what a comprehension holds behind i turns -/
structure LcI (F : Fr) (b e : Nat) (H1 : Hp) (D : Addr) (R : Nat → V → Hp → Prop) (i : Nat) (H : Hp) : Prop where
  go : Go F b H1 (b + i * e) H
  ex : ∃ ys, H D = some (.lst ys) ∧ ys.length = i ∧ ∀ j y, ys[j]? = some y → R j y H
theorem LcI.start {R : Nat → V → Hp → Prop} {D : Addr} (hT : F.T b H1) (hD : H1 D = none) : LcI F b e H1 D R 0 (upd H1 D (.lst [])) :=
  ⟨by rw [Nat.zero_mul]; exact Go.new hT hD, [], upd_same, rfl, fun j y h => by simp at h⟩
theorem LcI.next {R : Nat → V → Hp → Prop} {D : Addr} {i : Nat} {H H2 : Hp} {y : V} (hR : ∀ i, Per F D (R i)) (hD : H1 D = none) (p : LcI F b e H1 D R i H) (g : Go F (b + i * e) H (b + (i + 1) * e) H2) (hy : R i y H2) :
    ∃ acc, H2 D = some (.lst acc) ∧ acc.length = i ∧ LcI F b e H1 D R (i + 1) (upd H2 D (.lst (acc ++ [y]))) := by
  obtain ⟨ys, h1, h2, h3⟩ := p.ex
  have nD := p.go.nn hD
  have e2 : H2 D = some (.lst ys) := g.keep nD h1
  have gD : Go F b H1 (b + (i + 1) * e) (upd H2 D (.lst (ys ++ [y]))) := (p.go.trans g).put hD
  have t2 : Ts H2 (upd H2 D (.lst (ys ++ [y]))) := ts_mut e2 (fun _ z => by cases z) (fun _ _ z => by cases z)
  have k2 : Kp (fun a => F.N a ∨ a = D) H2 (upd H2 D (.lst (ys ++ [y]))) := Kp.mut (.inr rfl)
  exact ⟨ys, e2, h2, gD, ys ++ [y], upd_same, by rw [List.length_append, h2]; rfl, fun j z hz => by
    by_cases q : j < ys.length
    · rw [List.getElem?_append_left q] at hz
      exact hR j _ _ z (k2) t2 (hR j _ _ z (g.kp.mono fun _ n => .inl n) g.ts (h3 j z hz))
    · rw [List.getElem?_append_right (by omega)] at hz
      have q2 : j = i := by
        have := (List.getElem?_eq_some_iff.mp hz).1
        simp at this
        omega
      subst q2
      rw [h2, Nat.sub_self] at hz
      cases hz
      exact hR _ _ _ _ k2 t2 hy⟩
/-- [elt for x in t], t a tuple that stands -/
theorem lcT {R : Addr → Nat → V → Hp → Prop} (hs : SqT K H1 a xs) (hT : F.T b H1) (hz : xs.length ≤ 1000000) (hR : ∀ D i, Per F D (R D i))
    (step : ∀ D i x H', H1 D = none → LcI F b e H1 D (R D) i H' → xs[i]? = some x → ∀ P : VK, (∀ y H3, Go F (b + i * e) H' (b + (i + 1) * e) H3 → R D i y H3 → P y H3) → g x (wipe σ vs) H' fun σ2 H2 => wipe σ2 vs = wipe σ vs ∧ te σ2 H2 P)
    (fin : ∀ D ys H2, H1 D = none → Go F b H1 (b + xs.length * e) H2 → H2 D = some (.lst ys) → ys.length = xs.length → (∀ i y, ys[i]? = some y → R D i y H2) → Q (.ref D) H2) :
    tLc (iTup K (tC (.ref a))) g tYes te vs σ H1 Q := by
  refine ⟨a, rfl, ⟨_, hs⟩, fun D hD => lc_tup (LcI F b e H1 D (R D)) (LcI.start hT hD) (fun i H _ p => p.go.sqT hs) (fun i x H hx p => ?_) fun H p => ?_⟩
  · refine step D i x H hD p hx _ fun y H3 g3 r => ?_
    obtain ⟨acc, h1, h2, h3⟩ := p.next (hR D) hD g3 r
    have hi := (List.getElem?_eq_some_iff.mp hx).1
    exact ⟨acc, h1, by rw [h2]; exact Nat.lt_of_lt_of_le (Nat.lt_of_lt_of_le hi hz) (by decide), h3⟩
  · obtain ⟨ys, h1, h2, h3⟩ := p.ex
    exact fin D ys H hD p.go h1 h2 h3
/-- [elt for x in l], l a list that stands -/
theorem lcL {R : Addr → Nat → V → Hp → Prop} (hs : H1 a = some (.lst xs)) (hn : ¬ F.N a) (hT : F.T b H1) (hz : xs.length ≤ 1000000) (hR : ∀ D i, Per F D (R D i))
    (step : ∀ D i x H', H1 D = none → LcI F b e H1 D (R D) i H' → xs[i]? = some x → ∀ P : VK, (∀ y H3, Go F (b + i * e) H' (b + (i + 1) * e) H3 → R D i y H3 → P y H3) → g x (wipe σ vs) H' fun σ2 H2 => wipe σ2 vs = wipe σ vs ∧ te σ2 H2 P)
    (fin : ∀ D ys H2, H1 D = none → Go F b H1 (b + xs.length * e) H2 → H2 D = some (.lst ys) → ys.length = xs.length → (∀ i y, ys[i]? = some y → R D i y H2) → Q (.ref D) H2) :
    tLc (iList K (tC (.ref a))) g tYes te vs σ H1 Q := by
  refine ⟨a, rfl, ⟨_, .inl (.inl hs)⟩, fun D hD => lc_list (LcI F b e H1 D (R D)) (LcI.start hT hD) (fun i H _ p => .inl (.inl (p.go.keep hn hs))) (fun i x H hx p => ?_) fun H p => ?_⟩
  · refine step D i x H hD p hx _ fun y H3 g3 r => ?_
    obtain ⟨acc, h1, h2, h3⟩ := p.next (hR D) hD g3 r
    have hi := (List.getElem?_eq_some_iff.mp hx).1
    exact ⟨acc, h1, by rw [h2]; exact Nat.lt_of_lt_of_le (Nat.lt_of_lt_of_le hi hz) (by decide), h3⟩
  · obtain ⟨ys, h1, h2, h3⟩ := p.ex
    exact fin D ys H hD p.go h1 h2 h3
/-- [elt for x in range(n)] -/
theorem lcR {R : Addr → Nat → V → Hp → Prop} {n : Int} (h0 : 0 ≤ n) (hz : n ≤ 1000000) (hT : F.T b H1) (hR : ∀ D i, Per F D (R D i))
    (step : ∀ (D : Addr) (i : Nat) (H' : Hp), H1 D = none → LcI F b e H1 D (R D) i H' → (i : Int) < n → ∀ P : VK, (∀ y H3, Go F (b + i * e) H' (b + (i + 1) * e) H3 → R D i y H3 → P y H3) → g (.int (0 + (i : Nat))) (wipe σ vs) H' fun σ2 H2 => wipe σ2 vs = wipe σ vs ∧ te σ2 H2 P)
    (fin : ∀ D ys H2, H1 D = none → Go F b H1 (b + n.toNat * e) H2 → H2 D = some (.lst ys) → ys.length = n.toNat → (∀ i y, ys[i]? = some y → R D i y H2) → Q (.ref D) H2) :
    tLc (iRng1 (tCons (tC (.int n)) tNil)) g tYes te vs σ H1 Q := by
  refine ⟨n, rfl, by omega, by omega, fun D hD => lc_range (lo := 0) (n := n.toNat) (LcI F b e H1 D (R D)) (LcI.start hT hD) (fun i H hi p => ?_) fun H p => ?_⟩
  · refine step D i H hD p (by omega) _ fun y H3 g3 r => ?_
    obtain ⟨acc, h1, h2, h3⟩ := p.next (hR D) hD g3 r
    exact ⟨acc, h1, by rw [h2]; exact Nat.lt_of_lt_of_le (by omega : i < 1000000) (by decide), h3⟩
  · obtain ⟨ys, h1, h2, h3⟩ := p.ex
    exact fin D ys H hD p.go h1 h2 h3
end
end Lf

set_option Elab.async false
set_option linter.all false
set_option maxRecDepth 100000
set_option maxHeartbeats 4000000
/-! Leaf D: documents, plainly: names, sizes, keys, the check's loop, the order. -/
namespace Lf
open PySem PySem.Spec
open PySem.W (alike alikeAll dataLt keyToks keyToksAll)
def smalls : Str := "abcdefghijklmnopqrstuvwxyz"
def signs : Str := "abcdefghijklmnopqrstuvwxyz0123456789"
def isNameS (s : Str) : Bool := decide (1 ≤ s.length) && decide (s.length ≤ 8) && (match s.cps.toList with
  | c :: _ => decide (c ∈ smalls.cps.toList)
  | [] => false) && s.cps.toList.all fun c => decide (c ∈ signs.cps.toList)
def isName : PyData → Bool
  | .str s => isNameS s
  | _ => false
inductive Doc where
  | nd (n : Str) (ps : List Doc)
mutual
def Doc.enc : Doc → PyData
  | .nd n ps => .tuple (.str n :: encs ps)
def encs : List Doc → List PyData
  | [] => []
  | d :: r => d.enc :: encs r
end
mutual
def Doc.size : Doc → Nat
  | .nd _ ps => 1 + sizes ps
def sizes : List Doc → Nat
  | [] => 0
  | d :: r => d.size + sizes r
end
mutual
def Doc.deep : Doc → Nat
  | .nd _ ps => 1 + deeps ps
def deeps : List Doc → Nat
  | [] => 0
  | d :: r => max d.deep (deeps r)
end
mutual
def Doc.key : Doc → PyData
  | .nd n ps => .tuple [.int ((1 + sizes ps : Nat) : Int), .str n, .int ((ps.length : Nat) : Int), .tuple (keys ps)]
def keys : List Doc → List PyData
  | [] => []
  | d :: r => d.key :: keys r
end
mutual
/-- right names, three parts at most -/
def Doc.fine : Doc → Bool
  | .nd n ps => isNameS n && decide (ps.length ≤ 3) && fines ps
def fines : List Doc → Bool
  | [] => true
  | d :: r => d.fine && fines r
end
theorem encs_map : ∀ ps, encs ps = ps.map Doc.enc
  | [] => rfl
  | d :: r => by rw [encs, encs_map r]; rfl
theorem keys_map : ∀ ps, keys ps = ps.map Doc.key
  | [] => rfl
  | d :: r => by rw [keys, keys_map r]; rfl
theorem encs_len (ps : List Doc) : (encs ps).length = ps.length := by rw [encs_map, List.length_map]
theorem keys_len (ps : List Doc) : (keys ps).length = ps.length := by rw [keys_map, List.length_map]
theorem sizes_sum : ∀ ps, sizes ps = (ps.map Doc.size).sum
  | [] => rfl
  | d :: r => by rw [sizes, sizes_sum r]; rfl
theorem fines_all : ∀ ps, fines ps = true ↔ ∀ d ∈ ps, d.fine = true
  | [] => by simp [fines]
  | d :: r => by rw [fines, Bool.and_eq_true, fines_all r]; simp
theorem deeps_le {n : Nat} : ∀ ps, deeps ps ≤ n ↔ ∀ d ∈ ps, d.deep ≤ n
  | [] => by simp [deeps]
  | d :: r => by rw [deeps, Nat.max_le, deeps_le r]; simp
theorem size_le_sizes {ps : List Doc} : ∀ {d : Doc}, d ∈ ps → d.size ≤ sizes ps := by
  induction ps with
  | nil => intro d h; cases h
  | cons p r ih =>
    intro d h
    rw [sizes]
    rcases List.mem_cons.mp h with e | e
    · rw [e]; omega
    · have := ih e; omega
theorem size_pos : ∀ d : Doc, 1 ≤ d.size
  | .nd _ ps => by rw [Doc.size]; omega
theorem len_le_sizes : ∀ ps : List Doc, ps.length ≤ sizes ps
  | [] => Nat.le_refl _
  | d :: r => by
    rw [sizes, List.length_cons]
    have := size_pos d
    have := len_le_sizes r
    omega
theorem name_strOk {n : Str} (h : isNameS n = true) : PyData.strOk n = true := by
  unfold isNameS at h
  simp only [Bool.and_eq_true] at h
  have h2 := List.all_eq_true.mp h.2
  have key : ∀ c ∈ signs.cps.toList, c < 0x110000 := by decide +kernel
  unfold PyData.strOk
  rw [← Array.all_toList, List.all_eq_true]
  intro c hc
  exact decide_eq_true (key c (of_decide_eq_true (h2 c hc)))
theorem name_len {n : Str} (h : isNameS n = true) : n.length ≤ 8 := by
  unfold isNameS at h
  simp only [Bool.and_eq_true, decide_eq_true_eq] at h
  exact h.1.1.2
mutual
theorem canLay_key : ∀ d : Doc, d.fine = true → d.key.canLay0 = true
  | .nd n ps, h => by
    rw [Doc.fine, Bool.and_eq_true, Bool.and_eq_true] at h
    rw [Doc.key]
    have h1 := canLay_keys ps h.2
    have h2 := name_strOk h.1.1
    simp_all [PyData.canLay0, PyData.canLayAll0]
theorem canLay_keys : ∀ ps : List Doc, fines ps = true → PyData.canLayAll0 (keys ps) = true
  | [], _ => rfl
  | d :: r, h => by
    rw [fines, Bool.and_eq_true] at h
    rw [keys]
    have h1 := canLay_key d h.1
    have h2 := canLay_keys r h.2
    simp_all [PyData.canLayAll0]
end
mutual
theorem alike_key : ∀ d e : Doc, alike d.key e.key = true
  | .nd n ps, .nd m qs => by
    rw [Doc.key, Doc.key]
    have := alike_keys ps qs
    simp_all [alike, alikeAll]
theorem alike_keys : ∀ ps qs : List Doc, alikeAll (keys ps) (keys qs) = true
  | [], _ => by simp [keys, alikeAll]
  | _ :: _, [] => by simp [keys, alikeAll]
  | d :: r, e :: q => by
    rw [keys, keys, alikeAll, alike_key d e, alike_keys r q]
    rfl
end
mutual
theorem depth_key : ∀ d : Doc, d.key.depth ≤ 2 * d.deep
  | .nd n ps => by
    rw [Doc.key, Doc.deep]
    have := depth_keys ps
    simp only [PyData.depth, PyData.depthAll]
    omega
theorem depth_keys : ∀ ps : List Doc, PyData.depthAll (keys ps) ≤ 2 * deeps ps
  | [] => by simp [keys, PyData.depthAll]
  | d :: r => by
    rw [keys, deeps]
    have := depth_key d
    have := depth_keys r
    simp only [PyData.depthAll]
    omega
end
/-! ### the order -/
def strLt (a b : Str) : Bool := decide (a.cps.toList < b.cps.toList)
mutual
def ahead : Doc → Doc → Int
  | .nd n ps, .nd m qs =>
    if sizes ps ≠ sizes qs then (if sizes ps < sizes qs then -1 else 1)
    else if n ≠ m then (if strLt n m then -1 else 1)
    else if ps.length ≠ qs.length then (if ps.length < qs.length then -1 else 1)
    else aheads ps qs
def aheads : List Doc → List Doc → Int
  | p :: ps, q :: qs => if ahead p q ≠ 0 then ahead p q else aheads ps qs
  | _, _ => 0
end
/-- the way the data compare -/
def dcmp (x y : PyData) : Int := if PyData.eqv x y = true then 0 else if dataLt x y = true then -1 else 1
def dcmps (xs ys : List PyData) : Int := if PyData.eqvAll xs ys = true then 0 else if PySem.W.rowLt xs ys = true then -1 else 1
theorem dcmp_tuple (xs ys : List PyData) : dcmp (.tuple xs) (.tuple ys) = dcmps xs ys := by
  unfold dcmp dcmps
  rw [PySem.W.dataLt_tuple]
  simp only [PyData.eqv]
  rfl
theorem dcmps_cons {x y : PyData} (h : alike x y = true) (xs ys : List PyData) : dcmps (x :: xs) (y :: ys) = if dcmp x y ≠ 0 then dcmp x y else dcmps xs ys := by
  unfold dcmps dcmp PySem.W.rowLt
  rw [PySem.W.dataLt_cons h, PySem.W.eqv_all_cons]
  cases e : PyData.eqv x y with
  | true => simp
  | false => cases dataLt x y <;> simp
theorem dcmps_nil : dcmps [] [] = 0 := by simp [dcmps, PyData.eqvAll]
theorem dcmp_int (i j : Int) : dcmp (.int i) (.int j) = if i = j then 0 else if i < j then -1 else 1 := by
  unfold dcmp
  rw [PySem.W.dataLt_int]
  simp [PyData.eqv]
theorem dcmp_str (a b : Str) : dcmp (.str a) (.str b) = if a = b then 0 else if strLt a b = true then -1 else 1 := by
  unfold dcmp strLt
  rw [PySem.W.dataLt_str]
  simp [PyData.eqv]
mutual
theorem cmp_key : ∀ d e : Doc, dcmp d.key e.key = ahead d e
  | .nd n ps, .nd m qs => by
    rw [Doc.key, Doc.key, dcmp_tuple, dcmps_cons (by simp [alike]), dcmps_cons (by simp [alike]), dcmps_cons (by simp [alike]), dcmps_cons (by rw [alike]; exact alike_keys ps qs), dcmps_nil, dcmp_tuple, dcmp_int, dcmp_str, dcmp_int, ahead]
    by_cases h1 : sizes ps = sizes qs
    · rw [h1]
      by_cases h2 : n = m
      · rw [h2]
        by_cases h3 : ps.length = qs.length
        · rw [h3, cmp_keys ps qs h3]
          simp
          intro h; exact h.symm
        · have h3' : ¬ ((ps.length : Nat) : Int) = ((qs.length : Nat) : Int) := by omega
          have h4 : (((ps.length : Nat) : Int) < ((qs.length : Nat) : Int)) ↔ ps.length < qs.length := by omega
          simp only [h3', h3, h4, ne_eq, not_true_eq_false, if_false, not_false_eq_true, if_true]
          by_cases h5 : ps.length < qs.length <;> simp [h5]
      · simp only [h2, ne_eq, not_true_eq_false, if_false, not_false_eq_true, if_true]
        by_cases h5 : strLt n m = true <;> simp [h5]
    · have h1' : ¬ ((1 + sizes ps : Nat) : Int) = ((1 + sizes qs : Nat) : Int) := by omega
      have h4 : (((1 + sizes ps : Nat) : Int) < ((1 + sizes qs : Nat) : Int)) ↔ sizes ps < sizes qs := by omega
      simp only [h1', h1, h4, ne_eq, not_true_eq_false, if_false, not_false_eq_true, if_true]
      by_cases h5 : sizes ps < sizes qs <;> simp [h5]
theorem cmp_keys : ∀ ps qs : List Doc, ps.length = qs.length → dcmps (keys ps) (keys qs) = aheads ps qs
  | [], [], _ => by simp [keys, dcmps_nil, aheads]
  | d :: r, e :: q, h => by
    rw [keys, keys, dcmps_cons (alike_key d e), cmp_key d e, cmp_keys r q (by simpa using h), aheads]
  | [], _ :: _, h => by simp at h
  | _ :: _, [], h => by simp at h
end
theorem strLt_irrefl (a : Str) : strLt a a = false := by
  unfold strLt
  exact decide_eq_false (fun h => absurd h (List.lt_irrefl _))
mutual
theorem ahead_self : ∀ d : Doc, ahead d d = 0
  | .nd n ps => by
    rw [ahead]
    simp [aheads_self ps]
theorem aheads_self : ∀ ps : List Doc, aheads ps ps = 0
  | [] => by simp [aheads]
  | d :: r => by rw [aheads, ahead_self d, aheads_self r]; simp
end
theorem strLt_turn {a b : Str} (h : a ≠ b) : strLt b a = !strLt a b := by
  have hne : a.cps.toList ≠ b.cps.toList := fun e => h (PySem.W.str_of_cps e)
  unfold strLt
  by_cases q : a.cps.toList < b.cps.toList
  · have q2 : ¬ b.cps.toList < a.cps.toList := fun z => absurd (List.lt_trans q z) (List.lt_irrefl _)
    simp [q, q2]
  · have q2 : b.cps.toList < a.cps.toList := by
      rcases Std.lt_trichotomy a.cps.toList b.cps.toList with z | z | z
      · exact absurd z q
      · exact absurd z hne
      · exact z
    simp [q, q2]
mutual
theorem ahead_turn : ∀ d e : Doc, ahead e d = - ahead d e
  | .nd n ps, .nd m qs => by
    rw [ahead, ahead]
    by_cases h1 : sizes ps = sizes qs
    · by_cases h2 : n = m
      · by_cases h3 : ps.length = qs.length
        · simp [h1, h2, h3, aheads_turn ps qs]
        · have h3' : ¬ qs.length = ps.length := fun z => h3 z.symm
          simp only [h1, h2, h3, h3', ne_eq, not_true_eq_false, if_false, not_false_eq_true, if_true]
          by_cases h5 : ps.length < qs.length
          · have h6 : ¬ qs.length < ps.length := by omega
            simp [h5, h6]
          · have h6 : qs.length < ps.length := by omega
            simp [h5, h6]
      · have h2' : ¬ m = n := fun z => h2 z.symm
        simp only [h1, h2, h2', ne_eq, not_true_eq_false, if_false, not_false_eq_true, if_true]
        rw [strLt_turn h2]
        cases strLt n m <;> simp
    · have h1' : ¬ sizes qs = sizes ps := fun z => h1 z.symm
      simp only [h1, h1', ne_eq, not_true_eq_false, if_false, not_false_eq_true, if_true]
      by_cases h5 : sizes ps < sizes qs
      · have h6 : ¬ sizes qs < sizes ps := by omega
        simp [h5, h6]
      · have h6 : sizes qs < sizes ps := by omega
        simp [h5, h6]
theorem aheads_turn : ∀ ps qs : List Doc, aheads qs ps = - aheads ps qs
  | [], [] => by simp [aheads]
  | [], _ :: _ => by simp [aheads]
  | _ :: _, [] => by simp [aheads]
  | d :: r, e :: q => by
    rw [aheads, aheads, ahead_turn d e, aheads_turn r q]
    by_cases h : ahead d e = 0 <;> simp [h]
end
/-! ### places: a part exchanged -/
mutual
def Doc.part : Doc → List Nat → Option Doc
  | d, [] => some d
  | .nd _ ps, i :: r => parts_ ps i r
def parts_ : List Doc → Nat → List Nat → Option Doc
  | [], _, _ => none
  | d :: _, 0, r => d.part r
  | _ :: ps, i + 1, r => parts_ ps i r
end
mutual
def Doc.put : Doc → List Nat → Doc → Doc
  | _, [], x => x
  | .nd n ps, i :: r, x => .nd n (puts ps i r x)
def puts : List Doc → Nat → List Nat → Doc → List Doc
  | [], _, _, _ => []
  | d :: ps, 0, r, x => d.put r x :: ps
  | d :: ps, i + 1, r, x => d :: puts ps i r x
end
theorem puts_len : ∀ (ps : List Doc) (i : Nat) (r : List Nat) (x : Doc), (puts ps i r x).length = ps.length
  | [], _, _, _ => by simp [puts]
  | d :: ps, 0, r, x => by simp [puts]
  | d :: ps, i + 1, r, x => by simp [puts, puts_len ps i r x]
theorem ahead_size : ∀ d e : Doc, d.size ≠ e.size → ahead d e = if d.size < e.size then -1 else 1
  | .nd n ps, .nd m qs, h => by
    rw [ahead]
    rw [Doc.size, Doc.size] at h ⊢
    have h1 : sizes ps ≠ sizes qs := fun z => h (by rw [z])
    have h2 : (1 + sizes ps < 1 + sizes qs) ↔ sizes ps < sizes qs := by omega
    simp [h1, h2]
mutual
theorem ahead_put : ∀ (d : Doc) (pl : List Nat) (x y z : Doc), d.part pl = some z → ahead (d.put pl x) (d.put pl y) = ahead x y
  | d, [], x, y, z, _ => by cases d <;> simp [Doc.put]
  | .nd n ps, i :: r, x, y, z, h => by
    have h' : parts_ ps i r = some z := by simpa [Doc.part] using h
    have hs : sizes (puts ps i r x) + y.size = sizes (puts ps i r y) + x.size := sizes_at ps i r x y z h'
    simp only [Doc.put]
    rw [ahead]
    by_cases q : x.size = y.size
    · have e : sizes (puts ps i r x) = sizes (puts ps i r y) := by omega
      simp [e, puts_len, aheads_put ps i r x y z h']
    · have e : ¬ sizes (puts ps i r x) = sizes (puts ps i r y) := by omega
      rw [ahead_size x y q]
      have e2 : (sizes (puts ps i r x) < sizes (puts ps i r y)) ↔ x.size < y.size := by omega
      simp [e, e2]
theorem aheads_put : ∀ (ps : List Doc) (i : Nat) (r : List Nat) (x y z : Doc), parts_ ps i r = some z → aheads (puts ps i r x) (puts ps i r y) = ahead x y
  | [], _, _, _, _, _, h => by simp [parts_] at h
  | d :: ps, 0, r, x, y, z, h => by
    have h' : d.part r = some z := by simpa [parts_] using h
    simp only [puts]
    rw [aheads, ahead_put d r x y z h', aheads_self]
    by_cases q : ahead x y = 0 <;> simp [q]
  | d :: ps, i + 1, r, x, y, z, h => by
    have h' : parts_ ps i r = some z := by simpa [parts_] using h
    simp only [puts]
    rw [aheads, ahead_self]
    simp [aheads_put ps i r x y z h']
theorem size_at : ∀ (d : Doc) (pl : List Nat) (x y z : Doc), d.part pl = some z → (d.put pl x).size + y.size = (d.put pl y).size + x.size
  | d, [], x, y, z, _ => by cases d <;> (simp [Doc.put]; omega)
  | .nd n ps, i :: r, x, y, z, h => by
    have h' : parts_ ps i r = some z := by simpa [Doc.part] using h
    have := sizes_at ps i r x y z h'
    simp only [Doc.put, Doc.size]
    omega
theorem sizes_at : ∀ (ps : List Doc) (i : Nat) (r : List Nat) (x y z : Doc), parts_ ps i r = some z → sizes (puts ps i r x) + y.size = sizes (puts ps i r y) + x.size
  | [], _, _, _, _, _, h => by simp [parts_] at h
  | d :: ps, 0, r, x, y, z, h => by
    have h' : d.part r = some z := by simpa [parts_] using h
    have := size_at d r x y z h'
    simp only [puts, sizes]
    omega
  | d :: ps, i + 1, r, x, y, z, h => by
    have h' : parts_ ps i r = some z := by simpa [parts_] using h
    have := sizes_at ps i r x y z h'
    simp only [puts, sizes]
    omega
end
end Lf

set_option Elab.async false
set_option linter.all false
set_option maxRecDepth 100000
set_option maxHeartbeats 4000000
/-! Leaf W: a def by its body, its code object told; small words. -/
namespace Lf
open PySem PySem.Spec PyProof.Rows L2
theorem hu16 {A : Around} {k : Nat} (hr : Room k A) : A.units + 16 < cLine := Nat.lt_of_le_of_lt (Nat.add_le_add_left (by decide : 16 ≤ 64) _) hr.units
theorem fn_ofC {P : Program} {w : World} {K : PySem.W.Frag} {mg : Str → Option Value} {base : Heap} {k : Nat} {f : Addr} {x qual : Str} {st : Stmt} {fd : FuncData} {N ps : List Str} {sp : Sp} (F : Fun K x qual st f fd) (S : FnScope N ps (defScope st))
    (len : ∀ vs H Q E, sp vs H Q E → vs.length = ps.length)
    (hbody : ∀ (cdv : Value) (A : Around) (outer : List Env) (s : Shared) (H : Hp) (vs : List V) (Q : VK) (E : XK), fd.code = cdv → A.guards = some [] → Room k (A.deeper (envOfC qual (defScope st) s.heap.objs.size f cdv)) → sp vs H Q E →
      ∃ t, PSs (cxOf (L2.CX P w) P w K mg base N qual (defScope st) f cdv A outer s H E) (defBody st) t ∧ t { nx := fun _ H' => Q .non H', rt := Q } (start N vs) H) : FnG P w K mg base (k + 1) f fd ps sp := by
  obtain ⟨oc, od, kV, doc, pm, an, cdv, ct, osl, rfl, lk, hcd⟩ := F.ex
  refine ⟨len, fun A outer s H args us vs Q E hG hr e0 hb r hsp => ?_⟩
  have KX : K.In s.heap := e0.mod.kin.keeps fun b o e => (e0.bs b o e).1
  have lim : s.heap.NoLimit := e0.mod.nolimit.keeps fun b o e => (e0.bs b o e).1
  have hkind : ∀ y ∈ ps.zip us, (defScope st).names.lookup y.1 = some .local ∨ ((defScope st).names.lookup y.1 = some .cell ∧ ((cellsFrom (s.heap.objs.size + 1) (defScope st).names []).lookup y.1).isSome = true) := fun y hy => by
    rcases S.par y.1 (List.of_mem_zip (show (y.1, y.2) ∈ ps.zip us from hy)).1 with q | q
    · exact .inl q
    · exact .inr ⟨q, PySem.W.cellsFrom_some _ _ _ (.inl q)⟩
  refine codeAny_call_function hr.depth (KX _ _ lk) rfl S.co S.gen rfl (PySem.W.codeRec_of KX hcd) (hb _ _ _ _ ?_)
  refine wpAny_newFunctionEnv_cells S.kind hkind fun env he s1 x1 => ?_
  subst he
  refine ⟨lim.keeps x1.toInCall.keep, codeAny_func ?_⟩
  obtain ⟨t, ht, hq⟩ := hbody cdv A outer s H vs Q E rfl hG (hr.deeper _) hsp
  have I0 := inv_start (CX := L2.CX P w) (E := E) S hr.hd e0 (len _ _ _ _ hsp) r x1
  refine wpAny_mono (ht.run [] s1 (start N vs) H _ I0 hq) (fun fl s' hs => ?_) fun _ _ hs => hs
  cases fl with
  | ret u =>
    obtain ⟨v, σ', H', J, rv, q⟩ := hs
    exact ⟨v, H', J.os, J.bare, J.base, J.hok, rv, q⟩
  | next =>
    obtain ⟨σ', H', J, q⟩ := hs
    exact ⟨V.non, H', J.os, J.bare, J.base, J.hok, rfl, q⟩
  | brk => exact hs.elim fun _ z => z.elim fun _ z => z.2.elim
  | cont => exact hs.elim fun _ z => z.elim fun _ z => z.2.elim
section
variable {P : Program} {w : World} {K : PySem.W.Frag} {mg : Str → Option Value} {base : Heap} {x : Str} {k j : Nat} {ps : List Str} {sp sp' : Sp}
/-- the def at f, by its text: what a head gives -/
structure Def (K : PySem.W.Frag) (mg : Str → Option Value) (x : Str) (ps : List Str) (st : Stmt) (f : Addr) (fd : FuncData) : Prop where
  fn : Fun K x x st f fd
  mg : mg x = some (.ref f)
  bd : Binds K fd ps []
theorem Pr.of' {fd : FuncData} {f : Addr} {st : Stmt} {N : List Str} (D : Def K mg x ps st f fd) (S : FnScope N ps (defScope st)) (len : ∀ vs H Q E, sp vs H Q E → vs.length = ps.length)
    (hbody : ∀ (cdv : Value) (A : Around) (outer : List Env) (s : Shared) (H : Hp) (vs : List V) (Q : VK) (E : XK), fd.code = cdv → A.guards = some [] → Room k (A.deeper (envOfC x (defScope st) s.heap.objs.size f cdv)) → sp vs H Q E →
      ∃ t, PSs (cxOf (L2.CX P w) P w K mg base N x (defScope st) f cdv A outer s H E) (defBody st) t ∧ t { nx := fun _ H' => Q .non H', rt := Q } (start N vs) H) : Pr P w K mg base (k + 1) x ps sp :=
  ⟨f, fd, D.mg, D.fn.kp, fn_ofC D.fn S len hbody, D.bd⟩
end
/-! ### small words -/
/-- t[1:], t with an item at least -/
theorem sl1 {K : PySem.W.Frag} {a : Addr} {x : V} {r : List V} {H : Hp} {Q : VK} (h : SqT K H a (x :: r)) (q : ∀ p, H p = none → Q (.ref p) (upd H p (.tup r))) : rSlA K (.ref a) (some 1) none H Q := by
  have e0 : HT.sIx (x :: r).length 0 (some 1) = min 1 (x :: r).length := HT.sIx_nat (x :: r).length 0 1
  have e1 : min 1 (x :: r).length = 1 := by rw [List.length_cons]; omega
  refine ⟨a, x :: r, rfl, h, fun z => ?_, fun _ p hp => ?_⟩
  · rw [e0, e1] at z
    omega
  · have e : cutV (x :: r) (some 1) none = r := by
      unfold cutV
      rw [e0, e1, HT.sIx_none]
      show List.take ((x :: r).length - 1) r = r
      rw [List.length_cons, Nat.add_sub_cancel]
      exact List.take_length
    rw [e]
    exact q p hp
theorem all_range {α : Type} (l : List α) (f : α → Bool) : (List.range l.length).all (fun i => match l[i]? with | some c => f c | none => false) = l.all f := by
  rw [Bool.eq_iff_iff, List.all_eq_true, List.all_eq_true]
  constructor
  · intro h c hc
    obtain ⟨i, hi⟩ := List.mem_iff_getElem?.mp hc
    have hl := (List.getElem?_eq_some_iff.mp hi).1
    have := h i (List.mem_range.mpr hl)
    rw [hi] at this
    exact this
  · intro h i hi
    have hl := List.mem_range.mp hi
    have e : l[i]? = some l[i] := List.getElem?_eq_getElem hl
    rw [e]
    exact h _ (List.getElem_mem hl)
end Lf

set_option Elab.async false
set_option linter.all false
set_option maxRecDepth 100000
set_option maxHeartbeats 4000000
/-! Leaf K: check_document's loop, plainly. -/
namespace Lf
open PySem PySem.Spec PyProof.Rows L2
theorem hu0 {A : Around} {k : Nat} (hr : Room k A) : A.units < cLine := Nat.lt_of_le_of_lt (Nat.le_add_right _ _) hr.units
mutual
/-- short texts alone -/
def sh : PyData → Bool
  | .str s => decide (s.length ≤ 1000)
  | .tuple ds => shs ds
  | _ => true
def shs : List PyData → Bool
  | [] => true
  | d :: r => sh d && shs r
end
theorem shs_all : ∀ ds, shs ds = true → ∀ d ∈ ds, sh d = true
  | [], _, _, h => by cases h
  | d :: r, h, e, m => by
    rw [shs, Bool.and_eq_true] at h
    rcases List.mem_cons.mp m with q | q
    · rw [q]; exact h.1
    · exact shs_all r h.2 e q
def encPl (pl : List Nat) : PyData := .tuple (pl.map fun i : Nat => .int (i : Int))
def encW (e : PyData × List Nat) : PyData := .tuple [e.1, encPl e.2]
def badOne : PyData → Bool
  | .tuple (x :: r) => decide (r.length > 3) || !isName x
  | _ => true
def kids : PyData → List Nat → List (PyData × List Nat)
  | .tuple (_ :: r), pl => r.zipIdx.map fun p => (p.1, pl ++ [p.2])
  | _, _ => []
def chk : Nat → List (PyData × List Nat) → Nat → Option (Option (List Nat))
  | 0, _, _ => none
  | _ + 1, [], _ => some none
  | n + 1, (d, pl) :: st, c => if (badOne d || decide (c + 1 > 2000) || decide (pl.length ≥ 100)) = true then some (some pl) else chk n (kids d pl ++ st) (c + 1)
theorem kids_at {x : PyData} {r : List PyData} {pl : List Nat} {i : Nat} : (kids (.tuple (x :: r)) pl)[i]? = r[i]?.map fun e => (e, pl ++ [i]) := by
  show (r.zipIdx.map _)[i]? = _
  rw [List.getElem?_map, List.getElem?_zipIdx]
  cases r[i]? with
  | none => rfl
  | some e => simp
theorem kids_len {x : PyData} {r : List PyData} {pl : List Nat} : (kids (.tuple (x :: r)) pl).length = r.length := by
  show (r.zipIdx.map _).length = _
  rw [List.length_map, List.length_zipIdx]
theorem name_badOne {n : Str} {ps : List Doc} (h : (Doc.nd n ps).fine = true) : badOne (Doc.nd n ps).enc = false := by
  rw [Doc.fine, Bool.and_eq_true, Bool.and_eq_true, decide_eq_true_eq] at h
  rw [Doc.enc]
  show (decide ((encs ps).length > 3) || !isName (.str n)) = false
  rw [encs_len]
  have h1 : isName (.str n) = true := h.1.1
  have h2 : ¬ ps.length > 3 := by omega
  simp [h1, h2]
/-- what is a document is one to the check -/
theorem chk_ok : ∀ (n : Nat) (st : List (Doc × List Nat)) (c : Nat), (∀ e ∈ st, e.1.fine = true ∧ e.2.length + e.1.deep ≤ 100) → c + (st.map fun e => e.1.size).sum ≤ 2000 → (st.map fun e => e.1.size).sum < n →
    chk n (st.map fun e => (e.1.enc, e.2)) c = some none
  | 0, _, _, _, _, h => by omega
  | n + 1, [], c, _, _, _ => by simp [chk]
  | n + 1, (.nd m ps, pl) :: st, c, hg, hs, hn => by
    obtain ⟨hf, hd⟩ := hg _ List.mem_cons_self
    simp only [List.map_cons, List.sum_cons, Doc.size] at hs hn
    have hd' : pl.length + (1 + deeps ps) ≤ 100 := by simpa [Doc.deep] using hd
    have e1 : (badOne (Doc.nd m ps).enc || decide (c + 1 > 2000) || decide (pl.length ≥ 100)) = false := by
      rw [name_badOne hf]
      have a : ¬ c + 1 > 2000 := by omega
      have b : ¬ pl.length ≥ 100 := by omega
      simp [a, b]
    rw [List.map_cons, chk, if_neg (by rw [e1]; exact Bool.false_ne_true)]
    have ek : kids (Doc.nd m ps).enc pl = (ps.zipIdx.map fun p => (p.1, pl ++ [p.2])).map fun e => (e.1.enc, e.2) := by
      rw [Doc.enc]
      refine List.ext_getElem? fun i => ?_
      rw [kids_at, encs_map]
      simp only [List.getElem?_map, List.getElem?_zipIdx]
      cases ps[i]? <;> simp
    rw [ek, ← List.map_append]
    have es : ((ps.zipIdx.map fun p => (p.1, pl ++ [p.2])).map fun e : Doc × List Nat => e.1.size).sum = sizes ps := by
      rw [sizes_sum, List.map_map]
      congr 1
      refine List.ext_getElem? fun i => ?_
      simp only [List.getElem?_map, List.getElem?_zipIdx]
      cases ps[i]? <;> simp
    refine chk_ok n _ (c + 1) (fun e he => ?_) ?_ ?_
    · rcases List.mem_append.mp he with q | q
      · obtain ⟨p, hp, rfl⟩ := List.mem_map.mp q
        have hm : p.1 ∈ ps := by
          have := List.mem_zipIdx hp
          obtain ⟨_, _, h3⟩ := this
          rw [h3]
          exact List.getElem_mem _
        rw [Doc.fine, Bool.and_eq_true, Bool.and_eq_true] at hf
        refine ⟨(fines_all ps).mp hf.2 _ hm, ?_⟩
        have := (deeps_le (n := deeps ps) ps).mp (Nat.le_refl _) _ hm
        show (pl ++ [p.2]).length + _ ≤ 100
        rw [List.length_append]
        simp only [List.length_singleton]
        omega
      · exact hg e (List.mem_cons_of_mem _ q)
    · rw [List.map_append, List.sum_append, es]; omega
    · rw [List.map_append, List.sum_append, es]; omega
theorem chk_doc {d : Doc} (h : d.fine = true) (h1 : d.deep ≤ 100) (h2 : d.size ≤ 2000) : chk 2001 [(d.enc, [])] 0 = some none :=
  chk_ok 2001 [(d, [])] 0 (fun e he => by
    rcases List.mem_singleton.mp he with rfl
    exact ⟨h, by simpa using h1⟩) (by simpa using h2) (by simp; omega)
mutual
theorem sh_enc : ∀ d : Doc, d.fine = true → sh d.enc = true
  | .nd n ps, h => by
    rw [Doc.fine, Bool.and_eq_true, Bool.and_eq_true] at h
    have h1 := name_len h.1.1
    have h2 := shs_encs ps h.2
    rw [Doc.enc, sh, shs, h2, sh, decide_eq_true (by omega : n.length ≤ 1000)]
    rfl
theorem shs_encs : ∀ ps : List Doc, fines ps = true → shs (encs ps) = true
  | [], _ => rfl
  | d :: r, h => by
    rw [fines, Bool.and_eq_true] at h
    rw [encs, shs, sh_enc d h.1, shs_encs r h.2]
    rfl
end
end Lf

set_option Elab.async false
set_option linter.all false
set_option maxRecDepth 100000
set_option maxHeartbeats 4000000
/-! Leaf V: readings answered by data. -/
namespace Lf
open PySem PySem.Spec PyProof.Rows L2
def rLenK (K : PySem.W.Frag) : List V → Hp → VK → Prop := fun xs H Q => ∃ p ys, xs = [.ref p] ∧ (SqL K H p ys ∨ SqT K H p ys) ∧ Q (.int ys.length) H
def rListK (K : PySem.W.Frag) : List V → Hp → VK → Prop := fun xs H Q => ∃ p ys, xs = [.ref p] ∧ (SqL K H p ys ∨ SqT K H p ys) ∧ ∀ l, H l = none → Q (.ref l) (upd H l (.lst ys))
def rTupK (K : PySem.W.Frag) : List V → Hp → VK → Prop := fun xs H Q => ∃ p ys, xs = [.ref p] ∧ ((SqL K H p ys ∧ ∀ l, H l = none → Q (.ref l) (upd H l (.tup ys))) ∨ (SqT K H p ys ∧ Q (.ref p) H))
section
variable {K : PySem.W.Frag} {F : Fr} {b : Nat} {H : Hp} {x y : V} {xs ys ds : List PyData} {d : PyData} {vs : List V} {Q : VK}
theorem sz6 {n : Nat} (h : n ≤ 1000000) : n ≤ sizeLine := Nat.le_trans h (by decide)
theorem sz6' {n : Nat} (h : n < 1000000) : n < sizeLine := Nat.lt_of_lt_of_le h (by decide)
theorem DtAll.snoc_inv : ∀ {ds : List PyData} {vs : List V}, DtAll K H vs (ds ++ [d]) → ∃ ws v, vs = ws ++ [v] ∧ DtAll K H ws ds ∧ Dt K H v d
  | [], vs, h => by
    cases h with
    | cons h1 h2 =>
      cases h2
      exact ⟨[], _, rfl, .nil, h1⟩
  | e :: r, vs, h => by
    cases h with
    | cons h1 h2 =>
      obtain ⟨ws, v, rfl, h3, h4⟩ := DtAll.snoc_inv h2
      exact ⟨_ :: ws, v, rfl, .cons h1 h3, h4⟩
theorem catA (hT : F.T b H) (hx : Dt K H x (.tuple xs)) (hy : Dt K H y (.tuple ys)) (hl : xs.length + ys.length ≤ 1000000) (q : ∀ z H', Go F b H b H' → Dt K H' z (.tuple (xs ++ ys)) → Q z H') : rCatA K x y H Q := by
  obtain ⟨a, us, rfl, hs, ha⟩ := hx.inv
  obtain ⟨c, ws, rfl, hs2, ha2⟩ := hy.inv
  have e1 := ha.length
  have e2 := ha2.length
  refine ⟨a, c, us, ws, rfl, rfl, hs, hs2, sz6 (by omega), fun e => ?_, fun _ e => ?_, fun _ _ p np => ?_⟩
  · subst e
    cases ha
    exact q _ _ (Go.refl hT) (.tup hs2 ha2)
  · subst e
    cases ha2
    rw [List.append_nil] at q
    exact q _ _ (Go.refl hT) (.tup hs ha)
  · exact q _ _ (Go.new hT np) (dt_new np (ha.append ha2))
theorem ixT {i : Nat} (hx : Dt K H x (.tuple ds)) (hi : ds[i]? = some d) (q : ∀ v, Dt K H v d → Q v H) : rIxT K x (.int (i : Nat)) H Q := by
  obtain ⟨a, us, rfl, hs, ha⟩ := hx.inv
  obtain ⟨v, hv, hd⟩ := ha.getD hi
  exact ⟨a, us, (i : Nat), v, rfl, rfl, hs, atI_nat hv, q v hd⟩
theorem lenT (hx : Dt K H x (.tuple ds)) (q : Q (.int (ds.length : Nat)) H) : ∃ p ys, [x] = [.ref p] ∧ (SqL K H p ys ∨ SqT K H p ys) ∧ Q (.int ys.length) H := by
  obtain ⟨a, us, rfl, hs, ha⟩ := hx.inv
  exact ⟨a, us, rfl, .inr hs, by rw [ha.length]; exact q⟩
theorem tupN (hT : F.T b H) (hx : DtAll K H vs ds) (hl : vs.length ≤ 1000000) (q : ∀ z H', Go F b H b H' → Dt K H' z (.tuple ds) → Q z H') : vs.length ≤ sizeLine ∧ ∀ p, H p = none → Q (.ref p) (upd H p (.tup vs)) :=
  ⟨sz6 hl, fun p np => q _ _ (Go.new hT np) (dt_new np hx)⟩
theorem isD {T : String} (k : Bool) (hx : Dt K H x d) (hk : kitB (tyD d) T = some k) (q : Q (.bl k) H) : rIsD K [x, .ty T] H Q := ⟨x, T, d, k, rfl, hx, hk, q⟩
theorem kit_tuple : ∀ (d : PyData), Dt K H x d → kitB (tyD d) "tuple" = some (match d with | .tuple _ => true | _ => false)
  | _, .non => (by decide +kernel : kitB "NoneType" "tuple" = some false)
  | _, .bl _ => (by decide +kernel : kitB "bool" "tuple" = some false)
  | _, .int _ => (by decide +kernel : kitB "int" "tuple" = some false)
  | _, .str _ => (by decide +kernel : kitB "str" "tuple" = some false)
  | _, .tup _ _ => (by decide +kernel : kitB "tuple" "tuple" = some true)
theorem kit_str : ∀ (d : PyData), Dt K H x d → kitB (tyD d) "str" = some (match d with | .str _ => true | _ => false)
  | _, .non => (by decide +kernel : kitB "NoneType" "str" = some false)
  | _, .bl _ => (by decide +kernel : kitB "bool" "str" = some false)
  | _, .int _ => (by decide +kernel : kitB "int" "str" = some false)
  | _, .str _ => (by decide +kernel : kitB "str" "str" = some true)
  | _, .tup _ _ => (by decide +kernel : kitB "tuple" "str" = some false)
/-- t == () -/
theorem eqT0 (hT : F.T b H) (hx : Dt K H x (.tuple ds)) (q : ∀ H', Go F b H b H' → Q (.bl ds.isEmpty) H') : ([] : List V).length ≤ sizeLine ∧ ∀ p, H p = none → rEqT0 K x (.ref p) (upd H p (.tup [])) Q := by
  obtain ⟨a, us, rfl, hs, ha⟩ := hx.inv
  refine ⟨Nat.zero_le _, fun p np => ⟨a, p, us, rfl, rfl, (Go.new hT np).sqT hs, .inl (.inl upd_same), ?_⟩⟩
  have e : us.isEmpty = ds.isEmpty := by
    cases ha with
    | nil => rfl
    | cons _ _ => rfl
  rw [e]
  exact q _ (Go.new hT np)
/-- xs == [], xs != [], of a list of one's own -/
theorem eqL0 {a : Addr} (hT : F.T b H) (hx : H a = some (.lst vs)) (q : ∀ H', Go F b H b H' → H' a = some (.lst vs) → Q (.bl vs.isEmpty) H') : ([] : List V).length ≤ sizeLine ∧ ∀ p, H p = none → rEqL0 K (.ref a) (.ref p) (upd H p (.lst [])) Q :=
  ⟨Nat.zero_le _, fun p np => have e := (upd_ne (o := .lst []) (ne_of_none hx np)).trans hx; ⟨a, p, vs, rfl, rfl, .inl (.inl e), .inl (.inl upd_same), q _ (Go.new hT np) e⟩⟩
theorem neL0 {a : Addr} (hT : F.T b H) (hx : H a = some (.lst vs)) (q : ∀ H', Go F b H b H' → H' a = some (.lst vs) → Q (.bl (!vs.isEmpty)) H') : ([] : List V).length ≤ sizeLine ∧ ∀ p, H p = none → rNeL0 K (.ref a) (.ref p) (upd H p (.lst [])) Q :=
  ⟨Nat.zero_le _, fun p np => have e := (upd_ne (o := .lst []) (ne_of_none hx np)).trans hx; ⟨a, p, vs, rfl, rfl, .inl (.inl e), .inl (.inl upd_same), q _ (Go.new hT np) e⟩⟩
/-- t[1:], data -/
theorem sl1D (hT : F.T b H) (hx : Dt K H x (.tuple (d :: ds))) (q : ∀ p us H', Go F b H b H' → H' p = some (.tup us) → DtAll K H' us ds → Q (.ref p) H') : rSlA K x (some 1) none H Q := by
  obtain ⟨a, us, rfl, hs, ha⟩ := hx.inv
  obtain ⟨v, r, rfl, _, hr⟩ := ha.inv
  exact sl1 hs fun p np => q p r _ (Go.new hT np) upd_same (DtAll.ts (ts_new np) _ _ hr)
/-- writing a list of one's own: data stays -/
theorem ts_lst {a : Addr} {us ws : List V} (h : H a = some (.lst us)) : Ts H (upd H a (.lst ws)) := ts_mut h (fun _ z => by cases z) (fun _ _ z => by cases z)
theorem app {a : Addr} (h : H a = some (.lst vs)) (hl : vs.length < 1000000) (q : Q .non (upd H a (.lst (vs ++ [x])))) : rAppend (.ref a) [x] H Q := ⟨a, vs, x, rfl, rfl, h, sz6' hl, q⟩
theorem isL {a : Addr} (h : H a = some (.lst vs)) : tyV K "list" (.ref a) H := .inl ⟨rfl, _, .inl (.inl h)⟩
theorem dtAll_idx : ∀ {vs : List V} {ds : List PyData}, vs.length = ds.length → (∀ (i : Nat) (v : V) (d : PyData), vs[i]? = some v → ds[i]? = some d → Dt K H v d) → DtAll K H vs ds
  | [], [], _, _ => .nil
  | v :: vs, d :: ds, hl, h => .cons (h 0 v d rfl rfl) (dtAll_idx (by simpa using hl) fun i v d e1 e2 => h (i + 1) v d (by simpa using e1) (by simpa using e2))
  | [], _ :: _, hl, _ => by simp at hl
  | _ :: _, [], hl, _ => by simp at hl
theorem ints_of : ∀ {ys : List V}, (∀ (i : Nat) (y : V), ys[i]? = some y → ∃ z : Int, y = .int z) → ∃ zs : List Int, ys = zs.map V.int
  | [], _ => ⟨[], rfl⟩
  | y :: r, h => by
    obtain ⟨z, rfl⟩ := h 0 y rfl
    obtain ⟨zs, rfl⟩ := ints_of (ys := r) fun i x e => h (i + 1) x (by simpa using e)
    exact ⟨z :: zs, rfl⟩
theorem sizes_int : ∀ ps : List Doc, (ps.map fun e => (e.size : Int)).sum = ((sizes ps : Nat) : Int)
  | [] => rfl
  | d :: r => by
    rw [List.map_cons, List.sum_cons, sizes_int r, sizes]
    omega
theorem tLc_iTup {σ : L2.St} {tl : TE} {g : TG} {tt : TT} {te : TE} {vs : List Nat} (h : tl σ H fun x H1 => tLc (iTup K (tC x)) g tt te vs σ H1 Q) : tLc (iTup K tl) g tt te vs σ H Q := h
theorem tLc_iList {σ : L2.St} {tl : TE} {g : TG} {tt : TT} {te : TE} {vs : List Nat} (h : tl σ H fun x H1 => tLc (iList K (tC x)) g tt te vs σ H1 Q) : tLc (iList K tl) g tt te vs σ H Q := h
theorem tLc_iRng1 {σ : L2.St} {tl : TE} {g : TG} {tt : TT} {te : TE} {vs : List Nat} (h : tl σ H fun x H1 => tLc (iRng1 (tCons (tC x) tNil)) g tt te vs σ H1 Q) : tLc (iRng1 (tCons tl tNil)) g tt te vs σ H Q := h
end
end Lf
namespace Lf
open PySem PySem.Spec PyProof.Rows L2
section
variable {K : PySem.W.Frag} {F : Fr} {b : Nat} {H : Hp} {x y : V} {xs ys ds : List PyData} {d : PyData} {vs : List V} {Q : VK}
/-- t[i:j], data -/
theorem slD {lo hi : Option Int} (hT : F.T b H) (hx : Dt K H x (.tuple ds)) (q : ∀ z H', Go F b H b H' → Dt K H' z (.tuple ((ds.drop (HT.sIx ds.length 0 lo)).take (HT.sIx ds.length ds.length hi - HT.sIx ds.length 0 lo))) → Q z H') : rSlA K x lo hi H Q := by
  obtain ⟨a, us, rfl, hs, ha⟩ := hx.inv
  have hl := ha.length
  refine ⟨a, us, rfl, hs, fun z => ?_, fun _ p np => ?_⟩
  · rw [hl] at z
    have q1 := q (.ref a) H (Go.refl hT)
    rw [z.1, z.2, List.drop_zero, Nat.sub_zero, List.take_length] at q1
    exact q1 (.tup hs ha)
  · refine q _ _ (Go.new hT np) (dt_new np ?_)
    unfold cutV
    rw [hl]
    exact (ha.drop _).take _
theorem six_nat (n i : Nat) : HT.sIx n 0 (some (i : Int)) = min i n := HT.sIx_nat n 0 i
theorem six_nat' (n i : Nat) : HT.sIx n n (some (i : Int)) = min i n := HT.sIx_nat n n i
/-- t[i:] -/
theorem slFrom {i : Nat} (hT : F.T b H) (hx : Dt K H x (.tuple ds)) (q : ∀ z H', Go F b H b H' → Dt K H' z (.tuple (ds.drop i)) → Q z H') : rSlA K x (some (i : Nat)) none H Q :=
  slD hT hx fun z H' g h => q z H' g (by
    rw [six_nat, HT.sIx_none] at h
    have e : (ds.drop (min i ds.length)).take (ds.length - min i ds.length) = ds.drop i := by
      by_cases hi : i ≤ ds.length
      · rw [Nat.min_eq_left hi, List.take_of_length_le (by rw [List.length_drop]; exact Nat.le_refl _)]
      · rw [Nat.min_eq_right (by omega), List.drop_of_length_le (Nat.le_refl _), List.drop_of_length_le (by omega : ds.length ≤ i), List.take_nil]
    rw [e] at h
    exact h)
/-- t[:i] -/
theorem slTo {i : Nat} (hT : F.T b H) (hx : Dt K H x (.tuple ds)) (q : ∀ z H', Go F b H b H' → Dt K H' z (.tuple (ds.take i)) → Q z H') : rSlA K x none (some (i : Nat)) H Q :=
  slD hT hx fun z H' g h => q z H' g (by
    rw [six_nat', HT.sIx_none, List.drop_zero, Nat.sub_zero] at h
    have e : ds.take (min i ds.length) = ds.take i := by
      by_cases hi : i ≤ ds.length
      · rw [Nat.min_eq_left hi]
      · rw [Nat.min_eq_right (by omega), List.take_length, List.take_of_length_le (by omega)]
    rw [e] at h
    exact h)
/-- for n, x in enumerate(t) -/
theorem for_enumT {a : Addr} {xs : List V} {g : TG} {tb : TS} {D : Ends} {σ : L2.St} {H : Hp} (Pv : Nat → L2.St → Hp → Prop) (h0 : Pv 0 σ H) (hl : ∀ i σ H, i ≤ xs.length → Pv i σ H → SqT K H a xs)
    (hs : ∀ (i : Nat) (x : V) (T : Addr) (σ : L2.St) (H : Hp), xs[i]? = some x → Pv i σ H → H T = none → g (.ref T) σ (upd H T (.tup [.int (i : Nat), x])) fun σ2 H2 => tb { D with nx := Pv (i + 1), ct := Pv (i + 1), bk := D.nx } σ2 H2) (hd : ∀ σ H, Pv xs.length σ H → D.nx σ H) :
    ∃ W : Nat → Nat → L2.St → Hp → Prop, (∃ m, W 0 m σ H) ∧ ∀ i m σ H, W i m σ H →
      ((LfE.IteT K a).stop i H ∧ D.nx σ H) ∨ ((LfE.IteT K a).go i H ∧ ∃ N : L2.St → Hp → Prop, (∀ σ' H', N σ' H' → ∃ m', m' < m ∧ W (i + 1) m' σ' H') ∧ ∀ v H', (LfE.IteT K a).yld i H v H' → g v σ H' fun σ2 H2 => tb { D with nx := N, ct := N, bk := D.nx } σ2 H2) := by
  refine ⟨fun i m σ H => m = xs.length - i ∧ i ≤ xs.length ∧ Pv i σ H, ⟨xs.length, by simp, Nat.zero_le _, h0⟩, ?_⟩
  rintro i m σ H ⟨rfl, hi, p⟩
  have q := hl i σ H hi p
  by_cases hlt : i < xs.length
  · have hx : xs[i]? = some xs[i] := List.getElem?_eq_getElem hlt
    refine .inr ⟨⟨xs, xs[i], q, hx⟩, Pv (i + 1), fun σ' H' p' => ⟨xs.length - (i + 1), by omega, rfl, hlt, p'⟩, fun v H' y => ?_⟩
    obtain ⟨T, x, rfl, nT, rfl, f⟩ := y
    have e : x = xs[i] := Option.some.inj ((f xs q).symm.trans hx)
    subst e
    exact hs i _ T σ H hx p nT
  · have e : i = xs.length := by omega
    subst e
    exact .inl ⟨⟨xs, q, Nat.le_refl _⟩, hd σ H p⟩
end
end Lf

set_option Elab.async false
set_option linter.all false
set_option maxRecDepth 100000
set_option maxHeartbeats 4000000
/-! Leaf T: the law's own state: cells, lefts, at. -/
namespace Lf
open PySem PySem.Spec PyProof.Rows L2
def stK (cA lA : Addr) (n : Nat) : List (Key × V) := [(.inr "cells", .ref cA), (.inr "lefts", .ref lA), (.inr "at", .int (n : Nat))]
section
variable {cA lA st : Addr} {n : Nat} {H : Hp}
theorem dg_at (h : H st = some (.dK (stK cA lA n))) : DGet H st (.str "at") (some (.int (n : Nat))) := by
  have e : valV (stK cA lA n) (.inr "at") = some (.int (n : Nat)) := rfl
  rw [← e]
  exact DGet.k (k := .inr "at") h
theorem dg_cells (h : H st = some (.dK (stK cA lA n))) : DGet H st (.str "cells") (some (.ref cA)) := by
  have e : valV (stK cA lA n) (.inr "cells") = some (.ref cA) := rfl
  rw [← e]
  exact DGet.k (k := .inr "cells") h
theorem dg_lefts (h : H st = some (.dK (stK cA lA n))) : DGet H st (.str "lefts") (some (.ref lA)) := by
  have e : valV (stK cA lA n) (.inr "lefts") = some (.ref lA) := rfl
  rw [← e]
  exact DGet.k (k := .inr "lefts") h
theorem dp_at (h : H st = some (.dK (stK cA lA n))) : DPut H st (.str "at") (.int ((n : Nat) + 1 : Int)) (upd H st (.dK (stK cA lA (n + 1)))) := by
  have e : putK (stK cA lA n) (.inr "at") (.int ((n : Nat) + 1 : Int)) = stK cA lA (n + 1) := rfl
  have q := DPut.k (k := .inr "at") (v := .int ((n : Nat) + 1 : Int)) h (by show 3 < sizeLine; decide)
  rw [e] at q
  exact q
end
theorem ixN_nat' {n j : Nat} (hj : j < n) : ixN n (j : Int) = some j := by
  unfold ixN
  rw [if_pos (by omega), if_pos (by omega)]
  simp
structure StOk (st cA lA : Addr) (b : Nat) (H : Hp) : Prop where
  ex : ∃ (cs ls : List Int) (at_ : Nat), H st = some (.dK (stK cA lA at_)) ∧ H cA = some (.lst (cs.map V.int)) ∧ H lA = some (.lst (ls.map V.int)) ∧
    cs.length = ls.length ∧ 0 < cs.length ∧ cs.length ≤ 100 ∧ at_ ≤ b
  ne : cA ≠ lA
theorem StOk.mono {st cA lA : Addr} {b c : Nat} {H : Hp} (h : StOk st cA lA b H) (l : b ≤ c) : StOk st cA lA c H := by
  obtain ⟨⟨cs, ls, a, h1, h2, h3, h4, h5, h6, h7⟩, n⟩ := h
  exact ⟨⟨cs, ls, a, h1, h2, h3, h4, h5, h6, Nat.le_trans h7 l⟩, n⟩
theorem StOk.same {st cA lA : Addr} {b : Nat} {H H' : Hp} (h : StOk st cA lA b H) (e1 : H' st = H st) (e2 : H' cA = H cA) (e3 : H' lA = H lA) : StOk st cA lA b H' := by
  obtain ⟨⟨cs, ls, a, h1, h2, h3, h4, h5, h6, h7⟩, n⟩ := h
  exact ⟨⟨cs, ls, a, e1.trans h1, e2.trans h2, e3.trans h3, h4, h5, h6, h7⟩, n⟩
/-- the state at st may be drawn from -/
structure HasSt (F : Fr) (st : Addr) : Prop where
  ex : ∃ cA lA : Addr, F.N st ∧ F.N cA ∧ F.N lA ∧ (∀ b H, F.T b H → StOk st cA lA b H) ∧
    ∀ b c H H', F.T b H → (∀ a, a ≠ st → a ≠ lA → H' a = H a) → StOk st cA lA c H' → b ≤ c → F.T c H'
theorem StOk.nxS {st cA lA : Addr} {b : Nat} {H : Hp} (h : StOk st cA lA b H) : ∀ o, H st ≠ some (.ext o) := by
  obtain ⟨cs, ls, q, h1, h2, h3, _⟩ := h.ex
  exact nx_dK h1
theorem StOk.nxL {st cA lA : Addr} {b : Nat} {H : Hp} (h : StOk st cA lA b H) : ∀ o, H lA ≠ some (.ext o) := by
  obtain ⟨cs, ls, q, h1, h2, h3, _⟩ := h.ex
  exact nx_lst h3
/-- a frame and a state -/
def Fr.st (F : Fr) (st cA lA : Addr) : Fr where
  N a := F.N a ∨ a = st ∨ a = cA ∨ a = lA
  T b H := F.T b H ∧ StOk st cA lA b H ∧ ¬ F.N st ∧ ¬ F.N cA ∧ ¬ F.N lA
  pos b H a h n := by
    rcases n with n | rfl | rfl | rfl
    · exact F.pos _ _ _ h.1 n
    · obtain ⟨⟨cs, ls, q, h1, h2, h3, h4, h5, h6, h7⟩, n⟩ := h.2.1
      exact ⟨_, h1, (fun _ z => by cases z), (fun _ _ z => by cases z), (fun _ z => by cases z)⟩
    · obtain ⟨⟨cs, ls, q, h1, h2, h3, h4, h5, h6, h7⟩, n⟩ := h.2.1
      exact ⟨_, h2, (fun _ z => by cases z), (fun _ _ z => by cases z), (fun _ z => by cases z)⟩
    · obtain ⟨⟨cs, ls, q, h1, h2, h3, h4, h5, h6, h7⟩, n⟩ := h.2.1
      exact ⟨_, h3, (fun _ z => by cases z), (fun _ _ z => by cases z), (fun _ z => by cases z)⟩
  loc b H H' h e x := ⟨F.loc _ _ _ h.1 (fun a n => e a (.inl n)) x, h.2.1.same (e _ (.inr (.inl rfl))) (e _ (.inr (.inr (.inl rfl)))) (e _ (.inr (.inr (.inr rfl)))), h.2.2⟩
  mono b c H h l := ⟨F.mono _ _ _ h.1 l, h.2.1.mono l, h.2.2⟩
theorem Fr.st_has (F : Fr) (st cA lA : Addr) : HasSt (F.st st cA lA) st :=
  ⟨cA, lA, .inr (.inl rfl), .inr (.inr (.inl rfl)), .inr (.inr (.inr rfl)), fun b H h => h.2.1, fun b c H H' h e s l =>
    ⟨F.mono _ _ _ (F.loc _ _ _ h.1 (fun a n => e a (fun z => h.2.2.1 (z ▸ n)) (fun z => h.2.2.2.2 (z ▸ n))) fun a o y => (e a (fun z => h.2.1.nxS o (z ▸ y)) fun z => h.2.1.nxL o (z ▸ y)).trans y) l, s, h.2.2⟩⟩
theorem Fr.st_tab {F : Fr} {P st cA lA : Addr} (h : HasTab F P) : HasTab (F.st st cA lA) P :=
  ⟨.inl h.n, fun b H q => h.g _ _ q.1, fun b H H' q t => ⟨h.t _ _ _ q.1 t, q.2.1.same (t.2 _ fun z => q.2.2.1 (z ▸ h.n)) (t.2 _ fun z => q.2.2.2.1 (z ▸ h.n)) (t.2 _ fun z => q.2.2.2.2 (z ▸ h.n)), q.2.2⟩⟩
theorem Fr.st_lam {F : Fr} {P st cA lA : Addr} {q : Str} (h : HasLam F P q) : HasLam (F.st st cA lA) P q :=
  ⟨.inl h.n, fun b H z => h.g _ _ z.1, fun b H H' z t => ⟨h.t _ _ _ z.1 t, by
    have n1 : st ≠ P := fun y => z.2.2.1 (y ▸ h.n)
    have n2 : cA ≠ P := fun y => z.2.2.2.1 (y ▸ h.n)
    have n3 : lA ≠ P := fun y => z.2.2.2.2 (y ▸ h.n)
    obtain ⟨cs, ls, w, h1, h2, h3, h4⟩ := z.2.1.ex
    exact z.2.1.same ((t.2 _ _ n1 h1).trans h1.symm) ((t.2 _ _ n2 h2).trans h2.symm) ((t.2 _ _ n3 h3).trans h3.symm), z.2.2⟩⟩
theorem Fr.st_t {F : Fr} {st cA lA : Addr} {p : Addr × Option Str} (h : HasT F p) : HasT (F.st st cA lA) p := by
  obtain ⟨P, q⟩ := p
  cases q with
  | none => exact Fr.st_tab h
  | some q => exact Fr.st_lam h
/-- what is done behind the state's making -/
theorem Go.st {F : Fr} {b : Nat} {H H' : Hp} {st cA lA : Addr} (g : Go F b H b H') (h1 : H st = none) (h2 : H cA = none) (h3 : H lA = none) (s : StOk st cA lA b H') : (F.st st cA lA).T b H' :=
  ⟨g.r, s, g.nn h1, g.nn h2, g.nn h3⟩
end Lf

set_option Elab.async false
set_option linter.all false
set_option maxRecDepth 100000
set_option maxHeartbeats 4000000
/-! Leaf U: places in documents, as data; ways of shapes. -/
namespace Lf
open PySem PySem.Spec PyProof.Rows L2
section
variable {K : PySem.W.Frag} {F : Fr} {b : Nat} {H : Hp} {x : V} {ds : List PyData} {d : PyData} {Q : VK} {σ : L2.St}
theorem sl1N (hT : F.T b H) (hx : Dt K H x (.tuple (d :: ds))) (q : ∀ p us H', Go F b H b H' → H' p = some (.tup us) → DtAll K H' us ds → Q (.ref p) H') : tNoPart σ H fun u H' => rSlA K x (some 1) u H' Q := sl1D hT hx q
theorem slFromN {i : Nat} (hT : F.T b H) (hx : Dt K H x (.tuple ds)) (q : ∀ z H', Go F b H b H' → Dt K H' z (.tuple (ds.drop i)) → Q z H') : tNoPart σ H fun u H' => rSlA K x (some (i : Nat)) u H' Q := slFrom hT hx q
end
theorem parts_get : ∀ {ps : List Doc} {i : Nat} {r : List Nat} {z : Doc}, parts_ ps i r = some z → ∃ d, ps[i]? = some d ∧ d.part r = some z
  | [], _, _, _, h => by simp [parts_] at h
  | d :: ps, 0, r, z, h => ⟨d, rfl, by simpa [parts_] using h⟩
  | d :: ps, i + 1, r, z, h => by
    have h' : parts_ ps i r = some z := by simpa [parts_] using h
    obtain ⟨e, h1, h2⟩ := parts_get h'
    exact ⟨e, by simpa using h1, h2⟩
theorem parts_of : ∀ {ps : List Doc} {i : Nat} {r : List Nat} {z d : Doc}, ps[i]? = some d → d.part r = some z → parts_ ps i r = some z
  | [], _, _, _, _, h, _ => by simp at h
  | e :: ps, 0, r, z, d, h, h2 => by
    cases h
    simpa [parts_] using h2
  | e :: ps, i + 1, r, z, d, h, h2 => by
    simp only [parts_]
    exact parts_of (by simpa using h) h2
theorem puts_encs : ∀ {ps : List Doc} {i : Nat} {r : List Nat} {d x : Doc}, ps[i]? = some d → encs (puts ps i r x) = (encs ps).take i ++ ((d.put r x).enc :: (encs ps).drop (i + 1))
  | [], _, _, _, _, h => by simp at h
  | e :: ps, 0, r, d, x, h => by
    cases h
    simp [puts, encs]
  | e :: ps, i + 1, r, d, x, h => by
    have ih := puts_encs (r := r) (x := x) (ps := ps) (i := i) (d := d) (by simpa using h)
    simp only [puts, encs]
    rw [ih]
    simp
mutual
theorem put_fine : ∀ (d : Doc) (pl : List Nat) (x : Doc), d.fine = true → x.fine = true → (d.put pl x).fine = true
  | d, [], x, _, hx => by cases d <;> simpa [Doc.put] using hx
  | .nd n ps, i :: r, x, hd, hx => by
    rw [Doc.fine, Bool.and_eq_true, Bool.and_eq_true] at hd
    simp only [Doc.put]
    rw [Doc.fine, puts_len, puts_fine ps i r x hd.2 hx, hd.1.1]
    simpa using hd.1.2
theorem puts_fine : ∀ (ps : List Doc) (i : Nat) (r : List Nat) (x : Doc), fines ps = true → x.fine = true → fines (puts ps i r x) = true
  | [], _, _, _, _, _ => rfl
  | d :: ps, 0, r, x, hd, hx => by
    rw [fines, Bool.and_eq_true] at hd
    simp only [puts]
    rw [fines, put_fine d r x hd.1 hx, hd.2]
    rfl
  | d :: ps, i + 1, r, x, hd, hx => by
    rw [fines, Bool.and_eq_true] at hd
    simp only [puts]
    rw [fines, puts_fine ps i r x hd.2 hx, hd.1]
    rfl
end
mutual
theorem put_deep : ∀ (d : Doc) (pl : List Nat) (x : Doc), (d.put pl x).deep ≤ d.deep + x.deep
  | d, [], x => by cases d <;> (simp only [Doc.put]; omega)
  | .nd n ps, i :: r, x => by
    simp only [Doc.put, Doc.deep]
    have := puts_deep ps i r x
    omega
theorem puts_deep : ∀ (ps : List Doc) (i : Nat) (r : List Nat) (x : Doc), deeps (puts ps i r x) ≤ deeps ps + x.deep
  | [], _, _, _ => by simp [puts, deeps]
  | d :: ps, 0, r, x => by
    simp only [puts, deeps]
    have := put_deep d r x
    omega
  | d :: ps, i + 1, r, x => by
    simp only [puts, deeps]
    have := puts_deep ps i r x
    omega
end
mutual
theorem put_size : ∀ (d : Doc) (pl : List Nat) (x : Doc), (d.put pl x).size ≤ d.size + x.size
  | d, [], x => by cases d <;> (simp only [Doc.put]; omega)
  | .nd n ps, i :: r, x => by
    simp only [Doc.put, Doc.size]
    have := puts_size ps i r x
    omega
theorem puts_size : ∀ (ps : List Doc) (i : Nat) (r : List Nat) (x : Doc), sizes (puts ps i r x) ≤ sizes ps + x.size
  | [], _, _, _ => by simp [puts, sizes]
  | d :: ps, 0, r, x => by
    simp only [puts, sizes]
    have := put_size d r x
    omega
  | d :: ps, i + 1, r, x => by
    simp only [puts, sizes]
    have := puts_size ps i r x
    omega
end
theorem part_len : ∀ (pl : List Nat) (d z : Doc), d.part pl = some z → pl.length + 1 ≤ d.deep
  | [], d, z, h => by
    cases d with
    | nd n ps => rw [Doc.deep]; simp
  | i :: r, .nd n ps, z, h => by
    have h' : parts_ ps i r = some z := by simpa [Doc.part] using h
    obtain ⟨e, h1, h2⟩ := parts_get h'
    have := part_len r e z h2
    have hm := (deeps_le (n := deeps ps) ps).mp (Nat.le_refl _) _ (List.mem_of_getElem? h1)
    rw [Doc.deep, List.length_cons]
    omega
def encPt (e : List Nat × Doc) : PyData := .tuple [encPl e.1, e.2.enc]
theorem deep_pos : ∀ d : Doc, 1 ≤ d.deep
  | .nd _ ps => by rw [Doc.deep]; omega
theorem int_list {α : Type} {ys : List V} {ps : List α} {f : α → Int} (hl : ys.length = ps.length) (h : ∀ (i : Nat) (y : V), ys[i]? = some y → ∃ e, ps[i]? = some e ∧ y = .int (f e)) : ys = (ps.map f).map V.int := by
  refine List.ext_getElem? fun i => ?_
  rw [List.getElem?_map, List.getElem?_map]
  cases hy : ys[i]? with
  | none =>
    have : ps[i]? = none := by
      rw [List.getElem?_eq_none_iff] at hy ⊢
      omega
    rw [this]
    rfl
  | some y =>
    obtain ⟨e, he, rfl⟩ := h i y hy
    rw [he]
    rfl
theorem sizes_take {ps : List Doc} {i : Nat} {d : Doc} (h : ps[i]? = some d) : sizes (ps.take (i + 1)) = sizes (ps.take i) + d.size := by
  rw [List.take_add_one, h, sizes_sum, sizes_sum, List.map_append, List.sum_append]
  simp
theorem aheads_drop {ps qs : List Doc} {i : Nat} {p q : Doc} (h1 : ps[i]? = some p) (h2 : qs[i]? = some q) : aheads (ps.drop i) (qs.drop i) = if ahead p q ≠ 0 then ahead p q else aheads (ps.drop (i + 1)) (qs.drop (i + 1)) := by
  obtain ⟨a1, e1⟩ := List.getElem?_eq_some_iff.mp h1
  obtain ⟨a2, e2⟩ := List.getElem?_eq_some_iff.mp h2
  rw [List.drop_eq_getElem_cons a1, List.drop_eq_getElem_cons a2, e1, e2, aheads]
end Lf

set_option Elab.async false
set_option linter.all false
set_option maxRecDepth 100000
set_option maxHeartbeats 4000000
/-! Leaf Q: d == {} of a dict with tuple keys. -/
namespace LfQ
open PySem PySem.Calls PySem.Spec PyProof.Rows L2
section
variable {prog : Program} {w : World} {A : Around} {E : Value → Shared → Prop} {s : Shared}
theorem samePairs0 {nm : String} {a b : Addr} {oa ob : Obj} {es es' : Array DictEntry} {ep ep' : Nat} {Q : Bool → Shared → Prop} (ha : (a == sysModules) = false) (hb : (b == sysModules) = false)
    (hoa : s.heap.get? a = some oa) (hda : oa.data = .dict es ep) (hob : s.heap.get? b = some ob) (hdb : ob.data = .dict es' ep') (h0 : es'.size = 0) (h : Q (es.size == 0) s) :
    wpAny (model prog w) A (Builtin.Dict.samePairs nm a b) Q E s := by
  unfold Builtin.Dict.samePairs Builtin.Dict.showsAll
  rw [if_neg (show ¬ (a == sysModules) = true by rw [ha]; exact Bool.false_ne_true), if_neg (show ¬ (b == sysModules) = true by rw [hb]; exact Bool.false_ne_true)]
  refine wpAny_bind (wpAny_pure (wpAny_bind (wpAny_pure ?_)))
  refine wpAny_bind (wpAny_dictEntries hoa hda ?_)
  dsimp only
  refine wpAny_bind (wpAny_dictEntries hob hdb ?_)
  by_cases hsz : es.size = es'.size
  case neg =>
    rw [if_pos (by simpa using hsz)]
    have hbf : (es.size == 0) = false := by
      rw [h0] at hsz
      simpa using hsz
    rw [hbf] at h
    exact wpAny_bind (wpAny_rule (wpAny_pure h))
  case pos =>
    have he : es.size = 0 := hsz.trans h0
    have h' : Q true s := by
      rw [he] at h
      exact h
    rw [if_neg (by rw [hsz]; simp)]
    refine wpAny_bind (wpAny_dictEpoch hoa hda ?_)
    refine wpAny_bind ?_
    rw [Std.Legacy.Range.forIn_eq_forIn_range']
    simp only [Std.Legacy.Range.size, Nat.sub_zero, Nat.add_sub_cancel, Nat.div_one]
    rw [he]
    exact wpAny_pure (wpAny_pure h')
theorem rc_dict0 {a b : Addr} {oa ob : Obj} {es es' : Array DictEntry} {ep ep' : Nat} {Q : Value → Shared → Prop} (ha : (a == sysModules) = false) (hb : (b == sysModules) = false)
    (hoa : s.heap.get? a = some oa) (ca : oa.cls = .type "dict") (hda : oa.data = .dict es ep) (hob : s.heap.get? b = some ob) (cb : ob.cls = .type "dict") (hdb : ob.data = .dict es' ep') (h0 : es'.size = 0) (hu : A.units < cLine) (h : Q (.bool (es.size == 0)) s) :
    wpAny (model prog w) A (richCompare .Eq (.ref a) (.ref b)) Q E s := by
  have ta : s.TypeIs (.ref a) "dict" := ⟨oa, hoa, ca⟩
  have tb : s.TypeIs (.ref b) "dict" := ⟨ob, hob, cb⟩
  refine wpAny_richCompare_same_room (op := .Eq) ta tb PySem.F.slot_dict_eq (wpAny_call_entry PySem.F.slot_dict_eq ta PySem.F.entry_dict_eq ?_ (PySem.F.args_dict_eq_2 _ _)) hu
  show wpAny _ _ (Builtin.Dict.dictSlotArgs "__eq__" ⟨[.ref a, .ref b], []⟩ >>= _) _ _ s
  refine wpAny_bind ?_
  unfold Builtin.Dict.dictSlotArgs
  refine wpAny_bind (wpAny_notOrdered_dict ta ?_)
  show wpAny _ _ (pure (Value.ref a, Value.ref b)) _ _ s
  refine wpAny_pure ?_
  refine wpAny_bind (wpAny_isInstance (T := "dict") tb PySem.F.sub_dict_dict ?_)
  simp only [Bool.not_true, Bool.false_eq_true, if_false]
  refine wpAny_bind (wpAny_pure (wpAny_bind (wpAny_pure ?_)))
  refine wpAny_bind (samePairs0 ha hb hoa hda hob hdb h0 ?_)
  refine wpAny_pure ⟨_, rfl, ?_, ?_⟩
  · exact fun x => nomatch x
  · simpa using h
end
def rEqDict0 : R2 := fun x y H Q => ∃ a b kvs, x = .ref a ∧ y = .ref b ∧ H a = some (.dT kvs) ∧ H b = some (.dT []) ∧ Q (.bl kvs.isEmpty) H
theorem op_eqDict0 {X : Cx} (hu : X.A.units < cLine) : OpR X (compareOp .Eq) rEqDict0 := by
  intro pins s σ H x y v u Q I rx ry h
  obtain ⟨a, b, kvs, rfl, rfl, h1, h2, q⟩ := h
  cases rx
  cases ry
  obtain ⟨_, lo, xs, rel, o, es, ep, ho, hx, hdt, hes, _⟩ := dt_of I.hok h1
  obtain ⟨_, lo', xs', rel', o', es', ep', ho', hx', hdt', hes', _⟩ := dt_of I.hok h2
  have l1 : kvs.length = xs.length := Paired.length rel
  have l2 : es.size = xs.length := size_of_entries hes
  have l1' : ([] : List (List Key × V)).length = xs'.length := Paired.length rel'
  have l2' : es'.size = xs'.length := size_of_entries hes'
  have h0 : es'.size = 0 := by rw [l2', ← l1']; rfl
  have e : (es.size == 0) = kvs.isEmpty := by
    rw [l2, ← l1]
    cases kvs <;> rfl
  refine rc_dict0 lo lo' ho hx.1 hdt ho' hx'.1 hdt' h0 hu ?_
  exact ⟨.bl _, H, I, by rw [e]; rfl, q⟩
end LfQ

set_option Elab.async false
set_option linter.all false
set_option maxRecDepth 100000
set_option maxHeartbeats 4000000
/-! Leaf Y: shapes, plainly; a comprehension with a test. -/
namespace Lf
open PySem PySem.Spec PyProof.Rows L2
abbrev Way := Str × List Nat
abbrev Shp := List (List Way)
def encWay (w : Way) : PyData := .tuple [.str w.1, encPl w.2]
def encKind (ws : List Way) : PyData := .tuple (ws.map encWay)
def encShp (s : Shp) : PyData := .tuple (s.map encKind)
structure Good (s : Shp) : Prop where
  pos : 0 < s.length
  len : s.length ≤ 10
  kinds : ∀ ws ∈ s, 0 < ws.length ∧ ws.length ≤ 10 ∧ ∀ w ∈ ws, isNameS w.1 = true ∧ w.2.length ≤ 3 ∧ ∀ p ∈ w.2, p < s.length
/-- each kind has a way that goes downward -/
def Ranked (s : Shp) : Prop := ∃ rk : Nat → Nat, ∀ i ws, s[i]? = some ws → ∃ w ∈ ws, (∀ p ∈ w.2, rk p < rk i) ∧ w.2.length ≤ 1
/-! ### firsts -/
def encO : Option Doc → PyData
  | none => .none
  | some d => d.enc
def nones : List (Option Doc) → Nat
  | [] => 0
  | none :: r => 1 + nones r
  | some _ :: r => nones r
theorem nones_set : ∀ {os : List (Option Doc)} {i : Nat} {d : Doc}, os[i]? = some none → nones (os.set i (some d)) + 1 = nones os
  | [], _, _, h => by simp at h
  | none :: r, 0, d, _ => by simp [nones]; omega
  | some _ :: r, 0, d, h => by simp at h
  | none :: r, i + 1, d, h => by
    have ih := nones_set (os := r) (i := i) (d := d) (by simpa using h)
    simp only [List.set_cons_succ, nones]
    omega
  | some _ :: r, i + 1, d, h => by
    have ih := nones_set (os := r) (i := i) (d := d) (by simpa using h)
    simp only [List.set_cons_succ, nones]
    omega
theorem nones_rep (n : Nat) : nones (List.replicate n none) = n := by
  induction n with
  | zero => rfl
  | succ n ih => rw [List.replicate_succ, nones, ih]; omega
theorem nones_zero : ∀ {os : List (Option Doc)}, (∀ i : Nat, os[i]? ≠ some none) → nones os = 0
  | [], _ => rfl
  | none :: r, h => absurd rfl (h 0)
  | some _ :: r, h => by
    rw [nones]
    exact nones_zero fun i => by simpa using h (i + 1)
theorem nones_all : ∀ {os : List (Option Doc)}, nones os = 0 → ∃ ds : List Doc, os = ds.map some
  | [], _ => ⟨[], rfl⟩
  | none :: r, h => by rw [nones] at h; omega
  | some d :: r, h => by
    obtain ⟨ds, rfl⟩ := nones_all (os := r) (by simpa [nones] using h)
    exact ⟨d :: ds, rfl⟩
/-- a kind that has no document yet, a way whose parts have one -/
def Cand (os : List (Option Doc)) (i : Nat) (w : Way) : Prop := os[i]? = some none ∧ ∀ p ∈ w.2, ∃ d, os[p]? = some (some d)
/-- where no way is left, none is open -/
theorem no_cand {s : Shp} {os : List (Option Doc)} (hg : Good s) (hr : Ranked s) (hl : os.length = s.length) (h : ∀ (i : Nat) (ws : List Way) (w : Way), s[i]? = some ws → w ∈ ws → ¬ Cand os i w) : nones os = 0 := by
  obtain ⟨rk, hrk⟩ := hr
  have key : ∀ n i, rk i ≤ n → os[i]? ≠ some none := by
    intro n
    induction n with
    | zero =>
      intro i hi e
      have hil : i < s.length := by rw [← hl]; exact (List.getElem?_eq_some_iff.mp e).1
      have hs : s[i]? = some s[i] := List.getElem?_eq_getElem hil
      obtain ⟨w, hw, hp, _⟩ := hrk i _ hs
      refine h i _ w hs hw ⟨e, fun p hpm => ?_⟩
      have := hp p hpm
      omega
    | succ n ih =>
      intro i hi e
      have hil : i < s.length := by rw [← hl]; exact (List.getElem?_eq_some_iff.mp e).1
      have hs : s[i]? = some s[i] := List.getElem?_eq_getElem hil
      obtain ⟨w, hw, hp, _⟩ := hrk i _ hs
      refine h i _ w hs hw ⟨e, fun p hpm => ?_⟩
      have h1 := hp p hpm
      have h2 := ((hg.kinds _ (List.mem_of_getElem? hs)).2.2 w hw).2.2 p hpm
      have h3 : os[p]? = some os[p] := List.getElem?_eq_getElem (by omega)
      have h4 := ih p (by omega)
      cases q : os[p]'(by omega) with
      | none => rw [q] at h3; exact absurd h3 h4
      | some d => exact ⟨d, by rw [h3, q]⟩
  exact nones_zero fun i => key (rk i) i (Nat.le_refl _)
/-- sizes by depth -/
def szOf : Nat → Nat
  | 0 => 0
  | n + 1 => 1 + 3 * szOf n
theorem szOf_mono (n : Nat) : szOf n ≤ szOf (n + 1) := by
  rw [szOf]
  omega
theorem sizes_le {n : Nat} : ∀ {ps : List Doc}, (∀ d ∈ ps, d.size ≤ n) → sizes ps ≤ ps.length * n
  | [], _ => by simp [sizes]
  | d :: r, h => by
    have h1 := h d List.mem_cons_self
    have h2 := sizes_le (n := n) (ps := r) fun e he => h e (List.mem_cons_of_mem _ he)
    rw [sizes, List.length_cons, Nat.succ_mul]
    omega
section
variable {K : PySem.W.Frag} {F : Fr} {b : Nat} {H1 : Hp} {a : Addr} {xs : List V} {σ : L2.St} {vs : List Nat} {g : TG} {tt : TT} {te : TE} {Q : VK}
/-- [elt for x in t if test]: whether something comes -/
theorem lcTf {f : Nat → Bool} (hs : SqT K H1 a xs) (hT : F.T b H1) (hz : xs.length ≤ 1000000)
    (step : ∀ (D : Addr) (i : Nat) (x : V) (H' : Hp), H1 D = none → Go F b H1 b H' → xs[i]? = some x → ∀ (P : VK) (Pn : Hp → Prop), (f i = true → ∀ y H3, Go F b H' b H3 → P y H3) → (f i = false → ∀ H3, Go F b H' b H3 → Pn H3) →
      g x (wipe σ vs) H' fun σ2 H2 => wipe σ2 vs = wipe σ vs ∧ tt σ2 H2 fun c H3 => if c = true then te σ2 H3 P else Pn H3)
    (fin : ∀ D ys H2, H1 D = none → Go F b H1 b H2 → H2 D = some (.lst ys) → (ys.isEmpty = true ↔ ∀ j < xs.length, f j = false) → Q (.ref D) H2) :
    tLc (iTup K (tC (.ref a))) g tt te vs σ H1 Q := by
  refine ⟨a, rfl, ⟨_, hs⟩, fun D hD => lc_tup (fun i H => Go F b H1 b H ∧ ∃ ys, H D = some (.lst ys) ∧ ys.length ≤ i ∧ (ys.isEmpty = true ↔ ∀ j < i, f j = false)) ⟨Go.new hT hD, [], upd_same, Nat.le_refl _, by simp⟩ (fun i H _ p => p.1.sqT hs) (fun i x H hx p => ?_) fun H p => ?_⟩
  · obtain ⟨gH, ys, h1, h2, h3⟩ := p
    have hi := (List.getElem?_eq_some_iff.mp hx).1
    refine step D i x H hD gH hx _ _ (fun hf y H3 g3 => ?_) fun hf H3 g3 => ?_
    · have nD := gH.nn hD
      refine ⟨ys, g3.keep nD h1, Nat.lt_of_lt_of_le (by omega : ys.length < 1000000) (by decide), (gH.trans g3).put hD (nx_lst (g3.keep nD h1)), ys ++ [y], upd_same, by rw [List.length_append]; simp; omega, ?_⟩
      constructor
      · intro z
        simp at z
      · intro z
        rw [z i (by omega)] at hf
        cases hf
    · refine ⟨gH.trans g3, ys, g3.keep (gH.nn hD) h1, by omega, ?_⟩
      rw [h3]
      constructor
      · intro z j hj
        by_cases q : j < i
        · exact z j q
        · have e : j = i := by omega
          rw [e]
          exact hf
      · intro z j hj
        exact z j (by omega)
  · obtain ⟨gH, ys, h1, h2, h3⟩ := p
    exact fin D ys H hD gH h1 h3
end
/-! ### places in rows of whole numbers -/
theorem inV_ints (p : Nat) : ∀ ns : List Nat, inV (.int (p : Nat)) (ns.map fun n : Nat => V.int (n : Nat)) = decide (p ∈ ns)
  | [] => by simp [inV]
  | n :: r => by
    have ih := inV_ints p r
    unfold inV at ih ⊢
    rw [List.map_cons, List.any_cons, ih]
    have e : eqV (.int (n : Nat)) (.int (p : Nat)) = decide (p = n) := by
      show (((n : Nat) : Int) == ((p : Nat) : Int)) = _
      by_cases h : p = n
      · simp [h]
      · have h2 : ¬ ((n : Nat) : Int) = ((p : Nat) : Int) := by omega
        simp [h, h2]
    rw [e]
    by_cases h : p = n <;> simp [h]
theorem flat_ints (ns : List Nat) : (ns.map fun n : Nat => V.int (n : Nat)).all flatV = true := by
  rw [List.all_eq_true]
  intro v hv
  obtain ⟨n, _, rfl⟩ := List.mem_map.mp hv
  rfl
end Lf
namespace Lf
open PySem PySem.Spec PyProof.Rows L2
/-! ### what is reached -/
abbrev nI (ns : List Nat) : List V := ns.map fun n : Nat => V.int (n : Nat)
theorem nodup_len : ∀ (n : Nat) (l : List Nat), l.Nodup → (∀ k ∈ l, k < n) → l.length ≤ n
  | 0, l, _, h => by
    cases l with
    | nil => exact Nat.le_refl _
    | cons a r => exact absurd (h a List.mem_cons_self) (Nat.not_lt_zero _)
  | n + 1, l, hd, h => by
    by_cases q : n ∈ l
    · have e := List.length_erase_of_mem q
      have ih := nodup_len n (l.erase n) (hd.erase n) fun k hk => by
        have h1 := (hd.mem_erase_iff).mp hk
        have h2 := h k h1.2
        have h3 := h1.1
        omega
      have := List.length_pos_of_mem q
      omega
    · have ih := nodup_len n l hd fun k hk => by
        have h2 := h k hk
        have : k ≠ n := fun z => q (z ▸ hk)
        omega
      omega
/-- every way of the kind k stays within ord -/
def Closed (rows : Shp) (ord : List Nat) (k : Nat) : Prop := ∀ ws, rows[k]? = some ws → ∀ w ∈ ws, ∀ p ∈ w.2, p ∈ ord
structure ROk (rows : Shp) (ord : List Nat) (i : Nat) : Prop where
  zero : ord[0]? = some 0
  nd : ord.Nodup
  lt : ∀ k ∈ ord, k < rows.length
  cl : ∀ j < i, ∀ k, ord[j]? = some k → Closed rows ord k
theorem Closed.app {rows : Shp} {ord : List Nat} {k : Nat} (h : Closed rows ord k) (more : List Nat) : Closed rows (ord ++ more) k := fun ws e w hw p hp => List.mem_append_left _ (h ws e w hw p hp)
theorem ROk.app {rows : Shp} {ord : List Nat} {i p : Nat} (h : ROk rows ord i) (hi : i < ord.length) (hp : p ∉ ord) (hl : p < rows.length) : ROk rows (ord ++ [p]) i where
  zero := by
    rw [List.getElem?_append_left (by omega)]
    exact h.zero
  nd := by
    rw [List.nodup_append]
    refine ⟨h.nd, by simp, fun a ha b hb => ?_⟩
    rcases List.mem_singleton.mp hb with rfl
    exact fun e => hp (e ▸ ha)
  lt := fun k hk => by
    rcases List.mem_append.mp hk with q | q
    · exact h.lt k q
    · rcases List.mem_singleton.mp q with rfl
      exact hl
  cl := fun j hj k hk => by
    rw [List.getElem?_append_left (by omega)] at hk
    exact (h.cl j hj k hk).app _
theorem ROk.skip {rows : Shp} {ord : List Nat} {i : Nat} (h : ROk rows ord i) (hi : ord.length ≤ i) : ROk rows ord (i + 1) where
  zero := h.zero
  nd := h.nd
  lt := h.lt
  cl := fun j hj k hk => h.cl j (by have := (List.getElem?_eq_some_iff.mp hk).1; omega) k hk
theorem ROk.step {rows : Shp} {ord : List Nat} {i k : Nat} (h : ROk rows ord i) (hk : ord[i]? = some k) (hc : Closed rows ord k) : ROk rows ord (i + 1) where
  zero := h.zero
  nd := h.nd
  lt := h.lt
  cl := fun j hj k' hk' => by
    by_cases q : j < i
    · exact h.cl j q k' hk'
    · have e : j = i := by omega
      rw [e, hk] at hk'
      cases hk'
      exact hc
/-- all is reached -/
structure Reach (rows : Shp) (ord : List Nat) : Prop where
  zero : ord[0]? = some 0
  nd : ord.Nodup
  lt : ∀ k ∈ ord, k < rows.length
  cl : ∀ k ∈ ord, Closed rows ord k
theorem ROk.done {rows : Shp} {ord : List Nat} (h : ROk rows ord rows.length) : Reach rows ord :=
  ⟨h.zero, h.nd, h.lt, fun k hk => by
    obtain ⟨j, hj⟩ := List.mem_iff_getElem?.mp hk
    have h1 := nodup_len _ _ h.nd h.lt
    have h2 := (List.getElem?_eq_some_iff.mp hj).1
    exact h.cl j (by omega) k hj⟩
end Lf

set_option Elab.async false
set_option linter.all false
set_option maxRecDepth 100000
set_option maxHeartbeats 4000000
/-! Leaf Z: the end: the Hook of facts with one own error whose __init__ calls super().__init__; the law called by a promise that is told that no repr runs. -/
namespace Lf
open PySem PySem.Spec PyProof.Rows L2
open He (DefD Fa Defn cT frT emptyTab tabsB eqO eqO_ok ba)
/-! ### a method with a closure, as it is read -/
abbrev FnC : Type := Option (Str × Str × Arguments × FuncBody × Scope × Addr × List Str × Addr)
def fnC (K : PySem.W.Frag) (f : Addr) : FnC := match K.lookup f with
  | some ⟨_, _, .func fd, _⟩ => some (fd.name, fd.qualname, fd.params, fd.body, fd.scope, fd.globals, fd.closure.map (·.1), fd.builtins)
  | _ => none
/-- a code object's file -/
def fileB (K : PySem.W.Frag) (file : Str) : Value → Bool
  | .ref c => (match K.lookup c with
    | some ⟨_, _, .fields vs, _⟩ => (match (vs[2]? : Option Value) with
      | some (Value.str fl _) => file == fl
      | _ => false)
    | _ => false)
  | _ => false
theorem fileB_ok {K : PySem.W.Frag} {file : Str} {v : Value} (h : fileB K file v = true) : ∃ cda c1 d1 vs s1 fl tf, v = .ref cda ∧ K.lookup cda = some ⟨c1, d1, .fields vs, s1⟩ ∧ vs[2]? = some (.str fl tf) ∧ (file == fl) = true := by
  cases v with
  | ref c =>
    have h2 : (match K.lookup c with
      | some ⟨_, _, .fields vs, _⟩ => (match (vs[2]? : Option Value) with
        | some (Value.str fl _) => file == fl
        | _ => false)
      | _ => false) = true := h
    split at h2
    · rename_i w1 w2 vs w3 hco
      split at h2
      · rename_i fl tf hvs
        exact ⟨c, w1, w2, vs, w3, fl, tf, rfl, hco, hvs, h2⟩
      · cases h2
    · cases h2
  | _ => cases h
/-- one cell, of the class -/
def cellB (K : PySem.W.Frag) (C : Addr) : List (Str × Addr) → Bool
  | [(_, cc)] => (match K.lookup cc with
    | some ⟨_, _, .cell (some (.ref D)), _⟩ => decide (D = C)
    | _ => false)
  | _ => false
theorem cellB_ok {K : PySem.W.Frag} {C : Addr} {x : Str} {l : List (Str × Addr)} (h : cellB K C l = true) (e : l.map (·.1) = [x]) : ∃ cc c2 d2 s2, l = [(x, cc)] ∧ K.lookup cc = some ⟨c2, d2, .cell (some (.ref C)), s2⟩ := by
  match l, h, e with
  | [(y, cc)], h, e =>
    have e2 : y = x := (List.cons.inj e).1
    subst e2
    have h2 : (match K.lookup cc with
      | some ⟨_, _, .cell (some (.ref D)), _⟩ => decide (D = C)
      | _ => false) = true := h
    split at h2
    · rename_i u1 u2 D u3 hc
      have e3 : D = C := of_decide_eq_true h2
      subst e3
      exact ⟨cc, _, _, _, rfl, hc⟩
    · cases h2
  | [], h, _ => cases h
  | _ :: _ :: _, _, e => cases e
def noneB : Value → Bool
  | .none => true
  | _ => false
theorem noneB_ok {v : Value} (h : noneB v = true) : v = .none := by
  cases v with
  | none => rfl
  | _ => cases h
/-- its code object's file, its cell -/
def fnRest (K : PySem.W.Frag) (f : Addr) (qual file : Str) (C : Addr) : Bool := match K.lookup f with
  | some ⟨_, _, .func fd, _⟩ => noneB fd.defaults && (PySem.W.codeIn K fd.code qual && (fileB K file fd.code && cellB K C fd.closure))
  | _ => false
/-- the class's own object -/
def clsB (K : PySem.W.Frag) (C : Addr) : Bool := match K.lookup C with
  | some ⟨.type "type", _, .cls cd, sl⟩ => (match cd.mro, sl.toList with
    | .ref C' :: bm, [_, _, _, _, some (.builtin n), _] => decide (C' = C) && (decide (n = "ValueError.__new__") && (!cd.hasDel && (cd.hasDict && HandSPX.refsVE bm)))
    | _, _ => false)
  | _ => false
theorem clsB_ok {K : PySem.W.Frag} {C : Addr} (q : clsB K C = true) : ∃ nm qn N bs bm sn sub ab col dd k0 k1 k2 k3 k5, K.lookup C = some (excClassObj nm qn C N bs bm true sn sub ab col dd k0 k1 k2 k3 k5 "ValueError.__new__") ∧ HandSPX.refsVE bm = true := by
  unfold clsB at q
  split at q
  · rename_i dd cd sl ho
    split at q
    · rename_i C' bm k0 k1 k2 k3 n k5 hm hs
      obtain ⟨q1, q⟩ := ba q
      obtain ⟨q2, q⟩ := ba q
      obtain ⟨q3, q⟩ := ba q
      obtain ⟨q4, q5⟩ := ba q
      have e1 : C' = C := of_decide_eq_true q1
      have e2 : n = "ValueError.__new__" := of_decide_eq_true q2
      obtain ⟨nm, bs, mro, ns, qn, hd, sn, sub, ab, col, del⟩ := cd
      have e3 : del = false := by
        cases del with
        | false => rfl
        | true => cases q3
      have e4 : hd = true := q4
      have e5 : mro = .ref C' :: bm := hm
      subst e1 e2 e3 e4 e5
      have hsl : sl = #[k0, k1, k2, k3, some (.builtin "ValueError.__new__"), k5] := by
        obtain ⟨l⟩ := sl
        simp only at hs
        rw [hs]
      subst hsl
      exact ⟨nm, qn, ns, bs, bm, sn, sub, ab, col, dd, k0, k1, k2, k3, k5, ho, q5⟩
    · cases q
  · cases q
/-- what K says of the class at C, its __init__ at fI, its field -/
def supB (K : PySem.W.Frag) (C fI : Addr) (fld qual file : Str) : Bool :=
  clsB K C && (eqO (PySem.W.ks_superIn K C C "__init__") (some (some (.builtin "ValueError.__init__"))) && (decide (PySem.W.subIn K (.ref C) (.type "ValueError") = some true) && (decide (PySem.W.mroIn K C (.ref C) = some true) && (eqO (PySem.W.nsIn K cStatics "thirdparty.any") (some none) &&
  (eqO (PySem.W.findIn K (.ref C) "__setattr__") (some (some (.builtin "object.__setattr__"))) && (eqO (PySem.W.findIn K (.ref C) "__getattribute__") (some (some (.builtin "BaseException.__getattribute__"))) && (eqO (PySem.W.findIn K (.ref C) "__getattr__") (some none) && (eqO (PySem.W.findIn K (.ref C) fld) (some none) &&
  (eqO (PySem.W.findIn K (.ref C) "__init__") (some (some (.ref fI))) && (decide (PySem.W.typeIn K (.ref fI) = some (.type "function")) && (PySem.W.keepIn K (.ref C) && (decide (PySem.W.subIn K (.ref C) (.type "BaseException") = some true) && (decide (PySem.W.typeIn K (.ref C) = some (.type "type")) && (PySem.W.hasDictIn K C && (decide (PySem.W.exmOne K (.ref C) (.ref C) = some true) && fnRest K fI qual file C)))))))))))))))
theorem supTxt_of {P : Program} {K : PySem.W.Frag} {mg : Str → Option Value} {x : Str} {C fI : Addr} {fld qual msg : Str} {j : Nat} {p1 p2 a1 a2 a3 a4 a5 a6 q1 q2 q3 q4 : Pos}
    (b : supB K C fI fld qual P.main.file = true) (t : fnC K fI = some (("__init__" : Str), qual, LfX.iArgs fld p1 p2, FuncBody.stmts [LfX.iStm1 msg j a1 a2 a3 a4 a5 a6, LfX.iStm2 fld q1 q2 q3 q4], LfX.iScope fld, mainGlobals, [("__class__" : Str)], builtinsNs))
    (gC : mg x = some (.ref C)) (sg : mg "super" = none) (top : (P.main.scope.names.lookup ("super" : Str)).isSome = false) (par : fld = ("place" : Str) ∨ fld = ("value" : Str))
    (ev : ∀ env : Env, eval (.Call (.Attribute (.Call (.Name "super" a1) [] [] a2) "__init__" a3) [.Constant (.str msg) j a4] [] a5) env = (do
      let ov ← attributeBase (.Call (.Name "super" a1) [] [] a2) "__init__" env (eval (.Call (.Name "super" a1) [] [] a2) env)
      standAt a3.atName
      let (f, first) ← holding [ov] (getMethod ov "__init__" (L2.plainOf (.Call (.Name "super" a1) [] [] a2) env))
      callWith a5 f first (backTo a5 (starEach [.Constant (.str msg) j a4] env)) [])) : LfX.SupTxt P K mg x C fI fld := by
  obtain ⟨b1, b⟩ := ba b
  obtain ⟨b2, b⟩ := ba b
  obtain ⟨b3, b⟩ := ba b
  obtain ⟨b4, b⟩ := ba b
  obtain ⟨b5, b⟩ := ba b
  obtain ⟨b6, b⟩ := ba b
  obtain ⟨b7, b⟩ := ba b
  obtain ⟨b8, b⟩ := ba b
  obtain ⟨b9, b⟩ := ba b
  obtain ⟨b10, b⟩ := ba b
  obtain ⟨b11, b⟩ := ba b
  obtain ⟨b12, b⟩ := ba b
  obtain ⟨b13, b⟩ := ba b
  obtain ⟨b14, b⟩ := ba b
  obtain ⟨b15, b⟩ := ba b
  obtain ⟨b16, b17⟩ := ba b
  refine ⟨gC, clsB_ok b1, eqO_ok b2, of_decide_eq_true b3, of_decide_eq_true b4, eqO_ok b5, sg, eqO_ok b6, eqO_ok b7, eqO_ok b8, eqO_ok b9, eqO_ok b10, of_decide_eq_true b11, b12, of_decide_eq_true b13, of_decide_eq_true b14, b15, of_decide_eq_true b16, top, par, ?_⟩
  unfold fnRest at b17
  unfold fnC at t
  cases q : K.lookup fI with
  | none =>
    rw [q] at b17
    cases b17
  | some o =>
    obtain ⟨oc, od, dt, osl⟩ := o
    rw [q] at b17 t
    cases dt with
    | func fd =>
      obtain ⟨n1, n2, n3, n4, n5, n6, n7, n8, n9, n10, n11, n12, n13, n14, n15⟩ := fd
      have e2 : (some (n1, n2, n3, n4, n5, n6, n7.map (·.1), n15) : FnC) = some (("__init__" : Str), qual, LfX.iArgs fld p1 p2, FuncBody.stmts [LfX.iStm1 msg j a1 a2 a3 a4 a5 a6, LfX.iStm2 fld q1 q2 q3 q4], LfX.iScope fld, mainGlobals, [("__class__" : Str)], builtinsNs) := t
      simp only [Option.some.injEq, Prod.mk.injEq] at e2
      obtain ⟨h1, h2, h3, h4, h5, h6, h7, h8⟩ := e2
      subst h1 h2 h3 h4 h5 h6 h8
      have b18 : (noneB n8 && (PySem.W.codeIn K n13 n2 && (fileB K P.main.file n13 && cellB K C n7))) = true := b17
      obtain ⟨c1, c⟩ := ba b18
      obtain ⟨c2, c⟩ := ba c
      obtain ⟨c3, c4⟩ := ba c
      have d1 := noneB_ok c1
      subst d1
      obtain ⟨cda, w1, w2, vs, w3, fl, tf, e13, hco, hvs, hfl⟩ := fileB_ok c3
      subst e13
      obtain ⟨cc, u1, u2, u3, el, hcell⟩ := cellB_ok c4 h7
      subst el
      exact ⟨oc, n14, n10, n11, n9, od, n12, n2, msg, cda, cc, osl, j, p1, p2, a1, a2, a3, a4, a5, a6, q1, q2, q3, q4, vs, fl, tf, _, _, _, _, _, _, rfl, c2, hco, hvs, hfl, ev, hcell⟩
    | _ => cases b17
/-- what isinstance asks of the class at C, of the class at CT -/
def isB (K : PySem.W.Frag) (C CT : Addr) : Bool :=
  eqO (PySem.W.findIn K (.ref C) "__getattribute__") (some (some (.builtin "BaseException.__getattribute__"))) && (eqO (PySem.W.findIn K (.ref C) "__getattr__") (some none) && (decide (PySem.W.subIn K (.ref C) (.type "BaseException") = some true) && (PySem.W.hasDictIn K C &&
  (eqO (PySem.W.findIn K (.ref C) "__class__") (some (some (.builtin "object.__class__"))) && (eqO (PySem.W.specialIn K (.builtin "object.__class__") "__get__") (some (some (.builtin "getset_descriptor.__get__"))) && (decide (PySem.W.takesIn K (.builtin "object.__class__") = some true) &&
  (decide (PySem.W.mroIn K C (.type "object") = some true) && ((PySem.W.clsIn K C).isSome && decide (PySem.W.kitOne K (.ref C) (.ref CT) = some true)))))))))
theorem isB_ok {K : PySem.W.Frag} {C CT : Addr} (b : isB K C CT = true) : L2.ExcC K C ∧ (PySem.W.clsIn K C).isSome = true ∧ PySem.W.kitOne K (.ref C) (.ref CT) = some true := by
  obtain ⟨b1, b⟩ := ba b
  obtain ⟨b2, b⟩ := ba b
  obtain ⟨b3, b⟩ := ba b
  obtain ⟨b4, b⟩ := ba b
  obtain ⟨b5, b⟩ := ba b
  obtain ⟨b6, b⟩ := ba b
  obtain ⟨b7, b⟩ := ba b
  obtain ⟨b8, b⟩ := ba b
  obtain ⟨b9, b10⟩ := ba b
  exact ⟨⟨eqO_ok b1, eqO_ok b2, of_decide_eq_true b3, b4, eqO_ok b5, eqO_ok b6, of_decide_eq_true b7, of_decide_eq_true b8⟩, b9, of_decide_eq_true b10⟩
/-! ### the Hook -/
def asL (g : Addr → Option Obj) (n : Nat) : List Addr := He.asD g n ++ [cStatics, sysModules]
structure SaysL (fa : List Fa) (fn : List DefD) (tf : List Defn) (ex : PySem.W.Frag → Bool) (ia : PySem.W.Frag → List Addr) (iv : List FnC) (h : Heap) (K : PySem.W.Frag) : Prop where
  d : He.SaysD fa fn K
  more : ex K = true
  ini : (ia K).map (fnC K) = iv
  hd : ∀ p ∈ tf, PySem.W.codeHdIn K (cT K p).1 (cT K p).2 = true
  out : ∀ p ∈ tf, K.lookup (cT K p).2 = none
  empty : ∀ p ∈ tf, h.get? (cT K p).2 = some { cls := .none, data := .fields #[] }
abbrev AlL : Type := He.AlD × Bool × List FnC
def obsL (n : Nat) (fa : List Fa) (fn : List DefD) (tf : List Defn) (ex : PySem.W.Frag → Bool) (ia : PySem.W.Frag → List Addr) (g : Addr → Option Obj) : AlL :=
  (He.obsD fa fn (frT g (asL g n)), ex (frT g (asL g n)) && tabsB g tf (frT g (asL g n)), (ia (frT g (asL g n))).map (fnC (frT g (asL g n))))
def valL (fn : List DefD) (iv : List FnC) : AlL := (He.valD fn, true, iv)
theorem saysL_of {n : Nat} {fa : List Fa} {fn : List DefD} {tf : List Defn} {ex : PySem.W.Frag → Bool} {ia : PySem.W.Frag → List Addr} {iv : List FnC} {h : Heap} (e : obsL n fa fn tf ex ia h.get? = valL fn iv) : SaysL fa fn tf ex ia iv h (frT h.get? (asL h.get? n)) := by
  have e1 : He.obsD fa fn (frT h.get? (asL h.get? n)) = He.valD fn := congrArg (fun z : AlL => z.1) e
  have e2 : (ex (frT h.get? (asL h.get? n)) && tabsB h.get? tf (frT h.get? (asL h.get? n))) = true := congrArg (fun z : AlL => z.2.1) e
  have e3 : (ia (frT h.get? (asL h.get? n))).map (fnC (frT h.get? (asL h.get? n))) = iv := congrArg (fun z : AlL => z.2.2) e
  obtain ⟨h1, h2⟩ := ba e2
  have key : ∀ p ∈ tf, PySem.W.codeHdIn (frT h.get? (asL h.get? n)) (cT (frT h.get? (asL h.get? n)) p).1 (cT (frT h.get? (asL h.get? n)) p).2 = true ∧ ∃ o, h.get? (cT (frT h.get? (asL h.get? n)) p).2 = some o ∧ emptyTab o = true := fun p hp => by
    obtain ⟨h3, h4⟩ := ba (List.all_eq_true.mp h2 p hp)
    refine ⟨h3, ?_⟩
    split at h4
    · rename_i o q
      exact ⟨o, q, h4⟩
    · cases h4
  refine ⟨e1, h1, e3, fun p hp => (key p hp).1, fun p hp => ?_, fun p hp => ?_⟩
  · obtain ⟨_, o, q, z⟩ := key p hp
    exact He.frT_none q z
  · obtain ⟨_, o, q, z⟩ := key p hp
    rw [q, He.emptyTab_eq z]
def hookL (n : Nat) (fa : List Fa) (fn : List DefD) (tf : List Defn) (ex : PySem.W.Frag → Bool) (ia : PySem.W.Frag → List Addr) (iv : List FnC) : PySem.W.Hook where
  α := AlL
  obs := fun s => obsL n fa fn tf ex ia s.heap.get?
  val := fun _ => valL fn iv
  says := fun _ h => ∃ K : PySem.W.Frag, K.In h ∧ SaysL fa fn tf ex ia iv h K
  of := fun _ _ e => ⟨_, He.frT_in, saysL_of e⟩
  keeps := fun _ _ _ ⟨K, hK, c⟩ k => ⟨K, PySem.W.Frag.In.keeps hK k, ⟨c.d, c.more, c.ini, c.hd, c.out, fun p hp => k _ _ (c.empty p hp)⟩⟩
theorem obsL_eq {n : Nat} {fa : List Fa} {fn : List DefD} {tf : List Defn} {ex : PySem.W.Frag → Bool} {ia : PySem.W.Frag → List Addr} {iv : List FnC} {g : Addr → Option Obj} {s : Shared} (h : ∀ a, g a = s.heap.get? a) : obsL n fa fn tf ex ia g = (hookL n fa fn tf ex ia iv).obs s := by
  have e : g = s.heap.get? := funext h
  rw [e] <;> rfl
/-! ### the law, called -/
/-- at the start: the tables are empty, the script is a list that nobody writes -/
def H0 (K : PySem.W.Frag) (ts : List Addr) (a : Addr) (vs : List Value) (ns : List Int) : Hp := fun b => if b ∈ ts then some (.tbl #[]) else if b = a ∧ (K.lookup a).isNone = true then some (.frz { cls := .type "list", data := .seq vs.toArray } (.lst (ns.map V.int))) else none
section
variable {K : PySem.W.Frag} {ts : List Addr} {a b : Addr} {vs : List Value} {ns : List Int}
theorem H0_t (h : b ∈ ts) : H0 K ts a vs ns b = some (.tbl #[]) := if_pos h
theorem H0_a (h : a ∉ ts) (n : K.lookup a = none) : H0 K ts a vs ns a = some (.frz { cls := .type "list", data := .seq vs.toArray } (.lst (ns.map V.int))) := (if_neg h).trans (if_pos ⟨rfl, by rw [n]; rfl⟩)
theorem H0_n (h : b ∉ ts) (n : ¬ (b = a ∧ K.lookup a = none)) : H0 K ts a vs ns b = none := (if_neg h).trans (if_neg fun z => n ⟨z.1, Option.isNone_iff_eq_none.mp z.2⟩)
theorem H0_cases (K : PySem.W.Frag) (ts : List Addr) (a : Addr) (vs : List Value) (ns : List Int) (b : Addr) : b ∈ ts ∨ (b ∉ ts ∧ b = a ∧ K.lookup a = none) ∨ (b ∉ ts ∧ ¬ (b = a ∧ K.lookup a = none)) := by
  by_cases h : b ∈ ts
  · exact .inl h
  · by_cases h2 : b = a ∧ K.lookup a = none
    · exact .inr (.inl ⟨h, h2⟩)
    · exact .inr (.inr ⟨h, h2⟩)
end
theorem law_callG {P : Program} {w : World} {K : PySem.W.Frag} {mg mb : Str → Option Value} {k : Nat} {fa a : Addr} {cs : List (Addr × Addr)} {nm x : Str} {sp : Sp} {s₁ : Shared} {vs : List Value} {ns : List Int}
    (KX : K.In s₁.heap) (hns : s₁.heap.Ns mainGlobals mg) (hb : s₁.heap.Ns builtinsNs mb) (hbb : ∀ x : Str, x ≠ "__name__" → mb x = bootBuiltins x) (hlim : s₁.heap.NoLimit) (hg : s₁.gens = #[])
    (hT : ∀ p ∈ cs, s₁.heap.get? p.2 = some { cls := .none, data := .fields #[] }) (nT : ∀ p ∈ cs, K.lookup p.2 = none) (C : ∀ p ∈ cs, PySem.W.CodeHd s₁.heap p.1 p.2)
    (hbm : ∃ (bm : Addr) (ob : Obj), mg "__builtins__" = some (.ref bm) ∧ bm ≠ builtinsNs ∧ s₁.heap.get? bm = some ob ∧ ob.cls = .type "module" ∧ ob.dict = some builtinsNs ∧ ob.data = .plain)
    (ha : s₁.heap.get? a = some { cls := .type "list", data := .seq vs.toArray }) (hi : IntsAre vs ns) (hl : ns.length ≤ sizeLine) (hr : Room k callerA)
    (hmg : mg nm = some (.ref fa)) (F : ∀ base : Heap, K.In base → base.Ns mainGlobals mg → (∀ p ∈ cs, GxR.TabB base mg p.1 p.2) → Pr P w K mg base k nm [x] sp)
    (hsp : ∀ H : Hp, (∀ p ∈ cs, H p.2 = some (.tbl #[])) → (∀ p ∈ cs, p.2 ≠ a) → SqL K H a (ns.map V.int) → sp [.ref a] H (fun v _ => v = .bl true) fun _ _ _ => False)
    (hCX : ∀ H e s', L2.CX P w [] H s₁ (fun _ _ _ => False) e s' → False) :
    codeAny (model P w) callerA (.call (.ref fa) ⟨[.ref a], []⟩) (fun r s' => r = .ok (.ret (.bool true)) ∧ OldK s₁.heap s'.heap ∧ s'.os = s₁.os ∧ AllBare s'.gens) s₁ := by
  have rv := vals_ints hi
  have memT : ∀ p ∈ cs, p.2 ∈ cs.map (·.2) := fun p hp => List.mem_map_of_mem hp
  have isT : ∀ b : Addr, b ∈ cs.map (·.2) → s₁.heap.get? b = some { cls := .none, data := .fields #[] } := fun b hb => by
    obtain ⟨p, hp, e⟩ := List.mem_map.mp hb
    rw [← e]
    exact hT p hp
  have notT : ∀ {b : Addr} {o : Obj}, s₁.heap.get? b = some o → o.data ≠ .fields #[] → b ∉ cs.map (·.2) := fun e n z => by
    rw [isT _ z] at e
    cases e
    exact n rfl
  have aT : a ∉ cs.map (·.2) := notT ha fun z => by cases z
  have lst : ∀ {b : Addr} {o : Obj}, s₁.heap.get? b = some o → (∀ vs n, o.data ≠ .seq vs n) → b ≠ a := fun e n z => by
    rw [z, ha] at e
    cases e
    exact n _ _ rfl
  -- below: all but the tables and the script
  have low : ∀ {b : Addr} {o : Obj}, s₁.heap.get? b = some o → (∀ vs n, o.data ≠ .seq vs n) → o.data ≠ .fields #[] → (hidT s₁.heap (H0 K (cs.map (·.2)) a vs ns)).get? b = some o := fun e n1 n2 => hidT_get e (H0_n (notT e n2) fun z => lst e n1 z.1)
  have nsK : ∀ {b : Addr} {m : Str → Option Value}, s₁.heap.Ns b m → (hidT s₁.heap (H0 K (cs.map (·.2)) a vs ns)).Ns b m := fun {b m} ⟨o, es, ep, e, d, r⟩ => ⟨o, es, ep, low e (fun vs n z => by rw [d] at z; cases z) (fun z => by rw [d] at z; cases z), d, r⟩
  have hKb : K.In (hidT s₁.heap (H0 K (cs.map (·.2)) a vs ns)) := fun b o e => hidT_get (KX b o e) (H0_n (fun z => by
    obtain ⟨p, hp, ep⟩ := List.mem_map.mp z
    rw [← ep, nT p hp] at e
    cases e) fun z => by
    rw [z.1, z.2] at e
    cases e)
  have hM : L2.Mod K mg (hidT s₁.heap (H0 K (cs.map (·.2)) a vs ns)) := ⟨hKb, nsK hns, ⟨mb, nsK hb, hbb⟩, let ⟨mc, h1, h2⟩ := hlim; ⟨mc, nsK h1, h2⟩⟩
  have glob : ∀ {b : Addr} {o : Obj}, s₁.heap.get? b = some o → (∀ es ep, o.data ≠ .dict es ep) → mainGlobals ≠ b := fun e n z => by
    obtain ⟨o2, es, ep, e2, hd, _⟩ := hns
    rw [z, e] at e2
    cases e2
    exact n _ _ hd
  have TB : ∀ p ∈ cs, GxR.TabB (hidT s₁.heap (H0 K (cs.map (·.2)) a vs ns)) mg p.1 p.2 := fun p hp => by
    refine ⟨?_, ?_, glob (hT p hp) fun es ep z => by cases z⟩
    · obtain ⟨o, us, file, tf, flags, tg, inF, text, tt, e1, r1, r2, r3, r⟩ := C p hp
      refine ⟨o, us, file, tf, flags, tg, inF, text, tt, low e1 (fun vs n z => ?_) (fun z => ?_), r1, r2, r3, r⟩
      · rw [r2] at z
        cases z
      · rw [r2] at z
        cases z
        simp at r3
    · obtain ⟨bm, ob, b1, b2, b3, b4, b5, b6⟩ := hbm
      refine ⟨bm, ob, b1, b2, (glob b3 fun es ep z => by rw [b6] at z; cases z).symm, fun q => ?_, low b3 (fun vs n z => by rw [b6] at z; cases z) (fun z => by rw [b6] at z; cases z), b4, b5, b6⟩
      rw [q, hT p hp] at b3
      cases b3
      cases b6
  have hok : HOk P w (H0 K (cs.map (·.2)) a vs ns) s₁.heap := fun b u z => by
    rcases H0_cases K (cs.map (·.2)) a vs ns b with h | ⟨h1, rfl, h2⟩ | ⟨h1, h2⟩
    · rw [H0_t h] at z
      cases z
      exact isT b h
    · rw [H0_a h1 h2] at z
      cases z
      exact ⟨ha, by rw [List.length_map]; exact hl, vs, _, rv, ha⟩
    · rw [H0_n h1 h2] at z
      cases z
  have e0 : Env0 P w K mg (hidT s₁.heap (H0 K (cs.map (·.2)) a vs ns)) callerA [] s₁ (H0 K (cs.map (·.2)) a vs ns) := ⟨rfl, hM, fun b o e => of_hidT e, Nat.le_of_eq (hidT_size _ _), trivial, fun b hb => absurd (show b ∈ ([] : List Addr) from hb) (by simp), hok, .of_eq hg⟩
  have hS : SqL K (H0 K (cs.map (·.2)) a vs ns) a (ns.map V.int) := by
    cases hk : K.lookup a with
    | some o =>
      have e := KX a o hk
      rw [ha] at e
      cases e
      exact .inr ⟨_, vs.toArray, _, hk, rfl, rfl, rfl, by rw [List.size_toArray, hi.length]; exact hl, by simpa using rv⟩
    | none => exact .inl (.inr ⟨_, H0_a aT hk⟩)
  obtain ⟨fa', fd, g', _, G, bd⟩ := (F _ hKb (nsK hns) TB).ex
  have ef : fa' = fa := by
    rw [hmg] at g'
    cases g'
    rfl
  subst ef
  refine codeAny_mono (G.run callerA [] s₁ _ ⟨[.ref a], []⟩ [.ref a] [.ref a] _ _ rfl hr e0 (bd s₁ [.ref a] KX rfl) (.cons rfl .nil) (hsp _ (fun p hp => H0_t (memT p hp)) (fun p hp z => aT (z ▸ memT p hp)) hS)) fun r s' h => ?_
  cases r with
  | error e => exact (hCX _ e s' h).elim
  | ok fl =>
    cases fl with
    | next => exact False.elim h
    | brk => exact False.elim h
    | cont => exact False.elim h
    | ret u =>
      obtain ⟨v, H', os, bare, un, hok', r', q⟩ := h
      have q' : v = .bl true := q
      subst q'
      obtain rfl : u = Value.bool true := r'
      have key : ∀ b o, b ∉ cs.map (·.2) → s₁.heap.get? b = some o → s'.heap.get? b = some o := fun b o nb e => by
        rcases H0_cases K (cs.map (·.2)) a vs ns b with h | ⟨h1, rfl, h2⟩ | ⟨h1, h2⟩
        · exact absurd h nb
        · obtain ⟨e2, _⟩ := hok' b _ (un.frzs b _ _ (H0_a h1 h2))
          rw [ha] at e
          cases e
          exact e2
        · exact un.keep b o e (H0_n h1 h2) (by intro z; exact absurd (show b ∈ ([] : List Addr) from z) (by simp)) (by simp)
      have grown : ∀ p ∈ cs, ∃ more : Array Value, s'.heap.get? p.2 = some { cls := .none, data := .fields more } := fun p hp => by
        obtain ⟨more, z⟩ := un.tbls p.2 #[] (H0_t (memT p hp))
        exact ⟨_, hok' p.2 _ z⟩
      refine ⟨rfl, ⟨fun b o e => ?_, fun b o e => ?_⟩, os, bare⟩
      · by_cases hb : b ∈ cs.map (·.2)
        · obtain ⟨p, hp, ep⟩ := List.mem_map.mp hb
          obtain ⟨more, hm⟩ := grown p hp
          rw [← ep] at e ⊢
          rw [hT p hp] at e
          cases e
          exact .inr (.inl ⟨((C p hp).tab (hT p hp)).isCodeTable, rfl, #[], more, rfl, by rw [Array.empty_append]; exact hm⟩)
        · exact .inl (key b o hb e)
      · by_cases hb : b ∈ cs.map (·.2)
        · obtain ⟨p, hp, ep⟩ := List.mem_map.mp hb
          obtain ⟨more, hm⟩ := grown p hp
          rw [← ep]
          exact ⟨_, hm⟩
        · exact ⟨o, key b o hb e⟩
theorem walk_ofG {l : PySem.W.OpenLaw} {n k : Nat} {q : Program} {loose : List Str} {XP : (Str → Option Value) → Heap → Prop} {YP : World → Heap → Prop} {d : DefRec} {x : Str}
    (hn : l.most = some n) (hn2 : n ≤ sizeLine) (hdf : d.params.defaults = []) (hr : Room k callerA)
    (F : ∀ (w : World) (mg : Str → Option Value) (fa : Addr) (h : Heap), YP w h → h.Ns mainGlobals mg → mg d.name = some (.ref fa) → ∃ K : PySem.W.Frag, K.In h ∧
      ∃ (cs : List (Addr × Addr)) (sp : Sp), (∀ p ∈ cs, h.get? p.2 = some { cls := .none, data := .fields #[] }) ∧ (∀ p ∈ cs, K.lookup p.2 = none) ∧ (∀ p ∈ cs, PySem.W.CodeHd h p.1 p.2) ∧
        (∀ (H : Hp) (a : Addr) (ns : List Int), ns.length ≤ n → (∀ p ∈ cs, H p.2 = some (.tbl #[])) → (∀ p ∈ cs, p.2 ≠ a) → SqL K H a (ns.map V.int) → sp [.ref a] H (fun v _ => v = .bl true) fun _ _ _ => False) ∧
        ∀ base : Heap, K.In base → base.Ns mainGlobals mg → (∀ p ∈ cs, GxR.TabB base mg p.1 p.2) → Pr l.prog w K mg base k d.name [x] sp)
    (hCX : ∀ (w : World) (H : Hp) (s : Shared) (e : Value) (s' : Shared), L2.CX l.prog w [] H s (fun _ _ _ => False) e s' → False) :
    PySem.W.WalkO q loose XP YP l.row.toRowW d [] (fun f vs => PySem.call f vs) := by
  refine Att.attach_callB hn hdf fun w s₀ s₁ mg mb fa o pm cd doc a vs ns G Y ho hd hcd hmg hobj hints hlen hbits hg => ?_
  obtain ⟨K, KX, cs, sp, hT, nT, C, hsp, hF⟩ := F w mg fa _ Y G.T.g hmg
  exact law_callG KX G.T.g G.T.b G.T.builtins G.T.nolimit hg hT nT C G.T.bmain hobj hints (Nat.le_trans hlen hn2) hr hmg hF (fun H hH hA hS => hsp H a ns hlen hH hA hS) fun H e s' => hCX w H s₁ e s'
end Lf

set_option Elab.async false
set_option linter.all false
set_option maxRecDepth 100000
set_option maxHeartbeats 4000000
/-! Leaf M: a try with several except clauses, each with a name or without. -/
namespace Lf
open PySem PySem.Spec PyProof.Rows L2
/-- a clause: its class, the slot of its name, its suite -/
abbrev Cl := Value × Option Nat × (Addr → Value → Option Addr → TS)
def goneE (i : Nat) (D : Ends) : Ends := { nx := fun τ G => D.nx (τ.set i none) G, rt := D.rt, bk := fun τ G => D.bk (τ.set i none) G, ct := fun τ G => D.ct (τ.set i none) G }
def clRun (D : Ends) (ts : Addr → Value → Option Addr → TS) (a : Addr) (cls : Value) (d : Option Addr) (σ : L2.St) (H : Hp) : Option Nat → Prop
  | none => ts a cls d D σ H
  | some i => ts a cls d (goneE i D) (σ.set i (some (.ref a))) H
def wCl (K : PySem.W.Frag) (W : WX) (D : Ends) : List Cl → WX
  | [] => W
  | (c, o, ts) :: r => fun cls d σ H => ∃ k, PySem.W.exmOne K cls c = some k ∧ (k = true → ∀ a, H a = none → clRun D ts a cls d σ H o) ∧ (k = false → wCl K W D r cls d σ H)
def ClN (X : Cx) (n : Option Str) : Option Nat → Prop
  | none => n = none
  | some i => ∃ y, n = some y ∧ X.N.Nodup ∧ X.N[i]? = some y ∧ X.env.kindOf y = some .local
inductive ClOk (X : Cx) : List ExceptHandler → List Cl → Prop
  | nil : ClOk X [] []
  | cons {x : Str} {n : Option Str} {c : Value} {o : Option Nat} {ts : Addr → Value → Option Addr → TS} {s1 : Stmt} {ss : List Stmt} {p p' : Pos} {hs : List ExceptHandler} {l : List Cl} : Names X x c → ClN X n o →
      (∀ (a : Addr) (oe : Obj) (cls : Value) (d : Option Addr) (pn : List (Addr × Obj)), Zc cls d oe → (∃ vs, oe.data = .fields vs) → PSs (X.suite a ((a, oe) :: pn)) (s1 :: ss) (ts a cls d)) → ClOk X hs l →
      ClOk X (.ExceptHandler (some (.Name x p)) n (s1 :: ss) p' :: hs) ((c, o, ts) :: l)
section
variable {X : Cx} {pins : List (Addr × Obj)} {σ : L2.St} {H : Hp} {D : Ends} {W : WX}
/-- one suite, from the landed error on -/
theorem suite_run {a : Addr} {cls : Value} {d : Option Addr} {s2 : Shared} {n : Option Str} {o : Option Nat} {ts : Addr → Value → Option Addr → TS} {t1 : Stmt} {tt : List Stmt} {E E2 : Value → Shared → Prop} {p' : Pos}
    (ok : X.Ok) (hn : ClN X n o) (hb : ∀ (a : Addr) (oe : Obj) (cls : Value) (d : Option Addr) (pn : List (Addr × Obj)), Zc cls d oe → (∃ vs, oe.data = .fields vs) → PSs (X.suite a ((a, oe) :: pn)) (t1 :: tt) (ts a cls d))
    {oe : Obj} (S : Inv (X.suite a ((a, oe) :: (X.pn ++ pins))) [] σ H s2) (hz : Zc cls d oe) (hv : ∃ vs, oe.data = .fields vs) (h : clRun D ts a cls d σ H o) :
    match n with
    | none => wpAny (model X.prog X.w) (X.suite a ((a, oe) :: (X.pn ++ pins))).A (execs (t1 :: tt) X.env) (SP X pins D) E s2
    | some y => wpAny (model X.prog X.w) (X.suite a ((a, oe) :: (X.pn ++ pins))).A (storeName X.env y (.ref a)) (fun _ s3 => wpAny (model X.prog X.w) (X.suite a ((a, oe) :: (X.pn ++ pins))).A (execs (t1 :: tt) X.env) (fun f s4 => wpAny (model X.prog X.w) X.A (do bindName X.env y .none; unbindBehindTheSuite X.env y p') (fun _ s5 => SP X pins D f s5) X.xe s4) E2 s3) E s2 := by
  cases o with
  | none =>
    have e : n = none := hn
    subst e
    have h : ts a cls d D σ H := h
    refine wpAny_mono ((hb a oe cls d (X.pn ++ pins) hz hv).run [] s2 σ H D S h) (fun f s3 q => ?_) fun _ _ z => False.elim z
    cases f with
    | next => exact q.elim fun τ q => q.elim fun G q => ⟨τ, G, q.1.unsuite ok, q.2⟩
    | brk => exact q.elim fun τ q => q.elim fun G q => ⟨τ, G, q.1.unsuite ok, q.2⟩
    | cont => exact q.elim fun τ q => q.elim fun G q => ⟨τ, G, q.1.unsuite ok, q.2⟩
    | ret u => exact q.elim fun v q => q.elim fun τ q => q.elim fun G q => ⟨v, τ, G, q.1.unsuite ok, q.2⟩
  | some i =>
    obtain ⟨y, e, hN, hi, hl⟩ := hn
    subst e
    have h : ts a cls d (goneE i D) (σ.set i (some (.ref a))) H := h
    refine store_ok (X := X.suite a ((a, oe) :: (X.pn ++ pins))) (v := .ref a) S hN hi (.inl hl) rfl (fun s3 S3 => ?_) (.inr hl)
    refine wpAny_mono ((hb a oe cls d (X.pn ++ pins) hz hv).run [] s3 _ H (goneE i D) S3 h) (fun f s4 q => ?_) fun _ _ z => False.elim z
    have done : ∀ {τ : L2.St} {G : Hp} {Q : Shared → Prop}, Inv (X.suite a ((a, oe) :: (X.pn ++ pins))) [] τ G s4 → (∀ s5, Inv X pins (τ.set i none) G s5 → Q s5) → wpAny (model X.prog X.w) X.A (do bindName X.env y .none; unbindBehindTheSuite X.env y p') (fun _ s5 => Q s5) X.xe s4 :=
      fun {τ G Q} J k => gone_ok (J.unsuite ok) hN hi hl k
    cases f with
    | next => exact q.elim fun τ q => q.elim fun G q => done q.1 fun s5 J => ⟨_, _, J, q.2⟩
    | brk => exact q.elim fun τ q => q.elim fun G q => done q.1 fun s5 J => ⟨_, _, J, q.2⟩
    | cont => exact q.elim fun τ q => q.elim fun G q => done q.1 fun s5 J => ⟨_, _, J, q.2⟩
    | ret u => exact q.elim fun v q => q.elim fun τ q => q.elim fun G q => done q.1 fun s5 J => ⟨_, _, _, J, q.2.1, q.2.2⟩
theorem ps_tryM {body : List Stmt} {h0 : ExceptHandler} {hs : List ExceptHandler} {l : List Cl} {pos : Pos} {tb : WX → TS} (est : X.stack = X.env :: X.outer) (ef : X.env.frame = some X.env.locals) (tk : Takes X W)
    (hb : ∀ (W : WX) (pn : List (Addr × Obj)) (xe : Value → Shared → Prop), Takes (X.tr pn xe) W → PassesOwn (model X.prog X.w) X.A X.env xe → PSs (X.tr pn xe) body (tb W)) (hh : ClOk X (h0 :: hs) l) :
    PS X (.Try body (h0 :: hs) [] [] pos) (fun D σ H => tb (wCl X.K W D l) D σ H) := by
  constructor
  intro pins s σ H D I h
  have ok := I.ok
  have efr : X.A.frames = some (X.env :: X.outer) := ok.frames.trans (congrArg some est)
  refine wpAny_Try_except (wpAny_mono ((hb (wCl X.K W D l) (X.pn ++ pins) (fun e t1 => wpAny (model X.prog X.w) X.A (noteFrame e X.env) (fun _ t2 => wpAny (model X.prog X.w) X.A (setFlight e none) (fun _ t3 => wpAny (model X.prog X.w) X.A (handleBy e X.env (h0 :: hs)) (SP X pins D) X.xe t3) X.xe t2) X.xe t1) (fun u s1 hc => ?_) PassesOwn.looking).run [] s σ H D (I.toTry _) h) (fun f s1 q => ?_) fun e s1 he => he)
  · obtain ⟨a, B, s0, pins', τ, G, cls, d, e, J', nb, up, sky, na, os, ag, w⟩ := hc
    subst e
    have J : Inv X pins τ G s0 := J'.ofTry ok
    show wpAny (model X.prog X.w) X.A (noteFrame (.ref a) X.env) _ _ _
    have sky : Sky B (X.env :: X.outer) a (Zc cls d) X.env.locals s1.heap := est ▸ sky
    refine Sky.land Zc.steady efr ef sky fun hA flA upA => ?_
    have alone : ∀ {h : Heap} {o : Obj} {vs : Array Value}, h.FunFrames B (X.env :: X.outer) → h.get? a = some o → o.data = .fields vs → a ∉ frs (X.env :: X.outer) := fun {h o vs} ff e1 e2 m => by
      obtain ⟨_, o2, e3, no⟩ := ff.mem m
      obtain rfl := Option.some.inj (e1.symm.trans e3)
      exact no _ e2
    obtain ⟨oA, vA, gA, zA, dA⟩ := flA.there
    have nfr := alone flA.2.2.1 gA dA
    have nl : a ≠ X.env.locals := fun z => nfr (List.mem_filterMap.mpr ⟨X.env, List.mem_cons_self, by rw [ef, z]⟩)
    have nfs : a ∉ X.fs := fun m => by
      obtain ⟨e1, m1, q1⟩ := List.mem_filterMap.mp m
      exact nfr (List.mem_filterMap.mpr ⟨e1, List.mem_cons_of_mem _ m1, q1⟩)
    have JA : Inv X pins τ G { s1 with heap := hA } := J.landed nb flA.1 (up.trans upA) os ag
    have SA := JA.suite gA dA na nl nfs
    have all : ∀ {ks : List ExceptHandler} {m : List Cl}, ClOk X ks m → wCl X.K W D m cls d τ G → wpAny (model X.prog X.w) X.A (handleBy (.ref a) X.env ks) (SP X pins D) X.xe { s1 with heap := hA } := by
      intro ks m hk
      induction hk with
      | nil =>
        intro w
        refine wpAny_handleBy_nil ?_
        obtain ⟨_, _, _, o2, v2, T, oT, _, g2, _, d2, f2, _⟩ := id flA
        have last : wpAny (model X.prog X.w) X.A (setFlight (.ref a) X.env.frame) (fun _ t => wpAny (model X.prog X.w) X.A (throw (.ref a) : Sem Flow) (SP X pins D) X.xe t) X.xe { s1 with heap := hA } := by
          rw [ef]
          exact HandSPX.setFlight_upZ flA fun hB gB upB => wpAny_throw (tk _ _ ⟨a, B, s0, pins, τ, G, cls, d, rfl, J, nb, (up.trans upA).trans upB, .inr (.inr (est.symm ▸ gB)), na, os, ag, w⟩)
        unfold PySem.passOn
        refine wpAny_bind (wpAny_field g2 d2 f2 ?_)
        have hne : ¬ ((Value.ref T == Value.none) = true) := by simp
        rw [if_neg hne]
        first | exact wpAny_bind (wpAny_pure (wpAny_bind last)) | exact wpAny_bind last
      | @cons x n c o ts t1 tt p p' ks m hc hn hb2 _ ih =>
        intro w
        obtain ⟨k, ek, yes, no⟩ := w
        have typ : PySem.W.Looks (model X.prog X.w) hA (typeOf (.ref a)) cls := fun A Q E s kk q => wpAny_typeOf_ref (kk _ _ gA) (by rw [zA.1]; exact q)
        have look := PySem.W.exm_one (M := model X.prog X.w) JA.kIn typ ek
        refine wpAny_handleBy_cons (codeAny_handlers_test ?_) (by intro z; cases z)
        have seen : ∀ {Q : Value → Shared → Prop} {E : Value → Shared → Prop}, Q c { s1 with heap := hA } → wpAny (model X.prog X.w) (X.A.mark (some (.ref a))) (eval (.Name x p) X.env) Q E { s1 with heap := hA } := fun {Q E} q => by
          obtain ⟨g, dbg, v⟩ := hc
          rcases v with v | ⟨v1, v2, v3⟩
          · exact ld_glob (X := X.suite a ((a, oA) :: (X.pn ++ pins))) SA g v q dbg
          · exact ld_blt (X := X.suite a ((a, oA) :: (X.pn ++ pins))) SA g v1 v2 q v3 dbg
        refine seen (look.here ?_)
        cases k with
        | false =>
          show wpAny _ X.A (handleBy (.ref a) X.env ks) _ _ _
          exact ih (no rfl)
        | true =>
          cases o with
          | none =>
            have en : n = none := hn
            subst en
            refine codeAny_handlers_suite (HandSPX.lands_againZ flA fun hB flB upB => ?_)
            obtain ⟨oB, vB, gB, zB, dB⟩ := flB.there
            have JB : Inv X pins τ G { s1 with heap := hB } := J.landed nb flB.1 ((up.trans upA).trans upB) os ag
            exact suite_run (n := none) (o := none) (p' := p') (E2 := fun _ _ => False) ok rfl hb2 (JB.suite gB dB na nl nfs) zB ⟨_, dB⟩ (yes rfl a na)
          | some i =>
            obtain ⟨y, en, hni⟩ := id hn
            subst en
            refine codeAny_handlers_suite_as (HandSPX.lands_againZ flA fun hB flB upB => ?_)
            obtain ⟨oB, vB, gB, zB, dB⟩ := flB.there
            have JB : Inv X pins τ G { s1 with heap := hB } := J.landed nb flB.1 ((up.trans upA).trans upB) os ag
            exact suite_run (n := some y) (o := some i) (p' := p') ok hn hb2 (JB.suite gB dB na nl nfs) zB ⟨_, dB⟩ (yes rfl a na)
    exact all hh w
  · cases f with
    | next => exact q.elim fun τ q => q.elim fun G q => wpAny_execs_nil ⟨τ, G, q.1.ofTry ok, q.2⟩
    | brk => exact q.elim fun τ q => q.elim fun G q => ⟨τ, G, q.1.ofTry ok, q.2⟩
    | cont => exact q.elim fun τ q => q.elim fun G q => ⟨τ, G, q.1.ofTry ok, q.2⟩
    | ret u => exact q.elim fun v q => q.elim fun τ q => q.elim fun G q => ⟨v, τ, G, q.1.ofTry ok, q.2⟩
end
end Lf

set_option Elab.async false
set_option linter.all false
set_option maxRecDepth 100000
set_option maxHeartbeats 4000000
/-! Leaf N: a lambda, with a default or without, made and called. -/
namespace Lf
open PySem PySem.Spec PyProof.Rows L2
open LamX (CodeO TabS lamEnv lamCx)
/-- its defaults: none, or one that is told -/
def Dfl (X : Cx) (params : Arguments) (vs : List V) : Prop := params.kw_defaults = [] ∧ ((params.defaults = [] ∧ vs = []) ∨ ∃ e v, params.defaults = [e] ∧ vs = [v] ∧ PE X e (tC v))
/-- where they lie -/
def DvAt (X : Cx) (H : Hp) (h : Heap) (vs : List V) (dV : Value) : Prop := (vs = [] ∧ dV = .none) ∨ ∃ T us, dV = .ref T ∧ Vals vs us ∧ h.get? T = some (PySem.W.kdv_tup us) ∧ H T = none ∧ T ∉ frs X.stack
/-- the lambda's object -/
abbrev lamO (X : Cx) (q : Str) (params : Arguments) (body : Expr) (scope : Scope) (dV doc pm : Value) (c : Addr) (ct : Value) : Obj := PySem.W.kdv_obj "<lambda>" q params (.expr body) scope (cloFrom X.env.cells scope.names []) dV doc pm c ct
section
variable {X : Cx} {pins : List (Addr × Obj)} {σ : L2.St} {H : Hp} {s : Shared} {q : Str} {c P : Addr} {params : Arguments} {body : Expr} {scope : Scope} {pos : Pos} {E : Value → Shared → Prop} {Q : Value → Shared → Prop} {vs : List V}
theorem not_frs (I : Inv X pins σ H s) {f : Addr} (hf : s.heap.objs.size ≤ f) : f ∉ frs X.stack := fun m => by
  rcases List.mem_cons.mp (I.stkSub _ m) with z | z
  · have := I.lt
    rw [← z] at this
    exact Nat.lt_irrefl _ (Nat.lt_of_lt_of_le this hf)
  · exact I.nofs hf z
/-- what the making of a lambda leaves -/
def LamMade (X : Cx) (pins : List (Addr × Obj)) (σ : L2.St) (H : Hp) (q : Str) (P : Addr) (params : Arguments) (body : Expr) (scope : Scope) (vs : List V) (Q : Value → Shared → Prop) : Prop :=
  ∀ (f c' : Addr) (dV pm ct doc : Value) (H1 : Hp) (s' : Shared), Inv X pins σ H1 s' → Lamd P q H H1 → s'.heap.get? f = some (lamO X q params body scope dV doc pm c' ct) → H1 f = none → f ∉ frs X.stack → H1 c' = some (CodeO c' q) → DvAt X H1 s'.heap vs dV → Q (.ref f) s'
theorem lam_tail {dV : Value} (I : Inv X pins σ H s) (TB : LamX.TabB X.base X.mg c P) (hcode : X.env.code = .ref c) (hT : TabS H P q) (hfree : ∀ y ∈ scope.names, y.2 = .free → ∃ c, X.env.cells.lookup y.1 = some c) (dv : DvAt X H s.heap vs dV)
    (h : LamMade X pins σ H q P params body scope vs Q) : wpAny (model X.prog X.w) X.A (makeTail "<lambda>" q params (.expr body) scope X.env dV .none none pos pos.line) Q E s := by
  obtain ⟨ps, hP, ht, ha⟩ := hT
  have bP := TB.bm.keeps I.bk
  have oP : s.heap.get? P = some { cls := .none, data := .fields ps } := I.hok P _ hP
  cases hcm : codeAmong pos ps.toList with
  | some cv =>
    obtain ⟨c', rfl, hco⟩ := ha pos cv hcm
    refine PySem.W.kdv_makeTailHit (mg := X.mg) (closure_ok hfree) I.ok.glob (I.mod.glob.keeps I.bk) hcode (TB.code.keeps I.bk) oP ht hcm bP fun ct doc h' tk hk hsz => ?_
    have I1 : Inv X pins σ H { s with heap := h'.push (lamO X q params body scope dV doc ((X.mg "__name__").getD .none) c' ct), toks := tk } := I.kept fun b o e => Heap.get?_push_of_some _ (hk b o e)
    refine h h'.objs.size c' dV _ ct doc H _ I1 ⟨⟨ps, hP, ht, ha⟩, fun b o _ e => e⟩ (Heap.get?_push_size _ rfl) (I.hok.fresh hsz) (not_frs I hsz) hco ?_
    rcases dv with dv | ⟨T, us, e1, e2, e3, e4⟩
    · exact .inl dv
    · exact .inr ⟨T, us, e1, e2, Heap.get?_push_of_some _ (hk _ _ e3), e4⟩
  | none =>
    refine PySem.W.kdv_makeTail (mg := X.mg) (closure_ok hfree) I.ok.glob (I.mod.glob.keeps I.bk) hcode (TB.code.keeps I.bk) oP ht hcm TB.gP bP fun c' ct doc h' tk hx hge hlt hrec htb => ?_
    obtain ⟨c2, oc, ws, t, e2, hoc, hd, hv⟩ := hrec
    cases e2
    have hsz : s.heap.objs.size ≤ h'.objs.size := Nat.le_trans hge (Nat.le_of_lt hlt)
    have nC : H c' = none := I.hok.fresh hge
    have I1 := LamX.inv_table (t' := tk) (more := #[rawInt pos.line, rawInt pos.col, .ref c']) (h' := h'.push (lamO X q params body scope dV doc ((X.mg "__name__").getD .none) c' ct)) (q := q) I hP
      (fun b o nb e => Heap.get?_push_of_some _ (hx b o nb e)) (Heap.get?_push_of_some _ htb) hge ⟨oc, ws, t, Heap.get?_push_of_some _ hoc, hd, hv⟩
    have keep : ∀ b o, b ≠ P → H b = some o → upd (upd H P (.tbl (ps ++ #[rawInt pos.line, rawInt pos.col, .ref c']))) c' (CodeO c' q) b = some o := fun b o nb e => ((upd_ne (ne_of_none e nC)).trans (upd_ne nb)).trans e
    have nP : P ≠ c' := ne_of_none hP nC
    have lam : Lamd P q H (upd (upd H P (.tbl (ps ++ #[rawInt pos.line, rawInt pos.col, .ref c']))) c' (CodeO c' q)) := by
      have el : (ps ++ #[rawInt pos.line, rawInt pos.col, .ref c']).toList = ps.toList ++ [rawInt pos.line, rawInt pos.col, .ref c'] := Array.toList_append
      refine ⟨⟨_, (upd_ne nP).trans upd_same, ?_, fun p' cv hcv => ?_⟩, keep⟩
      · rw [el]
        exact PySem.TriplesOk_snoc _ _ _ _ ht
      · rw [el] at hcv
        rcases LamX.among_app _ ht hcv with z | z
        · obtain ⟨c0, e1, e2⟩ := ha p' cv z
          refine ⟨c0, e1, keep _ _ (fun y => ?_) e2⟩
          rw [y, hP] at e2
          exact LamX.codeO_ne ps (Option.some.inj e2).symm
        · exact ⟨c', z, upd_same⟩
    have n2 : h'.objs.size ≠ P := Nat.ne_of_gt (Nat.lt_of_lt_of_le (Heap.lt_size oP) hsz)
    refine h h'.objs.size c' dV _ ct doc _ _ I1 lam (Heap.get?_push_size _ rfl) (((upd_ne (Nat.ne_of_gt hlt)).trans (upd_ne n2)).trans (I.hok.fresh hsz)) (not_frs I hsz) upd_same ?_
    rcases dv with dv | ⟨T, us, e1, e2, e3, e4, e5⟩
    · exact .inl dv
    · have lT : T < s.heap.objs.size := Heap.lt_size e3
      have nT : T ≠ P := fun z => by rw [z, oP] at e3; cases e3
      exact .inr ⟨T, us, e1, e2, Heap.get?_push_of_some _ (hx _ _ nT e3), ((upd_ne (Nat.ne_of_lt (Nat.lt_of_lt_of_le lT hge))).trans (upd_ne nT)).trans e4, e5⟩
theorem lam_make (I : Inv X pins σ H s) (TB : LamX.TabB X.base X.mg c P) (hcode : X.env.code = .ref c) (hT : TabS H P (X.env.qual ++ "<lambda>")) (hfree : ∀ y ∈ scope.names, y.2 = .free → ∃ c, X.env.cells.lookup y.1 = some c) (dv : Dfl X params vs)
    (h : LamMade X pins σ H (X.env.qual ++ "<lambda>") P params body scope vs Q) : wpAny (model X.prog X.w) X.A (eval (.Lambda params body scope pos) X.env) Q X.xe s := by
  obtain ⟨kw, dv | ⟨e, v, hd, rfl, pe⟩⟩ := dv
  · obtain ⟨hd, rfl⟩ := dv
    have hdef : defaultsOf params X.env = ([], []) := by
      rw [defaultsOf_eq, hd, kw]
      rfl
    refine PySem.W.kla_eval hdef ?_
    rw [makeFunction_eq]
    simp only [List.zip_nil_right, List.filterMap_nil, List.isEmpty_nil, if_true, pure_bind]
    exact lam_tail I TB hcode hT hfree (.inl ⟨rfl, rfl⟩) h
  · refine PySem.W.kdv_lam (by rw [hd]; rfl) kw ?_
    rw [hd]
    refine PySem.W.kdv_all1 (thn (pe.run pins s σ H (fun v' H' => v' = v ∧ H' = H) I ⟨rfl, rfl⟩) fun u s1 ⟨v', H1, I1, r1, q1⟩ => PySem.W.kdv_all0 ?_)
    obtain ⟨rfl, rfl⟩ := q1
    rw [makeFunction_eq]
    simp only [List.zip_nil_right, List.filterMap_nil, List.isEmpty_nil, if_true, pure_bind, List.isEmpty_cons, Bool.false_eq_true, if_false]
    refine wpAny_bind (wpAny_newTextTuple ?_)
    have I2 : Inv X pins σ H1 { s1 with heap := s1.heap.push (PySem.W.kdv_tup [u]) } := I1.kept fun b o e => Heap.get?_push_of_some _ e
    exact lam_tail I2 TB hcode hT hfree (.inr ⟨s1.heap.objs.size, [u], rfl, .cons r1 .nil, Heap.get?_push_size _ rfl, I1.hok.fresh (Nat.le_refl _), not_frs I1 (Nat.le_refl _)⟩) h
end
/-! ### its names, its call -/
structure LamSc (N : List Str) (sc scope : Scope) : Prop where
  kind : scope.kind = .function
  co : scope.isCoroutine = false
  gen : scope.isGenerator = false
  cel : ∀ y ∈ scope.names, y.2 ≠ .cell
  loc : ∀ y ∈ scope.names, y.2 = .local → y.1 ∉ N
  free : ∀ y ∈ scope.names, y.2 = .free → sc.names.lookup y.1 = some .cell ∨ sc.names.lookup y.1 = some .free
def lamScB (N : List Str) (sc scope : Scope) : Bool :=
  decide (scope.kind = .function) && (!scope.isCoroutine && (!scope.isGenerator && scope.names.all fun y => match y.2 with
    | .cell => false
    | .local => !decide (y.1 ∈ N)
    | .free => decide (sc.names.lookup y.1 = some .cell) || decide (sc.names.lookup y.1 = some .free)
    | _ => true))
theorem lamSc_by {N : List Str} {sc scope : Scope} (h : lamScB N sc scope = true) : LamSc N sc scope := by
  unfold lamScB at h
  rw [Bool.and_eq_true, Bool.and_eq_true, Bool.and_eq_true, List.all_eq_true] at h
  obtain ⟨h1, h2, h3, h4⟩ := h
  refine ⟨of_decide_eq_true h1, by simpa using h2, by simpa using h3, fun y hy e => ?_, fun y hy e => ?_, fun y hy e => ?_⟩
  · have := h4 y hy
    rw [e] at this
    cases this
  · have := h4 y hy
    rw [e] at this
    simpa using this
  · have := h4 y hy
    rw [e] at this
    simpa using this
section
variable {X : Cx} {pins : List (Addr × Obj)} {σ : L2.St} {H HZ : Hp} {s s1 : Shared} {scope : Scope} {A : Around} {outer : List Env} {EX : XK} {f c' : Addr}
theorem LamSc.has (L : LamSc X.N X.env.scope scope) (ok : X.Ok) : ∀ y ∈ scope.names, y.2 = .free → ∃ c, X.env.cells.lookup y.1 = some c := fun y hy e => ok.has _ (L.free y hy e)
theorem clo_up (L : LamSc X.N X.env.scope scope) (ok : X.Ok) {y : Str} {c : Addr} (e : (cloFrom X.env.cells scope.names []).lookup y = some c) : X.env.cells.lookup y = some c := by
  rcases cloFrom_mem (PySem.mem_of_lookup e) with m | ⟨m, z⟩
  · cases m
  · obtain ⟨c1, h1⟩ := L.has ok _ m rfl
    have h1 : X.env.cells.lookup y = some c1 := h1
    rw [h1] at z ⊢
    exact congrArg some z.symm
theorem clo_has (L : LamSc X.N X.env.scope scope) {y : Str} (e : scope.names.lookup y = some .free) : ∃ c, (cloFrom X.env.cells scope.names []).lookup y = some c :=
  mem_lookup (cloFrom_has (cells := X.env.cells) (acc := []) (show (y, NameKind.free) ∈ scope.names from PySem.mem_of_lookup e))
theorem lam_in {h1 : Heap} {tk : Nat} {m : Str → Option Value} (I : Inv X pins σ H s) (L : LamSc X.N X.env.scope scope) (e0 : Env0 X.prog X.w X.K X.mg X.base A outer s1 HZ) (hd : A.handled = none) (un : Un (frs X.stack) [] H HZ s.heap s1.heap)
    (hns : h1.Ns s1.heap.objs.size m) (kp : ∀ b o, s1.heap.get? b = some o → h1.get? b = some o) : Inv (lamCx X A outer s1 HZ EX scope f c') [] σ HZ { s1 with heap := h1, toks := tk } := by
  have ok := I.ok
  have noB : ∀ b : Addr, b ∉ (lamCx X A outer s1 HZ EX scope f c').ex := fun b z => by cases (show b ∈ ([] : List Addr) from z)
  have cells : ∀ {c : Addr} {v : Option Value}, H c = none → s.heap.IsCell c v → s1.heap.IsCell c v := fun {c v} n z => by
    obtain ⟨o, g, d⟩ := z
    obtain ⟨sl, g2⟩ := un.any g n (fun z => by cases z)
    exact ⟨_, g2, d⟩
  have okL : (lamCx X A outer s1 HZ EX scope f c').Ok :=
    { mod := e0.mod
      kind := L.kind
      glob := rfl
      blt := rfl
      above := Nat.le_refl _
      inj := fun x y c e1 e2 => ok.inj x y c (clo_up L ok e1) (clo_up L ok e2)
      has := fun y hy => by
        have hy : scope.names.lookup y = some .cell ∨ scope.names.lookup y = some .free := hy
        rcases hy with hy | hy
        · exact absurd rfl (L.cel _ (PySem.mem_of_lookup hy))
        · exact clo_has L hy
      cab := fun y c z _ => by cases (show false = true from z)
      hd := fun _ => hd
      frames := Around.frames_deeper e0.frames
      stk := .inr ⟨rfl, rfl⟩
      exf := fun b z => absurd z (noB b)
      bs := e0.bs
      bsz := e0.bsz
      noex := fun b _ _ => noB b
      exfs := fun b z => absurd z (noB b)
      funs := e0.funs
      frf := e0.frf }
  refine { ok := okL, os := rfl, bare := e0.bare, base := Un.kept kp, loc := ⟨m, hns, fun i y v e1 e2 e3 => ?_⟩, cell := fun y c e => ?_, free := e0.hok.fresh (Nat.le_refl _), freeC := fun y c e => ?_, pin := fun p z => ?_, hok := e0.hok.kept kp, len := I.len }
  · have e3 : Vis scope y := e3
    have inN : y ∈ X.N := List.mem_of_getElem? e1
    rcases e3 with k | k | k
    · exact absurd inN (L.loc _ (PySem.mem_of_lookup k) rfl)
    · exact absurd rfl (L.cel _ (PySem.mem_of_lookup k))
    · have up := L.free _ (PySem.mem_of_lookup k) rfl
      obtain ⟨m0, _, look⟩ := I.loc
      obtain ⟨u, r, lk⟩ := look i y v e1 e2 (up.elim (fun z => .inr (.inl z)) fun z => .inr (.inr z))
      obtain ⟨c2, h2⟩ := clo_has L k
      refine ⟨u, r, .inr ⟨.inr k, c2, h2, ?_⟩⟩
      rcases lk with ⟨z, _⟩ | ⟨_, c3, e4, z⟩
      · have z : X.env.scope.names.lookup y = some .local := z
        have up : X.env.scope.names.lookup y = some .cell ∨ X.env.scope.names.lookup y = some .free := up
        rw [z] at up
        rcases up with up | up <;> cases up
      · have e5 : c3 = c2 := Option.some.inj (e4.symm.trans (clo_up L ok h2))
        subst e5
        obtain ⟨o, g, d⟩ := cells (I.freeC y _ e4) z
        exact ⟨o, kp _ _ g, d⟩
  · have e1 := clo_up L ok e
    obtain ⟨v, z⟩ := I.cell y c e1
    obtain ⟨o, g, d⟩ := cells (I.freeC y c e1) z
    exact ⟨v, o, kp _ _ g, d⟩
  · have e1 := clo_up L ok e
    obtain ⟨v, o, g, d⟩ := I.cell y c e1
    exact un.free c o g (I.freeC y c e1) (fun z => by cases z)
  · cases (show p ∈ ([] : List (Addr × Obj)) ++ [] from z)
/-- how its parameters are bound -/
def LamBd (params : Arguments) (body : Expr) (scope : Scope) (ns : List Str) : Prop := ∀ (q : Str) (cl : List (Str × Addr)) (dV doc pm cv ct : Value) (us : List Value) (s : Shared), us.length = ns.length → ((us = [] ∧ dV = .none) ∨ ∃ T, dV = .ref T ∧ s.heap.get? T = some (PySem.W.kdv_tup us)) →
  BindsTo s (PySem.W.kdv_fn "<lambda>" q params (.expr body) scope cl dV doc pm cv ct) ⟨[], []⟩ (ns.zip us)
theorem lam_run {q : Str} {params : Arguments} {body : Expr} {ns : List Str} {vs : List V} {dV pm ct doc : Value} {k : Nat} {tb : TE} {Q : VK} (I : Inv X pins σ H s) (L : LamSc X.N X.env.scope scope) (hq : X.env.qual ++ "<lambda>" = q) (ho : s1.heap.get? f = some (lamO X q params body scope dV doc pm c' ct))
    (hc : HZ c' = some (CodeO c' q)) (dv : (vs = [] ∧ dV = .none) ∨ ∃ T us, dV = .ref T ∧ Vals vs us ∧ s1.heap.get? T = some (PySem.W.kdv_tup us)) (bd : LamBd params body scope ns) (hl : vs.length = ns.length) (hloc : ∀ n ∈ ns, scope.names.lookup n = some .local)
    (e0 : Env0 X.prog X.w X.K X.mg X.base A outer s1 HZ) (un : Un (frs X.stack) [] H HZ s.heap s1.heap) (hr : Room (k + 1) A) (lim : s1.heap.NoLimit)
    (hb : Room k (A.deeper (lamEnv X scope s1.heap.objs.size f c')) → PE (lamCx X A outer s1 HZ EX scope f c') body tb) (ht : tb σ HZ Q) : codeAny (model X.prog X.w) A (.call (.ref f) ⟨[], []⟩) (CR (L2.CX X.prog X.w) outer X.prog X.w HZ s1 Q EX) s1 := by
  subst hq
  obtain ⟨⟨oc, ws, t, hoc, hdc, hvc⟩, _, _⟩ := e0.hok c' _ hc
  obtain ⟨us, hus, hdv⟩ : ∃ us : List Value, us.length = ns.length ∧ ((us = [] ∧ dV = .none) ∨ ∃ T, dV = .ref T ∧ s1.heap.get? T = some (PySem.W.kdv_tup us)) := by
    rcases dv with ⟨rfl, e⟩ | ⟨T, us, e1, r, e2⟩
    · exact ⟨[], hl, .inl ⟨rfl, e⟩⟩
    · exact ⟨us, r.length.symm.trans hl, .inr ⟨T, e1, e2⟩⟩
  refine PySem.W.kla_callFunE hr.depth ho rfl L.co L.gen rfl ⟨c', oc, ws, t, rfl, hoc, hdc, hvc⟩ (bd _ _ _ _ _ _ _ us s1 hus hdv _ _ _ _ ?_)
  refine wpAny_newFunctionEnv L.cel (fun y hy => hloc _ (List.of_mem_zip (show (y.1, y.2) ∈ ns.zip us from hy)).1) (fun h1 hns hsb => ⟨lim.fresh _ hsb, ?_⟩) L.kind
  show codeAny _ _ (.expr body (lamEnv X scope s1.heap.objs.size f c')) _ _
  have kp : ∀ b o, s1.heap.get? b = some o → h1.get? b = some o := fun b o e => hsb.extBut b o (Nat.ne_of_lt (Heap.lt_size e)) (Heap.get?_push_of_some _ e)
  have J := lam_in (EX := EX) (f := f) (c' := c') (tk := s1.toks + (ns.zip us).length) I L e0 hr.hd un hns kp
  refine PySem.W.kla_codeExpr (wpAny_mono ((hb (hr.deeper _)).run [] _ _ HZ Q J ht) (fun v s2 z => ?_) fun e s2 z => z)
  obtain ⟨v', G, J2, r, z⟩ := z
  exact ⟨v', G, J2.os, J2.bare, J2.base, J2.hok, r, z⟩
end
section
variable {X : Cx} {pins : List (Addr × Obj)} {σ : L2.St} {H : Hp} {s : Shared} {scope : Scope} {f c' : Addr}
/-- a(), where a holds the lambda that X made -/
theorem pe_lamAct {CXg : CXT} {Eg : XK} {Ng : List Str} {qg q : Str} {sg : Scope} {g : Addr} {cdg dV pm ct doc : Value} {params : Arguments} {body : Expr} {ns : List Str} {vs : List V} {k i : Nat} {a : Str} {pn : List (Addr × Obj)} {xe : Value → Shared → Prop} {W : WX} {tb : XK → TE} {p1 p2 : Pos}
    (I : Inv X pins σ H s) (L : LamSc X.N X.env.scope scope) (hq : X.env.qual ++ "<lambda>" = q) (ho : s.heap.get? f = some (lamO X q params body scope dV doc pm c' ct)) (hn : H f = none) (hfr : f ∉ frs X.stack) (dv : DvAt X H s.heap vs dV) (bd : LamBd params body scope ns) (hl : vs.length = ns.length) (hloc : ∀ n ∈ ns, scope.names.lookup n = some .local)
    (tk : Takes ((cxOf CXg X.prog X.w X.K X.mg X.base Ng qg sg g cdg X.A X.stack s H Eg).tr pn xe) W) (hr : Room (k + 1) (X.A.deeper (envOfC qg sg s.heap.objs.size g cdg)))
    (hb : ∀ (A : Around) (outer : List Env) (s : Shared) (H : Hp) (E : XK), Room k (A.deeper (lamEnv X scope s.heap.objs.size f c')) → A.guards = X.A.guards → PE (lamCx X A outer s H E scope f c') body (tb E))
    (hN : Ng[i]? = some a) (hv : Vis sg a) (hd : (a == ("__debug__" : Str)) = false := by decide) (hcd : (a == ("__classdict__" : Str)) = false := by decide) :
    PE ((cxOf CXg X.prog X.w X.K X.mg X.base Ng qg sg g cdg X.A X.stack s H Eg).tr pn xe) (.Call (.Name a p1) [] [] p2)
      (fun τ G Q => τ[i]? = some (some (.ref f)) ∧ G c' = some (CodeO c' q) ∧ tb (fun cls d H' => W cls d τ H') σ G Q) := by
  constructor
  intro pins2 s2 τ G Q J h
  obtain ⟨h1, h2, h3⟩ := h
  refine wpAny_Call_Name_kw (thn ((pe_var (pos := p1) (i := i) hN hv hd hcd).run pins2 s2 τ G (fun v G1 => v = .ref f ∧ G1 = G) J ⟨.ref f, h1, rfl, rfl⟩) fun u s3 z => ?_)
  obtain ⟨v, G1, J1, r1, rfl, rfl⟩ := z
  obtain rfl : u = Value.ref f := r1
  have kept : ∀ {b : Addr} {o : Obj}, s.heap.get? b = some o → H b = none → b ∉ frs X.stack → s3.heap.get? b = some o := fun {b o} e n m => J1.base.keep b o e n m (fun z => nomatch (show b ∈ ([] : List Addr) from z))
  have of3 := kept ho hn hfr
  have dv3 : (vs = [] ∧ dV = .none) ∨ ∃ T us, dV = .ref T ∧ Vals vs us ∧ s3.heap.get? T = some (PySem.W.kdv_tup us) := by
    rcases dv with dv | ⟨T, us, e1, e2, e3, e4, e5⟩
    · exact .inl dv
    · exact .inr ⟨T, us, e1, e2, kept e3 e4 e5⟩
  have un : Un (frs X.stack) [] H G1 s.heap s3.heap := J1.base
  have e0 : Env0 X.prog X.w X.K X.mg X.base (X.A.deeper (envOfC qg sg s.heap.objs.size g cdg)) (envOfC qg sg s.heap.objs.size g cdg :: X.stack) s3 G1 := J1.env0
  have rc : codeAny (model X.prog X.w) (X.A.deeper (envOfC qg sg s.heap.objs.size g cdg)) (.call (.ref f) ⟨[], []⟩) (CR (L2.CX X.prog X.w) (envOfC qg sg s.heap.objs.size g cdg :: X.stack) X.prog X.w G1 s3 Q fun cls d H' => W cls d τ H') s3 :=
    lam_run (X := X) (tb := tb fun cls d H' => W cls d τ H') (EX := fun cls d H' => W cls d τ H') (k := k) I L hq of3 h2 dv3 bd hl hloc e0 un hr J1.nolimit (fun hr2 => hb _ _ _ _ _ hr2 rfl) h3
  refine PySem.W.callWith_F0 ⟨_, _, _, _, of3⟩ (wpAny_call (codeAny_mono rc fun r s4 z => ?_))
  cases r with
  | error e => exact tk e s4 (XE.of_call J1 (fun cls d H' y => y) z)
  | ok fl =>
    cases fl with
    | ret u => exact J1.after z
    | next => exact z.elim
    | brk => exact z.elim
    | cont => exact z.elim
end
end Lf

set_option Elab.async false
set_option linter.all false
set_option maxRecDepth 100000
set_option maxHeartbeats 4000000
/-! DfA: data over the heap apart from what is one's own (Dx), slots told as data (SV, Sl). -/
namespace Df
open PySem PySem.Spec PyProof.Rows L2 Lf
section
variable {K : PySem.W.Frag}
def keyD : Key → PyData
  | .inl i => .int i
  | .inr x => .str x
mutual
/-- the value v is the data d; no list of it is one of B's -/
inductive Dx (K : PySem.W.Frag) (B : Addr → Prop) (H : Hp) : V → PyData → Prop
  | non : Dx K B H .non .none
  | bl (b : Bool) : Dx K B H (.bl b) (.bool b)
  | int (i : Int) : Dx K B H (.int i) (.int i)
  | str (x : Str) : Dx K B H (.str x) (.str x)
  | tup {a : Addr} {xs : List V} {ds : List PyData} : SqT K H a xs → DxAll K B H xs ds → Dx K B H (.ref a) (.tuple ds)
  | lst {a : Addr} {xs : List V} {ds : List PyData} : ¬ B a → H a = some (.lst xs) → DxAll K B H xs ds → Dx K B H (.ref a) (.list ds)
  | dic {a : Addr} {kvs : List (Key × V)} {es : List (PyData × PyData)} : ¬ B a → H a = some (.dK kvs) → DxKv K B H kvs es → Dx K B H (.ref a) (.dict es)
inductive DxAll (K : PySem.W.Frag) (B : Addr → Prop) (H : Hp) : List V → List PyData → Prop
  | nil : DxAll K B H [] []
  | cons {v : V} {vs : List V} {d : PyData} {ds : List PyData} : Dx K B H v d → DxAll K B H vs ds → DxAll K B H (v :: vs) (d :: ds)
inductive DxKv (K : PySem.W.Frag) (B : Addr → Prop) (H : Hp) : List (Key × V) → List (PyData × PyData) → Prop
  | nil : DxKv K B H [] []
  | cons {k : Key} {v : V} {d : PyData} {r : List (Key × V)} {s : List (PyData × PyData)} : Dx K B H v d → DxKv K B H r s → DxKv K B H ((k, v) :: r) ((keyD k, d) :: s)
end
/-- what stays: tuples, and all that is none of B's -/
structure Kz (B : Addr → Prop) (H H' : Hp) : Prop where
  ts : Ts H H'
  rd : ∀ a u, ¬ B a → H a = some u → H' a = some u
theorem Kz.refl {B : Addr → Prop} {H : Hp} : Kz B H H := ⟨Ts.refl, fun _ _ _ h => h⟩
theorem Kz.trans {B : Addr → Prop} {H H1 H2 : Hp} (a : Kz B H H1) (b : Kz B H1 H2) : Kz B H H2 := ⟨a.ts.trans b.ts, fun x u n h => b.rd x u n (a.rd x u n h)⟩
theorem Kz.mono {B C : Addr → Prop} {H H1 : Hp} (a : Kz B H H1) (h : ∀ x, B x → C x) : Kz C H H1 := ⟨a.ts, fun x u n e => a.rd x u (fun z => n (h x z)) e⟩
theorem Go.kz {F : Fr} {b c : Nat} {H H' : Hp} (g : Go F b H c H') : Kz F.N H H' := ⟨g.ts, fun _ _ n h => g.kp _ _ n h⟩
theorem Kz.new {B : Addr → Prop} {H : Hp} {p : Addr} {o : HO} (h : H p = none) : Kz B H (upd H p o) := ⟨ts_new h, fun a u _ e => Kp.new (N := fun _ => False) h a u (fun z => z) e⟩
theorem Kz.mut {B : Addr → Prop} {H : Hp} {p : Addr} {o u : HO} (hb : B p) (h : H p = some u) (hu : ∀ xs, u ≠ .tup xs) (hf : ∀ ob w, u ≠ .frz ob w) : Kz B H (upd H p o) := ⟨ts_mut h hu hf, fun a u n e => Kp.mut (N := B) hb a u n e⟩
mutual
theorem Dx.kz {B : Addr → Prop} {H H' : Hp} (k : Kz B H H') : ∀ (d : PyData) (v : V), Dx K B H v d → Dx K B H' v d
  | .none, _, h => by cases h; exact .non
  | .bool b, _, h => by cases h; exact .bl b
  | .int i, _, h => by cases h; exact .int i
  | .str x, _, h => by cases h; exact .str x
  | .tuple ds, _, h => by
    cases h with
    | tup hs ha => exact .tup (sqT_ts k.ts hs) (DxAll.kz k ds _ ha)
  | .list ds, _, h => by
    cases h with
    | lst hn hs ha => exact .lst hn (k.rd _ _ hn hs) (DxAll.kz k ds _ ha)
  | .dict es, _, h => by
    cases h with
    | dic hn hs hk => exact .dic hn (k.rd _ _ hn hs) (DxKv.kz k es _ hk)
theorem DxAll.kz {B : Addr → Prop} {H H' : Hp} (k : Kz B H H') : ∀ (ds : List PyData) (vs : List V), DxAll K B H vs ds → DxAll K B H' vs ds
  | [], _, h => by cases h; exact .nil
  | d :: ds, _, h => by
    cases h with
    | cons h1 h2 => exact .cons (Dx.kz k d _ h1) (DxAll.kz k ds _ h2)
theorem DxKv.kz {B : Addr → Prop} {H H' : Hp} (k : Kz B H H') : ∀ (es : List (PyData × PyData)) (kvs : List (Key × V)), DxKv K B H kvs es → DxKv K B H' kvs es
  | [], _, h => by cases h; exact .nil
  | (_, d) :: r, _, h => by
    cases h with
    | cons h1 h2 => exact .cons (Dx.kz k d _ h1) (DxKv.kz k r _ h2)
end
mutual
theorem Dx.mono {B C : Addr → Prop} {H : Hp} (k : ∀ x, C x → B x) : ∀ (d : PyData) (v : V), Dx K B H v d → Dx K C H v d
  | .none, _, h => by cases h; exact .non
  | .bool b, _, h => by cases h; exact .bl b
  | .int i, _, h => by cases h; exact .int i
  | .str x, _, h => by cases h; exact .str x
  | .tuple ds, _, h => by
    cases h with
    | tup hs ha => exact .tup hs (DxAll.mono k ds _ ha)
  | .list ds, _, h => by
    cases h with
    | lst hn hs ha => exact .lst (fun z => hn (k _ z)) hs (DxAll.mono k ds _ ha)
  | .dict es, _, h => by
    cases h with
    | dic hn hs hk => exact .dic (fun z => hn (k _ z)) hs (DxKv.mono k es _ hk)
theorem DxAll.mono {B C : Addr → Prop} {H : Hp} (k : ∀ x, C x → B x) : ∀ (ds : List PyData) (vs : List V), DxAll K B H vs ds → DxAll K C H vs ds
  | [], _, h => by cases h; exact .nil
  | d :: ds, _, h => by
    cases h with
    | cons h1 h2 => exact .cons (Dx.mono k d _ h1) (DxAll.mono k ds _ h2)
theorem DxKv.mono {B C : Addr → Prop} {H : Hp} (k : ∀ x, C x → B x) : ∀ (es : List (PyData × PyData)) (kvs : List (Key × V)), DxKv K B H kvs es → DxKv K C H kvs es
  | [], _, h => by cases h; exact .nil
  | (_, d) :: r, _, h => by
    cases h with
    | cons h1 h2 => exact .cons (Dx.mono k d _ h1) (DxKv.mono k r _ h2)
end
theorem rd_ne {H : Hp} {a : Addr} {u : HO} (h : H a = some u) : H a ≠ none := by
  rw [h]; intro z; cases z
mutual
/-- one more address of one's own, not taken so far -/
theorem Dx.more {B C : Addr → Prop} {H : Hp} (k : ∀ x, C x → B x ∨ H x = none) : ∀ (d : PyData) (v : V), Dx K B H v d → Dx K C H v d
  | .none, _, h => by cases h; exact .non
  | .bool b, _, h => by cases h; exact .bl b
  | .int i, _, h => by cases h; exact .int i
  | .str x, _, h => by cases h; exact .str x
  | .tuple ds, _, h => by
    cases h with
    | tup hs ha => exact .tup hs (DxAll.more k ds _ ha)
  | .list ds, _, h => by
    cases h with
    | lst hn hs ha => exact .lst (fun z => (k _ z).elim hn (rd_ne hs)) hs (DxAll.more k ds _ ha)
  | .dict es, _, h => by
    cases h with
    | dic hn hs hk => exact .dic (fun z => (k _ z).elim hn (rd_ne hs)) hs (DxKv.more k es _ hk)
theorem DxAll.more {B C : Addr → Prop} {H : Hp} (k : ∀ x, C x → B x ∨ H x = none) : ∀ (ds : List PyData) (vs : List V), DxAll K B H vs ds → DxAll K C H vs ds
  | [], _, h => by cases h; exact .nil
  | d :: ds, _, h => by
    cases h with
    | cons h1 h2 => exact .cons (Dx.more k d _ h1) (DxAll.more k ds _ h2)
theorem DxKv.more {B C : Addr → Prop} {H : Hp} (k : ∀ x, C x → B x ∨ H x = none) : ∀ (es : List (PyData × PyData)) (kvs : List (Key × V)), DxKv K B H kvs es → DxKv K C H kvs es
  | [], _, h => by cases h; exact .nil
  | (_, d) :: r, _, h => by
    cases h with
    | cons h1 h2 => exact .cons (Dx.more k d _ h1) (DxKv.more k r _ h2)
end
mutual
/-- data without lists and dicts -/
def flat : PyData → Bool
  | .tuple ds => flats ds
  | .list _ => false
  | .dict _ => false
  | _ => true
def flats : List PyData → Bool
  | [] => true
  | d :: ds => flat d && flats ds
end
mutual
theorem Dx.flat {B C : Addr → Prop} {H : Hp} : ∀ (d : PyData) (v : V), Df.flat d = true → Dx K B H v d → Dx K C H v d
  | .none, _, _, h => by cases h; exact .non
  | .bool b, _, _, h => by cases h; exact .bl b
  | .int i, _, _, h => by cases h; exact .int i
  | .str x, _, _, h => by cases h; exact .str x
  | .tuple ds, _, q, h => by
    cases h with
    | tup hs ha => exact .tup hs (DxAll.flat ds _ (by rw [Df.flat] at q; exact q) ha)
  | .list ds, _, q, h => by rw [Df.flat] at q; cases q
  | .dict _, _, q, h => by rw [Df.flat] at q; cases q
theorem DxAll.flat {B C : Addr → Prop} {H : Hp} : ∀ (ds : List PyData) (vs : List V), Df.flats ds = true → DxAll K B H vs ds → DxAll K C H vs ds
  | [], _, _, h => by cases h; exact .nil
  | d :: ds, _, q, h => by
    rw [Df.flats, Bool.and_eq_true] at q
    cases h with
    | cons h1 h2 => exact .cons (Dx.flat d _ q.1 h1) (DxAll.flat ds _ q.2 h2)
end
mutual
theorem Dt.dx {B : Addr → Prop} {H : Hp} : ∀ (d : PyData) (v : V), Dt K H v d → Dx K B H v d
  | .none, _, h => by cases h; exact .non
  | .bool b, _, h => by cases h; exact .bl b
  | .int i, _, h => by cases h; exact .int i
  | .str x, _, h => by cases h; exact .str x
  | .tuple ds, _, h => by
    cases h with
    | tup hs ha => exact .tup hs (DtAll.dx ds _ ha)
  | .list _, _, h => by cases h
  | .dict _, _, h => by cases h
theorem DtAll.dx {B : Addr → Prop} {H : Hp} : ∀ (ds : List PyData) (vs : List V), DtAll K H vs ds → DxAll K B H vs ds
  | [], _, h => by cases h; exact .nil
  | d :: ds, _, h => by
    cases h with
    | cons h1 h2 => exact .cons (Dt.dx d _ h1) (DtAll.dx ds _ h2)
end
mutual
theorem Dx.dt {B : Addr → Prop} {H : Hp} : ∀ (d : PyData) (v : V), Df.flat d = true → Dx K B H v d → Dt K H v d
  | .none, _, _, h => by cases h; exact .non
  | .bool b, _, _, h => by cases h; exact .bl b
  | .int i, _, _, h => by cases h; exact .int i
  | .str x, _, _, h => by cases h; exact .str x
  | .tuple ds, _, q, h => by
    cases h with
    | tup hs ha => exact .tup hs (DxAll.dt ds _ (by rw [Df.flat] at q; exact q) ha)
  | .list ds, _, q, h => by rw [Df.flat] at q; cases q
  | .dict _, _, q, h => by rw [Df.flat] at q; cases q
theorem DxAll.dt {B : Addr → Prop} {H : Hp} : ∀ (ds : List PyData) (vs : List V), Df.flats ds = true → DxAll K B H vs ds → DtAll K H vs ds
  | [], _, _, h => by cases h; exact .nil
  | d :: ds, _, q, h => by
    rw [Df.flats, Bool.and_eq_true] at q
    cases h with
    | cons h1 h2 => exact .cons (Dx.dt d _ q.1 h1) (DxAll.dt ds _ q.2 h2)
end
mutual
theorem Dx.dp {B : Addr → Prop} {H : Hp} : ∀ (d : PyData) (v : V), PyData.plain d = true → Dx K B H v d → Dp K H v d
  | .none, _, _, h => by cases h; exact .non
  | .bool b, _, _, h => by cases h; exact .bl b
  | .int i, _, _, h => by cases h; exact .int i
  | .str x, _, _, h => by cases h; exact .str x
  | .tuple ds, _, q, h => by
    cases h with
    | tup hs ha => exact .tup hs (DxAll.dp ds _ (by rw [PyData.plain] at q; exact q) ha)
  | .list ds, _, q, h => by
    cases h with
    | lst hn hs ha => exact .lst (.inl (.inl hs)) (DxAll.dp ds _ (by rw [PyData.plain] at q; exact q) ha)
  | .dict _, _, q, h => by rw [PyData.plain] at q; cases q
theorem DxAll.dp {B : Addr → Prop} {H : Hp} : ∀ (ds : List PyData) (vs : List V), PyData.plainAll ds = true → DxAll K B H vs ds → DpAll K H vs ds
  | [], _, _, h => by cases h; exact .nil
  | d :: ds, _, q, h => by
    rw [PyData.plainAll, Bool.and_eq_true] at q
    cases h with
    | cons h1 h2 => exact .cons (Dx.dp d _ q.1 h1) (DxAll.dp ds _ q.2 h2)
end
section
variable {B : Addr → Prop} {H : Hp}
theorem DxAll.length : ∀ {ds : List PyData} {vs : List V}, DxAll K B H vs ds → vs.length = ds.length
  | [], _, h => by cases h; rfl
  | d :: ds, _, h => by
    cases h with
    | cons _ h2 => show _ + 1 = _ + 1; rw [DxAll.length h2]
theorem DxAll.get : ∀ {ds : List PyData} {vs : List V} {i : Nat} {v : V}, DxAll K B H vs ds → vs[i]? = some v → ∃ d, ds[i]? = some d ∧ Dx K B H v d
  | [], _, _, _, h, e => by cases h; simp at e
  | d :: ds, _, 0, v, h, e => by
    cases h with
    | cons h1 h2 =>
      cases e
      exact ⟨d, rfl, h1⟩
  | d :: ds, _, i + 1, v, h, e => by
    cases h with
    | cons h1 h2 => exact DxAll.get (i := i) h2 (by simpa using e)
theorem DxAll.getD : ∀ {ds : List PyData} {vs : List V} {i : Nat} {d : PyData}, DxAll K B H vs ds → ds[i]? = some d → ∃ v, vs[i]? = some v ∧ Dx K B H v d
  | [], _, _, _, h, e => by simp at e
  | d :: ds, _, 0, v, h, e => by
    cases h with
    | cons h1 h2 =>
      cases e
      exact ⟨_, rfl, h1⟩
  | d :: ds, _, i + 1, v, h, e => by
    cases h with
    | cons h1 h2 => exact DxAll.getD (i := i) h2 (by simpa using e)
theorem DxAll.append : ∀ {ds es : List PyData} {vs ws : List V}, DxAll K B H vs ds → DxAll K B H ws es → DxAll K B H (vs ++ ws) (ds ++ es)
  | [], _, _, _, h, h' => by cases h; exact h'
  | d :: ds, _, _, _, h, h' => by
    cases h with
    | cons h1 h2 => exact .cons h1 (DxAll.append h2 h')
theorem DxAll.take : ∀ {ds : List PyData} {vs : List V} (n : Nat), DxAll K B H vs ds → DxAll K B H (vs.take n) (ds.take n)
  | [], _, n, h => by cases h; simp; exact .nil
  | d :: ds, _, 0, h => by simp; exact .nil
  | d :: ds, _, n + 1, h => by
    cases h with
    | cons h1 h2 => exact .cons h1 (DxAll.take n h2)
theorem DxAll.drop : ∀ {ds : List PyData} {vs : List V} (n : Nat), DxAll K B H vs ds → DxAll K B H (vs.drop n) (ds.drop n)
  | [], _, n, h => by cases h; simp; exact .nil
  | d :: ds, _, 0, h => h
  | d :: ds, _, n + 1, h => by
    cases h with
    | cons h1 h2 => exact DxAll.drop n h2
theorem DxAll.set : ∀ {ds : List PyData} {vs : List V} {v : V} {d : PyData} (i : Nat), DxAll K B H vs ds → Dx K B H v d → DxAll K B H (vs.set i v) (ds.set i d)
  | [], _, _, _, i, h, _ => by cases h; exact .nil
  | d :: ds, _, _, _, 0, h, hv => by
    cases h with
    | cons h1 h2 => exact .cons hv h2
  | d :: ds, _, _, _, i + 1, h, hv => by
    cases h with
    | cons h1 h2 => exact .cons h1 (DxAll.set i h2 hv)
theorem DxAll.snoc {vs : List V} {ds : List PyData} {v : V} {d : PyData} (h : DxAll K B H vs ds) (h1 : Dx K B H v d) : DxAll K B H (vs ++ [v]) (ds ++ [d]) := h.append (.cons h1 .nil)
theorem DxAll.idx : ∀ {ds : List PyData} {vs : List V}, vs.length = ds.length → (∀ (i : Nat) v d, vs[i]? = some v → ds[i]? = some d → Dx K B H v d) → DxAll K B H vs ds
  | [], [], _, _ => .nil
  | [], v :: vs, h, _ => by cases h
  | d :: ds, [], h, _ => by cases h
  | d :: ds, v :: vs, h, f => .cons (f 0 v d rfl rfl) (DxAll.idx (by simpa using h) fun i v' d' h1 h2 => f (i + 1) v' d' (by simpa using h1) (by simpa using h2))
theorem Dx.inv {v : V} {ds : List PyData} (h : Dx K B H v (.tuple ds)) : ∃ a xs, v = .ref a ∧ SqT K H a xs ∧ DxAll K B H xs ds := by
  cases h with
  | tup hs ha => exact ⟨_, _, rfl, hs, ha⟩
theorem Dx.invL {v : V} {ds : List PyData} (h : Dx K B H v (.list ds)) : ∃ a xs, v = .ref a ∧ ¬ B a ∧ H a = some (.lst xs) ∧ DxAll K B H xs ds := by
  cases h with
  | lst hn hs ha => exact ⟨_, _, rfl, hn, hs, ha⟩
theorem Dx.inv_str {v : V} {x : Str} (h : Dx K B H v (.str x)) : v = .str x := by
  cases h
  rfl
theorem Dx.inv_int {v : V} {x : Int} (h : Dx K B H v (.int x)) : v = .int x := by
  cases h
  rfl
theorem Dx.inv_bl {v : V} {x : Bool} (h : Dx K B H v (.bool x)) : v = .bl x := by
  cases h
  rfl
theorem Dx.inv_non {v : V} (h : Dx K B H v .none) : v = .non := by
  cases h
  rfl
theorem Dx.non_iff {v : V} {d : PyData} (h : Dx K B H v d) : (v = .non) ↔ (d = .none) := by
  cases h <;> simp
end
end

/-- an exception: its class's name, its fields -/
abbrev ED := Str × List (Str × PyData)
inductive Flds (K : PySem.W.Frag) (B : Addr → Prop) (H : Hp) : List (Str × V) → List (Str × PyData) → Prop
  | nil : Flds K B H [] []
  | cons {x : Str} {v : V} {d : PyData} {r : List (Str × V)} {s : List (Str × PyData)} : Dx K B H v d → Flds K B H r s → Flds K B H ((x, v) :: r) ((x, d) :: s)
theorem Flds.kz {K : PySem.W.Frag} {B : Addr → Prop} {H H' : Hp} (k : Kz B H H') {l : List (Str × V)} {m : List (Str × PyData)} (h : Flds K B H l m) : Flds K B H' l m := by
  induction h with
  | nil => exact .nil
  | cons h _ ih => exact .cons (Dx.kz k _ _ h) ih
theorem Flds.mono {K : PySem.W.Frag} {B C : Addr → Prop} {H : Hp} (k : ∀ x, C x → B x) {l : List (Str × V)} {m : List (Str × PyData)} (h : Flds K B H l m) : Flds K C H l m := by
  induction h with
  | nil => exact .nil
  | cons h _ ih => exact .cons (Dx.mono k _ _ h) ih
theorem Flds.up {K : PySem.W.Frag} {B C : Addr → Prop} {H H' : Hp} (k : ∀ v d, Dx K B H v d → Dx K C H' v d) {l : List (Str × V)} {m : List (Str × PyData)} (h : Flds K B H l m) : Flds K C H' l m := by
  induction h with
  | nil => exact .nil
  | cons h _ ih => exact .cons (k _ _ h) ih
/-! ### slots as data -/
/-- what a lambda has of its maker's slots -/
inductive OV where
  | no | im (d : PyData) | op (v : V) | st
/-- what a slot holds: nothing that is told; data that stays; a list of one's own; a value as it is; the law's state; an error at a, its fields at x, its class -/
inductive SV where
  | no | im (d : PyData) | ls (ds : List PyData) | op (v : V) | st | er (a x : Addr) (cls : Value) (ed : ED) | fn (f c : Addr) (q : Str) (σ : L2.St) (ρ : List OV)
def Bad (F : Fr) (Z : Addr → Option Nat) : Addr → Prop := fun a => F.N a ∨ (Z a).isSome = true
def OvR (K : PySem.W.Frag) (F : Fr) (B : Addr → Prop) (H : Hp) (x : Option (Option V)) : OV → Prop
  | .no => True
  | .im d => ∃ v, x = some (some v) ∧ Dx K B H v d
  | .op v => x = some (some v)
  | .st => ∃ a, x = some (some (.ref a)) ∧ HasSt F a
def OvA (K : PySem.W.Frag) (F : Fr) (B : Addr → Prop) (H : Hp) (σ : L2.St) (ρ : List OV) : Prop := σ.length = ρ.length ∧ ∀ (i : Nat) (o : OV), ρ[i]? = some o → OvR K F B H σ[i]? o
theorem OvA.up {K : PySem.W.Frag} {F : Fr} {B C : Addr → Prop} {H H' : Hp} {σ : L2.St} {ρ : List OV} (k : ∀ v d, Dx K B H v d → Dx K C H' v d) (h : OvA K F B H σ ρ) : OvA K F C H' σ ρ := by
  refine ⟨h.1, fun i o e => ?_⟩
  have q := h.2 i o e
  cases o with
  | no => exact trivial
  | im d =>
    obtain ⟨v, e, x⟩ := q
    exact ⟨v, e, k _ _ x⟩
  | op v => exact q
  | st => exact q
def SlotR (K : PySem.W.Frag) (F : Fr) (Z : Addr → Option Nat) (H : Hp) (i : Nat) (x : Option (Option V)) : SV → Prop
  | .no => True
  | .im d => ∃ v, x = some (some v) ∧ Dx K (Bad F Z) H v d
  | .ls ds => ∃ a xs, x = some (some (.ref a)) ∧ Z a = some i ∧ H a = some (.lst xs) ∧ DxAll K (Bad F Z) H xs ds
  | .op v => x = some (some v)
  | .st => ∃ a, x = some (some (.ref a)) ∧ HasSt F a
  | .er a y _ ed => x = some (some (.ref a)) ∧ ∃ fs, H y = some (.xd fs) ∧ ¬ Bad F Z y ∧ Flds K (Bad F Z) H fs ed.2
  | .fn f c q σ ρ => x = some (some (.ref f)) ∧ H c = some (LamX.CodeO c q) ∧ ¬ Bad F Z c ∧ OvA K F (Bad F Z) H σ ρ
structure Sl (K : PySem.W.Frag) (F : Fr) (Z : Addr → Option Nat) (σ : L2.St) (H : Hp) (ρ : List SV) : Prop where
  len : σ.length = ρ.length
  at' : ∀ (i : Nat) (sv : SV), ρ[i]? = some sv → SlotR K F Z H i σ[i]? sv
  zp : ∀ a i, Z a = some i → ¬ F.N a ∧ ∃ o, H a = some o ∧ (∀ xs, o ≠ .tup xs) ∧ (∀ ob w, o ≠ .frz ob w) ∧ (∀ fs, o ≠ .xd fs) ∧ ∀ φ, o ≠ .ext φ
section
variable {K : PySem.W.Frag} {F : Fr} {Z : Addr → Option Nat} {σ : L2.St} {H H' H1 H2 : Hp} {ρ : List SV} {b c : Nat} {v : V} {d : PyData} {vs : List V} {ds : List PyData}
theorem Sl.kz (s : Sl K F Z σ H ρ) (g : Go F b H c H') : Kz (Bad F Z) H H' := (Df.Go.kz g).mono fun _ h => .inl h
theorem Go.dx (s : Sl K F Z σ H ρ) (g : Go F b H c H') (h : Dx K (Bad F Z) H v d) : Dx K (Bad F Z) H' v d := Dx.kz (s.kz g) _ _ h
theorem Go.dxa (s : Sl K F Z σ H ρ) (g : Go F b H c H') (h : DxAll K (Bad F Z) H vs ds) : DxAll K (Bad F Z) H' vs ds := DxAll.kz (s.kz g) _ _ h
theorem Sl.go (s : Sl K F Z σ H ρ) (g : Go F b H c H') : Sl K F Z σ H' ρ := by
  refine ⟨s.len, fun i sv h => ?_, fun a i h => ?_⟩
  · have q := s.at' i sv h
    cases sv with
    | no => exact trivial
    | im d =>
      obtain ⟨v, e, x⟩ := q
      exact ⟨v, e, Go.dx s g x⟩
    | ls ds =>
      obtain ⟨a, xs, e, z, x, y⟩ := q
      exact ⟨a, xs, e, z, g.keep (s.zp a i z).1 x, Go.dxa s g y⟩
    | op v => exact q
    | st => exact q
    | er a y c ed =>
      obtain ⟨e, fs, h1, n, f⟩ := q
      exact ⟨e, fs, g.keep (fun z => n (.inl z)) h1, n, f.up fun v d h => Go.dx s g h⟩
    | fn f c q' σ' ρ' =>
      obtain ⟨e, h1, n, o⟩ := q
      exact ⟨e, g.keep (fun z => n (.inl z)) h1, n, o.up fun v d h => Go.dx s g h⟩
  · obtain ⟨n, o, e, x⟩ := s.zp a i h
    exact ⟨n, o, g.keep n e, x⟩
/-- a new address is none of one's own -/
theorem Sl.fresh (s : Sl K F Z σ H ρ) (hT : F.T b H) {p : Addr} (h : H p = none) : ¬ Bad F Z p := fun z => by
  rcases z with z | z
  · exact F.fresh hT h z
  · obtain ⟨i, e⟩ := Option.isSome_iff_exists.mp z
    obtain ⟨_, o, q, _⟩ := s.zp p i e
    rw [h] at q
    cases q
/-- a new tuple is data -/
theorem dx_tup {B : Addr → Prop} {p : Addr} (e : H p = none) (h : DxAll K B H vs ds) : Dx K B (upd H p (.tup vs)) (.ref p) (.tuple ds) := .tup (Or.inl (Or.inl upd_same)) (DxAll.kz (Kz.new e) _ _ h)
/-- a new list is data -/
theorem dx_lst {B : Addr → Prop} {p : Addr} (e : H p = none) (n : ¬ B p) (h : DxAll K B H vs ds) : Dx K B (upd H p (.lst vs)) (.ref p) (.list ds) := .lst n upd_same (DxAll.kz (Kz.new e) _ _ h)
theorem Sl.im {i : Nat} (s : Sl K F Z σ H ρ) (h : ρ[i]? = some (.im d)) : ∃ v, σ[i]? = some (some v) ∧ Dx K (Bad F Z) H v d := s.at' i _ h
theorem Sl.set (s : Sl K F Z σ H ρ) {i : Nat} {sv : SV} {o : Option V} (h : SlotR K F Z H i (some o) sv) : Sl K F Z (σ.set i o) H (ρ.set i sv) := by
  refine ⟨by rw [List.length_set, List.length_set, s.len], fun j w hj => ?_, s.zp⟩
  by_cases e : i = j
  · subst e
    have hl : i < ρ.length := by
      have := (List.getElem?_eq_some_iff.mp hj).1
      simpa using this
    rw [List.getElem?_set_self hl] at hj
    cases hj
    rw [List.getElem?_set_self (by rw [s.len]; exact hl)]
    exact h
  · rw [List.getElem?_set_ne e] at hj
    rw [List.getElem?_set_ne e]
    exact s.at' j w hj
theorem Sl.setIm (s : Sl K F Z σ H ρ) (i : Nat) (h : Dx K (Bad F Z) H v d) : Sl K F Z (σ.set i (some v)) H (ρ.set i (.im d)) := s.set ⟨v, rfl, h⟩
end
end Df

set_option Elab.async false
set_option linter.all false
set_option maxRecDepth 100000
set_option maxHeartbeats 4000000
/-! DfB: judgements by data: expressions (DE, DB, DF), tests (DT), argument lists (DL, DA). -/
namespace Df
open PySem PySem.Spec PyProof.Rows L2 Lf
def ErrR (K : PySem.W.Frag) (mg : Str → Option Value) (B : Addr → Prop) (H : Hp) (cls : Value) (d : Option Addr) (e : ED) : Prop :=
  ∃ C, cls = .ref C ∧ mg e.1 = some (.ref C) ∧ ∃ x fs, d = some x ∧ H x = some (.xd fs) ∧ ¬ B x ∧ Flds K B H fs e.2
abbrev DQ := PyData → Nat → Prop
abbrev DR := ED → Nat → Prop
def R0 : DR := fun _ _ => False
abbrev DTE := List SV → Nat → DQ → DR → Prop
abbrev DTF := List SV → Nat → (List PyData → Nat → Prop) → DR → Prop
abbrev DTT := List SV → Nat → (Bool → Nat → Prop) → DR → Prop
/-- what stands ahead of an operation -/
structure Hd (F : Fr) (Z : Addr → Option Nat) (b : Nat) (H : Hp) : Prop where
  t : F.T b H
  zp : ∀ a i, Z a = some i → ¬ F.N a ∧ ∃ o, H a = some o ∧ (∀ xs, o ≠ .tup xs) ∧ (∀ ob w, o ≠ .frz ob w) ∧ (∀ fs, o ≠ .xd fs) ∧ ∀ φ, o ≠ .ext φ
section
variable {K : PySem.W.Frag} {F : Fr} {Z : Addr → Option Nat} {σ : L2.St} {H H' H1 H2 : Hp} {ρ : List SV} {b c : Nat} {v : V} {d : PyData} {vs : List V} {ds : List PyData}
theorem Sl.hd (s : Sl K F Z σ H ρ) (t : F.T b H) : Hd F Z b H := ⟨t, s.zp⟩
theorem Hd.fresh (h : Hd F Z b H) {p : Addr} (e : H p = none) : ¬ Bad F Z p := fun z => by
  rcases z with z | z
  · exact F.fresh h.t e z
  · obtain ⟨i, q⟩ := Option.isSome_iff_exists.mp z
    obtain ⟨_, o, x, _⟩ := h.zp p i q
    rw [e] at x
    cases x
theorem Hd.kz (h : Hd F Z b H) (g : Go F b H c H') : Kz (Bad F Z) H H' := (Df.Go.kz g).mono fun _ h => .inl h
theorem Hd.go (h : Hd F Z b H) (g : Go F b H c H') : Hd F Z c H' := ⟨g.r, fun a i z => by
  obtain ⟨n, o, e, x⟩ := h.zp a i z
  exact ⟨n, o, g.keep n e, x⟩⟩
/-- what may be read: data, or a list of one's own -/
def Bw (K : PySem.W.Frag) (F : Fr) (Z : Addr → Option Nat) (H : Hp) (v : V) (d : PyData) : Prop :=
  Dx K (Bad F Z) H v d ∨ ∃ a xs ds, v = .ref a ∧ d = .list ds ∧ ¬ F.N a ∧ H a = some (.lst xs) ∧ DxAll K (Bad F Z) H xs ds
theorem Bw.go (h : Bw K F Z H v d) (hh : Hd F Z b H) (g : Go F b H c H') : Bw K F Z H' v d := by
  rcases h with h | ⟨a, xs, ds, h1, h2, h3, h4, h5⟩
  · exact .inl (Dx.kz (hh.kz g) _ _ h)
  · exact .inr ⟨a, xs, ds, h1, h2, h3, g.keep h3 h4, DxAll.kz (hh.kz g) _ _ h5⟩
theorem Bw.n (h : Bw K F Z H v d) : Dx K F.N H v d := by
  rcases h with h | ⟨a, xs, ds, rfl, rfl, h3, h4, h5⟩
  · exact Dx.mono (fun _ z => .inl z) _ _ h
  · exact .lst h3 h4 (DxAll.mono (fun _ z => .inl z) _ _ h5)
theorem Bw.tup (h : Bw K F Z H v (.tuple ds)) : Dx K (Bad F Z) H v (.tuple ds) := by
  rcases h with h | ⟨_, _, _, _, h, _⟩
  · exact h
  · cases h
theorem Bw.lst (h : Bw K F Z H v (.list ds)) : ∃ a xs, v = .ref a ∧ ¬ F.N a ∧ H a = some (.lst xs) ∧ DxAll K (Bad F Z) H xs ds := by
  rcases h with h | ⟨a, xs, ds', h1, h2, h3, h4, h5⟩
  · obtain ⟨a, xs, h1, h2, h3, h4⟩ := h.invL
    exact ⟨a, xs, h1, fun z => h2 (.inl z), h3, h4⟩
  · cases h2
    exact ⟨a, xs, h1, h3, h4, h5⟩
theorem Bw.dp (h : Bw K F Z H v d) (n : PyData.plain d = true) : Dp K H v d := Dx.dp _ _ n h.n
end
/-- an argument: data, a value as it is, the law's state -/
inductive AV where
  | im (d : PyData) | op (v : V) | st
def AVR (K : PySem.W.Frag) (F : Fr) (Z : Addr → Option Nat) (H : Hp) (v : V) : AV → Prop
  | .im d => Bw K F Z H v d
  | .op u => v = u
  | .st => ∃ a, v = .ref a ∧ HasSt F a
inductive AVs (K : PySem.W.Frag) (F : Fr) (Z : Addr → Option Nat) (H : Hp) : List V → List AV → Prop
  | nil : AVs K F Z H [] []
  | cons {v : V} {a : AV} {vs : List V} {as : List AV} : AVR K F Z H v a → AVs K F Z H vs as → AVs K F Z H (v :: vs) (a :: as)
abbrev DTL := List SV → Nat → (List PyData → Nat → Prop) → DR → Prop
abbrev DTA := List SV → Nat → (List AV → Nat → Prop) → DR → Prop
theorem AVR.go {K : PySem.W.Frag} {F : Fr} {Z : Addr → Option Nat} {H H' : Hp} {b c : Nat} {v : V} {a : AV} (h : AVR K F Z H v a) (hh : Hd F Z b H) (g : Go F b H c H') : AVR K F Z H' v a := by
  cases a with
  | im d => exact Bw.go h hh g
  | op u => exact h
  | st => exact h
/-- the wishes of a reading, met -/
structure Met (X : Cx) (F : Fr) (W : WX) (σ : L2.St) (b : Nat) (H : Hp) (R : DR) : Prop where
  er : ∀ cls x H' b' ed, Go F b H b' H' → ErrR X.K X.mg F.N H' cls x ed → R ed b' → W cls x σ H'
theorem Met.go {X : Cx} {F : Fr} {W : WX} {σ : L2.St} {b c : Nat} {H H' : Hp} {R : DR} (m : Met X F W σ b H R) (g : Go F b H c H') : Met X F W σ c H' R :=
  ⟨fun cls x H2 b2 ed g2 e r => m.er cls x H2 b2 ed (g.trans g2) e r⟩
/-- an expression that gives data -/
structure DE (X : Cx) (F : Fr) (W : WX) (e : Expr) (t : DTE) : Prop where
  ex : ∃ t0, PE X e t0 ∧ ∀ σ H ρ b Z Q R Q0, Sl X.K F Z σ H ρ → F.T b H → t ρ b Q R → (∀ v d H' b', Go F b H b' H' → Dx X.K (Bad F Z) H' v d → Q d b' → Q0 v H') → Met X F W σ b H R → t0 σ H Q0
/-- an expression that is read at once -/
structure DB (X : Cx) (F : Fr) (W : WX) (e : Expr) (t : DTE) : Prop where
  ex : ∃ t0, PE X e t0 ∧ ∀ σ H ρ b Z Q R Q0, Sl X.K F Z σ H ρ → F.T b H → t ρ b Q R → (∀ v d H' b', Go F b H b' H' → Bw X.K F Z H' v d → Q d b' → Q0 v H') → Met X F W σ b H R → t0 σ H Q0
/-- an expression that gives a new list -/
structure DF (X : Cx) (F : Fr) (W : WX) (e : Expr) (t : DTF) : Prop where
  ex : ∃ t0, PE X e t0 ∧ ∀ σ H ρ b Z Q R Q0, Sl X.K F Z σ H ρ → F.T b H → t ρ b Q R →
    (∀ a xs ds H' b', Go F b H b' H' → H a = none → H' a = some (.lst xs) → DxAll X.K (fun y => Bad F Z y ∨ y = a) H' xs ds → Q ds b' → Q0 (.ref a) H') → Met X F W σ b H R → t0 σ H Q0
structure DT (X : Cx) (F : Fr) (W : WX) (e : Expr) (t : DTT) : Prop where
  ex : ∃ t0, PT X e t0 ∧ ∀ σ H ρ b Z Q R Q0, Sl X.K F Z σ H ρ → F.T b H → t ρ b Q R → (∀ c H' b', Go F b H b' H' → Q c b' → Q0 c H') → Met X F W σ b H R → t0 σ H Q0
structure DW (X : Cx) (F : Fr) (W : WX) (e : Expr) (t : DTT) : Prop where
  ex : ∃ t0, PW X e t0 ∧ ∀ σ H ρ b Z Q R Q0, Sl X.K F Z σ H ρ → F.T b H → t ρ b Q R → (∀ c H' b', Go F b H b' H' → Q c b' → Q0 c H') → Met X F W σ b H R → t0 σ H Q0
/-- items that are stored; items that are read; arguments -/
structure DL (X : Cx) (F : Fr) (W : WX) (es : List Expr) (t : DTL) : Prop where
  ex : ∃ t0, PA X es t0 ∧ ∀ σ H ρ b Z Q R Q0, Sl X.K F Z σ H ρ → F.T b H → t ρ b Q R → (∀ vs ds H' b', Go F b H b' H' → DxAll X.K (Bad F Z) H' vs ds → ds.length = es.length → Q ds b' → Q0 vs H') → Met X F W σ b H R → t0 σ H Q0
structure DA (X : Cx) (F : Fr) (W : WX) (es : List Expr) (t : DTA) : Prop where
  ex : ∃ t0, PA X es t0 ∧ ∀ σ H ρ b Z Q R Q0, Sl X.K F Z σ H ρ → F.T b H → t ρ b Q R → (∀ vs as H' b', Go F b H b' H' → AVs X.K F Z H' vs as → Q as b' → Q0 vs H') → Met X F W σ b H R → t0 σ H Q0
section
variable {X : Cx} {F : Fr} {W : WX} {e a c : Expr} {es : List Expr} {t ta tb tc : DTE} {tt tu : DTT} {pos : Pos}
theorem DE.db (h : DE X F W e t) : DB X F W e t := by
  obtain ⟨t0, p, q⟩ := h.ex
  exact ⟨t0, p, fun σ H ρ b Z Q R Q0 s hT ht hq m => q σ H ρ b Z Q R Q0 s hT ht (fun v d H' b' g x => hq v d H' b' g (.inl x)) m⟩
def dF (t : DTF) : DTE := fun ρ b Q R => t ρ b (fun ds => Q (.list ds)) R
theorem DF.de {t : DTF} (h : DF X F W e t) : DE X F W e (dF t) := by
  obtain ⟨t0, p, q⟩ := h.ex
  refine ⟨t0, p, fun σ H ρ b Z Q R Q0 s hT ht hq m => q σ H ρ b Z _ R Q0 s hT ht (fun a xs ds H' b' g hn hl hx hQ => hq _ _ H' b' g ?_ hQ) m⟩
  exact .lst (s.fresh hT hn) hl (DxAll.mono (fun _ z => .inl z) _ _ hx)
/-! ### names and constants -/
def dVar (i : Nat) : DTE := fun ρ b Q _ => match ρ[i]? with
  | some (.im d) => Q d b
  | _ => False
def dVarB (i : Nat) : DTE := fun ρ b Q _ => match ρ[i]? with
  | some (.im d) => Q d b
  | some (.ls ds) => Q (.list ds) b
  | _ => False
def dC (d : PyData) : DTE := fun _ b Q _ => Q d b
theorem de_var {i : Nat} {x : Str} (hN : X.N[i]? = some x) (hv : Vis X.env.scope x) (hd : (x == ("__debug__" : Str)) = false := by decide) (hcd : (x == ("__classdict__" : Str)) = false := by decide) : DE X F W (.Name x pos) (dVar i) := by
  refine ⟨_, pe_var (i := i) hN hv hd hcd, fun σ H ρ b Z Q R Q0 s hT ht hq m => ?_⟩
  unfold dVar at ht
  cases h : ρ[i]? with
  | none => rw [h] at ht; exact ht.elim
  | some sv =>
    rw [h] at ht
    have q := s.at' i sv h
    cases sv with
    | im d =>
      obtain ⟨v, e, x⟩ := q
      exact ⟨v, e, hq v d H b (Go.refl hT) x ht⟩
    | no => exact ht.elim
    | ls _ => exact ht.elim
    | op _ => exact ht.elim
    | st => exact ht.elim
    | er _ _ _ _ => exact ht.elim
    | fn _ _ _ _ _ => exact ht.elim
theorem db_var {i : Nat} {x : Str} (hN : X.N[i]? = some x) (hv : Vis X.env.scope x) (hd : (x == ("__debug__" : Str)) = false := by decide) (hcd : (x == ("__classdict__" : Str)) = false := by decide) : DB X F W (.Name x pos) (dVarB i) := by
  refine ⟨_, pe_var (i := i) hN hv hd hcd, fun σ H ρ b Z Q R Q0 s hT ht hq m => ?_⟩
  unfold dVarB at ht
  cases h : ρ[i]? with
  | none => rw [h] at ht; exact ht.elim
  | some sv =>
    rw [h] at ht
    have q := s.at' i sv h
    cases sv with
    | im d =>
      obtain ⟨v, e, x⟩ := q
      exact ⟨v, e, hq v d H b (Go.refl hT) (.inl x) ht⟩
    | no => exact ht.elim
    | ls ds =>
      obtain ⟨a, xs, e, z, x, y⟩ := q
      exact ⟨_, e, hq _ _ H b (Go.refl hT) (.inr ⟨a, xs, ds, rfl, rfl, (s.zp a i z).1, x, y⟩) ht⟩
    | op _ => exact ht.elim
    | st => exact ht.elim
    | er _ _ _ _ => exact ht.elim
    | fn _ _ _ _ _ => exact ht.elim
theorem de_const {v : V} {d : PyData} (h : PE X e (tC v)) (hd : ∀ K B H, Dx K B H v d) : DE X F W e (dC d) :=
  ⟨_, h, fun σ H ρ b Z Q R Q0 s hT ht hq m => hq v d H b (Go.refl hT) (hd _ _ _) ht⟩
theorem de_int {i j} : DE X F W (.Constant (.int i) j pos) (dC (.int i)) := de_const pe_int fun _ _ _ => .int i
theorem de_bl {i j} : DE X F W (.Constant (.bool i) j pos) (dC (.bool i)) := de_const pe_bl fun _ _ _ => .bl i
theorem de_non {j} : DE X F W (.Constant .none j pos) (dC .none) := de_const pe_non fun _ _ _ => .non
theorem de_str {i j} : DE X F W (.Constant (.str i) j pos) (dC (.str i)) := de_const pe_str fun _ _ _ => .str i
theorem de_gi {x : Str} {i : Int} {t : Tok} (hg : Gl X x) (hm : X.mg x = some (.int i t)) (hd : (x == ("__debug__" : Str)) = false := by decide) : DE X F W (.Name x pos) (dC (.int i)) := de_const (pe_glob hg hm (show RelV (.int i) _ from ⟨_, rfl⟩) hd) fun _ _ _ => .int i
theorem de_gs {x : Str} {i : Str} {t : Tok} (hg : Gl X x) (hm : X.mg x = some (.str i t)) (hd : (x == ("__debug__" : Str)) = false := by decide) : DE X F W (.Name x pos) (dC (.str i)) := de_const (pe_glob hg hm (show RelV (.str i) _ from ⟨_, rfl⟩) hd) fun _ _ _ => .str i
/-! ### operations on two things, by data -/
abbrev RD2 := PyData → PyData → (PyData → Prop) → Prop
/-- the reading r by values is answered by rd by data -/
def OpD (K : PySem.W.Frag) (r : R2) (rd : RD2) : Prop := ∀ (F : Fr) (Z : Addr → Option Nat) (b : Nat) (H : Hp) (v u : V) (d e : PyData) (Q : PyData → Prop) (Q0 : VK), Hd F Z b H → Bw K F Z H v d → Bw K F Z H u e → rd d e Q →
  (∀ v' d' H', Go F b H b H' → Dx K (Bad F Z) H' v' d' → Q d' → Q0 v' H') → r v u H Q0
def d2 (rd : RD2) (ta tb : DTE) : DTE := fun ρ b Q R => ta ρ b (fun d b1 => tb ρ b1 (fun e b2 => rd d e fun z => Q z b2) R) R
theorem de_2 {r : R2} {rd : RD2} {f : Expr} (hp : ∀ ta tb, PE X a ta → PE X c tb → PE X f (tOp r ta tb)) (hd : OpD X.K r rd) (ha : DB X F W a ta) (hb : DB X F W c tb) : DE X F W f (d2 rd ta tb) := by
  obtain ⟨t1, p1, q1⟩ := ha.ex
  obtain ⟨t2, p2, q2⟩ := hb.ex
  refine ⟨_, hp _ _ p1 p2, fun σ H ρ b Z Q R Q0 s hT ht hq m => ?_⟩
  refine q1 σ H ρ b Z _ R _ s hT ht (fun v d H1 b1 g1 x1 ht1 => ?_) m
  have s1 := s.go g1
  refine q2 σ H1 ρ b1 Z _ R _ s1 g1.r ht1 (fun u e H2 b2 g2 x2 ht2 => ?_) (m.go g1)
  have h1 := s1.hd g1.r
  refine hd F Z b2 H2 v u d e _ _ (h1.go g2) (x1.go h1 g2) x2 ht2 fun v' d' H3 g3 x3 hQ => ?_
  exact hq v' d' H3 b2 ((g1.trans g2).trans g3) x3 hQ
theorem de_op {op : Operator} {r : R2} {rd : RD2} (ho : OpR X (binaryOp op) r) (hd : OpD X.K r rd) (ha : DB X F W a ta) (hb : DB X F W c tb) : DE X F W (.BinOp a op c pos) (d2 rd ta tb) := de_2 (fun _ _ => pe_op ho) hd ha hb
theorem de_cmp {op : CmpOp} {r : R2} {rd : RD2} (ho : OpR X (compareOp op) r) (hd : OpD X.K r rd) (ha : DB X F W a ta) (hb : DB X F W c tb) (hm : behindInMarks op c = false) : DE X F W (.Compare a [op] [c] pos) (d2 rd ta tb) := de_2 (fun _ _ p q => pe_cmpR ho p q hm) hd ha hb
theorem de_ix {r : R2} {rd : RD2} (ho : IxR X r) (hd : OpD X.K r rd) (ha : DB X F W a ta) (hb : DB X F W c tb) (hs : PlainIx c) : DE X F W (.Subscript a c pos) (d2 rd ta tb) := de_2 (fun _ _ p q => pe_ix ho p q hs) hd ha hb
theorem OpD.or {K : PySem.W.Frag} {r r' : R2} {rd rd' : RD2} (h : OpD K r rd) (h' : OpD K r' rd') : OpD K (fun x y H Q => r x y H Q ∨ r' x y H Q) (fun d e Q => rd d e Q ∨ rd' d e Q) := by
  intro F Z b H v u d e Q Q0 hh hv hu hr hq
  rcases hr with hr | hr
  · exact .inl (h F Z b H v u d e Q Q0 hh hv hu hr hq)
  · exact .inr (h' F Z b H v u d e Q Q0 hh hv hu hr hq)
theorem OpD.imp {K : PySem.W.Frag} {r : R2} {rd rd' : RD2} (h : OpD K r rd) (i : ∀ d e Q, rd' d e Q → rd d e Q) : OpD K r rd' := fun F Z b H v u d e Q Q0 hh hv hu hr hq => h F Z b H v u d e Q Q0 hh hv hu (i _ _ _ hr) hq
theorem OpR.or {f : Value → Value → Sem Value} {r r' : R2} (h : OpR X f r) (h' : OpR X f r') : OpR X f (fun x y H Q => r x y H Q ∨ r' x y H Q) := by
  intro pins s σ H x y v u Q I rx ry q
  rcases q with q | q
  · exact h pins s σ H x y v u Q I rx ry q
  · exact h' pins s σ H x y v u Q I rx ry q
/-! ### tests -/
def onB : PyData → (Bool → Prop) → Prop
  | .bool k, K => K k
  | _, _ => False
def onI : PyData → (Int → Prop) → Prop
  | .int k, K => K k
  | _, _ => False
def dB (t : DTE) : DTT := fun ρ b Q R => t ρ b (fun d b' => onB d fun k => Q k b') R
theorem dt_val (h : DB X F W e t) (he : ∀ whole, isTrue e X.env whole = (do let v ← whole; standAt e.pos; holding [v] (truthy v)) := by intro _; rfl) : DT X F W e (dB t) := by
  obtain ⟨t0, p, q⟩ := h.ex
  refine ⟨_, pt_val p he, fun σ H ρ b Z Q R Q0 s hT ht hq m => ?_⟩
  refine q σ H ρ b Z _ R _ s hT ht (fun v d H' b' g x hd => ?_) m
  cases d with
  | bool k =>
    rcases x with x | ⟨_, _, _, _, x, _⟩
    · have := x.inv_bl
      subst this
      exact ⟨k, rfl, hq k H' b' g hd⟩
    · cases x
  | _ => exact False.elim hd
theorem dt_cmp {op : CmpOp} {r : R2} {rd : RD2} (ho : OpR X (compareOp op) r) (hd : OpD X.K r rd) (ha : DB X F W a ta) (hb : DB X F W c tb) (hm : behindInMarks op c = false) : DT X F W (.Compare a [op] [c] pos) (dB (d2 rd ta tb)) := by
  obtain ⟨t1, p1, q1⟩ := ha.ex
  obtain ⟨t2, p2, q2⟩ := hb.ex
  refine ⟨_, pt_cmpR ho p1 p2 hm, fun σ H ρ b Z Q R Q0 s hT ht hq m => ?_⟩
  refine q1 σ H ρ b Z _ R _ s hT ht (fun v d H1 b1 g1 x1 ht1 => ?_) m
  have s1 := s.go g1
  refine q2 σ H1 ρ b1 Z _ R _ s1 g1.r ht1 (fun u e H2 b2 g2 x2 ht2 => ?_) (m.go g1)
  have h1 := s1.hd g1.r
  refine hd F Z b2 H2 v u d e _ _ (h1.go g2) (x1.go h1 g2) x2 ht2 fun v' d' H3 g3 x3 hQ => ?_
  cases d' with
  | bool k =>
    have := x3.inv_bl
    subst this
    exact ⟨k, rfl, hq k H3 b2 ((g1.trans g2).trans g3) hQ⟩
  | _ => exact False.elim hQ
def dAnd (t u : DTT) : DTT := fun ρ b Q R => t ρ b (fun k b' => cond k (u ρ b' Q R) (Q false b')) R
def dOr (t u : DTT) : DTT := fun ρ b Q R => t ρ b (fun k b' => cond k (Q true b') (u ρ b' Q R)) R
def dNot (t : DTT) : DTT := fun ρ b Q R => t ρ b (fun k b' => Q (!k) b') R
variable {rest : List Expr}
theorem DW.dt (h : DW X F W e tt) : DT X F W e tt := by
  obtain ⟨t0, p, q⟩ := h.ex
  exact ⟨t0, p.pt, q⟩
theorem dw_and1 (h : DT X F W a tt) : DW X F W (.BoolOp .And [a] pos) tt := by
  obtain ⟨t0, p, q⟩ := h.ex
  exact ⟨t0, pw_and1 p, q⟩
theorem dw_or1 (h : DT X F W a tt) : DW X F W (.BoolOp .Or [a] pos) tt := by
  obtain ⟨t0, p, q⟩ := h.ex
  exact ⟨t0, pw_or1 p, q⟩
theorem dw_and (h : DT X F W a tt) (h' : DW X F W (.BoolOp .And (c :: rest) pos) tu) : DW X F W (.BoolOp .And (a :: c :: rest) pos) (dAnd tt tu) := by
  obtain ⟨t0, p, q⟩ := h.ex
  obtain ⟨t1, p1, q1⟩ := h'.ex
  refine ⟨_, pw_and p p1, fun σ H ρ b Z Q R Q0 s hT ht hq m => ?_⟩
  refine q σ H ρ b Z _ R _ s hT ht (fun k H' b' g hk => ?_) m
  cases k with
  | true => exact iteT (q1 σ H' ρ b' Z Q R Q0 (s.go g) g.r hk (fun k2 H2 b2 g2 h2 => hq k2 H2 b2 (g.trans g2) h2) (m.go g))
  | false => exact iteF (hq false H' b' g hk)
theorem dw_or (h : DT X F W a tt) (h' : DW X F W (.BoolOp .Or (c :: rest) pos) tu) : DW X F W (.BoolOp .Or (a :: c :: rest) pos) (dOr tt tu) := by
  obtain ⟨t0, p, q⟩ := h.ex
  obtain ⟨t1, p1, q1⟩ := h'.ex
  refine ⟨_, pw_or p p1, fun σ H ρ b Z Q R Q0 s hT ht hq m => ?_⟩
  refine q σ H ρ b Z _ R _ s hT ht (fun k H' b' g hk => ?_) m
  cases k with
  | true => exact iteT (hq true H' b' g hk)
  | false => exact iteF (q1 σ H' ρ b' Z Q R Q0 (s.go g) g.r hk (fun k2 H2 b2 g2 h2 => hq k2 H2 b2 (g.trans g2) h2) (m.go g))
theorem dt_not (h : DT X F W a tt) : DT X F W (.UnaryOp .Not a pos) (dNot tt) := by
  obtain ⟨t0, p, q⟩ := h.ex
  refine ⟨_, pt_not p, fun σ H ρ b Z Q R Q0 s hT ht hq m => ?_⟩
  exact q σ H ρ b Z _ R _ s hT ht (fun k H' b' g hk => hq (!k) H' b' g hk) m
/-- and, or, not as values -/
def dAndV (t u : DTE) : DTE := fun ρ b Q R => t ρ b (fun d b' => onB d fun k => cond k (u ρ b' Q R) (Q (.bool false) b')) R
def dOrV (t u : DTE) : DTE := fun ρ b Q R => t ρ b (fun d b' => onB d fun k => cond k (Q (.bool true) b') (u ρ b' Q R)) R
def dNotV (t : DTE) : DTE := fun ρ b Q R => t ρ b (fun d b' => onB d fun k => Q (.bool (!k)) b') R
theorem de_one {op} (h : DE X F W a ta) : DE X F W (.BoolOp op [a] pos) ta := by
  obtain ⟨t0, p, q⟩ := h.ex
  exact ⟨t0, pe_one p, q⟩
theorem de_and (h : DE X F W a ta) (h' : DE X F W (.BoolOp .And (c :: rest) pos) tb) : DE X F W (.BoolOp .And (a :: c :: rest) pos) (dAndV ta tb) := by
  obtain ⟨t0, p, q⟩ := h.ex
  obtain ⟨t1, p1, q1⟩ := h'.ex
  refine ⟨_, pe_and p p1, fun σ H ρ b Z Q R Q0 s hT ht hq m => ?_⟩
  refine q σ H ρ b Z _ R _ s hT ht (fun v d H' b' g x hk => ?_) m
  cases d with
  | bool k =>
    have := x.inv_bl
    subst this
    refine ⟨k, rfl, ?_⟩
    cases k with
    | true => exact iteT (q1 σ H' ρ b' Z Q R Q0 (s.go g) g.r hk (fun v2 d2 H2 b2 g2 x2 h2 => hq v2 d2 H2 b2 (g.trans g2) x2 h2) (m.go g))
    | false => exact iteF (hq _ _ H' b' g (.bl false) hk)
  | _ => exact False.elim hk
theorem de_or (h : DE X F W a ta) (h' : DE X F W (.BoolOp .Or (c :: rest) pos) tb) : DE X F W (.BoolOp .Or (a :: c :: rest) pos) (dOrV ta tb) := by
  obtain ⟨t0, p, q⟩ := h.ex
  obtain ⟨t1, p1, q1⟩ := h'.ex
  refine ⟨_, pe_or p p1, fun σ H ρ b Z Q R Q0 s hT ht hq m => ?_⟩
  refine q σ H ρ b Z _ R _ s hT ht (fun v d H' b' g x hk => ?_) m
  cases d with
  | bool k =>
    have := x.inv_bl
    subst this
    refine ⟨k, rfl, ?_⟩
    cases k with
    | true => exact iteT (hq _ _ H' b' g (.bl true) hk)
    | false => exact iteF (q1 σ H' ρ b' Z Q R Q0 (s.go g) g.r hk (fun v2 d2 H2 b2 g2 x2 h2 => hq v2 d2 H2 b2 (g.trans g2) x2 h2) (m.go g))
  | _ => exact False.elim hk
theorem de_not (h : DE X F W a ta) : DE X F W (.UnaryOp .Not a pos) (dNotV ta) := by
  obtain ⟨t0, p, q⟩ := h.ex
  refine ⟨_, pe_not p, fun σ H ρ b Z Q R Q0 s hT ht hq m => ?_⟩
  refine q σ H ρ b Z _ R _ s hT ht (fun v d H' b' g x hk => ?_) m
  cases d with
  | bool k =>
    have := x.inv_bl
    subst this
    exact ⟨k, rfl, hq _ _ H' b' g (.bl _) hk⟩
  | _ => exact False.elim hk
def dIf (t : DTT) (ta tb : DTE) : DTE := fun ρ b Q R => t ρ b (fun k b' => cond k (ta ρ b' Q R) (tb ρ b' Q R)) R
theorem de_if (h : DT X F W e tt) (ha : DE X F W a ta) (hb : DE X F W c tb) : DE X F W (.IfExp e a c pos) (dIf tt ta tb) := by
  obtain ⟨t0, p, q⟩ := h.ex
  obtain ⟨t1, p1, q1⟩ := ha.ex
  obtain ⟨t2, p2, q2⟩ := hb.ex
  refine ⟨_, pe_ifExp p p1 p2, fun σ H ρ b Z Q R Q0 s hT ht hq m => ?_⟩
  refine q σ H ρ b Z _ R _ s hT ht (fun k H' b' g hk => ?_) m
  cases k with
  | true => exact iteT (q1 σ H' ρ b' Z Q R Q0 (s.go g) g.r hk (fun v2 d2 H2 b2 g2 x2 h2 => hq v2 d2 H2 b2 (g.trans g2) x2 h2) (m.go g))
  | false => exact iteF (q2 σ H' ρ b' Z Q R Q0 (s.go g) g.r hk (fun v2 d2 H2 b2 g2 x2 h2 => hq v2 d2 H2 b2 (g.trans g2) x2 h2) (m.go g))
/-! ### lists of things -/
def dNil : DTL := fun _ b Q _ => Q [] b
def dCons (t : DTE) (u : DTL) : DTL := fun ρ b Q R => t ρ b (fun d b' => u ρ b' (fun ds b2 => Q (d :: ds) b2) R) R
theorem dl_nil : DL X F W [] dNil := ⟨_, pa_nil, fun σ H ρ b Z Q R Q0 s hT ht hq m => hq [] [] H b (Go.refl hT) .nil rfl ht⟩
theorem dl_cons {u : DTL} (h : DE X F W e t) (h' : DL X F W es u) (hs : starEach (e :: es) X.env = (false, eval e X.env) :: starEach es X.env := by rfl) : DL X F W (e :: es) (dCons t u) := by
  obtain ⟨t0, p, q⟩ := h.ex
  obtain ⟨t1, p1, q1⟩ := h'.ex
  refine ⟨_, pa_cons p p1 hs, fun σ H ρ b Z Q R Q0 s hT ht hq m => ?_⟩
  refine q σ H ρ b Z _ R _ s hT ht (fun v d H' b' g x hk => ?_) m
  refine q1 σ H' ρ b' Z _ R _ (s.go g) g.r hk (fun vs ds H2 b2 g2 x2 l2 h2 => ?_) (m.go g)
  exact hq (v :: vs) (d :: ds) H2 b2 (g.trans g2) (.cons (Go.dx (s.go g) g2 x) x2) (by rw [List.length_cons, List.length_cons, l2]) h2
def dTup (t : DTL) : DTE := fun ρ b Q R => t ρ b (fun ds b' => Q (.tuple ds) b') R
theorem de_tup {x1} {u : DTL} (h : DL X F W es u) (hl : es.length ≤ 1000000 := by decide) : DE X F W (.Tuple es x1 pos) (dTup u) := by
  obtain ⟨t0, p, q⟩ := h.ex
  refine ⟨_, pe_tup p, fun σ H ρ b Z Q R Q0 s hT ht hq m => ?_⟩
  refine q σ H ρ b Z _ R _ s hT ht (fun vs ds H' b' g x l hk => ?_) m
  refine ⟨by rw [x.length, l]; exact sz6 hl, fun p np => ?_⟩
  exact hq _ _ _ b' (g.add np) (dx_tup np x) hk
def dLst (t : DTL) : DTF := fun ρ b Q R => t ρ b (fun ds b' => Q ds b') R
theorem df_lst {u : DTL} (h : DL X F W es u) (hl : es.length ≤ 1000000 := by decide) : DF X F W (.List es pos) (dLst u) := by
  obtain ⟨t0, p, q⟩ := h.ex
  refine ⟨_, pe_lst p, fun σ H ρ b Z Q R Q0 s hT ht hq m => ?_⟩
  refine q σ H ρ b Z _ R _ s hT ht (fun vs ds H' b' g x l hk => ?_) m
  refine ⟨by rw [x.length, l]; exact sz6 hl, fun p np => ?_⟩
  refine hq p vs ds _ b' (g.add np) (g.was np) upd_same (DxAll.kz (Kz.new np) _ _ (DxAll.more (fun y hy => ?_) _ _ x)) hk
  rcases hy with hy | rfl
  · exact .inl hy
  · exact .inr np
def aNil : DTA := fun _ b Q _ => Q [] b
def aCons (t : DTE) (u : DTA) : DTA := fun ρ b Q R => t ρ b (fun d b' => u ρ b' (fun as b2 => Q (.im d :: as) b2) R) R
theorem da_nil : DA X F W [] aNil := ⟨_, pa_nil, fun σ H ρ b Z Q R Q0 s hT ht hq m => hq [] [] H b (Go.refl hT) .nil ht⟩
theorem da_cons {u : DTA} (h : DB X F W e t) (h' : DA X F W es u) (hs : starEach (e :: es) X.env = (false, eval e X.env) :: starEach es X.env := by rfl) : DA X F W (e :: es) (aCons t u) := by
  obtain ⟨t0, p, q⟩ := h.ex
  obtain ⟨t1, p1, q1⟩ := h'.ex
  refine ⟨_, pa_cons p p1 hs, fun σ H ρ b Z Q R Q0 s hT ht hq m => ?_⟩
  refine q σ H ρ b Z _ R _ s hT ht (fun v d H' b' g x hk => ?_) m
  refine q1 σ H' ρ b' Z _ R _ (s.go g) g.r hk (fun vs ds H2 b2 g2 x2 h2 => ?_) (m.go g)
  exact hq (v :: vs) (.im d :: ds) H2 b2 (g.trans g2) (.cons (Bw.go x ((s.go g).hd g.r) g2) x2) h2
/-- a value as it is, or the state, at a name -/
def aVar (i : Nat) (u : DTA) : DTA := fun ρ b Q R => match ρ[i]? with
  | some (.op v) => u ρ b (fun as b2 => Q (.op v :: as) b2) R
  | some .st => u ρ b (fun as b2 => Q (.st :: as) b2) R
  | _ => False
theorem da_var {i : Nat} {x : Str} {u : DTA} (hN : X.N[i]? = some x) (hv : Vis X.env.scope x) (h' : DA X F W es u) (hd : (x == ("__debug__" : Str)) = false := by decide) (hcd : (x == ("__classdict__" : Str)) = false := by decide)
    (hs : starEach (.Name x pos :: es) X.env = (false, eval (.Name x pos) X.env) :: starEach es X.env := by rfl) : DA X F W (.Name x pos :: es) (aVar i u) := by
  obtain ⟨t1, p1, q1⟩ := h'.ex
  refine ⟨_, pa_cons (pe_var (i := i) hN hv hd hcd) p1 hs, fun σ H ρ b Z Q R Q0 s hT ht hq m => ?_⟩
  unfold aVar at ht
  cases h : ρ[i]? with
  | none => rw [h] at ht; exact ht.elim
  | some sv =>
    rw [h] at ht
    have q := s.at' i sv h
    cases sv with
    | op v =>
      refine ⟨v, q, q1 σ H ρ b Z _ R _ s hT ht (fun vs ds H2 b2 g2 x2 h2 => ?_) m⟩
      exact hq (v :: vs) (.op v :: ds) H2 b2 g2 (.cons rfl x2) h2
    | st =>
      obtain ⟨a, e, hs⟩ := q
      refine ⟨_, e, q1 σ H ρ b Z _ R _ s hT ht (fun vs ds H2 b2 g2 x2 h2 => ?_) m⟩
      exact hq (.ref a :: vs) (.st :: ds) H2 b2 g2 (.cons ⟨a, rfl, hs⟩ x2) h2
    | no => exact ht.elim
    | ls _ => exact ht.elim
    | im _ => exact ht.elim
    | er _ _ _ _ => exact ht.elim
    | fn _ _ _ _ _ => exact ht.elim
/-! ### calls of built-in functions -/
abbrev RDC := List PyData → (PyData → Prop) → Prop
def CallD (K : PySem.W.Frag) (r : List V → Hp → VK → Prop) (rd : RDC) : Prop := ∀ (F : Fr) (Z : Addr → Option Nat) (b : Nat) (H : Hp) (vs : List V) (ds : List PyData) (Q : PyData → Prop) (Q0 : VK), Hd F Z b H → AVs K F Z H vs (ds.map .im) → rd ds Q →
  (∀ v' d' H', Go F b H b H' → Dx K (Bad F Z) H' v' d' → Q d' → Q0 v' H') → r vs H Q0
def allIm : List AV → Option (List PyData)
  | [] => some []
  | .im d :: r => (allIm r).map (d :: ·)
  | _ :: _ => none
theorem allIm_eq : ∀ {as : List AV} {ds : List PyData}, allIm as = some ds → as = ds.map .im
  | [], ds, h => by cases h; rfl
  | .im d :: r, ds, h => by
    simp only [allIm, Option.map_eq_some_iff] at h
    obtain ⟨a, h1, rfl⟩ := h
    rw [allIm_eq h1]; rfl
  | .op _ :: _, _, h => by cases h
  | .st :: _, _, h => by cases h
def dCall (rd : RDC) (ta : DTA) : DTE := fun ρ b Q R => ta ρ b (fun as b' => match allIm as with
  | some ds => rd ds fun z => Q z b'
  | none => False) R
theorem de_call {r : List V → Hp → VK → Prop} {rd : RDC} {f : Expr} {ta : DTA} (hp : ∀ t, PA X es t → PE X f (tCB r t)) (hd : CallD X.K r rd) (ha : DA X F W es ta) : DE X F W f (dCall rd ta) := by
  obtain ⟨t1, p1, q1⟩ := ha.ex
  refine ⟨_, hp _ p1, fun σ H ρ b Z Q R Q0 s hT ht hq m => ?_⟩
  refine q1 σ H ρ b Z _ R _ s hT ht (fun vs as H1 b1 g1 x1 ht1 => ?_) m
  cases h : allIm as with
  | none => rw [h] at ht1; exact ht1.elim
  | some ds =>
    rw [h] at ht1
    rw [allIm_eq h] at x1
    refine hd F Z b1 H1 vs ds _ _ ((s.go g1).hd g1.r) x1 ht1 fun v' d' H3 g3 x3 hQ => ?_
    exact hq v' d' H3 b1 (g1.trans g3) x3 hQ
end
end Df

set_option Elab.async false
set_option linter.all false
set_option maxRecDepth 100000
set_option maxHeartbeats 4000000
/-! DfO: operators by data. -/
namespace Df
open PySem PySem.Spec PyProof.Rows L2 Lf
open PySem.W (alike alikeAll dataLt)
/-! ### ints -/
def rdI (C : Int → Int → Prop) (f : Int → Int → Int) : RD2
  | .int i, .int j, Q => C i j ∧ Q (.int (f i j))
  | _, _, _ => False
def rdI0 (f : Int → Int → Int) : RD2
  | .int i, .int j, Q => Q (.int (f i j))
  | _, _, _ => False
def rdB0 (f : Int → Int → Bool) : RD2
  | .int i, .int j, Q => Q (.bool (f i j))
  | _, _, _ => False
section
variable {K : PySem.W.Frag} {F : Fr} {Z : Addr → Option Nat} {H : Hp} {v : V} {d : PyData}
theorem Bw.int {i : Int} (h : Bw K F Z H v (.int i)) : v = .int i := by
  rcases h with h | ⟨_, _, _, _, h, _⟩
  · exact h.inv_int
  · cases h
theorem Bw.str {i : Str} (h : Bw K F Z H v (.str i)) : v = .str i := by
  rcases h with h | ⟨_, _, _, _, h, _⟩
  · exact h.inv_str
  · cases h
theorem opd_i {C : Int → Int → Prop} {f : Int → Int → Int} : OpD K (rI C fun i j => .int (f i j)) (rdI C f) := by
  intro F Z b H v u d e Q Q0 hh hv hu hr hq
  unfold rdI at hr
  split at hr
  · have e1 := hv.int
    have e2 := hu.int
    subst e1
    subst e2
    exact ⟨_, _, rfl, rfl, hr.1, hq _ _ H (Go.refl hh.t) (.int _) hr.2⟩
  · exact hr.elim
theorem opd_i0 {f : Int → Int → Int} : OpD K (rI0 fun i j => .int (f i j)) (rdI0 f) := by
  intro F Z b H v u d e Q Q0 hh hv hu hr hq
  unfold rdI0 at hr
  split at hr
  · have e1 := hv.int
    have e2 := hu.int
    subst e1
    subst e2
    exact ⟨_, _, rfl, rfl, hq _ _ H (Go.refl hh.t) (.int _) hr⟩
  · exact hr.elim
theorem opd_b0 {f : Int → Int → Bool} : OpD K (rI0 fun i j => .bl (f i j)) (rdB0 f) := by
  intro F Z b H v u d e Q Q0 hh hv hu hr hq
  unfold rdB0 at hr
  split at hr
  · have e1 := hv.int
    have e2 := hu.int
    subst e1
    subst e2
    exact ⟨_, _, rfl, rfl, hq _ _ H (Go.refl hh.t) (.bl _) hr⟩
  · exact hr.elim
end
/-! ### + -/
def rdAdd : RD2
  | .int i, .int j, Q => Q (.int (i + j))
  | .str x, .str y, Q => x.length + y.length ≤ 1000000 ∧ Q (.str (x ++ y))
  | .tuple xs, .tuple ys, Q => xs.length + ys.length ≤ 1000000 ∧ Q (.tuple (xs ++ ys))
  | .list xs, .list ys, Q => xs.length + ys.length ≤ 1000000 ∧ Q (.list (xs ++ ys))
  | _, _, _ => False
def rAddS : R2 := fun x y H Q => ∃ i j, x = .str i ∧ y = .str j ∧ i.length + j.length ≤ sizeLine ∧ Q (.str (i ++ j)) H
def rAddAll (K : PySem.W.Frag) : R2 := fun x y H Q => rI0 (fun i j => .int (i + j)) x y H Q ∨ rAddS x y H Q ∨ rCatA K x y H Q ∨ rCat x y H Q
section
variable {X : Cx} {K : PySem.W.Frag}
theorem op_addAll : OpR X (binaryOp .Add) (rAddAll X.K) := OpR.or op_add (OpR.or op_add_str (OpR.or op_catA op_cat))
theorem opd_add : OpD K (rAddAll K) rdAdd := by
  intro F Z b H v u d e Q Q0 hh hv hu hr hq
  unfold rdAdd at hr
  split at hr
  · exact .inl (opd_i0 (f := fun i j => i + j) F Z b H v u _ _ Q Q0 hh hv hu hr hq)
  · have e1 := hv.str
    have e2 := hu.str
    subst e1
    subst e2
    exact .inr (.inl ⟨_, _, rfl, rfl, sz6 hr.1, hq _ _ H (Go.refl hh.t) (.str _) hr.2⟩)
  · obtain ⟨a, us, rfl, hs, ha⟩ := hv.tup.inv
    obtain ⟨c, ws, rfl, hs2, ha2⟩ := hu.tup.inv
    have e1 := ha.length
    have e2 := ha2.length
    refine .inr (.inr (.inl ⟨a, c, us, ws, rfl, rfl, hs, hs2, sz6 (by omega), fun e => ?_, fun _ e => ?_, fun _ _ p np => ?_⟩))
    · subst e
      cases ha
      exact hq _ _ _ (Go.refl hh.t) (.tup hs2 ha2) hr.2
    · subst e
      cases ha2
      rw [List.append_nil] at hr
      exact hq _ _ _ (Go.refl hh.t) (.tup hs ha) hr.2
    · exact hq _ _ _ (Go.new hh.t np) (dx_tup np (ha.append ha2)) hr.2
  · obtain ⟨a, us, rfl, _, hs, ha⟩ := hv.lst
    obtain ⟨c, ws, rfl, _, hs2, ha2⟩ := hu.lst
    have e1 := ha.length
    have e2 := ha2.length
    refine .inr (.inr (.inr ⟨a, c, us, ws, rfl, rfl, hs, hs2, sz6 (by omega), fun p np => ?_⟩))
    exact hq _ _ _ (Go.new hh.t np) (dx_lst np (hh.fresh np) (ha.append ha2)) hr.2
  · exact hr.elim
/-- a new list of two -/
def dAddL (ta tb : DTE) : DTF := fun ρ b Q R => ta ρ b (fun d b1 => tb ρ b1 (fun e b2 => match d, e with
  | .list xs, .list ys => xs.length + ys.length ≤ 1000000 ∧ Q (xs ++ ys) b2
  | _, _ => False) R) R
theorem df_add {F : Fr} {W : WX} {a c : Expr} {ta tb : DTE} {pos : Pos} (ha : DB X F W a ta) (hb : DB X F W c tb) : DF X F W (.BinOp a .Add c pos) (dAddL ta tb) := by
  obtain ⟨t1, p1, q1⟩ := ha.ex
  obtain ⟨t2, p2, q2⟩ := hb.ex
  refine ⟨_, pe_op op_cat p1 p2, fun σ H ρ b Z Q R Q0 s hT ht hq m => ?_⟩
  refine q1 σ H ρ b Z _ R _ s hT ht (fun v d H1 b1 g1 x1 ht1 => ?_) m
  have s1 := s.go g1
  refine q2 σ H1 ρ b1 Z _ R _ s1 g1.r ht1 (fun u e H2 b2 g2 x2 ht2 => ?_) (m.go g1)
  have h1 := s1.hd g1.r
  have x1' := x1.go h1 g2
  split at ht2
  · obtain ⟨a, us, rfl, _, hs, ha⟩ := x1'.lst
    obtain ⟨c, ws, rfl, _, hs2, ha2⟩ := x2.lst
    have e1 := ha.length
    have e2 := ha2.length
    refine ⟨a, c, us, ws, rfl, rfl, hs, hs2, sz6 (by omega), fun p np => ?_⟩
    have g := g1.trans g2
    refine hq p _ _ _ b2 (g.add np) (g.was np) upd_same (DxAll.kz (Kz.new np) _ _ (DxAll.more (fun y hy => ?_) _ _ (ha.append ha2))) ht2.2
    rcases hy with hy | rfl
    · exact .inl hy
    · exact .inr np
  · exact ht2.elim
/-! ### * -/
def rdMul : RD2
  | .int i, .int j, Q => IntMulOk i j ∧ Q (.int (i * j))
  | .list xs, .int k, Q => -(2 ^ 62) ≤ k ∧ k < 2 ^ 62 ∧ xs.length * k.toNat ≤ 1000000 ∧ Q (.list (List.replicate k.toNat xs).flatten)
  | .tuple xs, .int k, Q => xs ≠ [] ∧ 2 ≤ k ∧ k ≤ 1000 ∧ xs.length ≤ 1000 ∧ Q (.tuple (List.replicate k.toNat xs).flatten)
  | _, _, _ => False
theorem op_mulOk : OpR X (binaryOp .Mult) (rI IntMulOk fun i j => .int (i * j)) := by
  intro pins s σ H x y v u Q I rx ry h
  obtain ⟨i, j, rfl, rfl, hc, q⟩ := h
  obtain ⟨t, rfl⟩ := rx
  obtain ⟨t', rfl⟩ := ry
  exact mul_int ⟨.int _, H, I.tok _, ⟨_, rfl⟩, q⟩ hc
theorem mulOk {i j : Int} (h : -(2 ^ 64) < i ∧ i < 2 ^ 64 ∨ -(2 ^ 64) < j ∧ j < 2 ^ 64) : IntMulOk i j := CMul.ok h
def rMulAll (K : PySem.W.Frag) : R2 := fun x y H Q => rI IntMulOk (fun i j => .int (i * j)) x y H Q ∨ rRep x y H Q ∨ rRepT K x y H Q
theorem op_mulAll : OpR X (binaryOp .Mult) (rMulAll X.K) := OpR.or op_mulOk (OpR.or op_rep op_repT)
theorem dxAll_rep {B : Addr → Prop} {H : Hp} {vs : List V} {ds : List PyData} (h : DxAll K B H vs ds) : ∀ n : Nat, DxAll K B H (List.replicate n vs).flatten (List.replicate n ds).flatten
  | 0 => .nil
  | n + 1 => by
    rw [List.replicate_succ, List.replicate_succ, List.flatten_cons, List.flatten_cons]
    exact h.append (dxAll_rep h n)
theorem opd_mul : OpD K (rMulAll K) rdMul := by
  intro F Z b H v u d e Q Q0 hh hv hu hr hq
  unfold rdMul at hr
  split at hr
  · exact .inl (opd_i (f := fun i j => i * j) F Z b H v u _ _ Q Q0 hh hv hu hr hq)
  · obtain ⟨a, us, rfl, _, hs, ha⟩ := hv.lst
    have e2 := hu.int
    subst e2
    have e1 := ha.length
    obtain ⟨h1, h2, h3, h4⟩ := hr
    refine .inr (.inl ⟨a, _, us, rfl, rfl, hs, by omega, by omega, sz6 (by rw [e1]; exact h3), fun p np => ?_⟩)
    exact hq _ _ _ (Go.new hh.t np) (dx_lst np (hh.fresh np) (dxAll_rep ha _)) h4
  · obtain ⟨a, us, rfl, hs, ha⟩ := hv.tup.inv
    have e2 := hu.int
    subst e2
    have e1 := ha.length
    obtain ⟨h1, h2, h3, h4, h5⟩ := hr
    refine .inr (.inr ⟨a, _, us, rfl, rfl, hs, fun z => h1 (by subst z; cases ha; rfl), h2, h3, by omega, fun p np => ?_⟩)
    exact hq _ _ _ (Go.new hh.t np) (dx_tup np (dxAll_rep ha _)) h5
  · exact hr.elim
/-- [..] * n, new -/
def dMulL (ta tb : DTE) : DTF := fun ρ b Q R => ta ρ b (fun d b1 => tb ρ b1 (fun e b2 => match d, e with
  | .list xs, .int k => -(2 ^ 62) ≤ k ∧ k < 2 ^ 62 ∧ xs.length * k.toNat ≤ 1000000 ∧ Q (List.replicate k.toNat xs).flatten b2
  | _, _ => False) R) R
theorem df_mul {F : Fr} {W : WX} {a c : Expr} {ta tb : DTE} {pos : Pos} (ha : DB X F W a ta) (hb : DB X F W c tb) : DF X F W (.BinOp a .Mult c pos) (dMulL ta tb) := by
  obtain ⟨t1, p1, q1⟩ := ha.ex
  obtain ⟨t2, p2, q2⟩ := hb.ex
  refine ⟨_, pe_op op_rep p1 p2, fun σ H ρ b Z Q R Q0 s hT ht hq m => ?_⟩
  refine q1 σ H ρ b Z _ R _ s hT ht (fun v d H1 b1 g1 x1 ht1 => ?_) m
  have s1 := s.go g1
  refine q2 σ H1 ρ b1 Z _ R _ s1 g1.r ht1 (fun u e H2 b2 g2 x2 ht2 => ?_) (m.go g1)
  have h1 := s1.hd g1.r
  have x1' := x1.go h1 g2
  split at ht2
  · obtain ⟨a, us, rfl, _, hs, ha⟩ := x1'.lst
    have e2 := x2.int
    subst e2
    have e1 := ha.length
    obtain ⟨h1, h2, h3, h4⟩ := ht2
    refine ⟨a, _, us, rfl, rfl, hs, by omega, by omega, sz6 (by rw [e1]; exact h3), fun p np => ?_⟩
    have g := g1.trans g2
    refine hq p _ _ _ b2 (g.add np) (g.was np) upd_same (DxAll.kz (Kz.new np) _ _ (DxAll.more (fun y hy => ?_) _ _ (dxAll_rep ha _))) h4
    rcases hy with hy | rfl
    · exact .inl hy
    · exact .inr np
  · exact ht2.elim
/-! ### comparisons -/
theorem units_min {A : Around} {k : Nat} (hr : Room k A) {n m : Nat} (h : min n m ≤ 150) : A.units + min n m < cLine := by
  have := hr.un
  omega
def rEqP (K : PySem.W.Frag) (A : Around) (neg : Bool) : R2 := fun x y H Q => ∃ d e, Dp K H x d ∧ Dp K H y e ∧ d.plain = true ∧ e.plain = true ∧ A.units + min d.depth e.depth < cLine ∧ Q (.bl (if neg then !PyData.eqv d e else PyData.eqv d e)) H
theorem op_eqP : OpR X (compareOp .Eq) (rEqP X.K X.A false) := by
  intro pins s σ H x y v u Q I rx ry h
  obtain ⟨d, e, hd, he, ha, hn, hu, q⟩ := h
  obtain ⟨as, r1⟩ := Dp.reads I d x v hd rx
  obtain ⟨bs, r2⟩ := Dp.reads I e y u he ry
  exact SeqAt.eq_plain r1 r2 ha hn hu ⟨.bl _, H, I, rfl, q⟩
theorem op_neP : OpR X (compareOp .NotEq) (rEqP X.K X.A true) := by
  intro pins s σ H x y v u Q I rx ry h
  obtain ⟨d, e, hd, he, ha, hn, hu, q⟩ := h
  obtain ⟨as, r1⟩ := Dp.reads I d x v hd rx
  obtain ⟨bs, r2⟩ := Dp.reads I e y u he ry
  exact SeqAt.ne_plain r1 r2 ha hn hu ⟨.bl _, H, I, rfl, q⟩
def rdEq (neg : Bool) : RD2
  | .int i, .int j, Q => Q (.bool (if neg then !(i == j) else i == j))
  | .str i, .str j, Q => Q (.bool (if neg then !(i == j) else i == j))
  | d, e, Q => d.plain = true ∧ e.plain = true ∧ min d.depth e.depth ≤ 150 ∧ Q (.bool (if neg then !PyData.eqv d e else PyData.eqv d e))
theorem opd_eq {A : Around} {k : Nat} {neg : Bool} (hr : Room k A) : OpD K (rEqP K A neg) (rdEq neg) := by
  intro F Z b H v u d e Q Q0 hh hv hu ht hq
  have h0 : d.plain = true ∧ e.plain = true ∧ min d.depth e.depth ≤ 150 ∧ Q (.bool (if neg then !PyData.eqv d e else PyData.eqv d e)) := by
    unfold rdEq at ht
    split at ht
    · exact ⟨rfl, rfl, by simp [PyData.depth], by simpa only [PyData.eqv] using ht⟩
    · exact ⟨rfl, rfl, by simp [PyData.depth], by simpa only [PyData.eqv] using ht⟩
    · exact ht
  obtain ⟨h1, h2, h3, h4⟩ := h0
  exact ⟨d, e, hv.dp h1, hu.dp h2, h1, h2, units_min hr h3, hq _ _ H (Go.refl hh.t) (.bl _) h4⟩
/-- x == [], x == () -/
def rEq0 (K : PySem.W.Frag) (A : Around) (neg : Bool) : R2 := fun x y H Q => (if neg then rNeL0 K x y H Q else rEqL0 K x y H Q) ∨ (∃ a c xs, neg = false ∧ x = .ref a ∧ y = .ref c ∧ SqT K H a xs ∧ SqT K H c [] ∧ Q (.bl xs.isEmpty) H) ∨ rEqP K A neg x y H Q
theorem op_eq0 {k : Nat} (hr : Room k X.A) : OpR X (compareOp .Eq) (rEq0 X.K X.A false) := by
  intro pins s σ H x y v u Q I rx ry h
  rcases h with h | ⟨a, c, xs, _, h1, h2, h3, h4, h5⟩ | h
  · exact op_eqL0 hr.units0 pins s σ H x y v u Q I rx ry h
  · exact op_eqT0 hr.units0 pins s σ H x y v u Q I rx ry ⟨a, c, xs, h1, h2, h3, h4, h5⟩
  · exact op_eqP pins s σ H x y v u Q I rx ry h
theorem op_ne0 {k : Nat} (hr : Room k X.A) : OpR X (compareOp .NotEq) (rEq0 X.K X.A true) := by
  intro pins s σ H x y v u Q I rx ry h
  rcases h with h | ⟨_, _, _, h, _⟩ | h
  · exact op_neL0 hr.units0 pins s σ H x y v u Q I rx ry h
  · cases h
  · exact op_neP pins s σ H x y v u Q I rx ry h
def rdEq0 (neg : Bool) : RD2
  | .list xs, .list [], Q => Q (.bool (if neg then !xs.isEmpty else xs.isEmpty))
  | .tuple xs, .tuple [], Q => if neg then (PyData.plainAll xs = true ∧ Q (.bool !xs.isEmpty)) else Q (.bool xs.isEmpty)
  | .tuple _, _, Q => False
  | .list _, _, Q => False
  | d, e, Q => d.plain = true ∧ e.plain = true ∧ min d.depth e.depth ≤ 150 ∧ Q (.bool (if neg then !PyData.eqv d e else PyData.eqv d e))
theorem depth_nil : (PyData.tuple []).depth ≤ 1 := by simp [PyData.depth, PyData.depthAll]
theorem eqv_nil (xs : List PyData) : PyData.eqvAll xs [] = xs.isEmpty := by cases xs <;> simp [PyData.eqvAll]
theorem opd_eq0 {A : Around} {k : Nat} {neg : Bool} (hr : Room k A) : OpD K (rEq0 K A neg) (rdEq0 neg) := by
  intro F Z b H v u d e Q Q0 hh hv hu ht hq
  unfold rdEq0 at ht
  split at ht
  · rename_i xs
    obtain ⟨a, us, rfl, _, hs, ha⟩ := hv.lst
    obtain ⟨c, ws, rfl, _, hs2, ha2⟩ := hu.lst
    cases ha2
    have em : us.isEmpty = xs.isEmpty := by
      have := ha.length
      cases us with
      | nil => cases ha; rfl
      | cons x r => cases ha; rfl
    refine .inl ?_
    cases neg with
    | true => exact ⟨a, c, us, rfl, rfl, .inl (.inl hs), .inl (.inl hs2), hq _ _ H (Go.refl hh.t) (by rw [em]; exact .bl _) ht⟩
    | false => exact ⟨a, c, us, rfl, rfl, .inl (.inl hs), .inl (.inl hs2), hq _ _ H (Go.refl hh.t) (by rw [em]; exact .bl _) ht⟩
  · rename_i xs
    cases neg with
    | true =>
      have h1 : PyData.plain (.tuple xs) = true := ht.1
      refine .inr (.inr ⟨.tuple xs, .tuple [], hv.dp h1, hu.dp (show PyData.plain (.tuple []) = true from rfl), h1, rfl, ?_, hq (.bl (!PyData.eqv (.tuple xs) (.tuple []))) (.bool (!PyData.eqv (.tuple xs) (.tuple []))) H (Go.refl hh.t) (.bl _) ?_⟩)
      · have := hr.un
        have := depth_nil
        omega
      · have e : PyData.eqv (.tuple xs) (.tuple []) = xs.isEmpty := by simp only [PyData.eqv, eqv_nil]
        rw [e]
        exact ht.2
    | false =>
      obtain ⟨a, us, rfl, hs, ha⟩ := hv.tup.inv
      obtain ⟨c, ws, rfl, hs2, ha2⟩ := hu.tup.inv
      cases ha2
      have em : us.isEmpty = xs.isEmpty := by
        cases us with
        | nil => cases ha; rfl
        | cons x r => cases ha; rfl
      exact .inr (.inl ⟨a, c, us, rfl, rfl, rfl, hs, hs2, hq _ _ H (Go.refl hh.t) (by rw [em]; exact .bl _) ht⟩)
  · exact ht.elim
  · exact ht.elim
  · obtain ⟨h1, h2, h3, h4⟩ := ht
    exact .inr (.inr ⟨_, _, hv.dp h1, hu.dp h2, h1, h2, units_min hr h3, hq _ _ H (Go.refl hh.t) (.bl _) h4⟩)
/-! ### order -/
def rLtP (K : PySem.W.Frag) (A : Around) (f : PyData → PyData → Bool) : R2 := fun x y H Q => ∃ d e, Dp K H x d ∧ Dp K H y e ∧ alike d e = true ∧ d ≠ .none ∧ A.units + min d.depth e.depth < cLine ∧ Q (.bl (f d e)) H
theorem op_ltP : OpR X (compareOp .Lt) (rLtP X.K X.A fun d e => dataLt d e) := by
  intro pins s σ H x y v u Q I rx ry h
  obtain ⟨d, e, hd, he, ha, hn, hu, q⟩ := h
  obtain ⟨as, r1⟩ := Dp.reads I d x v hd rx
  obtain ⟨bs, r2⟩ := Dp.reads I e y u he ry
  exact PySem.W.lt_data r1 r2 ha hn hu ⟨.bl _, H, I, rfl, q⟩
theorem op_gtP : OpR X (compareOp .Gt) (rLtP X.K X.A fun d e => dataLt e d) := by
  intro pins s σ H x y v u Q I rx ry h
  obtain ⟨d, e, hd, he, ha, hn, hu, q⟩ := h
  obtain ⟨as, r1⟩ := Dp.reads I d x v hd rx
  obtain ⟨bs, r2⟩ := Dp.reads I e y u he ry
  exact PySem.W.gt_data r1 r2 ha hn hu ⟨.bl _, H, I, rfl, q⟩
theorem op_leP : OpR X (compareOp .LtE) (rLtP X.K X.A fun d e => !dataLt e d) := by
  intro pins s σ H x y v u Q I rx ry h
  obtain ⟨d, e, hd, he, ha, hn, hu, q⟩ := h
  obtain ⟨as, r1⟩ := Dp.reads I d x v hd rx
  obtain ⟨bs, r2⟩ := Dp.reads I e y u he ry
  exact PySem.W.le_data r1 r2 ha hn hu ⟨.bl _, H, I, rfl, q⟩
theorem op_geP : OpR X (compareOp .GtE) (rLtP X.K X.A fun d e => !dataLt d e) := by
  intro pins s σ H x y v u Q I rx ry h
  obtain ⟨d, e, hd, he, ha, hn, hu, q⟩ := h
  obtain ⟨as, r1⟩ := Dp.reads I d x v hd rx
  obtain ⟨bs, r2⟩ := Dp.reads I e y u he ry
  exact PySem.W.ge_data r1 r2 ha hn hu ⟨.bl _, H, I, rfl, q⟩
def rOrd (K : PySem.W.Frag) (A : Around) (g : Int → Int → Bool) (f : PyData → PyData → Bool) : R2 := fun x y H Q => rI0 (fun i j => .bl (g i j)) x y H Q ∨ rLtP K A f x y H Q
theorem op_ltO : OpR X (compareOp .Lt) (rOrd X.K X.A (fun i j => decide (i < j)) fun d e => dataLt d e) := OpR.or op_lt op_ltP
theorem op_gtO : OpR X (compareOp .Gt) (rOrd X.K X.A (fun i j => decide (j < i)) fun d e => dataLt e d) := OpR.or op_gt op_gtP
theorem op_leO : OpR X (compareOp .LtE) (rOrd X.K X.A (fun i j => decide (i ≤ j)) fun d e => !dataLt e d) := OpR.or op_le op_leP
theorem op_geO : OpR X (compareOp .GtE) (rOrd X.K X.A (fun i j => decide (j ≤ i)) fun d e => !dataLt d e) := OpR.or op_ge op_geP
def rdOrd (g : Int → Int → Bool) (f : PyData → PyData → Bool) : RD2
  | .int i, .int j, Q => Q (.bool (g i j))
  | d, e, Q => d.plain = true ∧ e.plain = true ∧ alike d e = true ∧ d ≠ .none ∧ min d.depth e.depth ≤ 150 ∧ Q (.bool (f d e))
theorem opd_ord {A : Around} {k : Nat} {g : Int → Int → Bool} {f : PyData → PyData → Bool} (hr : Room k A) : OpD K (rOrd K A g f) (rdOrd g f) := by
  intro F Z b H v u d e Q Q0 hh hv hu ht hq
  unfold rdOrd at ht
  split at ht
  · exact .inl (opd_b0 (f := g) F Z b H v u _ _ Q Q0 hh hv hu ht hq)
  · obtain ⟨h1, h2, h3, h4, h5, h6⟩ := ht
    exact .inr ⟨_, _, hv.dp h1, hu.dp h2, h3, h4, units_min hr h5, hq _ _ H (Go.refl hh.t) (.bl _) h6⟩
/-! ### is None -/
def isN : PyData → Bool
  | .none => true
  | _ => false
def rdIsN (neg : Bool) : RD2
  | d, .none, Q => Q (.bool (if neg then !isN d else isN d))
  | _, _, _ => False
def rIs (neg : Bool) : R2 := fun x y H Q => y = .non ∧ Q (.bl (if neg then !decide (x = .non) else decide (x = .non))) H
theorem op_isO : OpR X (compareOp .Is) (rIs false) := op_isN
theorem op_isnotO : OpR X (compareOp .IsNot) (rIs true) := op_notN
theorem opd_is {neg : Bool} : OpD K (rIs neg) (rdIsN neg) := by
  intro F Z b H v u d e Q Q0 hh hv hu ht hq
  unfold rdIsN at ht
  split at ht
  · have hu' : u = .non := by
      rcases hu with h | ⟨_, _, _, _, h, _⟩
      · exact h.inv_non
      · cases h
    refine ⟨hu', ?_⟩
    refine hq _ _ H (Go.refl hh.t) ?_ ht
    have hb : (if neg = true then !decide (v = V.non) else decide (v = V.non)) = (if neg then !isN d else isN d) := by
      rcases hv with h | ⟨_, _, _, rfl, rfl, _⟩
      · cases h <;> cases neg <;> rfl
      · cases neg <;> rfl
    rw [hb]
    exact .bl _
  · exact ht.elim
/-! ### in -/
def rInP (K : PySem.W.Frag) (A : Around) (neg : Bool) : R2 := fun x y H Q => ∃ d e xs, Dp K H x d ∧ Dp K H y e ∧ (e = .list xs ∨ e = .tuple xs) ∧ PyData.plainAll xs = true ∧ d.plain = true ∧ A.units + 1 + min (PyData.depthAll xs) d.depth < cLine ∧ Q (.bl (if neg then !xs.any fun y => PyData.eqv y d else xs.any fun y => PyData.eqv y d)) H
theorem op_inP : OpR X (compareOp .In) (rInP X.K X.A false) := by
  intro pins s σ H x y v u Q I rx ry h
  obtain ⟨d, e, xs, hd, he, hx, ha, hn, hu, q⟩ := h
  obtain ⟨as, r1⟩ := Dp.reads I d x v hd rx
  obtain ⟨bs, r2⟩ := Dp.reads I e y u he ry
  rcases hx with rfl | rfl
  · exact SeqAt.in_list_data r2 r1 ha hn hu ⟨.bl _, H, I, rfl, q⟩
  · exact SeqAt.in_tuple_data r2 r1 ha hn hu ⟨.bl _, H, I, rfl, q⟩
theorem op_notInP : OpR X (compareOp .NotIn) (rInP X.K X.A true) := by
  intro pins s σ H x y v u Q I rx ry h
  obtain ⟨d, e, xs, hd, he, hx, ha, hn, hu, q⟩ := h
  obtain ⟨as, r1⟩ := Dp.reads I d x v hd rx
  obtain ⟨bs, r2⟩ := Dp.reads I e y u he ry
  rcases hx with rfl | rfl
  · exact SeqAt.notIn_list_data r2 r1 ha hn hu ⟨.bl _, H, I, rfl, q⟩
  · exact SeqAt.notIn_tuple_data r2 r1 ha hn hu ⟨.bl _, H, I, rfl, q⟩
def rInS (neg : Bool) : R2 := fun x y H Q => ∃ (c : Nat) (z : Str), x = .str ⟨#[c]⟩ ∧ y = .str z ∧ Q (.bl (if neg then !decide (c ∈ z.cps.toList) else decide (c ∈ z.cps.toList))) H
def rInAll (K : PySem.W.Frag) (A : Around) (neg : Bool) : R2 := fun x y H Q => rInP K A neg x y H Q ∨ rInS neg x y H Q
theorem op_inO : OpR X (compareOp .In) (rInAll X.K X.A false) := OpR.or op_inP op_in_sign
theorem op_notInO : OpR X (compareOp .NotIn) (rInAll X.K X.A true) := OpR.or op_notInP op_notIn_sign
def rdIn (neg : Bool) : RD2
  | d, .list xs, Q => PyData.plainAll xs = true ∧ d.plain = true ∧ min (PyData.depthAll xs) d.depth ≤ 150 ∧ Q (.bool (if neg then !xs.any fun y => PyData.eqv y d else xs.any fun y => PyData.eqv y d))
  | d, .tuple xs, Q => PyData.plainAll xs = true ∧ d.plain = true ∧ min (PyData.depthAll xs) d.depth ≤ 150 ∧ Q (.bool (if neg then !xs.any fun y => PyData.eqv y d else xs.any fun y => PyData.eqv y d))
  | d, .str z, Q => ∃ c, d = .str ⟨#[c]⟩ ∧ Q (.bool (if neg then !decide (c ∈ z.cps.toList) else decide (c ∈ z.cps.toList)))
  | _, _, _ => False
theorem opd_in {A : Around} {k : Nat} {neg : Bool} (hr : Room k A) : OpD K (rInAll K A neg) (rdIn neg) := by
  intro F Z b H v u d e Q Q0 hh hv hu ht hq
  have hun := hr.un
  unfold rdIn at ht
  split at ht
  · obtain ⟨h1, h2, h3, h4⟩ := ht
    exact .inl ⟨_, _, _, hv.dp h2, hu.dp h1, .inl rfl, h1, h2, by omega, hq _ _ H (Go.refl hh.t) (.bl _) h4⟩
  · obtain ⟨h1, h2, h3, h4⟩ := ht
    exact .inl ⟨_, _, _, hv.dp h2, hu.dp h1, .inr rfl, h1, h2, by omega, hq _ _ H (Go.refl hh.t) (.bl _) h4⟩
  · obtain ⟨c, rfl, h⟩ := ht
    have e1 := hv.str
    have e2 := hu.str
    subst e1
    subst e2
    exact .inr ⟨c, _, rfl, rfl, hq _ _ H (Go.refl hh.t) (.bl _) h⟩
  · exact ht.elim
/-! ### subscripts -/
/-- an item by its number, from the end where this is below 0 -/
def ixD {α : Type} (xs : List α) : Int → Option α
  | .ofNat n => xs[n]?
  | .negSucc n => if n < xs.length then xs[xs.length - 1 - n]? else none
theorem atI_ixD {α : Type} {xs : List α} {i : Int} {v : α} (h : ixD xs i = some v) : L2.atI xs i = some v := by
  cases i with
  | ofNat n => exact L2.atI_nat h
  | negSucc n =>
    have h' : (if n < xs.length then xs[xs.length - 1 - n]? else none) = some v := h
    by_cases hn : n < xs.length
    · rw [if_pos hn] at h'
      unfold L2.atI L2.ixN
      rw [if_neg (by omega)]
      have e : (xs.length : Int) + Int.negSucc n = ((xs.length - 1 - n : Nat) : Int) := by omega
      simp only [Int.negSucc_eq] at e ⊢
      have e2 : (xs.length : Int) + -((n : Int) + 1) = ((xs.length - 1 - n : Nat) : Int) := by omega
      first
        | (rw [if_pos (by omega)]; simp only [Option.bind_some]; rw [show (-((n : Int) + 1) + (xs.length : Int)).toNat = xs.length - 1 - n by omega]; exact h')
        | (rw [if_pos (by omega)]; simp only [Option.bind_some]; rw [show ((xs.length : Int) + -((n : Int) + 1)).toNat = xs.length - 1 - n by omega]; exact h')
    · rw [if_neg hn] at h'
      cases h'
def rdIx : RD2
  | .tuple ds, .int i, Q => ∃ x, ixD ds i = some x ∧ Q x
  | .list ds, .int i, Q => ∃ x, ixD ds i = some x ∧ Q x
  | .str z, .int i, Q => ∃ c, z.length ≤ 1000000 ∧ ixD z.cps.toList i = some c ∧ Q (.str ⟨#[c]⟩)
  | _, _, _ => False
theorem DxAll.atI {B : Addr → Prop} {H : Hp} {vs : List V} {ds : List PyData} {i : Int} {x : PyData} (h : DxAll K B H vs ds) (e : L2.atI ds i = some x) : ∃ v, L2.atI vs i = some v ∧ Dx K B H v x := by
  unfold L2.atI at e ⊢
  rw [h.length]
  cases q : ixN ds.length i with
  | none => rw [q] at e; cases e
  | some j =>
    rw [q] at e
    exact h.getD e
theorem opd_ix : OpD K (rIx K) rdIx := by
  intro F Z b H v u d e Q Q0 hh hv hu ht hq
  unfold rdIx at ht
  split at ht
  · obtain ⟨x, h1, h2⟩ := ht
    have e2 := hu.int
    subst e2
    obtain ⟨a, us, rfl, hs, ha⟩ := hv.tup.inv
    obtain ⟨w, e3, hw⟩ := ha.atI (atI_ixD h1)
    exact .inr (.inl ⟨a, us, _, w, rfl, rfl, hs, e3, hq _ _ H (Go.refl hh.t) hw h2⟩)
  · obtain ⟨x, h1, h2⟩ := ht
    have e2 := hu.int
    subst e2
    obtain ⟨a, us, rfl, _, hs, ha⟩ := hv.lst
    obtain ⟨w, e3, hw⟩ := ha.atI (atI_ixD h1)
    exact .inl ⟨a, us, _, w, rfl, rfl, .inl (.inl hs), e3, hq _ _ H (Go.refl hh.t) hw h2⟩
  · obtain ⟨c, h0, h1, h2⟩ := ht
    have e2 := hu.int
    have e1 := hv.str
    subst e2
    subst e1
    exact .inr (.inr ⟨_, _, c, rfl, rfl, sz6 h0, atI_ixD h1, hq _ _ H (Go.refl hh.t) (.str _) h2⟩)
  · exact ht.elim
/-! ### chains: a < b < c -/
def dChain (rd rd' : RD2) (ta tb tc : DTE) : DTE := fun ρ b Q R => ta ρ b (fun d b1 => tb ρ b1 (fun e b2 => rd d e fun z => onB z fun k => cond k (tc ρ b2 (fun f b3 => rd' e f fun z' => Q z' b3) R) (Q (.bool false) b2)) R) R
section
variable {F : Fr} {W : WX} {a c e : Expr} {ta tb tc : DTE} {pos : Pos} {r r' : R2} {rd rd' : RD2} {op op' : CmpOp}
theorem chain_run (hd : OpD X.K r rd) (hd' : OpD X.K r' rd') (ha : DB X F W a ta) (hb : DB X F W c tb) (hc : DB X F W e tc) :
    ∃ t1 t2 t3, PE X a t1 ∧ PE X c t2 ∧ PE X e t3 ∧ ∀ σ H ρ b Z Q R Q0, Sl X.K F Z σ H ρ → F.T b H → dChain rd rd' ta tb tc ρ b Q R → (∀ v d H' b', Go F b H b' H' → Dx X.K (Bad F Z) H' v d → Q d b' → Q0 v H') → Met X F W σ b H R → tChain r r' t1 t2 t3 σ H Q0 := by
  obtain ⟨t1, p1, q1⟩ := ha.ex
  obtain ⟨t2, p2, q2⟩ := hb.ex
  obtain ⟨t3, p3, q3⟩ := hc.ex
  refine ⟨t1, t2, t3, p1, p2, p3, fun σ H ρ b Z Q R Q0 s hT ht hq m => ?_⟩
  refine q1 σ H ρ b Z _ R _ s hT ht (fun v d H1 b1 g1 x1 ht1 => ?_) m
  have s1 := s.go g1
  refine q2 σ H1 ρ b1 Z _ R _ s1 g1.r ht1 (fun u e H2 b2 g2 x2 ht2 => ?_) (m.go g1)
  have h1 := s1.hd g1.r
  have h2 := h1.go g2
  refine hd F Z b2 H2 v u d e _ _ h2 (x1.go h1 g2) x2 ht2 fun v' d' H3 g3 x3 hQ => ?_
  have g13 := (g1.trans g2).trans g3
  cases d' with
  | bool k =>
    have := x3.inv_bl
    subst this
    refine ⟨k, rfl, ?_⟩
    cases k with
    | false => exact iteF (hq _ _ H3 b2 g13 (.bl false) hQ)
    | true =>
      have s3 := (s1.go g2).go g3
      refine iteT (q3 σ H3 ρ b2 Z _ R _ s3 g13.r hQ (fun w f H4 b4 g4 x4 ht4 => ?_) (m.go g13))
      have h3 := s3.hd g13.r
      refine hd' F Z b4 H4 u w e f _ _ (h3.go g4) ((x2.go h2 g3).go h3 g4) x4 ht4 fun v5 d5 H5 g5 x5 hQ5 => ?_
      exact hq _ _ H5 b4 ((g13.trans g4).trans g5) x5 hQ5
  | _ => exact False.elim hQ
theorem de_chain (ho : OpR X (compareOp op) r) (ho' : OpR X (compareOp op') r') (hd : OpD X.K r rd) (hd' : OpD X.K r' rd') (ha : DB X F W a ta) (hb : DB X F W c tb) (hc : DB X F W e tc)
    (hm : lastMarks [op, op'] [c, e] = false := by with_unfolding_all rfl) : DE X F W (.Compare a [op, op'] [c, e] pos) (dChain rd rd' ta tb tc) := by
  obtain ⟨t1, t2, t3, p1, p2, p3, q⟩ := chain_run hd hd' ha hb hc
  exact ⟨_, pe_chain ho ho' p1 p2 p3 hm, q⟩
theorem dt_chain (ho : OpR X (compareOp op) r) (ho' : OpR X (compareOp op') r') (hd : OpD X.K r rd) (hd' : OpD X.K r' rd') (ha : DB X F W a ta) (hb : DB X F W c tb) (hc : DB X F W e tc)
    (hm : lastMarks [op, op'] [c, e] = false := by with_unfolding_all rfl) : DT X F W (.Compare a [op, op'] [c, e] pos) (dB (dChain rd rd' ta tb tc)) := by
  obtain ⟨t1, t2, t3, p1, p2, p3, q⟩ := chain_run hd hd' ha hb hc
  refine ⟨_, pt_chain ho ho' p1 p2 p3 hm, fun σ H ρ b Z Q R Q0 s hT ht hq m => ?_⟩
  refine q σ H ρ b Z _ R _ s hT ht (fun v d H' b' g x hd => ?_) m
  cases d with
  | bool k =>
    have := x.inv_bl
    subst this
    exact ⟨k, rfl, hq k H' b' g hd⟩
  | _ => exact False.elim hd
/-! ### - -/
def dNeg (t : DTE) : DTE := fun ρ b Q R => t ρ b (fun d b' => onI d fun i => Q (.int (-i)) b') R
theorem de_neg (h : DE X F W a ta) : DE X F W (.UnaryOp .USub a pos) (dNeg ta) := by
  obtain ⟨t0, p, q⟩ := h.ex
  refine ⟨_, pe_un un_neg p, fun σ H ρ b Z Q R Q0 s hT ht hq m => ?_⟩
  refine q σ H ρ b Z _ R _ s hT ht (fun v d H' b' g x hk => ?_) m
  cases d with
  | int i =>
    have := x.inv_int
    subst this
    exact ⟨i, rfl, hq _ _ H' b' g (.int _) hk⟩
  | _ => exact False.elim hk
end
end
end Df

set_option Elab.async false
set_option linter.all false
set_option maxRecDepth 100000
set_option maxHeartbeats 4000000
/-! DfS: statements by data. -/
namespace Df
open PySem PySem.Spec PyProof.Rows L2 Lf
structure DEnds where
  nx : List SV → Nat → Prop
  rt : DQ
  bk : List SV → Nat → Prop := fun _ _ => False
  ct : List SV → Nat → Prop := fun _ _ => False
  er : DR := R0
abbrev DTS := DEnds → List SV → Nat → Prop
/-- where a statement stands: from b0, H0 on; ps: what else has to stay -/
structure RS (K : PySem.W.Frag) (F : Fr) (b0 : Nat) (H0 : Hp) (ps : List (V × PyData)) (σ : L2.St) (H : Hp) (ρ : List SV) (b : Nat) : Prop where
  ex : ∃ Z, Sl K F Z σ H ρ ∧ Go F b0 H0 b H ∧ (∀ a i, Z a = some i → H0 a = none) ∧ ∀ p ∈ ps, Dx K (Bad F Z) H p.1 p.2
structure EndsR (X : Cx) (F : Fr) (W : WX) (b0 : Nat) (H0 : Hp) (ps : List (V × PyData)) (D' : DEnds) (D : Ends) : Prop where
  nx : ∀ σ H ρ b, RS X.K F b0 H0 ps σ H ρ b → D'.nx ρ b → D.nx σ H
  bk : ∀ σ H ρ b, RS X.K F b0 H0 ps σ H ρ b → D'.bk ρ b → D.bk σ H
  ct : ∀ σ H ρ b, RS X.K F b0 H0 ps σ H ρ b → D'.ct ρ b → D.ct σ H
  rt : ∀ v d H b, Go F b0 H0 b H → Dx X.K F.N H v d → D'.rt d b → D.rt v H
  er : ∀ cls x σ H b ed, Go F b0 H0 b H → ErrR X.K X.mg F.N H cls x ed → D'.er ed b → W cls x σ H
structure DS (X : Cx) (F : Fr) (W : WX) (s : Stmt) (t : DTS) : Prop where
  ex : ∃ t0, PS X s t0 ∧ ∀ b0 H0 ps σ H ρ b D D', RS X.K F b0 H0 ps σ H ρ b → t D' ρ b → EndsR X F W b0 H0 ps D' D → t0 D σ H
structure DSs (X : Cx) (F : Fr) (W : WX) (s : List Stmt) (t : DTS) : Prop where
  ex : ∃ t0, PSs X s t0 ∧ ∀ b0 H0 ps σ H ρ b D D', RS X.K F b0 H0 ps σ H ρ b → t D' ρ b → EndsR X F W b0 H0 ps D' D → t0 D σ H
section
variable {K : PySem.W.Frag} {F : Fr} {b0 b b' : Nat} {H0 H H' : Hp} {ps : List (V × PyData)} {σ : L2.St} {ρ : List SV} {Z : Addr → Option Nat} {v : V} {d : PyData} {vs : List V} {ds : List PyData}
theorem RS.mk' (s : Sl K F Z σ H ρ) (g : Go F b0 H0 b H) (hz : ∀ a i, Z a = some i → H0 a = none) (hp : ∀ p ∈ ps, Dx K (Bad F Z) H p.1 p.2) : RS K F b0 H0 ps σ H ρ b := ⟨Z, s, g, hz, hp⟩
theorem pins_go (s : Sl K F Z σ H ρ) (g : Go F b H b' H') (hp : ∀ p ∈ ps, Dx K (Bad F Z) H p.1 p.2) : ∀ p ∈ ps, Dx K (Bad F Z) H' p.1 p.2 := fun p h => Go.dx s g (hp p h)
/-- one's own list at a is written -/
theorem Sl.mut {i : Nat} {a : Addr} {xs' : List V} {ds' : List PyData} (s : Sl K F Z σ H ρ) (hσ : σ[i]? = some (some (.ref a))) (hZ : Z a = some i) (hx : DxAll K (Bad F Z) H xs' ds') : Sl K F Z σ (upd H a (.lst xs')) (ρ.set i (.ls ds')) ∧ Kz (Bad F Z) H (upd H a (.lst xs')) := by
  obtain ⟨na, o, ho, h1, h2, _⟩ := s.zp a i hZ
  have kz : Kz (Bad F Z) H (upd H a (.lst xs')) := Kz.mut (.inr (by rw [hZ]; rfl)) ho h1 h2
  refine ⟨⟨by rw [List.length_set, s.len], fun j w hj => ?_, fun c j hc => ?_⟩, kz⟩
  · by_cases e : i = j
    · subst e
      have hl : i < ρ.length := by
        have := (List.getElem?_eq_some_iff.mp hj).1
        simpa using this
      rw [List.getElem?_set_self hl] at hj
      cases hj
      exact ⟨a, xs', hσ, hZ, upd_same, DxAll.kz kz _ _ hx⟩
    · rw [List.getElem?_set_ne e] at hj
      have q := s.at' j w hj
      cases w with
      | no => exact trivial
      | im d =>
        obtain ⟨v, e1, x⟩ := q
        exact ⟨v, e1, Dx.kz kz _ _ x⟩
      | ls ds =>
        obtain ⟨c, xs, e1, z, x, y⟩ := q
        have nc : c ≠ a := fun q => by rw [q, hZ] at z; exact e (Option.some.inj z)
        exact ⟨c, xs, e1, z, (upd_ne nc).trans x, DxAll.kz kz _ _ y⟩
      | op v => exact q
      | st => exact q
      | er a' y c ed =>
        obtain ⟨e, fs, h1, n, f⟩ := q
        exact ⟨e, fs, kz.rd _ _ n h1, n, f.kz kz⟩
      | fn f c q' σ' ρ' =>
        obtain ⟨e, h1, n, o⟩ := q
        exact ⟨e, kz.rd _ _ n h1, n, o.up fun v d h => Dx.kz kz _ _ h⟩
  · obtain ⟨n, o, h, x⟩ := s.zp c j hc
    by_cases e : c = a
    · rw [e]
      exact ⟨na, _, upd_same, (fun _ z => by cases z), (fun _ _ z => by cases z), (fun _ z => by cases z), (fun _ z => by cases z)⟩
    · exact ⟨n, o, (upd_ne e).trans h, x⟩
/-- a new list becomes one's own, of slot i -/
theorem Sl.own {i : Nat} {a : Addr} {xs : List V} (s : Sl K F Z σ H ρ) (g : Go F b H b' H') (hn : H a = none) (hl : H' a = some (.lst xs)) (hx : DxAll K (fun y => Bad F Z y ∨ y = a) H' xs ds) :
    Sl K F (fun y => if y = a then some i else Z y) (σ.set i (some (.ref a))) H' (ρ.set i (.ls ds)) ∧ ∀ v d, Dx K (Bad F Z) H v d → Dx K (Bad F (fun y => if y = a then some i else Z y)) H' v d := by
  have sub : ∀ x, Bad F (fun y => if y = a then some i else Z y) x → Bad F Z x ∨ x = a := fun x hx => by
    rcases hx with hx | hx
    · exact .inl (.inl hx)
    · by_cases e : x = a
      · exact .inr e
      · have hx' : (if x = a then some i else Z x).isSome = true := hx
        rw [if_neg e] at hx'
        exact .inl (.inr hx')
  have na := g.nn hn
  have up : ∀ v d, Dx K (Bad F Z) H v d → Dx K (Bad F (fun y => if y = a then some i else Z y)) H' v d := fun v d h => by
    have h1 : Dx K (Bad F (fun y => if y = a then some i else Z y)) H v d := Dx.more (fun x hx => (sub x hx).elim .inl fun e => .inr (e ▸ hn)) _ _ h
    exact Dx.kz ((Df.Go.kz g).mono fun _ h => .inl h) _ _ h1
  have upA : ∀ vs ds, DxAll K (Bad F Z) H vs ds → DxAll K (Bad F (fun y => if y = a then some i else Z y)) H' vs ds := fun vs ds h => by
    have h1 : DxAll K (Bad F (fun y => if y = a then some i else Z y)) H vs ds := DxAll.more (fun x hx => (sub x hx).elim .inl fun e => .inr (e ▸ hn)) _ _ h
    exact DxAll.kz ((Df.Go.kz g).mono fun _ h => .inl h) _ _ h1
  refine ⟨⟨by rw [List.length_set, List.length_set, s.len], fun j w hj => ?_, fun c j hc => ?_⟩, up⟩
  · by_cases e : i = j
    · subst e
      have hl' : i < ρ.length := by
        have := (List.getElem?_eq_some_iff.mp hj).1
        simpa using this
      rw [List.getElem?_set_self hl'] at hj
      cases hj
      rw [List.getElem?_set_self (by rw [s.len]; exact hl')]
      exact ⟨a, xs, rfl, if_pos rfl, hl, DxAll.mono sub _ _ hx⟩
    · rw [List.getElem?_set_ne e] at hj
      rw [List.getElem?_set_ne e]
      have q := s.at' j w hj
      cases w with
      | no => exact trivial
      | im d =>
        obtain ⟨v, e1, x⟩ := q
        exact ⟨v, e1, up _ _ x⟩
      | ls ds =>
        obtain ⟨c, xs, e1, z, x, y⟩ := q
        have nc : c ≠ a := fun q => by rw [q, hn] at x; cases x
        exact ⟨c, xs, e1, by show (if c = a then some i else Z c) = some j; rw [if_neg nc]; exact z, g.keep (s.zp c j z).1 x, upA _ _ y⟩
      | op v => exact q
      | st => exact q
      | er a' y c ed =>
        obtain ⟨e, fs, h1, n, f⟩ := q
        exact ⟨e, fs, g.keep (fun z => n (.inl z)) h1, fun z => (sub _ z).elim n fun z => (by rw [z, hn] at h1; cases h1), f.up up⟩
      | fn f c q' σ' ρ' =>
        obtain ⟨e, h1, n, o⟩ := q
        exact ⟨e, g.keep (fun z => n (.inl z)) h1, fun z => (sub _ z).elim n fun z => (by rw [z, hn] at h1; cases h1), o.up up⟩
  · by_cases e : c = a
    · subst e
      exact ⟨na, _, hl, (fun _ z => by cases z), (fun _ _ z => by cases z), (fun _ z => by cases z), (fun _ z => by cases z)⟩
    · have hc : (if c = a then some i else Z c) = some j := hc
      rw [if_neg e] at hc
      obtain ⟨n, o, h, x⟩ := s.zp c j hc
      exact ⟨n, o, g.keep n h, x⟩
/-- one's own list stays as it is from now on -/
theorem Sl.freeze {i : Nat} (s : Sl K F Z σ H ρ) (h : ρ[i]? = some (.ls ds)) : ∃ a, σ[i]? = some (some (.ref a)) ∧ Z a = some i ∧ Sl K F (fun y => if y = a then none else Z y) σ H (ρ.set i (.im (.list ds))) ∧ ∀ v d, Dx K (Bad F Z) H v d → Dx K (Bad F (fun y => if y = a then none else Z y)) H v d := by
  obtain ⟨a, xs, e1, z, x, y⟩ := s.at' i _ h
  have sub : ∀ x, Bad F (fun y => if y = a then none else Z y) x → Bad F Z x := fun x hx => by
    rcases hx with hx | hx
    · exact .inl hx
    · by_cases e : x = a
      · have hx' : (if x = a then none else Z x).isSome = true := hx
        rw [if_pos e] at hx'
        cases hx'
      · have hx' : (if x = a then none else Z x).isSome = true := hx
        rw [if_neg e] at hx'
        exact .inr hx'
  have up : ∀ v d, Dx K (Bad F Z) H v d → Dx K (Bad F (fun y => if y = a then none else Z y)) H v d := fun v d h => Dx.mono sub _ _ h
  refine ⟨a, e1, z, ⟨by rw [List.length_set, s.len], fun j w hj => ?_, fun c j hc => ?_⟩, up⟩
  · by_cases e : i = j
    · subst e
      have hl' : i < ρ.length := by
        have := (List.getElem?_eq_some_iff.mp hj).1
        simpa using this
      rw [List.getElem?_set_self hl'] at hj
      cases hj
      refine ⟨_, e1, .lst (fun q => ?_) x (DxAll.mono sub _ _ y)⟩
      rcases q with q | q
      · exact (s.zp a i z).1 q
      · have q' : (if a = a then none else Z a).isSome = true := q
        rw [if_pos rfl] at q'
        cases q'
    · rw [List.getElem?_set_ne e] at hj
      have q := s.at' j w hj
      cases w with
      | no => exact trivial
      | im d =>
        obtain ⟨v, e2, x⟩ := q
        exact ⟨v, e2, up _ _ x⟩
      | ls ds =>
        obtain ⟨c, xs, e2, z2, x, y⟩ := q
        have nc : c ≠ a := fun q => by rw [q, z] at z2; exact e (Option.some.inj z2)
        exact ⟨c, xs, e2, by show (if c = a then none else Z c) = some j; rw [if_neg nc]; exact z2, x, DxAll.mono sub _ _ y⟩
      | op v => exact q
      | st => exact q
      | er a' y c ed =>
        obtain ⟨e, fs, h1, n, f⟩ := q
        exact ⟨e, fs, h1, fun z => n (sub _ z), f.up up⟩
      | fn f c q' σ' ρ' =>
        obtain ⟨e, h1, n, o⟩ := q
        exact ⟨e, h1, fun z => n (sub _ z), o.up up⟩
  · have hc : (if c = a then none else Z c) = some j := hc
    by_cases e : c = a
    · rw [if_pos e] at hc
      cases hc
    · rw [if_neg e] at hc
      exact s.zp c j hc
end
section
variable {X : Cx} {F : Fr} {W : WX} {s : Stmt} {ss : List Stmt} {e a c : Expr} {es : List Expr} {t u : DTS} {te ta tb : DTE} {tt : DTT} {pos : Pos}
theorem met_of {b0 b : Nat} {H0 H : Hp} {ps : List (V × PyData)} {D' : DEnds} {D : Ends} {σ : L2.St} (E : EndsR X F W b0 H0 ps D' D) (g : Go F b0 H0 b H) : Met X F W σ b H D'.er :=
  ⟨fun cls x H' b' ed g' e r => E.er cls x σ H' b' ed (g.trans g') e r⟩
/-! ### blocks -/
def sNil : DTS := fun D ρ b => D.nx ρ b
def sCons (t u : DTS) : DTS := fun D ρ b => t { D with nx := u D } ρ b
def sCut (t u : DTS) : DTS := fun D ρ b => ∃ M : List SV → Nat → Prop, t { D with nx := M } ρ b ∧ ∀ ρ b, M ρ b → u D ρ b
theorem dss_nil : DSs X F W [] sNil := ⟨_, pss_nil, fun b0 H0 ps σ H ρ b D D' r h E => E.nx σ H ρ b r h⟩
theorem dss_one (h : DS X F W s t) : DSs X F W [s] t := by
  obtain ⟨t0, p, q⟩ := h.ex
  exact ⟨t0, pss_one p, q⟩
theorem dss_cons (h : DS X F W s t) (h' : DSs X F W ss u) : DSs X F W (s :: ss) (sCons t u) := by
  obtain ⟨t0, p, q⟩ := h.ex
  obtain ⟨t1, p1, q1⟩ := h'.ex
  refine ⟨_, pss_cons p p1, fun b0 H0 ps σ H ρ b D D' r h E => ?_⟩
  exact q b0 H0 ps σ H ρ b _ _ r h ⟨fun σ H ρ b r h => q1 b0 H0 ps σ H ρ b D D' r h E, E.bk, E.ct, E.rt, E.er⟩
theorem dss_cut (h : DS X F W s t) (h' : DSs X F W ss u) : DSs X F W (s :: ss) (sCut t u) := by
  obtain ⟨t0, p, q⟩ := h.ex
  obtain ⟨t1, p1, q1⟩ := h'.ex
  refine ⟨_, pss_cons p p1, fun b0 H0 ps σ H ρ b D D' r h E => ?_⟩
  obtain ⟨M, h1, h2⟩ := h
  exact q b0 H0 ps σ H ρ b _ _ r h1 ⟨fun σ H ρ b r h => q1 b0 H0 ps σ H ρ b D D' r (h2 ρ b h) E, E.bk, E.ct, E.rt, E.er⟩
/-- from here on slot i is not written any more -/
def sFreeze (i : Nat) (t : DTS) : DTS := fun D ρ b => match ρ[i]? with
  | some (.ls ds) => t D (ρ.set i (.im (.list ds))) b
  | _ => t D ρ b
theorem dss_freeze (i : Nat) (h : DSs X F W ss t) : DSs X F W ss (sFreeze i t) := by
  obtain ⟨t0, p, q⟩ := h.ex
  refine ⟨t0, p, fun b0 H0 ps σ H ρ b D D' r h E => ?_⟩
  unfold sFreeze at h
  split at h
  · rename_i ds hds
    obtain ⟨Z, sl, g, hz, hp⟩ := r.ex
    obtain ⟨a, _, hZ, s1, up⟩ := sl.freeze hds
    refine q b0 H0 ps σ H _ b D D' ⟨_, s1, g, fun y j hy => ?_, fun p h => up _ _ (hp p h)⟩ h E
    have hy : (if y = a then none else Z y) = some j := hy
    by_cases e : y = a
    · rw [if_pos e] at hy; cases hy
    · rw [if_neg e] at hy; exact hz y j hy
  · exact q b0 H0 ps σ H ρ b D D' r h E
/-! ### small statements -/
def sRet (te : DTE) : DTS := fun D ρ b => te ρ b D.rt D.er
theorem ds_ret (he : DB X F W e te) : DS X F W (.Return (some e) pos) (sRet te) := by
  obtain ⟨t0, p, q⟩ := he.ex
  refine ⟨_, ps_ret p, fun b0 H0 ps σ H ρ b D D' r h E => ?_⟩
  obtain ⟨Z, s, g, hz, hp⟩ := r.ex
  exact q σ H ρ b Z _ _ _ s g.r h (fun v d H' b' g' x hd => E.rt v d H' b' (g.trans g') x.n hd) (met_of E g)
def sRetN : DTS := fun D _ b => D.rt .none b
theorem ds_retN : DS X F W (.Return none pos) sRetN := by
  refine ⟨_, ps_retN, fun b0 H0 ps σ H ρ b D D' r h E => ?_⟩
  obtain ⟨Z, s, g, hz, hp⟩ := r.ex
  exact E.rt .non .none H b g .non h
def sDrop (te : DTE) : DTS := fun D ρ b => te ρ b (fun _ b' => D.nx ρ b') D.er
theorem ds_expr (he : DB X F W e te) (hs : swapsWith e none pos.line X.env = pure false := by rfl) : DS X F W (.Expr e pos) (sDrop te) := by
  obtain ⟨t0, p, q⟩ := he.ex
  refine ⟨_, ps_expr p hs, fun b0 H0 ps σ H ρ b D D' r h E => ?_⟩
  obtain ⟨Z, s, g, hz, hp⟩ := r.ex
  exact q σ H ρ b Z _ _ _ s g.r h (fun v d H' b' g' x hd => E.nx _ _ _ _ (.mk' (s.go g') (g.trans g') hz (pins_go s g' hp)) hd) (met_of E g)
theorem ds_pass : DS X F W (.Pass pos) sNil := ⟨_, ps_pass, fun b0 H0 ps σ H ρ b D D' r h E => E.nx _ _ _ _ r h⟩
theorem ds_doc {x j pos'} : DS X F W (.Expr (.Constant (.str x) j pos) pos') sNil := ⟨_, ps_doc, fun b0 H0 ps σ H ρ b D D' r h E => E.nx _ _ _ _ r h⟩
def sBreak : DTS := fun D ρ b => D.bk ρ b
def sCont : DTS := fun D ρ b => D.ct ρ b
theorem ds_break : DS X F W (.Break pos) sBreak := ⟨_, ps_break, fun b0 H0 ps σ H ρ b D D' r h E => E.bk _ _ _ _ r h⟩
theorem ds_continue : DS X F W (.Continue pos) sCont := ⟨_, ps_continue, fun b0 H0 ps σ H ρ b D D' r h E => E.ct _ _ _ _ r h⟩
def sIf (tt : DTT) (t u : DTS) : DTS := fun D ρ b => tt ρ b (fun k b' => cond k (t D ρ b') (u D ρ b')) D.er
theorem ds_if {ss' : List Stmt} (hc : DT X F W c tt) (h : DSs X F W ss t) (h' : DSs X F W ss' u) : DS X F W (.If c ss ss' pos) (sIf tt t u) := by
  obtain ⟨tc, pc, qc⟩ := hc.ex
  obtain ⟨t0, p, q⟩ := h.ex
  obtain ⟨t1, p1, q1⟩ := h'.ex
  refine ⟨_, ps_if pc p p1, fun b0 H0 ps σ H ρ b D D' r h E => ?_⟩
  obtain ⟨Z, s, g, hz, hp⟩ := r.ex
  refine qc σ H ρ b Z _ _ _ s g.r h (fun k H' b' g' hk => ?_) (met_of E g)
  have r' : RS X.K F b0 H0 ps σ H' ρ b' := .mk' (s.go g') (g.trans g') hz (pins_go s g' hp)
  cases k with
  | true => exact iteT (q b0 H0 ps σ H' ρ b' D D' r' hk E)
  | false => exact iteF (q1 b0 H0 ps σ H' ρ b' D D' r' hk E)
/-! ### targets -/
abbrev DTG := PyData → List SV → (List SV → Prop) → Prop
abbrev DTGs := List PyData → List SV → (List SV → Prop) → Prop
structure DG (X : Cx) (F : Fr) (tg : Expr) (js : List Nat) (g : DTG) : Prop where
  ex : ∃ g0, PG X tg g0 ∧ ∀ v d σ H ρ Z Q Q0, Sl X.K F Z σ H ρ → Dx X.K (Bad F Z) H v d → g d ρ Q →
    (∀ σ' ρ', Sl X.K F Z σ' H ρ' → (∀ vs, (∀ j ∈ js, j ∈ vs) → wipe σ' vs = wipe σ vs) → Q ρ' → Q0 σ' H) → g0 v σ H Q0
structure DGs (X : Cx) (F : Fr) (tgs : List Expr) (js : List Nat) (g : DTGs) : Prop where
  ex : ∃ g0, PGs X tgs g0 ∧ ∀ vs ds σ H ρ Z Q Q0, Sl X.K F Z σ H ρ → DxAll X.K (Bad F Z) H vs ds → g ds ρ Q →
    (∀ σ' ρ', Sl X.K F Z σ' H ρ' → (∀ vs, (∀ j ∈ js, j ∈ vs) → wipe σ' vs = wipe σ vs) → Q ρ' → Q0 σ' H) → g0 vs σ H Q0
theorem wipe_set {σ : L2.St} {i : Nat} {o : Option V} : ∀ {vs : List Nat}, i ∈ vs → wipe (σ.set i o) vs = wipe σ vs
  | [], h => by cases h
  | v :: r, h => by
    unfold wipe
    by_cases hr : i ∈ r
    · rw [wipe_set hr]
    · have e : i = v := by
        rcases List.mem_cons.mp h with h | h
        · exact h
        · exact absurd h hr
      subst e
      have q : ∀ (r : List Nat), i ∉ r → wipe (σ.set i o) r = (wipe σ r).set i o := fun r => by
        induction r with
        | nil => intro _; rfl
        | cons w r ih =>
          intro hw
          unfold wipe
          rw [ih (fun z => hw (List.mem_cons_of_mem _ z))]
          exact List.set_comm _ _ (fun z => hw (z ▸ List.mem_cons_self))
      rw [q r hr, List.set_set]
def gN (i : Nat) : DTG := fun d ρ Q => Q (ρ.set i (.im d))
theorem dg_name {i : Nat} {x : Str} (hN : X.N.Nodup) (hi : X.N[i]? = some x) (hx : Loc X.env.scope x) (hf : X.fn x = true ∨ X.env.scope.names.lookup x = some .local := by first | exact .inl rfl | exact .inr rfl | assumption) : DG X F (.Name x pos) [i] (gN i) := by
  refine ⟨_, pg_name hN hi hx hf, fun v d σ H ρ Z Q Q0 s x h hq => ?_⟩
  exact hq _ _ (s.setIm i x) (fun vs h => wipe_set (h i List.mem_cons_self)) h
def gsN : DTGs := fun ds ρ Q => ds = [] ∧ Q ρ
def gsC (g : DTG) (u : DTGs) : DTGs := fun ds ρ Q => match ds with
  | d :: r => g d ρ (fun ρ' => u r ρ' Q)
  | [] => False
theorem dgs_nil : DGs X F [] [] gsN := ⟨_, pgs_nil, fun vs ds σ H ρ Z Q Q0 s x h hq => by
  obtain ⟨rfl, h⟩ := h
  cases x
  exact ⟨rfl, hq σ ρ s (fun _ _ => rfl) h⟩⟩
theorem dgs_cons {js ks : List Nat} {g : DTG} {u : DTGs} (h : DG X F e js g) (h' : DGs X F es ks u) (hs : (assignEach (e :: es) X.env).map (·.2) = assign e X.env :: (assignEach es X.env).map (·.2) := by rfl) : DGs X F (e :: es) (js ++ ks) (gsC g u) := by
  obtain ⟨g0, p, q⟩ := h.ex
  obtain ⟨u0, p1, q1⟩ := h'.ex
  refine ⟨_, pgs_cons p p1 hs, fun vs ds σ H ρ Z Q Q0 s x h hq => ?_⟩
  cases x with
  | nil => exact h.elim
  | cons h1 h2 =>
    refine ⟨_, _, rfl, q _ _ σ H ρ Z _ _ s h1 h fun σ1 ρ1 s1 w1 hk => ?_⟩
    refine q1 _ _ σ1 H ρ1 Z _ _ s1 h2 hk fun σ2 ρ2 s2 w2 hk2 => hq σ2 ρ2 s2 (fun vs hv => ?_) hk2
    rw [w2 vs fun j hj => hv j (List.mem_append_right _ hj), w1 vs fun j hj => hv j (List.mem_append_left _ hj)]
def gT (n : Nat) (u : DTGs) : DTG
  | .tuple ds, ρ, Q => ds.length = n ∧ u ds ρ Q
  | _, _, _ => False
theorem dg_tup {k : Nat} {js : List Nat} {u : DTGs} {n : Nat} (hc : X.calm = true) (h : DGs X F es js u)
    (hn : (assignEach es X.env).length = n := by rfl) (hst : (assignEach es X.env).findIdx? (·.1) = none := by rfl) : DG X F (.Tuple es k pos) js (gT n u) := by
  obtain ⟨g0, p, q⟩ := h.ex
  refine ⟨_, pg_tup hc p hn hst, fun v d σ H ρ Z Q Q0 s x h hq => ?_⟩
  unfold gT at h
  split at h
  · obtain ⟨a, xs, rfl, hs, ha⟩ := x.inv
    exact ⟨a, xs, rfl, hs, by rw [ha.length]; exact h.1, q _ _ σ H ρ Z Q Q0 s ha h.2 hq⟩
  · exact h.elim
def sAsg (te : DTE) (g : DTG) : DTS := fun D ρ b => te ρ b (fun d b' => g d ρ (fun ρ' => D.nx ρ' b')) D.er
theorem ds_asg {tg : Expr} {js : List Nat} {g : DTG} (he : DE X F W e te) (hg : DG X F tg js g) (hs : swapsWithSole [tg] e pos.line X.env = pure false := by rfl) (hw : swappedStores [tg] e X.env = pure none := by rfl)
    (h1 : (assignEach [tg] X.env).map (·.2) = [assign tg X.env] := by rfl) : DS X F W (.Assign [tg] e pos) (sAsg te g) := by
  obtain ⟨t0, p, q⟩ := he.ex
  obtain ⟨g0, pg, qg⟩ := hg.ex
  refine ⟨_, ps_asg p pg hs hw h1, fun b0 H0 ps σ H ρ b D D' r h E => ?_⟩
  obtain ⟨Z, s, gg, hz, hp⟩ := r.ex
  refine q σ H ρ b Z _ _ _ s gg.r h (fun v d H' b' g' x hd => ?_) (met_of E gg)
  exact qg v d σ H' ρ Z _ _ (s.go g') x hd fun σ' ρ' s' _ hk => E.nx _ _ _ _ (.mk' s' (gg.trans g') hz (pins_go s g' hp)) hk
def sSet (i : Nat) (te : DTE) : DTS := fun D ρ b => te ρ b (fun d b' => D.nx (ρ.set i (.im d)) b') D.er
theorem ds_set {i : Nat} {x : Str} {pos' : Pos} (hN : X.N.Nodup) (hi : X.N[i]? = some x) (hx : Loc X.env.scope x) (he : DE X F W e te) (hs : swapsWith e (some (.Name x pos')) pos.line X.env = pure false := by rfl) (hf : X.fn x = true ∨ X.env.scope.names.lookup x = some .local := by first | exact .inl rfl | exact .inr rfl | assumption) :
    DS X F W (.Assign [.Name x pos'] e pos) (sSet i te) := by
  obtain ⟨t0, p, q⟩ := he.ex
  refine ⟨_, ps_set (i := i) hN hi hx p hs hf, fun b0 H0 ps σ H ρ b D D' r h E => ?_⟩
  obtain ⟨Z, s, gg, hz, hp⟩ := r.ex
  refine q σ H ρ b Z _ _ _ s gg.r h (fun v d H' b' g' x hd => ?_) (met_of E gg)
  exact E.nx _ _ _ _ (.mk' ((s.go g').setIm i x) (gg.trans g') hz (pins_go s g' hp)) hd
/-- a new list, one's own -/
def sOwn (i : Nat) (te : DTF) : DTS := fun D ρ b => te ρ b (fun ds b' => D.nx (ρ.set i (.ls ds)) b') D.er
theorem own_rs {b0 b b' : Nat} {H0 H H' : Hp} {ps : List (V × PyData)} {σ : L2.St} {ρ : List SV} {Z : Addr → Option Nat} {i : Nat} {y : Addr} {xs : List V} {ds : List PyData} (s : Sl X.K F Z σ H ρ) (gg : Go F b0 H0 b H) (hz : ∀ a i, Z a = some i → H0 a = none) (hp : ∀ p ∈ ps, Dx X.K (Bad F Z) H p.1 p.2)
    (g' : Go F b H b' H') (hn : H y = none) (hl : H' y = some (.lst xs)) (hx : DxAll X.K (fun z => Bad F Z z ∨ z = y) H' xs ds) : RS X.K F b0 H0 ps (σ.set i (some (.ref y))) H' (ρ.set i (.ls ds)) b' := by
  obtain ⟨s1, up⟩ := s.own (i := i) g' hn hl hx
  refine .mk' s1 (gg.trans g') (fun a j ha => ?_) fun p h => up _ _ (hp p h)
  have ha : (if a = y then some i else Z a) = some j := ha
  by_cases e : a = y
  · rw [e]; exact gg.was hn
  · rw [if_neg e] at ha; exact hz a j ha
theorem ds_own {i : Nat} {x : Str} {pos' : Pos} {te : DTF} (hN : X.N.Nodup) (hi : X.N[i]? = some x) (hx : Loc X.env.scope x) (he : DF X F W e te) (hs : swapsWith e (some (.Name x pos')) pos.line X.env = pure false := by rfl) (hf : X.fn x = true ∨ X.env.scope.names.lookup x = some .local := by first | exact .inl rfl | exact .inr rfl | assumption) :
    DS X F W (.Assign [.Name x pos'] e pos) (sOwn i te) := by
  obtain ⟨t0, p, q⟩ := he.ex
  refine ⟨_, ps_set (i := i) hN hi hx p hs hf, fun b0 H0 ps σ H ρ b D D' r h E => ?_⟩
  obtain ⟨Z, s, gg, hz, hp⟩ := r.ex
  refine q σ H ρ b Z _ _ _ s gg.r h (fun y xs ds H' b' g' hn hl hx hd => ?_) (met_of E gg)
  exact E.nx _ _ _ _ (own_rs s gg hz hp g' hn hl hx) hd
/-- a, b = x, y -/
def sPar (i j : Nat) (tl : DTL) : DTS := fun D ρ b => tl ρ b (fun ds b' => match ds with
  | [d, e] => D.nx ((ρ.set i (.im d)).set j (.im e)) b'
  | _ => False) D.er
theorem ds_par {i j : Nat} {x y : Str} {tl : DTL} {px py pt : Pos} {kt k2 pt2} (hc : X.calm = true) (hN : X.N.Nodup) (hi : X.N[i]? = some x) (hj : X.N[j]? = some y) (hij : i ≠ j)
    (hx : X.env.scope.names.lookup x = some .local) (hy : X.env.scope.names.lookup y = some .local) (ha : DL X F W [a, c] tl)
    (hw : swappedStores [.Tuple [.Name x px, .Name y py] kt pt] (.Tuple [a, c] k2 pt2) X.env = pure (some [x, y]))
    (hs : swapsWithSole [.Tuple [.Name x px, .Name y py] kt pt] (.Tuple [a, c] k2 pt2) pos.line X.env = pure false := by rfl) :
    DS X F W (.Assign [.Tuple [.Name x px, .Name y py] kt pt] (.Tuple [a, c] k2 pt2) pos) (sPar i j tl) := by
  obtain ⟨t0, p, q⟩ := ha.ex
  refine ⟨_, ps_par hc hN hi hj hij hx hy p hw hs, fun b0 H0 ps σ H ρ b D D' r h E => ?_⟩
  obtain ⟨Z, s, gg, hz, hp⟩ := r.ex
  refine q σ H ρ b Z _ _ _ s gg.r h (fun vs ds H' b' g' x _ hd => ?_) (met_of E gg)
  split at hd
  · cases x with
    | cons h1 h2 =>
      cases h2 with
      | cons h2 h3 =>
        cases h3
        exact ⟨_, _, rfl, E.nx _ _ _ _ (.mk' (((s.go g').setIm i h1).setIm j h2) (gg.trans g') hz (pins_go s g' hp)) hd⟩
  · exact hd.elim
/-- name op= e, by data -/
def sAug (f : Int → Int → Int) (i : Nat) (te : DTE) : DTS := fun D ρ b => match ρ[i]? with
  | some (.im (.int m)) => te ρ b (fun e b' => match e with
    | .int n => D.nx (ρ.set i (.im (.int (f m n)))) b'
    | _ => False) D.er
  | _ => False
theorem ds_aug {i : Nat} {x : Str} {op : Operator} {f : Int → Int → Int} {pos' : Pos} (hN : X.N.Nodup) (hi : X.N[i]? = some x) (hx : Loc X.env.scope x) (he : DE X F W e te) (ho : PIp X op (ipI f)) (hf : X.fn x = true ∨ X.env.scope.names.lookup x = some .local := by first | exact .inl rfl | exact .inr rfl | assumption) :
    DS X F W (.AugAssign (.Name x pos') op e pos) (sAug f i te) := by
  obtain ⟨t0, p, q⟩ := he.ex
  refine ⟨_, ps_aug (i := i) hN hi hx p ho hf, fun b0 H0 ps σ H ρ b D D' r h E => ?_⟩
  obtain ⟨Z, s, gg, hz, hp⟩ := r.ex
  unfold sAug at h
  split at h
  · rename_i m hm
    obtain ⟨v, e1, x1⟩ := s.im hm
    have e2 := x1.inv_int
    subst e2
    refine ⟨_, e1, q σ H ρ b Z _ _ _ s gg.r h (fun v d H' b' g' x hd => ?_) (met_of E gg)⟩
    cases d with
    | int n =>
      have e3 := x.inv_int
      subst e3
      exact ⟨m, n, rfl, rfl, E.nx _ _ _ _ (.mk' ((s.go g').setIm i (.int _)) (gg.trans g') hz (pins_go s g' hp)) hd⟩
    | _ => exact hd.elim
  · exact h.elim
/-! ### lists of one's own -/
theorem mut_rs {b0 b : Nat} {H0 H : Hp} {ps : List (V × PyData)} {σ : L2.St} {ρ : List SV} {Z : Addr → Option Nat} {i : Nat} {y : Addr} {xs' : List V} {ds' : List PyData} (s : Sl X.K F Z σ H ρ) (gg : Go F b0 H0 b H) (hz : ∀ a i, Z a = some i → H0 a = none) (hp : ∀ p ∈ ps, Dx X.K (Bad F Z) H p.1 p.2)
    (hσ : σ[i]? = some (some (.ref y))) (hZ : Z y = some i) (hx : DxAll X.K (Bad F Z) H xs' ds') (nx : ∀ o, H y ≠ some (.ext o) := by first | exact nx_lst (by assumption) | exact nx_dK (by assumption)) : RS X.K F b0 H0 ps σ (upd H y (.lst xs')) (ρ.set i (.ls ds')) b := by
  obtain ⟨s1, kz⟩ := s.mut hσ hZ hx
  exact .mk' s1 (gg.put (hz _ _ hZ) nx) hz fun p h => Dx.kz kz _ _ (hp p h)
def sAppend (i : Nat) (te : DTE) : DTS := fun D ρ b => match ρ[i]? with
  | some (.ls ds) => te ρ b (fun d b' => ds.length < 1000000 ∧ D.nx (ρ.set i (.ls (ds ++ [d]))) b') D.er
  | _ => False
theorem ds_append {i : Nat} {x : Str} {xp apos cpos : Pos} (hi : X.N[i]? = some x) (hv : Vis X.env.scope x) (he : DE X F W e te) (hd : (x == ("__debug__" : Str)) = false := by decide) (hcd : (x == ("__classdict__" : Str)) = false := by decide)
    (hbase : attributeBase (.Name x xp) "append" X.env (eval (.Name x xp) X.env) = eval (.Name x xp) X.env := by rfl)
    (hfew : ((backTo cpos (starEach [e] X.env)).all (fun x => !x.1) && (backToKw cpos (keywordEach [] X.env)).all (fun x => x.1.isSome)
      && decide (([e] : List Expr).length + ([] : List Keyword).length + (if ([] : List Keyword).isEmpty then 0 else 1) < 30)) = true := by rfl)
    (hline : (apos.endLine == cpos.line) = true := by rfl) (hs1 : starEach [e] X.env = (false, eval e X.env) :: starEach [] X.env := by rfl) (hplain : (backTo cpos (starEach [] X.env)).any (·.1) = false := by rfl)
    (hs : swapsWith (.Call (.Attribute (.Name x xp) "append" apos) [e] [] cpos) none pos.line X.env = pure false := by rfl) :
    DS X F W (.Expr (.Call (.Attribute (.Name x xp) "append" apos) [e] [] cpos) pos) (sAppend i te) := by
  obtain ⟨t0, p, q⟩ := he.ex
  refine ⟨_, ps_expr (pe_bm PySem.F.plainAttrs_list PySem.F.slot_list_append PySem.F.type_list_append mt_append (pe_var (i := i) hi hv hd hcd) (pa_cons p pa_nil hs1) hbase hfew hline hs1 hplain) hs, fun b0 H0 ps σ H ρ b D D' r h E => ?_⟩
  obtain ⟨Z, s, gg, hz, hp⟩ := r.ex
  unfold sAppend at h
  split at h
  · rename_i ds hds
    obtain ⟨y, xs, e1, z1, x1, y1⟩ := s.at' i _ hds
    refine ⟨_, e1, .inl ⟨rfl, _, SqL.of x1⟩, q σ H ρ b Z _ _ _ s gg.r h (fun v d H' b' g' x hd => ?_) (met_of E gg)⟩
    have x2 := g'.keep (s.zp y i z1).1 x1
    have y2 := Go.dxa s g' y1
    refine ⟨y, xs, v, rfl, rfl, x2, by rw [y1.length]; exact sz6' hd.1, ?_⟩
    exact E.nx _ _ _ _ (mut_rs (s.go g') (gg.trans g') hz (pins_go s g' hp) e1 z1 (y2.snoc x)) hd.2
  · exact h.elim
/-- target = xs.pop() -/
def sPop (i : Nat) (g : DTG) : DTS := fun D ρ b => match ρ[i]? with
  | some (.ls ds) => ∃ r d, ds = r ++ [d] ∧ g d (ρ.set i (.ls r)) (fun ρ' => D.nx ρ' b)
  | _ => False
theorem pop_run {b0 b : Nat} {H0 H : Hp} {ps : List (V × PyData)} {σ : L2.St} {ρ : List SV} {i : Nat} {r : List PyData} {d : PyData} {Q : VK} (rs : RS X.K F b0 H0 ps σ H ρ b) (h : ρ[i]? = some (.ls (r ++ [d])))
    (q : ∀ v y xs Z, Sl X.K F Z σ (upd H y (.lst xs)) (ρ.set i (.ls r)) → Go F b0 H0 b (upd H y (.lst xs)) → (∀ a i, Z a = some i → H0 a = none) → (∀ p ∈ ps, Dx X.K (Bad F Z) (upd H y (.lst xs)) p.1 p.2) → Dx X.K (Bad F Z) (upd H y (.lst xs)) v d → Q v (upd H y (.lst xs))) :
    tBM0 X.K "list" rPop (tVar i) σ H Q := by
  obtain ⟨Z, s, gg, hz, hp⟩ := rs.ex
  obtain ⟨y, xs, e1, z1, x1, y1⟩ := s.at' i _ h
  have hl := y1.length
  rw [List.length_append, List.length_singleton] at hl
  obtain ⟨w, hw⟩ : ∃ w, xs[xs.length - 1]? = some w := ⟨xs[xs.length - 1]'(by omega), List.getElem?_eq_getElem _⟩
  obtain ⟨d', hd', hx'⟩ := y1.get hw
  have ed : d' = d := by
    rw [hl, Nat.add_sub_cancel, List.getElem?_append_right (Nat.le_refl _), Nat.sub_self] at hd'
    exact (Option.some.inj hd').symm
  subst ed
  have hr : DxAll X.K (Bad F Z) H xs.dropLast r := by
    have := y1.take r.length
    rw [List.take_left] at this
    rw [List.dropLast_eq_take, hl, Nat.add_sub_cancel]
    exact this
  obtain ⟨s1, kz⟩ := s.mut e1 z1 hr
  refine ⟨_, e1, .inl ⟨rfl, _, SqL.of x1⟩, y, xs, w, rfl, rfl, x1, hw, ?_⟩
  exact q w y _ Z s1 (gg.put (hz _ _ z1) (nx_lst x1)) hz (fun p h => Dx.kz kz _ _ (hp p h)) (Dx.kz kz _ _ hx')
theorem ds_popG {i : Nat} {x : Str} {tg : Expr} {js : List Nat} {g : DTG} {xp apos cpos : Pos} (hi : X.N[i]? = some x) (hv : Vis X.env.scope x) (hg : DG X F tg js g) (hd : (x == ("__debug__" : Str)) = false := by decide) (hcd : (x == ("__classdict__" : Str)) = false := by decide)
    (hbase : attributeBase (.Name x xp) "pop" X.env (eval (.Name x xp) X.env) = eval (.Name x xp) X.env := by rfl) (hline : (apos.endLine == cpos.line) = true := by rfl)
    (hs : swapsWithSole [tg] (.Call (.Attribute (.Name x xp) "pop" apos) [] [] cpos) pos.line X.env = pure false := by rfl) (hw : swappedStores [tg] (.Call (.Attribute (.Name x xp) "pop" apos) [] [] cpos) X.env = pure none := by rfl)
    (h1 : (assignEach [tg] X.env).map (·.2) = [assign tg X.env] := by rfl) :
    DS X F W (.Assign [tg] (.Call (.Attribute (.Name x xp) "pop" apos) [] [] cpos) pos) (sPop i g) := by
  obtain ⟨g0, pg, qg⟩ := hg.ex
  refine ⟨_, ps_asg (pe_bm0 PySem.F.plainAttrs_list PySem.F.slot_list_pop PySem.F.type_list_pop mt_pop (pe_var (i := i) hi hv hd hcd) hbase hline) pg hs hw h1, fun b0 H0 ps σ H ρ b D D' r h E => ?_⟩
  unfold sPop at h
  split at h
  · rename_i ds hds
    obtain ⟨rr, d, rfl, hg⟩ := h
    refine pop_run r hds fun v y xs Z s1 g1 hz hp hx => ?_
    exact qg v d σ _ _ Z _ _ s1 hx hg fun σ' ρ' s' _ hk => E.nx _ _ _ _ (.mk' s' g1 hz hp) hk
  · exact h.elim
theorem ds_popN {i j : Nat} {x z : Str} {xp apos cpos pos' : Pos} (hN : X.N.Nodup) (hj : X.N[j]? = some z) (hz : Loc X.env.scope z) (hi : X.N[i]? = some x) (hv : Vis X.env.scope x) (hd : (x == ("__debug__" : Str)) = false := by decide) (hcd : (x == ("__classdict__" : Str)) = false := by decide)
    (hbase : attributeBase (.Name x xp) "pop" X.env (eval (.Name x xp) X.env) = eval (.Name x xp) X.env := by rfl) (hline : (apos.endLine == cpos.line) = true := by rfl)
    (hs : swapsWith (.Call (.Attribute (.Name x xp) "pop" apos) [] [] cpos) (some (.Name z pos')) pos.line X.env = pure false := by rfl) (hf : X.fn z = true ∨ X.env.scope.names.lookup z = some .local := by first | exact .inl rfl | exact .inr rfl | assumption) :
    DS X F W (.Assign [.Name z pos'] (.Call (.Attribute (.Name x xp) "pop" apos) [] [] cpos) pos) (sPop i (gN j)) := by
  refine ⟨_, ps_set (i := j) hN hj hz (pe_bm0 PySem.F.plainAttrs_list PySem.F.slot_list_pop PySem.F.type_list_pop mt_pop (pe_var (i := i) hi hv hd hcd) hbase hline) hs hf, fun b0 H0 ps σ H ρ b D D' r h E => ?_⟩
  unfold sPop at h
  split at h
  · rename_i ds hds
    obtain ⟨rr, d, rfl, hg⟩ := h
    refine pop_run r hds fun v y xs Z s1 g1 hz hp hx => ?_
    exact E.nx _ _ _ _ (.mk' (s1.setIm j hx) g1 hz hp) hg
  · exact h.elim
/-- xs[k] = e -/
def sSetI (i : Nat) (te tk : DTE) : DTS := fun D ρ b => match ρ[i]? with
  | some (.ls ds) => te ρ b (fun d b1 => tk ρ b1 (fun k b2 => match k with
    | .int n => ∃ j, ixN ds.length n = some j ∧ D.nx (ρ.set i (.ls (ds.set j d))) b2
    | _ => False) D.er) D.er
  | _ => False
theorem ds_setI {i : Nat} {x : Str} {k : Expr} {tk : DTE} {xp spos : Pos} (hi : X.N[i]? = some x) (hv : Vis X.env.scope x) (he : DE X F W e te) (hk : DE X F W k tk) (hd : (x == ("__debug__" : Str)) = false := by decide) (hcd : (x == ("__classdict__" : Str)) = false := by decide)
    (ha : ∀ v, assign (.Subscript (.Name x xp) k spos) X.env v = (do
      let ov ← holding [v] (eval (.Name x xp) X.env)
      let iv ← holding [v, ov] (eval k X.env)
      standAt spos
      holding [v, ov, iv] (setItem ov iv v)
      release [v, ov, iv] []) := by intro _; rfl)
    (hs : swapsWithSole [.Subscript (.Name x xp) k spos] e pos.line X.env = pure false := by rfl) (hw : swappedStores [.Subscript (.Name x xp) k spos] e X.env = pure none := by rfl)
    (h1 : (assignEach [.Subscript (.Name x xp) k spos] X.env).map (·.2) = [assign (.Subscript (.Name x xp) k spos) X.env] := by rfl) :
    DS X F W (.Assign [.Subscript (.Name x xp) k spos] e pos) (sSetI i te tk) := by
  obtain ⟨t0, p, q⟩ := he.ex
  obtain ⟨t1, p1, q1⟩ := hk.ex
  refine ⟨_, ps_asg p (pg_sub (pe_var (i := i) hi hv hd hcd) p1 set_list ha) hs hw h1, fun b0 H0 ps σ H ρ b D D' r h E => ?_⟩
  obtain ⟨Z, s, gg, hz, hp⟩ := r.ex
  unfold sSetI at h
  split at h
  · rename_i ds hds
    refine q σ H ρ b Z _ _ _ s gg.r h (fun v d H' b' g' x hd => ?_) (met_of E gg)
    have s1 := s.go g'
    have m1 := met_of (σ := σ) E (gg.trans g')
    obtain ⟨y, xs, e1, z1, x1, y1⟩ := s1.at' i _ hds
    refine ⟨_, e1, q1 σ H' ρ b' Z _ _ _ s1 g'.r hd (fun v2 d2 H2 b2 g2 xk hd2 => ?_) m1⟩
    split at hd2
    · rename_i n
      obtain ⟨j, hj, hn⟩ := hd2
      have e4 := xk.inv_int
      subst e4
      have x2 := g2.keep (s1.zp y i z1).1 x1
      have y2 := Go.dxa s1 g2 y1
      refine ⟨y, xs, n, j, rfl, rfl, x2, by rw [y1.length]; exact hj, ?_⟩
      exact E.nx _ _ _ _ (mut_rs (s1.go g2) ((gg.trans g').trans g2) hz (pins_go s1 g2 (pins_go s g' hp)) e1 z1 (y2.set j (Go.dx s1 g2 x))) hn
    · exact hd2.elim
  · exact h.elim
end
end Df

set_option Elab.async false
set_option linter.all false
set_option maxRecDepth 100000
set_option maxHeartbeats 4000000
/-! DfI: what is walked, by data; for, while, comprehensions. -/
namespace Df
open PySem PySem.Spec PyProof.Rows L2 Lf
/-- J gives the things ds, one a turn, while v is the data src -/
structure ItD (K : PySem.W.Frag) (F : Fr) (J : It) (v : V) (src : PyData) (ds : List PyData) : Prop where
  go : ∀ B b H, (∀ x, F.N x → B x) → (∀ p, H p = none → ¬ B p) → F.T b H → Dx K B H v src → ∀ i x, ds[i]? = some x → J.go i H ∧ ∀ v' H', J.yld i H v' H' → Go F b H b H' ∧ Dx K B H' v' x
  stop : ∀ B b H, (∀ x, F.N x → B x) → F.T b H → Dx K B H v src → J.stop ds.length H
structure DI (X : Cx) (F : Fr) (W : WX) (tg iter : Expr) (t : DTL) : Prop where
  ex : ∃ wi, PI X tg iter wi ∧ ∀ σ H ρ b Z Q R (R0 : It → Hp → Prop), Sl X.K F Z σ H ρ → F.T b H → t ρ b Q R →
    (∀ J v src ds H' b', Go F b H b' H' → Dx X.K (Bad F Z) H' v src → ItD X.K F J v src ds → Q ds b' → R0 J H') → Met X F W σ b H R → wi σ H R0
section
variable {K : PySem.W.Frag} {F : Fr}
theorem itd_list {a : Addr} {ds : List PyData} : ItD K F (Itl K a) (.ref a) (.list ds) ds := by
  refine ⟨fun B b H hN hf hT hx i x hi => ?_, fun B b H hN hT hx => ?_⟩
  · obtain ⟨a', xs, e, _, hl, ha⟩ := hx.invL
    cases e
    obtain ⟨v, hv, hd⟩ := ha.getD hi
    refine ⟨⟨xs, v, .inl (.inl hl), hv⟩, fun v' H' y => ?_⟩
    obtain ⟨rfl, y⟩ := y
    have e := y xs (.inl (.inl hl))
    rw [hv] at e
    cases e
    exact ⟨Go.refl hT, hd⟩
  · obtain ⟨a', xs, e, _, hl, ha⟩ := hx.invL
    cases e
    exact ⟨xs, .inl (.inl hl), by rw [ha.length]; exact Nat.le_refl _⟩
/-- of the one tuple that stands -/
theorem itd_tup {a : Addr} {ds : List PyData} : ItD K F (Itt K a) (.ref a) (.tuple ds) ds := by
  refine ⟨fun B b H hN hf hT hx i x hi => ?_, fun B b H hN hT hx => ?_⟩
  · obtain ⟨a', xs, e, hl, ha⟩ := hx.inv
    cases e
    obtain ⟨v, hv, hd⟩ := ha.getD hi
    refine ⟨⟨xs, v, hl, hv⟩, fun v' H' y => ?_⟩
    obtain ⟨rfl, y⟩ := y
    have e := y xs hl
    rw [hv] at e
    cases e
    exact ⟨Go.refl hT, hd⟩
  · obtain ⟨a', xs, e, hl, ha⟩ := hx.inv
    cases e
    exact ⟨xs, hl, by rw [ha.length]; exact Nat.le_refl _⟩
def signsD (x : Str) : List PyData := x.cps.toList.map fun c => .str ⟨#[c]⟩
theorem itd_str {x : Str} : ItD K F (Its x) (.str x) (.str x) (signsD x) := by
  refine ⟨fun B b H hN hf hT hx i y hi => ?_, fun B b H hN hT hx => ?_⟩
  · unfold signsD at hi
    rw [List.getElem?_map] at hi
    cases h : x.cps.toList[i]? with
    | none => rw [h] at hi; cases hi
    | some c =>
      rw [h] at hi
      cases hi
      have hl := (List.getElem?_eq_some_iff.mp h).1
      refine ⟨show i < x.cps.size by simpa using hl, fun v' H' y => ?_⟩
      obtain ⟨rfl, c', e, rfl⟩ := y
      have e' : x.cps.toList[i]? = some c' := by simpa using e
      rw [h] at e'
      cases e'
      exact ⟨Go.refl hT, .str _⟩
  · show x.cps.size ≤ _
    simp [signsD]
def rangeD (lo : Int) (n : Nat) : List PyData := (List.range n).map fun i => .int (lo + (i : Nat))
theorem itd_range {lo : Int} {n : Nat} : ItD K F (Itr lo n) .non .none (rangeD lo n) := by
  refine ⟨fun B b H hN hf hT hx i y hi => ?_, fun B b H hN hT hx => ?_⟩
  · unfold rangeD at hi
    rw [List.getElem?_map] at hi
    have hl : i < n := by
      cases h : (List.range n)[i]? with
      | none => rw [h] at hi; cases hi
      | some c => simpa using (List.getElem?_eq_some_iff.mp h).1
    rw [List.getElem?_range hl] at hi
    cases hi
    refine ⟨hl, fun v' H' y => ?_⟩
    obtain ⟨rfl, rfl⟩ := y
    exact ⟨Go.refl hT, .int _⟩
  · show n ≤ _
    simp [rangeD]
def rangeCD (lo c : Int) (n : Nat) : List PyData := (List.range n).map fun i => .int (lo + (i : Nat) * c)
theorem itd_rangeC {lo c : Int} {n : Nat} : ItD K F (Itc lo c n) .non .none (rangeCD lo c n) := by
  refine ⟨fun B b H hN hf hT hx i y hi => ?_, fun B b H hN hT hx => ?_⟩
  · unfold rangeCD at hi
    rw [List.getElem?_map] at hi
    have hl : i < n := by
      cases h : (List.range n)[i]? with
      | none => rw [h] at hi; cases hi
      | some c => simpa using (List.getElem?_eq_some_iff.mp h).1
    rw [List.getElem?_range hl] at hi
    cases hi
    refine ⟨hl, fun v' H' y => ?_⟩
    obtain ⟨rfl, rfl⟩ := y
    exact ⟨Go.refl hT, .int _⟩
  · show n ≤ _
    simp [rangeCD]
def enumD (ds : List PyData) : List PyData := (List.range ds.length).map fun i => .tuple [.int (i : Nat), ds.getD i .none]
theorem enumD_get {ds : List PyData} {i : Nat} {y : PyData} (h : (enumD ds)[i]? = some y) : ∃ x, ds[i]? = some x ∧ y = .tuple [.int (i : Nat), x] := by
  unfold enumD at h
  rw [List.getElem?_map] at h
  have hl : i < ds.length := by
    cases h' : (List.range ds.length)[i]? with
    | none => rw [h'] at h; cases h
    | some c => simpa using (List.getElem?_eq_some_iff.mp h').1
  rw [List.getElem?_range hl] at h
  cases h
  exact ⟨ds[i], List.getElem?_eq_getElem hl, by show PyData.tuple [.int (i : Nat), ds.getD i .none] = _; rw [List.getD_eq_getElem?_getD, List.getElem?_eq_getElem hl]; rfl⟩
theorem enumD_len {ds : List PyData} : (enumD ds).length = ds.length := by simp [enumD]
theorem pair_new {B : Addr → Prop} {b : Nat} {H : Hp} {T : Addr} {x y : V} {d e : PyData} (hT : F.T b H) (nT : H T = none) (hx : Dx K B H x d) (hy : Dx K B H y e) : Go F b H b (upd H T (.tup [x, y])) ∧ Dx K B (upd H T (.tup [x, y])) (.ref T) (.tuple [d, e]) :=
  ⟨Go.new hT nT, dx_tup nT (.cons hx (.cons hy .nil))⟩
theorem itd_enumT {a : Addr} {ds : List PyData} : ItD K F (LfE.IteT K a) (.ref a) (.tuple ds) (enumD ds) := by
  refine ⟨fun B b H hN hf hT hx i y hi => ?_, fun B b H hN hT hx => ?_⟩
  · obtain ⟨a', xs, e, hl, ha⟩ := hx.inv
    cases e
    obtain ⟨x, hx', rfl⟩ := enumD_get hi
    obtain ⟨v, hv, hd⟩ := ha.getD hx'
    refine ⟨⟨xs, v, hl, hv⟩, fun v' H' y => ?_⟩
    obtain ⟨T, z, rfl, nT, rfl, f⟩ := y
    have e := f xs hl
    rw [hv] at e
    cases e
    exact pair_new hT nT (.int _) hd
  · obtain ⟨a', xs, e, hl, ha⟩ := hx.inv
    cases e
    exact ⟨xs, hl, by rw [enumD_len, ha.length]; exact Nat.le_refl _⟩
theorem itd_enumL {a : Addr} {ds : List PyData} : ItD K F (Ite K a) (.ref a) (.list ds) (enumD ds) := by
  refine ⟨fun B b H hN hf hT hx i y hi => ?_, fun B b H hN hT hx => ?_⟩
  · obtain ⟨a', xs, e, _, hl, ha⟩ := hx.invL
    cases e
    obtain ⟨x, hx', rfl⟩ := enumD_get hi
    obtain ⟨v, hv, hd⟩ := ha.getD hx'
    refine ⟨⟨xs, v, .inl (.inl hl), hv⟩, fun v' H' y => ?_⟩
    obtain ⟨T, z, rfl, nT, rfl, f⟩ := y
    have e := f xs (.inl (.inl hl))
    rw [hv] at e
    cases e
    exact pair_new hT nT (.int _) hd
  · obtain ⟨a', xs, e, _, hl, ha⟩ := hx.invL
    cases e
    exact ⟨xs, .inl (.inl hl), by rw [enumD_len, ha.length]; exact Nat.le_refl _⟩
end
section
variable {X : Cx} {F : Fr} {W : WX} {tg e a c : Expr} {t ta : DTE} {pos p : Pos}
/-- a list, a tuple, a text -/
def iAny (K : PySem.W.Frag) (tl : TE) : TI := fun σ H R => tl σ H fun x H1 => (∃ a, x = .ref a ∧ (∃ xs, SqL K H1 a xs) ∧ R (Itl K a) H1) ∨ (∃ a, x = .ref a ∧ (∃ xs, SqT K H1 a xs) ∧ R (Itt K a) H1) ∨ ∃ z, x = .str z ∧ R (Its z) H1
theorem pi_any {l : Expr} {tl : TE} (hl : PE X l tl) : PI X tg l (iAny X.K tl) := by
  refine ⟨fun pins s σ H R I h => ?_⟩
  refine thn (hl.run pins s σ H _ I h) fun v s1 ⟨x, H1, I1, r1, q1⟩ => ?_
  rcases q1 with ⟨a, e, ⟨xs, hq⟩, q⟩ | ⟨a, e, ⟨xs, hq⟩, q⟩ | ⟨z, e, q⟩
  · subst e
    cases r1
    obtain ⟨its, rv, p, hz⟩ := I1.list hq
    refine wpAny_pyIter_list p.isList ?_
    refine ⟨s1.heap.objs.size, [s1.heap.objs.size], _, _, H1, rfl, I1.kept (t' := s1.toks) fun b o e => Heap.get?_push_of_some _ e, turn_list a _, ⟨_, Heap.get?_push_size _ rfl, rfl, rfl⟩, fun b hb => ?_, q⟩
    have e : b = s1.heap.objs.size := by simpa using hb
    subst e
    exact I1.fpOk (Nat.le_refl _) (I1.hok.fresh (Nat.le_refl _))
  · subst e
    cases r1
    obtain ⟨its, rv, p, hz⟩ := I1.tuple hq
    refine wpAny_pyIter_tuple (show s1.heap.IsTuple a its.toArray from p) ?_
    refine ⟨s1.heap.objs.size, [s1.heap.objs.size], _, _, H1, rfl, I1.kept (t' := s1.toks) fun b o e => Heap.get?_push_of_some _ e, turn_tuple a _, ⟨_, Heap.get?_push_size _ rfl, rfl, rfl⟩, fun b hb => ?_, q⟩
    have e : b = s1.heap.objs.size := by simpa using hb
    subst e
    exact I1.fpOk (Nat.le_refl _) (I1.hok.fresh (Nat.le_refl _))
  · subst e
    obtain ⟨t, rfl⟩ := r1
    cases ha : z.cps.all (· < 128)
    · exact wpAny_pyIter_wide ha (pi_one (tk := s1.toks) I1 _ (turn_str _ z t "str_iterator" (.inr rfl)) ⟨_, Heap.get?_push_size _ rfl, rfl, rfl⟩ q)
    · exact wpAny_pyIter_ascii ha (pi_one (tk := s1.toks) I1 _ (turn_str _ z t "str_ascii_iterator" (.inl rfl)) ⟨_, Heap.get?_push_size _ rfl, rfl, rfl⟩ q)
def onIt : PyData → (List PyData → Prop) → Prop
  | .list ds, K => K ds
  | .tuple ds, K => K ds
  | .str x, K => K (signsD x)
  | _, _ => False
def dIter (te : DTE) : DTL := fun ρ b Q R => te ρ b (fun d b' => onIt d fun ds => Q ds b') R
theorem di_any {l : Expr} (hl : DE X F W l t) : DI X F W tg l (dIter t) := by
  obtain ⟨t0, p, q⟩ := hl.ex
  refine ⟨_, pi_any p, fun σ H ρ b Z Q R R0 s hT ht hq m => ?_⟩
  refine q σ H ρ b Z _ R _ s hT ht (fun v d H' b' g x hd => ?_) m
  unfold onIt at hd
  split at hd
  · obtain ⟨a, xs, rfl, _, hl, ha⟩ := x.invL
    exact .inl ⟨a, rfl, ⟨xs, .inl (.inl hl)⟩, hq _ _ _ _ H' b' g x itd_list hd⟩
  · obtain ⟨a, xs, rfl, hl, ha⟩ := x.inv
    exact .inr (.inl ⟨a, rfl, ⟨xs, hl⟩, hq _ _ _ _ H' b' g x itd_tup hd⟩)
  · have := x.inv_str
    subst this
    exact .inr (.inr ⟨_, rfl, hq _ _ _ _ H' b' g x itd_str hd⟩)
  · exact hd.elim
def kRng1 : List PyData → (List PyData → Prop) → Prop
  | [.int j], K => j < 2 ^ 61 ∧ -(2 ^ 61) < j ∧ K (rangeD 0 j.toNat)
  | _, _ => False
def dRng1 (ta : DTL) : DTL := fun ρ b Q R => ta ρ b (fun ds b' => kRng1 ds fun es => Q es b') R
theorem dxall1 {K : PySem.W.Frag} {B : Addr → Prop} {H : Hp} {vs : List V} {d : PyData} (h : DxAll K B H vs [d]) : ∃ v, vs = [v] ∧ Dx K B H v d := by
  cases h with
  | cons h1 h2 => cases h2; exact ⟨_, rfl, h1⟩
theorem dxall2 {K : PySem.W.Frag} {B : Addr → Prop} {H : Hp} {vs : List V} {d e : PyData} (h : DxAll K B H vs [d, e]) : ∃ v u, vs = [v, u] ∧ Dx K B H v d ∧ Dx K B H u e := by
  cases h with
  | cons h1 h2 =>
    obtain ⟨u, rfl, h3⟩ := dxall1 h2
    exact ⟨_, _, rfl, h1, h3⟩
theorem dxall3 {K : PySem.W.Frag} {B : Addr → Prop} {H : Hp} {vs : List V} {d e f : PyData} (h : DxAll K B H vs [d, e, f]) : ∃ v u w, vs = [v, u, w] ∧ Dx K B H v d ∧ Dx K B H u e ∧ Dx K B H w f := by
  cases h with
  | cons h1 h2 =>
    obtain ⟨u, w, rfl, h3, h4⟩ := dxall2 h2
    exact ⟨_, _, _, rfl, h1, h3, h4⟩
theorem di_range1 {ta : DTL} (hg : Gl X "range") (hm : X.mg "range" = none) (ha : DL X F W [a] ta) (hs : starEach [a] X.env = [(false, eval a X.env)] := by rfl) : DI X F W tg (.Call (.Name "range" p) [a] [] pos) (dRng1 ta) := by
  obtain ⟨t0, p, q⟩ := ha.ex
  refine ⟨_, pi_range1 hg hm p hs, fun σ H ρ b Z Q R R0 s hT ht hq m => ?_⟩
  refine q σ H ρ b Z _ R _ s hT ht (fun vs ds H' b' g x _ hd => ?_) m
  unfold kRng1 at hd
  split at hd
  · obtain ⟨v, rfl, hx⟩ := dxall1 x
    have := hx.inv_int
    subst this
    obtain ⟨h1, h2, h3⟩ := hd
    exact ⟨_, rfl, by omega, by omega, hq _ _ _ _ H' b' g .non itd_range h3⟩
  · exact hd.elim
def kRng2 : List PyData → (List PyData → Prop) → Prop
  | [.int i, .int j], K => (i < 2 ^ 61 ∧ -(2 ^ 61) < i) ∧ (j < 2 ^ 61 ∧ -(2 ^ 61) < j) ∧ K (rangeD i (j - i).toNat)
  | _, _ => False
def dRng2 (ta : DTL) : DTL := fun ρ b Q R => ta ρ b (fun ds b' => kRng2 ds fun es => Q es b') R
theorem di_range2 {ta : DTL} (hg : Gl X "range") (hm : X.mg "range" = none) (ha : DL X F W [a, c] ta) (hs : starEach [a, c] X.env = [(false, eval a X.env), (false, eval c X.env)] := by rfl) (hs2 : starEach [c] X.env = [(false, eval c X.env)] := by rfl) : DI X F W tg (.Call (.Name "range" p) [a, c] [] pos) (dRng2 ta) := by
  obtain ⟨t0, p, q⟩ := ha.ex
  refine ⟨_, pi_range2 hg hm p hs hs2, fun σ H ρ b Z Q R R0 s hT ht hq m => ?_⟩
  refine q σ H ρ b Z _ R _ s hT ht (fun vs ds H' b' g x _ hd => ?_) m
  unfold kRng2 at hd
  split at hd
  · obtain ⟨v, u, rfl, hx, hy⟩ := dxall2 x
    have := hx.inv_int
    subst this
    have := hy.inv_int
    subst this
    obtain ⟨⟨h1, h2⟩, ⟨h3, h4⟩, h5⟩ := hd
    exact ⟨_, _, rfl, ⟨by omega, by omega, by omega, by omega⟩, hq _ _ _ _ H' b' g .non itd_range h5⟩
  · exact hd.elim
def kRng3 : List PyData → (List PyData → Prop) → Prop
  | [.int i, .int j, .int c], K => c = -1 ∧ (i < 2 ^ 61 ∧ -(2 ^ 61) < i) ∧ (j < 2 ^ 61 ∧ -(2 ^ 61) < j) ∧ K (rangeCD i (-1) (i - j).toNat)
  | _, _ => False
def dRng3 (ta : DTL) : DTL := fun ρ b Q R => ta ρ b (fun ds b' => kRng3 ds fun es => Q es b') R
theorem di_range3 {ta : DTL} (hg : Gl X "range") (hm : X.mg "range" = none) (ha : DL X F W [a, c, e] ta) (hs : starEach [a, c, e] X.env = (false, eval a X.env) :: starEach [c, e] X.env := by rfl) (hpl : (backTo pos (starEach [c, e] X.env)).any (·.1) = false := by rfl) :
    DI X F W tg (.Call (.Name "range" p) [a, c, e] [] pos) (dRng3 ta) := by
  obtain ⟨t0, p, q⟩ := ha.ex
  refine ⟨_, pi_range3 hg hm p hs hpl, fun σ H ρ b Z Q R R0 s hT ht hq m => ?_⟩
  refine q σ H ρ b Z _ R _ s hT ht (fun vs ds H' b' g x _ hd => ?_) m
  unfold kRng3 at hd
  split at hd
  · obtain ⟨v, u, w, rfl, hx, hy, hw⟩ := dxall3 x
    have := hx.inv_int
    subst this
    have := hy.inv_int
    subst this
    have := hw.inv_int
    subst this
    obtain ⟨rfl, ⟨h1, h2⟩, ⟨h3, h4⟩, h5⟩ := hd
    exact ⟨_, _, _, _, rfl, RgC.neg (by omega) (by omega) (by omega) (by omega), hq _ _ _ _ H' b' g .non itd_rangeC h5⟩
  · exact hd.elim
/-- enumerate of a list, of a tuple -/
def iEnumA (K : PySem.W.Frag) (ta : TA) : TI := fun σ H R => ta σ H fun vs H1 => ∃ a xs, vs = [.ref a] ∧ ((SqL K H1 a xs ∧ R (Ite K a) H1) ∨ (SqT K H1 a xs ∧ R (LfE.IteT K a) H1))
theorem pi_enumA {ta : TA} {p pos tpos : Pos} {elts : List Expr} {kk : Nat} (hg : Gl X "enumerate") (hm : X.mg "enumerate" = none) (ha : PA X [e] ta) (hs : starEach [e] X.env = [(false, eval e X.env)] := by rfl) :
    PI X (.Tuple elts kk tpos) (.Call (.Name "enumerate" p) [e] [] pos) (iEnumA X.K ta) := by
  refine ⟨fun pins s σ H R I h => ?_⟩
  refine Call_ (ld_blt I hg hm boot_enumerate (PyProof.Rows.callWith_type1 (thn (ha.run pos pins s σ H _ I h) fun us s1 ⟨vs, H1, I1, r1, q1⟩ => ?_) hs rfl))
  obtain ⟨a, xs, ex, q⟩ := q1
  subst ex
  cases r1 with
  | cons r rr =>
    cases rr
    cases r
    have side : ∀ b, b ∈ [s1.heap.objs.size + 1, s1.heap.objs.size] → FpOk X pins H1 b := fun b hb => by
      have e' : b = s1.heap.objs.size + 1 ∨ b = s1.heap.objs.size := by simpa using hb
      have hle : s1.heap.objs.size ≤ b := by
        rcases e' with z | z
        · rw [z]; exact Nat.le_add_right _ _
        · rw [z]; exact Nat.le_refl _
      exact I1.fpOk hle (I1.hok.fresh hle)
    rcases q with ⟨hq, q⟩ | ⟨hq, q⟩
    · obtain ⟨its, rv, p', hz⟩ := I1.list hq
      refine call_enumerate_list p'.isList fun h' he hit hsz hk => wpAny_pyIter_enum he ?_
      have I2 : Inv X pins σ H1 { s1 with heap := h' } := I1.kept (t' := s1.toks) hk
      exact ⟨s1.heap.objs.size + 1, [s1.heap.objs.size + 1, s1.heap.objs.size], _, _, H1, rfl, I2, turn_enum a (s1.heap.objs.size + 1) s1.heap.objs.size, ⟨⟨.none, he⟩, hit, Nat.succ_ne_self _⟩, side, q⟩
    · obtain ⟨its, rv, p', hz⟩ := I1.tuple hq
      have pT : s1.heap.IsTuple a its.toArray := p'
      refine LfE.call_enumT (begins_tuple a its.toArray) pT fun h' he hit hsz hk => wpAny_pyIter_enum he ?_
      have I2 : Inv X pins σ H1 { s1 with heap := h' } := I1.kept (t' := s1.toks) hk
      exact ⟨s1.heap.objs.size + 1, [s1.heap.objs.size + 1, s1.heap.objs.size], _, _, H1, rfl, I2, LfE.turn_enumT a (s1.heap.objs.size + 1) s1.heap.objs.size, ⟨⟨.none, he⟩, ⟨_, hit, rfl, rfl⟩, Nat.succ_ne_self _⟩, side, q⟩
def kEnum : List PyData → (List PyData → Prop) → Prop
  | [.list ds], K => K (enumD ds)
  | [.tuple ds], K => K (enumD ds)
  | _, _ => False
def dEnum (ta : DTL) : DTL := fun ρ b Q R => ta ρ b (fun ds b' => kEnum ds fun es => Q es b') R
theorem di_enum {ta : DTL} {tpos : Pos} {elts : List Expr} {kk : Nat} (hg : Gl X "enumerate") (hm : X.mg "enumerate" = none) (ha : DL X F W [e] ta) (hs : starEach [e] X.env = [(false, eval e X.env)] := by rfl) :
    DI X F W (.Tuple elts kk tpos) (.Call (.Name "enumerate" p) [e] [] pos) (dEnum ta) := by
  obtain ⟨t0, p, q⟩ := ha.ex
  refine ⟨_, pi_enumA hg hm p hs, fun σ H ρ b Z Q R R0 s hT ht hq m => ?_⟩
  refine q σ H ρ b Z _ R _ s hT ht (fun vs ds H' b' g x _ hd => ?_) m
  unfold kEnum at hd
  split at hd
  · obtain ⟨v, rfl, hx⟩ := dxall1 x
    obtain ⟨a, xs, rfl, _, hl, ha⟩ := hx.invL
    exact ⟨a, xs, rfl, .inl ⟨.inl (.inl hl), hq _ _ _ _ H' b' g hx itd_enumL hd⟩⟩
  · obtain ⟨v, rfl, hx⟩ := dxall1 x
    obtain ⟨a, xs, rfl, hl, ha⟩ := hx.inv
    exact ⟨a, xs, rfl, .inr ⟨hl, hq _ _ _ _ H' b' g hx itd_enumT hd⟩⟩
  · exact hd.elim
/-! ### zip -/
def zipD : List PyData → List PyData → List PyData
  | x :: xs, y :: ys => .tuple [x, y] :: zipD xs ys
  | _, _ => []
theorem zipD_len : ∀ {xs ys : List PyData}, (zipD xs ys).length = min xs.length ys.length
  | [], _ => by simp [zipD]
  | _ :: _, [] => by simp [zipD]
  | x :: xs, y :: ys => by
    simp only [zipD, List.length_cons, zipD_len]
    omega
theorem zipD_get : ∀ {xs ys : List PyData} {i : Nat} {z : PyData}, (zipD xs ys)[i]? = some z → ∃ x y, xs[i]? = some x ∧ ys[i]? = some y ∧ z = .tuple [x, y]
  | [], _, _, _, h => by simp [zipD] at h
  | _ :: _, [], _, _, h => by simp [zipD] at h
  | x :: xs, y :: ys, 0, z, h => by
    simp [zipD] at h
    exact ⟨x, y, rfl, rfl, h.symm⟩
  | x :: xs, y :: ys, i + 1, z, h => by
    have h' : (zipD xs ys)[i]? = some z := by simpa [zipD] using h
    obtain ⟨a, b, h1, h2, h3⟩ := zipD_get h'
    exact ⟨a, b, by simpa using h1, by simpa using h2, h3⟩
/-- two things told at once -/
structure ItD2 (K : PySem.W.Frag) (F : Fr) (J : It) (v u : V) (src srd : PyData) (ds : List PyData) : Prop where
  go : ∀ B b H, (∀ x, F.N x → B x) → (∀ p, H p = none → ¬ B p) → F.T b H → Dx K B H v src → Dx K B H u srd → ∀ i x, ds[i]? = some x → J.go i H ∧ ∀ v' H', J.yld i H v' H' → Go F b H b H' ∧ Dx K B H' v' x
  stop : ∀ B b H, (∀ x, F.N x → B x) → F.T b H → Dx K B H v src → Dx K B H u srd → J.stop ds.length H
theorem ItD2.of {K : PySem.W.Frag} {J : It} {v : V} {src : PyData} {ds : List PyData} (h : ItD K F J v src ds) : ItD2 K F J v .non src .none ds :=
  ⟨fun B b H hN hf hT hx _ => h.go B b H hN hf hT hx, fun B b H hN hT hx _ => h.stop B b H hN hT hx⟩
end
section
variable {X : Cx} {F : Fr} {W : WX} {tg e a c iter : Expr} {t ta : DTE} {pos p : Pos}
theorem min_le_i {n m : Nat} : n ≤ min n m ∨ m ≤ min n m := by omega
theorem itd_zipLL {K : PySem.W.Frag} {a c : Addr} {xs ys : List PyData} : ItD2 K F (Itz K a c) (.ref a) (.ref c) (.list xs) (.list ys) (zipD xs ys) := by
  refine ⟨fun B b H hN hf hT hx hy i z hi => ?_, fun B b H hN hT hx hy => ?_⟩
  · obtain ⟨_, us, e, _, hl, ha⟩ := hx.invL
    cases e
    obtain ⟨_, ws, e, _, hl2, ha2⟩ := hy.invL
    cases e
    obtain ⟨x, y, h1, h2, rfl⟩ := zipD_get hi
    obtain ⟨v, hv, hd⟩ := ha.getD h1
    obtain ⟨w, hw, hd2⟩ := ha2.getD h2
    refine ⟨⟨us, ws, v, w, .inl (.inl hl), .inl (.inl hl2), hv, hw⟩, fun v' H' y => ?_⟩
    obtain ⟨T, z, z2, rfl, nT, rfl, f, f2⟩ := y
    have e := f us (.inl (.inl hl))
    rw [hv] at e
    cases e
    have e := f2 ws (.inl (.inl hl2))
    rw [hw] at e
    cases e
    exact pair_new hT nT hd hd2
  · obtain ⟨_, us, e, _, hl, ha⟩ := hx.invL
    cases e
    obtain ⟨_, ws, e, _, hl2, ha2⟩ := hy.invL
    cases e
    exact ⟨us, ws, .inl (.inl hl), .inl (.inl hl2), by rw [zipD_len, ha.length, ha2.length]; exact min_le_i⟩
theorem itd_zipTT {K : PySem.W.Frag} {a c : Addr} {xs ys : List PyData} : ItD2 K F (RZ.ItzT K a c) (.ref a) (.ref c) (.tuple xs) (.tuple ys) (zipD xs ys) := by
  refine ⟨fun B b H hN hf hT hx hy i z hi => ?_, fun B b H hN hT hx hy => ?_⟩
  · obtain ⟨_, us, e, hl, ha⟩ := hx.inv
    cases e
    obtain ⟨_, ws, e, hl2, ha2⟩ := hy.inv
    cases e
    obtain ⟨x, y, h1, h2, rfl⟩ := zipD_get hi
    obtain ⟨v, hv, hd⟩ := ha.getD h1
    obtain ⟨w, hw, hd2⟩ := ha2.getD h2
    refine ⟨⟨us, ws, v, w, hl, hl2, hv, hw⟩, fun v' H' y => ?_⟩
    obtain ⟨T, z, z2, rfl, nT, rfl, f, f2⟩ := y
    have e := f us hl
    rw [hv] at e
    cases e
    have e := f2 ws hl2
    rw [hw] at e
    cases e
    exact pair_new hT nT hd hd2
  · obtain ⟨_, us, e, hl, ha⟩ := hx.inv
    cases e
    obtain ⟨_, ws, e, hl2, ha2⟩ := hy.inv
    cases e
    exact ⟨us, ws, hl, hl2, by rw [zipD_len, ha.length, ha2.length]; exact min_le_i⟩
/-- a walk over one or two sources -/
structure DI2 (X : Cx) (F : Fr) (W : WX) (tg iter : Expr) (t : DTL) : Prop where
  ex : ∃ wi, PI X tg iter wi ∧ ∀ σ H ρ b Z Q R (R0 : It → Hp → Prop), Sl X.K F Z σ H ρ → F.T b H → t ρ b Q R →
    (∀ J v u src srd ds H' b', Go F b H b' H' → Dx X.K (Bad F Z) H' v src → Dx X.K (Bad F Z) H' u srd → ItD2 X.K F J v u src srd ds → Q ds b' → R0 J H') → Met X F W σ b H R → wi σ H R0
theorem DI.two {t : DTL} (h : DI X F W tg iter t) : DI2 X F W tg iter t := by
  obtain ⟨wi, p, q⟩ := h.ex
  exact ⟨wi, p, fun σ H ρ b Z Q R R0 s hT ht hq m => q σ H ρ b Z Q R R0 s hT ht (fun J v src ds H' b' g x i hQ => hq J v .non src .none ds H' b' g x .non (ItD2.of i) hQ) m⟩
def kZip : List PyData → (List PyData → Prop) → Prop
  | [.list xs, .list ys], K => K (zipD xs ys)
  | [.tuple xs, .tuple ys], K => K (zipD xs ys)
  | _, _ => False
def dZip (ta : DTL) : DTL := fun ρ b Q R => ta ρ b (fun ds b' => kZip ds fun es => Q es b') R
theorem di_zip {ta : DTL} {tpos : Pos} {elts : List Expr} {kk : Nat} (hg : Gl X "zip") (hm : X.mg "zip" = none) (ha : DL X F W [a, c] ta)
    (hs : starEach [a, c] X.env = (false, eval a X.env) :: starEach [c] X.env := by rfl) (hpl : (backTo pos (starEach [c] X.env)).any (·.1) = false := by rfl) :
    DI2 X F W (.Tuple elts kk tpos) (.Call (.Name "zip" p) [a, c] [] pos) (dZip ta) := by
  obtain ⟨t0, p, q⟩ := ha.ex
  refine ⟨_, RZ.pi_zipA hg hm p hs hpl, fun σ H ρ b Z Q R R0 s hT ht hq m => ?_⟩
  refine q σ H ρ b Z _ R _ s hT ht (fun vs ds H' b' g x _ hd => ?_) m
  unfold kZip at hd
  split at hd
  · obtain ⟨v, u, rfl, hx, hy⟩ := dxall2 x
    obtain ⟨a, us, rfl, _, hl, ha⟩ := hx.invL
    obtain ⟨c, ws, rfl, _, hl2, ha2⟩ := hy.invL
    exact ⟨a, c, us, ws, rfl, .inl ⟨.inl (.inl hl), .inl (.inl hl2), hq _ _ _ _ _ _ H' b' g hx hy itd_zipLL hd⟩⟩
  · obtain ⟨v, u, rfl, hx, hy⟩ := dxall2 x
    obtain ⟨a, us, rfl, hl, ha⟩ := hx.inv
    obtain ⟨c, ws, rfl, hl2, ha2⟩ := hy.inv
    exact ⟨a, c, us, ws, rfl, .inr ⟨hl, hl2, hq _ _ _ _ _ _ H' b' g hx hy itd_zipTT hd⟩⟩
  · exact hd.elim
/-! ### for, while -/
/-- I: what holds ahead of each turn -/
def sFor (ti : DTL) (g : DTG) (tb : DTS) : DTS := fun D ρ b => ti ρ b (fun ds b1 => ∃ I : Nat → List SV → Nat → Prop, I 0 ρ b1 ∧
  (∀ i x ρ b, ds[i]? = some x → I i ρ b → g x ρ (fun ρ2 => tb { D with nx := I (i + 1), ct := I (i + 1), bk := D.nx } ρ2 b)) ∧ ∀ ρ b, I ds.length ρ b → D.nx ρ b) D.er
theorem fresh_bad {K : PySem.W.Frag} {Z : Addr → Option Nat} {σ : L2.St} {H : Hp} {ρ : List SV} {b : Nat} (s : Sl K F Z σ H ρ) (hT : F.T b H) : ∀ p, H p = none → ¬ Bad F Z p := fun p h => s.fresh hT h
theorem ds_for {body : List Stmt} {ti : DTL} {js : List Nat} {g : DTG} {tb : DTS} (hp : PassesOwn (model X.prog X.w) X.A X.env X.xe) (hc : X.calm = true) (hi : DI2 X F W tg iter ti) (hg : DG X F tg js g) (hb : DSs X F W body tb)
    (hs : ∀ x, foldedSetIterable iter X.env x = pure x := by intro _; rfl) : DS X F W (.For tg iter body [] pos) (sFor ti g tb) := by
  obtain ⟨wi, pi, qi⟩ := hi.ex
  obtain ⟨g0, pg, qg⟩ := hg.ex
  obtain ⟨t0, p, q⟩ := hb.ex
  refine ⟨_, ps_for hp hc pi pg p hs, fun b0 H0 ps σ H ρ b D D' r h E => ?_⟩
  obtain ⟨Z, s, gg, hz, hpn⟩ := r.ex
  refine qi σ H ρ b Z _ _ _ s gg.r h (fun J v u src srd ds H1 b1 g1 hx hy hJ hd => ?_) (met_of E gg)
  obtain ⟨I, i0, istep, iend⟩ := hd
  have r1 : RS X.K F b0 H0 ((v, src) :: (u, srd) :: ps) σ H1 ρ b1 := .mk' (s.go g1) (gg.trans g1) hz fun p hp => by
    rcases List.mem_cons.mp hp with rfl | hp
    · exact hx
    · rcases List.mem_cons.mp hp with rfl | hp
      · exact hy
      · exact pins_go s g1 hpn p hp
  refine ⟨fun i m σ H => m = ds.length - i ∧ i ≤ ds.length ∧ ∃ ρ b, RS X.K F b0 H0 ((v, src) :: (u, srd) :: ps) σ H ρ b ∧ I i ρ b, ⟨_, rfl, Nat.zero_le _, ρ, b1, r1, i0⟩, ?_⟩
  rintro i m σ2 H2 ⟨rfl, hle, ρ2, b2, r2, i2⟩
  obtain ⟨Z2, s2, g2, hz2, hp2⟩ := r2.ex
  have x2 := hp2 (v, src) List.mem_cons_self
  have y2 := hp2 (u, srd) (List.mem_cons_of_mem _ List.mem_cons_self)
  have drop : ∀ {σ H ρ b}, RS X.K F b0 H0 ((v, src) :: (u, srd) :: ps) σ H ρ b → RS X.K F b0 H0 ps σ H ρ b := fun {σ H ρ b} r => by
    obtain ⟨Z, s, g, hz, hp⟩ := r.ex
    exact .mk' s g hz fun p h => hp p (List.mem_cons_of_mem _ (List.mem_cons_of_mem _ h))
  by_cases hlt : i < ds.length
  · have hx' : ds[i]? = some ds[i] := List.getElem?_eq_getElem hlt
    obtain ⟨jg, jy⟩ := hJ.go (Bad F Z2) b2 H2 (fun _ h => .inl h) (fresh_bad s2 g2.r) g2.r x2 y2 i _ hx'
    refine .inr ⟨jg, fun σ H => ∃ ρ b, RS X.K F b0 H0 ((v, src) :: (u, srd) :: ps) σ H ρ b ∧ I (i + 1) ρ b, fun σ' H' ⟨ρ', b', r', i'⟩ => ⟨ds.length - (i + 1), by omega, rfl, hlt, ρ', b', r', i'⟩, fun v' H' y' => ?_⟩
    obtain ⟨g3, x3⟩ := jy v' H' y'
    refine qg v' _ σ2 H' ρ2 Z2 _ _ (s2.go g3) x3 (istep i _ ρ2 b2 hx' i2) fun σ4 ρ4 s4 _ hk => ?_
    refine q b0 H0 ((v, src) :: (u, srd) :: ps) σ4 H' ρ4 b2 _ _ (.mk' s4 (g2.trans g3) hz2 (pins_go s2 g3 hp2)) hk ⟨fun σ H ρ b r h => ⟨ρ, b, r, h⟩, fun σ H ρ b r h => E.nx σ H ρ b (drop r) h, fun σ H ρ b r h => ⟨ρ, b, r, h⟩, E.rt, E.er⟩
  · have e : i = ds.length := by omega
    subst e
    exact .inl ⟨hJ.stop (Bad F Z2) b2 H2 (fun _ h => .inl h) g2.r x2 y2, E.nx _ _ _ _ (drop r2) (iend ρ2 b2 i2)⟩
/-- I: what holds ahead of each turn, with a number that falls -/
def sWhile (tc : DTT) (tb : DTS) : DTS := fun D ρ b => ∃ I : Nat → List SV → Nat → Prop, (∃ m, I m ρ b) ∧ ∀ m ρ b, I m ρ b →
  tc ρ b (fun k b' => cond k (∃ N : List SV → Nat → Prop, (∀ ρ' b', N ρ' b' → ∃ m', m' < m ∧ I m' ρ' b') ∧ tb { D with nx := N, ct := N, bk := D.nx } ρ b') (D.nx ρ b')) D.er
theorem ds_while {body : List Stmt} {tc : DTT} {tb : DTS} (hp : PassesOwn (model X.prog X.w) X.A X.env X.xe) (hc : DT X F W c tc) (hb : DSs X F W body tb) : DS X F W (.While c body [] pos) (sWhile tc tb) := by
  obtain ⟨tc0, pc, qc⟩ := hc.ex
  obtain ⟨t0, p, q⟩ := hb.ex
  refine ⟨_, ps_while hp pc p, fun b0 H0 ps σ H ρ b D D' r h E => ?_⟩
  obtain ⟨I, ⟨m0, i0⟩, istep⟩ := h
  refine ⟨fun m σ H => ∃ ρ b, RS X.K F b0 H0 ps σ H ρ b ∧ I m ρ b, ⟨m0, ρ, b, r, i0⟩, ?_⟩
  rintro m σ2 H2 ⟨ρ2, b2, r2, i2⟩
  obtain ⟨Z2, s2, g2, hz2, hp2⟩ := r2.ex
  refine qc σ2 H2 ρ2 b2 Z2 _ _ _ s2 g2.r (istep m ρ2 b2 i2) (fun k H' b' g' hk => ?_) (met_of E g2)
  have r' : RS X.K F b0 H0 ps σ2 H' ρ2 b' := .mk' (s2.go g') (g2.trans g') hz2 (pins_go s2 g' hp2)
  cases k with
  | true =>
    obtain ⟨N, hN, hk⟩ := hk
    refine iteT ⟨fun σ H => ∃ ρ b, RS X.K F b0 H0 ps σ H ρ b ∧ N ρ b, fun σ' H' ⟨ρ', b', r', n'⟩ => ?_, ?_⟩
    · obtain ⟨m', hm, i'⟩ := hN ρ' b' n'
      exact ⟨m', hm, ρ', b', r', i'⟩
    · exact q b0 H0 ps σ2 H' ρ2 b' _ _ r' hk ⟨fun σ H ρ b r h => ⟨ρ, b, r, h⟩, fun σ H ρ b r h => E.nx σ H ρ b r h, fun σ H ρ b r h => ⟨ρ, b, r, h⟩, E.rt, E.er⟩
  | false => exact iteF (E.nx _ _ _ _ r' hk)
end
end Df

set_option Elab.async false
set_option linter.all false
set_option maxRecDepth 100000
set_option maxHeartbeats 4000000
/-! DfL: comprehensions by data. -/
namespace Df
open PySem PySem.Spec PyProof.Rows L2 Lf
/-- no exception leaves -/
def W0 : WX := fun _ _ _ _ => False
/-- the reading by data as a reading by values -/
def canE (K : PySem.W.Frag) (F : Fr) (t : DTE) : TE := fun σ H Q0 => ∃ ρ b Z Q, Sl K F Z σ H ρ ∧ F.T b H ∧ t ρ b Q R0 ∧ ∀ v d H' b', Go F b H b' H' → Dx K (Bad F Z) H' v d → Q d b' → Q0 v H'
def canT (K : PySem.W.Frag) (F : Fr) (t : DTT) : TT := fun σ H Q0 => ∃ ρ b Z Q, Sl K F Z σ H ρ ∧ F.T b H ∧ t ρ b Q R0 ∧ ∀ c H' b', Go F b H b' H' → Q c b' → Q0 c H'
def canG (K : PySem.W.Frag) (F : Fr) (js : List Nat) (g : DTG) : TG := fun v σ H Q0 => ∃ d ρ Z Q, Sl K F Z σ H ρ ∧ Dx K (Bad F Z) H v d ∧ g d ρ Q ∧ ∀ σ' ρ', Sl K F Z σ' H ρ' → (∀ vs, (∀ j ∈ js, j ∈ vs) → wipe σ' vs = wipe σ vs) → Q ρ' → Q0 σ' H
/-- tests of a comprehension -/
structure DTs (X : Cx) (F : Fr) (ifs : List Expr) (t : DTT) : Prop where
  ex : ∃ t0, PTs X ifs t0 ∧ ∀ σ H ρ b Z Q R Q0, Sl X.K F Z σ H ρ → F.T b H → t ρ b Q R → (∀ c H' b', Go F b H b' H' → Q c b' → Q0 c H') → Met X F W0 σ b H R → t0 σ H Q0
def dYes : DTT := fun _ b Q _ => Q true b
section
variable {X : Cx} {F : Fr} {W : WX} {tg e elt iter c : Expr} {ifs : List Expr} {t te : DTE} {tt : DTT} {g : DTG} {js : List Nat} {pos p : Pos}
theorem met0 {σ : L2.St} {b : Nat} {H : Hp} : Met X F W σ b H R0 := ⟨fun _ _ _ _ _ _ _ h => h.elim⟩
theorem DE.can (h : DE X F W0 e t) : PE X e (canE X.K F t) := by
  obtain ⟨t0, p, q⟩ := h.ex
  exact ⟨fun pins s σ H Q0 I ⟨ρ, b, Z, Q, sl, hT, ht, hq⟩ => p.run pins s σ H Q0 I (q σ H ρ b Z Q R0 Q0 sl hT ht hq met0)⟩
theorem DG.can (h : DG X F tg js g) : PG X tg (canG X.K F js g) := by
  obtain ⟨t0, p, q⟩ := h.ex
  exact ⟨fun pins s σ H v u Q0 I r ⟨d, ρ, Z, Q, sl, hx, hg, hq⟩ => p.run pins s σ H v u Q0 I r (q v d σ H ρ Z Q Q0 sl hx hg hq)⟩
theorem DTs.can (h : DTs X F ifs tt) : PTs X ifs (canT X.K F tt) := by
  obtain ⟨t0, p, q⟩ := h.ex
  exact ⟨fun pins s σ H Q0 I ⟨ρ, b, Z, Q, sl, hT, ht, hq⟩ => p.run pins s σ H Q0 I (q σ H ρ b Z Q R0 Q0 sl hT ht hq met0)⟩
theorem dts_nil : DTs X F [] dYes := ⟨_, pts_nil, fun σ H ρ b Z Q R Q0 s hT ht hq m => hq true H b (Go.refl hT) ht⟩
theorem dts_one (h : DT X F W0 c tt) : DTs X F [c] tt := by
  obtain ⟨t0, p, q⟩ := h.ex
  exact ⟨t0, pts_one p, q⟩
def wipeR (ρ : List SV) : List Nat → List SV
  | [] => ρ
  | v :: vs => (wipeR ρ vs).set v .no
theorem Sl.wipe {K : PySem.W.Frag} {Z : Addr → Option Nat} {σ : L2.St} {H : Hp} {ρ : List SV} (s : Sl K F Z σ H ρ) : ∀ vs, Sl K F Z (L2.wipe σ vs) H (wipeR ρ vs)
  | [] => s
  | v :: vs => (Sl.wipe s vs).set (sv := .no) (o := none) trivial
theorem wipe_none {σ : L2.St} : ∀ {vs : List Nat} {i : Nat}, i ∈ vs → (wipe σ vs)[i]? = none ∨ (wipe σ vs)[i]? = some none
  | v :: vs, i, h => by
    unfold wipe
    by_cases e : v = i
    · subst e
      by_cases hl : v < (wipe σ vs).length
      · rw [List.getElem?_set_self hl]; exact .inr rfl
      · exact .inl (List.getElem?_eq_none (by simpa using hl))
    · rw [List.getElem?_set_ne e]
      rcases List.mem_cons.mp h with h | h
      · exact absurd h.symm e
      · exact wipe_none h
theorem set_none_same {σ : L2.St} {i : Nat} (h : σ[i]? = none ∨ σ[i]? = some none) : σ.set i none = σ := by
  refine List.ext_getElem? fun j => ?_
  by_cases e : i = j
  · subst e
    rcases h with h | h
    · rw [List.getElem?_eq_none (by simpa using h), h]
    · have hl := (List.getElem?_eq_some_iff.mp h).1
      rw [List.getElem?_set_self hl, h]
  · rw [List.getElem?_set_ne e]
theorem wipe_sub {σ : L2.St} (us : List Nat) : ∀ {vs : List Nat}, (∀ j ∈ vs, j ∈ us) → wipe (wipe σ us) vs = wipe σ us
  | [], _ => rfl
  | v :: vs, h => by
    have ih := wipe_sub (σ := σ) us (vs := vs) fun j hj => h j (List.mem_cons_of_mem _ hj)
    show (wipe (wipe σ us) vs).set v none = _
    rw [ih]
    exact set_none_same (wipe_none (h v List.mem_cons_self))
/-- a list in the making: an address of one's own, of no slot -/
theorem Sl.temp {K : PySem.W.Frag} {Z : Addr → Option Nat} {σ : L2.St} {H : Hp} {ρ : List SV} {b : Nat} {D : Addr} (s : Sl K F Z σ H ρ) (hT : F.T b H) (hn : H D = none) :
    Sl K F (fun y => if y = D then some ρ.length else Z y) σ (upd H D (.lst [])) ρ ∧ ∀ v d, Dx K (Bad F Z) H v d → Dx K (Bad F (fun y => if y = D then some ρ.length else Z y)) (upd H D (.lst [])) v d := by
  have sub : ∀ x, Bad F (fun y => if y = D then some ρ.length else Z y) x → Bad F Z x ∨ H x = none := fun x hx => by
    rcases hx with hx | hx
    · exact .inl (.inl hx)
    · by_cases e : x = D
      · exact .inr (e ▸ hn)
      · have hx' : (if x = D then some ρ.length else Z x).isSome = true := hx
        rw [if_neg e] at hx'
        exact .inl (.inr hx')
  have up : ∀ v d, Dx K (Bad F Z) H v d → Dx K (Bad F (fun y => if y = D then some ρ.length else Z y)) (upd H D (.lst [])) v d := fun v d h => Dx.kz (Kz.new hn) _ _ (Dx.more sub _ _ h)
  refine ⟨⟨s.len, fun j w hj => ?_, fun c j hc => ?_⟩, up⟩
  · have q := s.at' j w hj
    cases w with
    | no => exact trivial
    | im d =>
      obtain ⟨v, e1, x⟩ := q
      exact ⟨v, e1, up _ _ x⟩
    | ls ds =>
      obtain ⟨c, xs, e1, z, x, y⟩ := q
      have nc : c ≠ D := fun q => by rw [q, hn] at x; cases x
      exact ⟨c, xs, e1, by show (if c = D then some ρ.length else Z c) = some j; rw [if_neg nc]; exact z, (upd_ne nc).trans x, DxAll.kz (Kz.new hn) _ _ (DxAll.more sub _ _ y)⟩
    | op v => exact q
    | st => exact q
    | er a y c ed =>
      obtain ⟨e, fs, h1, n, f⟩ := q
      exact ⟨e, fs, (upd_ne fun z => by rw [z, hn] at h1; cases h1).trans h1, fun z => (sub _ z).elim n fun z => (by rw [z] at h1; cases h1), f.up up⟩
    | fn f c q' σ' ρ' =>
      obtain ⟨e, h1, n, o⟩ := q
      exact ⟨e, (upd_ne fun z => by rw [z, hn] at h1; cases h1).trans h1, fun z => (sub _ z).elim n fun z => (by rw [z] at h1; cases h1), o.up up⟩
  · by_cases e : c = D
    · subst e
      exact ⟨F.fresh hT hn, _, upd_same, (fun _ z => by cases z), (fun _ _ z => by cases z), (fun _ z => by cases z), (fun _ z => by cases z)⟩
    · have hc : (if c = D then some ρ.length else Z c) = some j := hc
      rw [if_neg e] at hc
      obtain ⟨n, o, h, x⟩ := s.zp c j hc
      exact ⟨n, o, (upd_ne e).trans h, x⟩
theorem Sl.mutT {K : PySem.W.Frag} {Z : Addr → Option Nat} {σ : L2.St} {H : Hp} {ρ : List SV} {D : Addr} {n : Nat} {xs : List V} (s : Sl K F Z σ H ρ) (hZ : Z D = some n) (hn : ρ.length ≤ n) :
    Sl K F Z σ (upd H D (.lst xs)) ρ ∧ Kz (Bad F Z) H (upd H D (.lst xs)) := by
  obtain ⟨na, o, ho, h1, h2, _⟩ := s.zp D n hZ
  have kz : Kz (Bad F Z) H (upd H D (.lst xs)) := Kz.mut (.inr (by rw [hZ]; rfl)) ho h1 h2
  refine ⟨⟨s.len, fun j w hj => ?_, fun c j hc => ?_⟩, kz⟩
  · have q := s.at' j w hj
    have hl := (List.getElem?_eq_some_iff.mp hj).1
    cases w with
    | no => exact trivial
    | im d =>
      obtain ⟨v, e1, x⟩ := q
      exact ⟨v, e1, Dx.kz kz _ _ x⟩
    | ls ds =>
      obtain ⟨c, xs, e1, z, x, y⟩ := q
      have nc : c ≠ D := fun q => by
        rw [q, hZ] at z
        have := Option.some.inj z
        omega
      exact ⟨c, xs, e1, z, (upd_ne nc).trans x, DxAll.kz kz _ _ y⟩
    | op v => exact q
    | st => exact q
    | er a y c ed =>
      obtain ⟨e, fs, h1, n, f⟩ := q
      exact ⟨e, fs, kz.rd _ _ n h1, n, f.kz kz⟩
    | fn f c q' σ' ρ' =>
      obtain ⟨e, h1, n, o⟩ := q
      exact ⟨e, kz.rd _ _ n h1, n, o.up fun v d h => Dx.kz kz _ _ h⟩
  · obtain ⟨n, o, h, x⟩ := s.zp c j hc
    by_cases e : c = D
    · rw [e]
      exact ⟨na, _, upd_same, (fun _ z => by cases z), (fun _ _ z => by cases z), (fun _ z => by cases z), (fun _ z => by cases z)⟩
    · exact ⟨n, o, (upd_ne e).trans h, x⟩
/-- [elt for tg in iter if ..] -/
def dLc (ti : DTL) (g : DTG) (tt : DTT) (te : DTE) (vs : List Nat) : DTF := fun ρ b Q R => ti ρ b (fun ds b1 => ∃ I : Nat → List PyData → Nat → Prop, I 0 [] b1 ∧
  (∀ i x acc b, ds[i]? = some x → I i acc b → g x (wipeR ρ vs) (fun ρ2 => tt ρ2 b (fun k b2 => cond k (te ρ2 b2 (fun y b3 => acc.length < 1000000 ∧ I (i + 1) (acc ++ [y]) b3) R0) (I (i + 1) acc b2)) R0)) ∧
  ∀ acc b, I ds.length acc b → Q acc b) R
theorem lc_run {K : PySem.W.Frag} {wi : TI} {ti : DTL} {vs : List Nat} (hK : X.K = K) (hj : ∀ j ∈ js, j ∈ vs)
    (qi : ∀ σ H ρ b Z Q R (R0 : It → Hp → Prop), Sl X.K F Z σ H ρ → F.T b H → ti ρ b Q R →
      (∀ J v u src srd ds H' b', Go F b H b' H' → Dx X.K (Bad F Z) H' v src → Dx X.K (Bad F Z) H' u srd → ItD2 X.K F J v u src srd ds → Q ds b' → R0 J H') → Met X F W σ b H R → wi σ H R0)
    {σ : L2.St} {H : Hp} {ρ : List SV} {b : Nat} {Z : Addr → Option Nat} {Q : List PyData → Nat → Prop} {R : DR} {Q0 : VK} (s : Sl X.K F Z σ H ρ) (hT : F.T b H) (ht : dLc ti g tt te vs ρ b Q R)
    (hq : ∀ a xs ds H' b', Go F b H b' H' → H a = none → H' a = some (.lst xs) → DxAll X.K (fun y => Bad F Z y ∨ y = a) H' xs ds → Q ds b' → Q0 (.ref a) H') (m : Met X F W σ b H R) :
    tLc wi (canG X.K F js g) (canT X.K F tt) (canE X.K F te) vs σ H Q0 := by
  refine qi σ H ρ b Z _ R _ s hT ht (fun J v u src srd ds H1 b1 g1 hx hy hJ hd => ?_) m
  obtain ⟨I, i0, istep, iend⟩ := hd
  intro D hD
  have s1 := s.go g1
  obtain ⟨sT, upT⟩ := s1.temp g1.r hD
  generalize hZ' : (fun y => if y = D then some ρ.length else Z y) = Z' at sT upT
  have zD : Z' D = some ρ.length := by rw [← hZ']; exact if_pos rfl
  have sW := sT.wipe vs
  have lenW : (wipeR ρ vs).length = ρ.length := by
    have e1 := sW.len
    have e2 := sT.len
    rw [wipe_length] at e1
    omega
  have gD : Go F b1 H1 b1 (upd H1 D (.lst [])) := Go.new g1.r hD
  refine ⟨fun i mm H2 => mm = ds.length - i ∧ i ≤ ds.length ∧ ∃ acc b2 xs, Go F b1 H1 b2 H2 ∧ H2 D = some (.lst xs) ∧ DxAll X.K (Bad F Z') H2 xs acc ∧ Sl X.K F Z' (wipe σ vs) H2 (wipeR ρ vs) ∧ Dx X.K (Bad F Z') H2 v src ∧ Dx X.K (Bad F Z') H2 u srd ∧ I i acc b2,
    ⟨_, rfl, Nat.zero_le _, [], b1, [], gD, upd_same, .nil, sW, upT _ _ hx, upT _ _ hy, i0⟩, ?_⟩
  rintro i mm H2 ⟨rfl, hle, acc, b2, xs, g2, hl, ha, s2, x2, y2, i2⟩
  by_cases hlt : i < ds.length
  · have hx' : ds[i]? = some ds[i] := List.getElem?_eq_getElem hlt
    obtain ⟨jg, jy⟩ := hJ.go (Bad F Z') b2 H2 (fun _ h => .inl h) (fun p h => s2.fresh g2.r h) g2.r x2 y2 i _ hx'
    refine .inr ⟨jg, fun H3 => ∃ acc b3 xs, Go F b1 H1 b3 H3 ∧ H3 D = some (.lst xs) ∧ DxAll X.K (Bad F Z') H3 xs acc ∧ Sl X.K F Z' (wipe σ vs) H3 (wipeR ρ vs) ∧ Dx X.K (Bad F Z') H3 v src ∧ Dx X.K (Bad F Z') H3 u srd ∧ I (i + 1) acc b3,
      fun H' ⟨acc, b3, xs, h⟩ => ⟨ds.length - (i + 1), by omega, rfl, hlt, acc, b3, xs, h⟩, fun v' H3 y' => ?_⟩
    obtain ⟨g3, x3⟩ := jy v' H3 y'
    have s3 := s2.go g3
    refine ⟨_, _, Z', _, s3, x3, istep i _ acc b2 hx' i2, fun σ4 ρ4 s4 w4 h4 => ⟨?_, ?_⟩⟩
    · rw [w4 vs hj, wipe_sub vs fun j h => h]
    · refine ⟨_, b2, Z', _, s4, g3.r, h4, fun k H5 b5 g5 h5 => ?_⟩
      have s5 := s4.go g5
      have nD : ¬ F.N D := g1.nn' hD
      have g25 := g3.trans g5
      have l5 : H5 D = some (.lst xs) := g25.keep nD hl
      have ha5 := Go.dxa s2 g25 ha
      have x5 := Go.dx s2 g25 x2
      have y5 := Go.dx s2 g25 y2
      have sw5 : Sl X.K F Z' (wipe σ vs) H5 (wipeR ρ vs) := s2.go g25
      cases k with
      | false => exact iteF ⟨acc, b5, xs, g2.trans g25, l5, ha5, sw5, x5, y5, h5⟩
      | true =>
        refine iteT ⟨_, b5, Z', _, s5, g25.r, h5, fun y d H6 b6 g6 hy6 h6 => ?_⟩
        have l6 : H6 D = some (.lst xs) := g6.keep nD l5
        refine ⟨xs, l6, by rw [(Go.dxa s5 g6 ha5).length]; exact sz6' h6.1, ?_⟩
        have sw6 := sw5.go g6
        obtain ⟨sw7, kz⟩ := sw6.mutT (xs := xs ++ [y]) zD (by rw [lenW]; exact Nat.le_refl _)
        refine ⟨acc ++ [d], b6, xs ++ [y], (g2.trans (g25.trans g6)).put hD (nx_lst l6), upd_same, DxAll.kz kz _ _ ((Go.dxa s5 g6 ha5).snoc hy6), sw7, Dx.kz kz _ _ (Go.dx s5 g6 x5), Dx.kz kz _ _ (Go.dx s5 g6 y5), h6.2⟩
  · have e : i = ds.length := by omega
    subst e
    refine .inl ⟨hJ.stop (Bad F Z') b2 H2 (fun _ h => .inl h) g2.r x2 y2, hq D xs acc H2 b2 (g1.trans g2) (g1.was hD) hl (DxAll.mono (fun y h => ?_) _ _ ha) (iend acc b2 i2)⟩
    rcases h with (h | h) | h
    · exact .inl h
    · by_cases e : y = D
      · rw [e]; exact .inr (by rw [zD]; rfl)
      · refine .inr ?_
        rw [← hZ']
        show (if y = D then some ρ.length else Z y).isSome = true
        rw [if_neg e]; exact h
    · rw [h]; exact .inr (by rw [zD]; rfl)
variable {scope : Scope} {own : List (Str × Nat)} {ti : DTL}
theorem df_lc (hc : X.calm = true) (hN : X.N.Nodup) (hi : DI2 X F W tg iter ti) (ok : BlkOk X.N X.env.scope scope own) (hj : ∀ j ∈ js, j ∈ own.map (·.2))
    (hg : ∀ (s : Shared) (H : Hp) (C : Addr) (cl : List (Str × Addr)) (fp : List Addr), DG (X.blk s H scope (compEnvC scope cl C X.env) fp) F tg js g) (ht : ∀ (s : Shared) (H : Hp) (C : Addr) (cl : List (Str × Addr)) (fp : List Addr), DTs (X.blk s H scope (compEnvC scope cl C X.env) fp) F ifs tt)
    (he : ∀ (s : Shared) (H : Hp) (C : Addr) (cl : List (Str × Addr)) (fp : List Addr), DE (X.blk s H scope (compEnvC scope cl C X.env) fp) F W0 elt te) (hs : ∀ x, foldedSetIterable iter X.env x = pure x := by intro _; rfl) :
    DF X F W (.ListComp elt [⟨tg, iter, ifs, 0⟩] scope pos) (dLc ti g tt te (own.map (·.2))) := by
  obtain ⟨wi, p, q⟩ := hi.ex
  exact ⟨_, pe_lc hc hN p ok (fun s H C cl fp => (hg s H C cl fp).can) (fun s H C cl fp => (ht s H C cl fp).can) (fun s H C cl fp => (he s H C cl fp).can) hs, fun σ H ρ b Z Q R Q0 s hT ht hq m => lc_run rfl hj q s hT ht hq m⟩
/-- y = [..]: one's own -/
theorem ds_ownLc {i : Nat} {y : Str} {py spos : Pos} (hc : X.calm = true) (hN : X.N.Nodup) (hy : X.N[i]? = some y) (hyl : X.env.scope.names.lookup y = some .local)
    (hsw : swapsWith (.ListComp elt [⟨tg, iter, ifs, 0⟩] scope pos) (some (.Name y py)) spos.line X.env = pure true) (hi : DI2 X F W tg iter ti) (ok : BlkOk X.N X.env.scope scope own) (hj : ∀ j ∈ js, j ∈ own.map (·.2))
    (hg : ∀ (s : Shared) (H : Hp) (C : Addr) (cl : List (Str × Addr)) (fp : List Addr), DG (X.blk s H scope (compEnvC scope cl C X.env) fp) F tg js g) (ht : ∀ (s : Shared) (H : Hp) (C : Addr) (cl : List (Str × Addr)) (fp : List Addr), DTs (X.blk s H scope (compEnvC scope cl C X.env) fp) F ifs tt)
    (he : ∀ (s : Shared) (H : Hp) (C : Addr) (cl : List (Str × Addr)) (fp : List Addr), DE (X.blk s H scope (compEnvC scope cl C X.env) fp) F W0 elt te) (hs : ∀ x, foldedSetIterable iter X.env x = pure x := by intro _; rfl) :
    DS X F W (.Assign [.Name y py] (.ListComp elt [⟨tg, iter, ifs, 0⟩] scope pos) spos) (sOwn i (dLc ti g tt te (own.map (·.2)))) := by
  obtain ⟨wi, p, q⟩ := hi.ex
  refine ⟨_, ps_setLc (i := i) (g := canG X.K F js g) (tt := canT X.K F tt) (te := canE X.K F te) hc hN hy hyl hsw p ok (fun s H C cl fp => (hg s H C cl fp).can) (fun s H C cl fp => (ht s H C cl fp).can) (fun s H C cl fp => (he s H C cl fp).can) hs, fun b0 H0 ps σ H ρ b D D' r h E => ?_⟩
  obtain ⟨Z, s, gg, hz, hp⟩ := r.ex
  refine lc_run (Q0 := fun v H1 => D.nx (σ.set i (some v)) H1) rfl hj q s gg.r h (fun y xs ds H' b' g' hn hl hx hd => ?_) (met_of E gg)
  exact E.nx _ _ _ _ (own_rs s gg hz hp g' hn hl hx) hd
/-- y = [..]: it stays as it is -/
theorem ds_setLc {i : Nat} {y : Str} {py spos : Pos} (hc : X.calm = true) (hN : X.N.Nodup) (hy : X.N[i]? = some y) (hyl : X.env.scope.names.lookup y = some .local)
    (hsw : swapsWith (.ListComp elt [⟨tg, iter, ifs, 0⟩] scope pos) (some (.Name y py)) spos.line X.env = pure true) (hi : DI2 X F W tg iter ti) (ok : BlkOk X.N X.env.scope scope own) (hj : ∀ j ∈ js, j ∈ own.map (·.2))
    (hg : ∀ (s : Shared) (H : Hp) (C : Addr) (cl : List (Str × Addr)) (fp : List Addr), DG (X.blk s H scope (compEnvC scope cl C X.env) fp) F tg js g) (ht : ∀ (s : Shared) (H : Hp) (C : Addr) (cl : List (Str × Addr)) (fp : List Addr), DTs (X.blk s H scope (compEnvC scope cl C X.env) fp) F ifs tt)
    (he : ∀ (s : Shared) (H : Hp) (C : Addr) (cl : List (Str × Addr)) (fp : List Addr), DE (X.blk s H scope (compEnvC scope cl C X.env) fp) F W0 elt te) (hs : ∀ x, foldedSetIterable iter X.env x = pure x := by intro _; rfl) :
    DS X F W (.Assign [.Name y py] (.ListComp elt [⟨tg, iter, ifs, 0⟩] scope pos) spos) (sSet i (dF (dLc ti g tt te (own.map (·.2))))) := by
  obtain ⟨wi, p, q⟩ := hi.ex
  refine ⟨_, ps_setLc (i := i) (g := canG X.K F js g) (tt := canT X.K F tt) (te := canE X.K F te) hc hN hy hyl hsw p ok (fun s H C cl fp => (hg s H C cl fp).can) (fun s H C cl fp => (ht s H C cl fp).can) (fun s H C cl fp => (he s H C cl fp).can) hs, fun b0 H0 ps σ H ρ b D D' r h E => ?_⟩
  obtain ⟨Z, s, gg, hz, hp⟩ := r.ex
  refine lc_run (Q0 := fun v H1 => D.nx (σ.set i (some v)) H1) rfl hj q s gg.r h (fun y xs ds H' b' g' hn hl hx hd => ?_) (met_of E gg)
  have hx' : Dx X.K (Bad F Z) H' (.ref y) (.list ds) := .lst (s.fresh gg.r hn) hl (DxAll.mono (fun _ z => .inl z) _ _ hx)
  exact E.nx _ _ _ _ (.mk' ((s.go g').setIm i hx') (gg.trans g') hz (pins_go s g' hp)) hd
/-- the pure case: each thing becomes f of it -/
theorem lc_map {ti : DTL} {g : DTG} {te : DTE} {vs : List Nat} {ρ : List SV} {b : Nat} {Q : List PyData → Nat → Prop} {R : DR} (f : PyData → PyData) (h : ti ρ b (fun ds b1 => ds.length ≤ 1000000 ∧ (∀ x ∈ ds, ∀ Q' : DQ, Q' (f x) b1 → g x (wipeR ρ vs) (fun ρ2 => te ρ2 b1 Q' R0)) ∧ Q (ds.map f) b1) R)
    (mono : ∀ Q1 Q2 : List PyData → Nat → Prop, (∀ ds b, Q1 ds b → Q2 ds b) → ti ρ b Q1 R → ti ρ b Q2 R) : dLc ti g dYes te vs ρ b Q R := by
  refine mono _ _ (fun ds b1 ⟨hl, h1, h2⟩ => ?_) h
  refine ⟨fun i acc b => acc = (ds.take i).map f ∧ b = b1, ⟨rfl, rfl⟩, fun i x acc b hx hi => ?_, fun acc b hi => ?_⟩
  · obtain ⟨rfl, rfl⟩ := hi
    have hi' := (List.getElem?_eq_some_iff.mp hx).1
    refine h1 x (List.mem_of_getElem? hx) _ ⟨?_, ?_, rfl⟩
    · rw [List.length_map, List.length_take]; omega
    · rw [List.take_add_one, hx, List.map_append]; rfl
  · obtain ⟨rfl, rfl⟩ := hi
    rw [List.take_length]; exact h2
end
end Df

set_option Elab.async false
set_option linter.all false
set_option maxRecDepth 100000
set_option maxHeartbeats 4000000
/-! DfC: defs by data: their promises, their calls; raise. -/
namespace Df
open PySem PySem.Spec PyProof.Rows L2 Lf
open GxR (TabB TabG Tabbed GenS)
/-- what a def is asked: its arguments, the count of draws, what follows, what is raised -/
abbrev DSp := List AV → Nat → DQ → DR → Prop
def Z0 : Addr → Option Nat := fun _ => none
theorem bad0 {F : Fr} {x : Addr} : Bad F Z0 x ↔ F.N x := ⟨fun h => h.elim id (fun h => by cases h), fun h => .inl h⟩
def toSp (K : PySem.W.Frag) (mg : Str → Option Value) (PT : List (Addr × Option Str)) (sp : DSp) : Sp := fun vs H Q E => ∃ (F : Fr) (b : Nat) (as : List AV) (Qd : DQ) (Rd : DR), (∀ p ∈ PT, HasT F p) ∧ F.T b H ∧ AVs K F Z0 H vs as ∧ sp as b Qd Rd ∧
  (∀ v d H' b', Go F b H b' H' → Dx K F.N H' v d → Qd d b' → Q v H') ∧ ∀ cls x H' b' ed, Go F b H b' H' → ErrR K mg F.N H' cls x ed → Rd ed b' → E cls x H'
theorem AVs.length {K : PySem.W.Frag} {F : Fr} {Z : Addr → Option Nat} {H : Hp} : ∀ {as : List AV} {vs : List V}, AVs K F Z H vs as → vs.length = as.length
  | [], _, h => by cases h; rfl
  | a :: as, _, h => by
    cases h with
    | cons _ h2 => show _ + 1 = _ + 1; rw [AVs.length h2]
def svOf : AV → SV
  | .im d => .im d
  | .op v => .op v
  | .st => .st
def startD (N : List Str) (as : List AV) : List SV := as.map svOf ++ List.replicate (N.length - as.length) .no
theorem avs_get {K : PySem.W.Frag} {F : Fr} {Z : Addr → Option Nat} {H : Hp} : ∀ {as : List AV} {vs : List V} {i : Nat} {a : AV}, AVs K F Z H vs as → as[i]? = some a → ∃ v, vs[i]? = some v ∧ AVR K F Z H v a
  | [], _, _, _, _, e => by simp at e
  | a :: as, _, 0, _, h, e => by
    cases h with
    | cons h1 h2 =>
      cases e
      exact ⟨_, rfl, h1⟩
  | a :: as, _, i + 1, _, h, e => by
    cases h with
    | cons h1 h2 => exact avs_get (i := i) h2 (by simpa using e)
theorem start_sl {K : PySem.W.Frag} {F : Fr} {H : Hp} {N : List Str} {vs : List V} {as : List AV} (h : AVs K F Z0 H vs as) (hN : as.length ≤ N.length) : Sl K F Z0 (L2.start N vs) H (startD N as) := by
  have hl := h.length
  refine ⟨?_, fun i sv hi => ?_, fun a i z => by cases z⟩
  · unfold L2.start startD
    rw [List.length_append, List.length_append, List.length_map, List.length_map, List.length_replicate, List.length_replicate, hl]
  · unfold startD at hi
    unfold L2.start
    by_cases hlt : i < as.length
    · rw [List.getElem?_append_left (by rw [List.length_map]; exact hlt), List.getElem?_map] at hi
      rw [List.getElem?_append_left (by rw [List.length_map, hl]; exact hlt), List.getElem?_map]
      have ha : as[i]? = some as[i] := List.getElem?_eq_getElem hlt
      rw [ha] at hi
      cases hi
      obtain ⟨v, hv, r⟩ := avs_get h ha
      rw [hv]
      generalize as[i] = a at r
      cases a with
      | im d =>
        refine ⟨v, rfl, ?_⟩
        rcases r with r | ⟨a, xs, ds, rfl, rfl, n, hl, hx⟩
        · exact r
        · exact .lst (fun z => n (bad0.mp z)) hl hx
      | op u =>
        have r : v = u := r
        subst r
        rfl
      | st =>
        obtain ⟨a, rfl, hs⟩ := r
        exact ⟨a, rfl, hs⟩
    · rw [List.getElem?_append_right (by rw [List.length_map]; omega), List.getElem?_replicate] at hi
      split at hi
      · cases hi
        exact trivial
      · cases hi
section
variable {P : Program} {w : World} {K : PySem.W.Frag} {mg : Str → Option Value} {base : Heap} {x : Str} {k : Nat} {ps : List Str} {PT : List (Addr × Option Str)}
/-- a def's promise by data -/
abbrev PrD (P : Program) (w : World) (K : PySem.W.Frag) (mg : Str → Option Value) (base : Heap) (PT : List (Addr × Option Str)) (k : Nat) (x : Str) (ps : List Str) (sp : DSp) : Prop := Pr P w K mg base k x ps (toSp K mg PT sp)
theorem PrD.of {sp : DSp} {fd : FuncData} {f : Addr} {st : Stmt} {N : List Str} (D : Def K mg x ps st f fd) (S : FnScope N ps (defScope st)) (len : ∀ as b Q R, sp as b Q R → as.length = ps.length) (hN : ps.length ≤ N.length)
    (hbody : ∀ (cdv : Value) (A : Around) (outer : List Env) (s : Shared) (H : Hp) (E : XK) (F : Fr), fd.code = cdv → A.guards = some [] → Room k (A.deeper (envOfC x (defScope st) s.heap.objs.size f cdv)) → (∀ p ∈ PT, HasT F p) →
      ∃ t, DSs (cxOf (L2.CX P w) P w K mg base N x (defScope st) f cdv A outer s H E) F (fun cls d _ H => E cls d H) (defBody st) t ∧ ∀ as b Q R, sp as b Q R → t { nx := fun _ b' => Q .none b', rt := Q, er := R } (startD N as) b) : PrD P w K mg base PT (k + 1) x ps sp := by
  refine Pr.of' D S (fun vs H Q E h => ?_) fun cdv A outer s H vs Q E hcd hG hr h => ?_
  · obtain ⟨F, b, as, Qd, Rd, _, _, ha, hs, _⟩ := h
    rw [ha.length]
    exact len _ _ _ _ hs
  · obtain ⟨F, b, as, Qd, Rd, hF, hT, ha, hs, hq, he⟩ := h
    obtain ⟨t, ht, hsp⟩ := hbody cdv A outer s H E F hcd hG hr hF
    obtain ⟨t0, p, q⟩ := ht.ex
    have hl := len _ _ _ _ hs
    refine ⟨t0, p, q b H [] (L2.start N vs) H (startD N as) b _ _ (.mk' (start_sl ha (by rw [hl]; exact hN)) (Go.refl hT) (fun a i z => by cases z) (fun p h => by cases h)) (hsp as b Qd Rd hs) ?_⟩
    refine ⟨fun σ H' ρ b' r hn => ?_, fun σ H' ρ b' r hn => hn.elim, fun σ H' ρ b' r hn => hn.elim, fun v d H' b' g hx hd => hq v d H' b' g hx hd, fun cls x σ H' b' ed g hx hd => he cls x H' b' ed g hx hd⟩
    obtain ⟨Z, s, g, _⟩ := r.ex
    exact hq .non .none H' b' g .non hn
/-! ### calls -/
/-- the caller's own lists in the callee's frame -/
def ownF (F : Fr) (Z : Addr → Option Nat) (H1 : Hp) (hz : ∀ a i, Z a = some i → ¬ F.N a ∧ ∃ o, H1 a = some o ∧ (∀ xs, o ≠ .tup xs) ∧ (∀ ob w, o ≠ .frz ob w) ∧ (∀ fs, o ≠ .xd fs) ∧ ∀ φ, o ≠ .ext φ) : Fr where
  N a := Bad F Z a
  T b H := F.T b H ∧ ∀ a, (Z a).isSome = true → H a = H1 a
  pos b H a h n := by
    rcases n with n | n
    · exact F.pos _ _ _ h.1 n
    · obtain ⟨i, e⟩ := Option.isSome_iff_exists.mp n
      obtain ⟨_, o, x, y⟩ := hz a i e
      exact ⟨o, by rw [h.2 a n]; exact x, y.1, y.2.1, y.2.2.2⟩
  loc b H H' h e x := ⟨F.loc _ _ _ h.1 (fun a n => e a (.inl n)) x, fun a z => (e a (.inr z)).trans (h.2 a z)⟩
  mono b c H h l := ⟨F.mono _ _ _ h.1 l, h.2⟩
section
variable {F : Fr} {Z : Addr → Option Nat} {H1 : Hp} {hz : ∀ a i, Z a = some i → ¬ F.N a ∧ ∃ o, H1 a = some o ∧ (∀ xs, o ≠ .tup xs) ∧ (∀ ob w, o ≠ .frz ob w) ∧ (∀ fs, o ≠ .xd fs) ∧ ∀ φ, o ≠ .ext φ}
theorem own_ne {a P : Addr} (hP : F.N P) (h : (Z a).isSome = true) (hz : ∀ a i, Z a = some i → ¬ F.N a ∧ ∃ o, H1 a = some o ∧ (∀ xs, o ≠ .tup xs) ∧ (∀ ob w, o ≠ .frz ob w) ∧ (∀ fs, o ≠ .xd fs) ∧ ∀ φ, o ≠ .ext φ) : a ≠ P := fun e => by
  obtain ⟨i, q⟩ := Option.isSome_iff_exists.mp h
  exact (hz a i q).1 (e ▸ hP)
theorem own_tab {P : Addr} (h : HasTab F P) : HasTab (ownF F Z H1 hz) P :=
  ⟨.inl h.n, fun b H q => h.g _ _ q.1, fun b H H' q t => ⟨h.t _ _ _ q.1 t, fun a z => (t.2 a (own_ne h.n z hz)).trans (q.2 a z)⟩⟩
theorem own_lam {P : Addr} {q : Str} (h : HasLam F P q) : HasLam (ownF F Z H1 hz) P q :=
  ⟨.inl h.n, fun b H z => h.g _ _ z.1, fun b H H' l t => ⟨h.t _ _ _ l.1 t, fun a z => by
    obtain ⟨i, y⟩ := Option.isSome_iff_exists.mp z
    obtain ⟨_, o, ho, _⟩ := hz a i y
    have e := (l.2 a z).trans ho
    exact (t.2 a o (own_ne h.n z hz) e).trans ho.symm⟩⟩
theorem own_t {p : Addr × Option Str} (h : HasT F p) : HasT (ownF F Z H1 hz) p := by
  obtain ⟨P, q⟩ := p
  cases q with
  | none => exact own_tab h
  | some q => exact own_lam h
theorem own_st {st : Addr} (h : HasSt F st) : HasSt (ownF F Z H1 hz) st := by
  obtain ⟨cA, lA, n1, n2, n3, h1, h2⟩ := h.ex
  refine ⟨cA, lA, .inl n1, .inl n2, .inl n3, fun b H q => h1 _ _ q.1, fun b c H H' q e s l => ⟨h2 b c H H' q.1 e s l, fun a z => ?_⟩⟩
  exact (e a (own_ne n1 z hz) (own_ne n3 z hz)).trans (q.2 a z)
theorem own_go {b c : Nat} {H H' : Hp} (g : Go (ownF F Z H1 hz) b H c H') : Go F b H c H' := by
  refine ⟨fun a o n e => ?_, g.l.1, g.r.1⟩
  by_cases z : (Z a).isSome = true
  · rw [g.r.2 a z, ← g.l.2 a z]
    exact e
  · exact g.kp a o (fun q => q.elim n z) e
end
/-- arguments that may be kept -/
def AVRs (K : PySem.W.Frag) (F : Fr) (Z : Addr → Option Nat) (H : Hp) (v : V) : AV → Prop
  | .im d => Dx K (Bad F Z) H v d
  | .op u => v = u
  | .st => ∃ a, v = .ref a ∧ HasSt F a
inductive AVSs (K : PySem.W.Frag) (F : Fr) (Z : Addr → Option Nat) (H : Hp) : List V → List AV → Prop
  | nil : AVSs K F Z H [] []
  | cons {v : V} {a : AV} {vs : List V} {as : List AV} : AVRs K F Z H v a → AVSs K F Z H vs as → AVSs K F Z H (v :: vs) (a :: as)
structure DAs (X : Cx) (F : Fr) (W : WX) (es : List Expr) (t : DTA) : Prop where
  ex : ∃ t0, PA X es t0 ∧ ∀ σ H ρ b Z Q R Q0, Sl X.K F Z σ H ρ → F.T b H → t ρ b Q R → (∀ vs as H' b', Go F b H b' H' → AVSs X.K F Z H' vs as → Q as b' → Q0 vs H') → Met X F W σ b H R → t0 σ H Q0
end
section
variable {X : Cx} {F : Fr} {W : WX} {e a : Expr} {es : List Expr} {t : DTE} {ta u : DTA} {pos p : Pos} {x : Str} {k : Nat} {ps : List Str} {PT : List (Addr × Option Str)} {sp : DSp}
theorem das_nil : DAs X F W [] aNil := ⟨_, pa_nil, fun σ H ρ b Z Q R Q0 s hT ht hq m => hq [] [] H b (Go.refl hT) .nil ht⟩
theorem das_cons (h : DE X F W e t) (h' : DAs X F W es u) (hs : starEach (e :: es) X.env = (false, eval e X.env) :: starEach es X.env := by rfl) : DAs X F W (e :: es) (aCons t u) := by
  obtain ⟨t0, p, q⟩ := h.ex
  obtain ⟨t1, p1, q1⟩ := h'.ex
  refine ⟨_, pa_cons p p1 hs, fun σ H ρ b Z Q R Q0 s hT ht hq m => ?_⟩
  refine q σ H ρ b Z _ R _ s hT ht (fun v d H' b' g x hk => ?_) m
  refine q1 σ H' ρ b' Z _ R _ (s.go g) g.r hk (fun vs ds H2 b2 g2 x2 h2 => ?_) (m.go g)
  exact hq (v :: vs) (.im d :: ds) H2 b2 (g.trans g2) (.cons (Go.dx (s.go g) g2 x) x2) h2
theorem das_var {i : Nat} {x : Str} (hN : X.N[i]? = some x) (hv : Vis X.env.scope x) (h' : DAs X F W es u) (hd : (x == ("__debug__" : Str)) = false := by decide) (hcd : (x == ("__classdict__" : Str)) = false := by decide)
    (hs : starEach (.Name x pos :: es) X.env = (false, eval (.Name x pos) X.env) :: starEach es X.env := by rfl) : DAs X F W (.Name x pos :: es) (aVar i u) := by
  obtain ⟨t1, p1, q1⟩ := h'.ex
  refine ⟨_, pa_cons (pe_var (i := i) hN hv hd hcd) p1 hs, fun σ H ρ b Z Q R Q0 s hT ht hq m => ?_⟩
  unfold aVar at ht
  cases h : ρ[i]? with
  | none => rw [h] at ht; exact ht.elim
  | some sv =>
    rw [h] at ht
    have q := s.at' i sv h
    cases sv with
    | op v =>
      refine ⟨v, q, q1 σ H ρ b Z _ R _ s hT ht (fun vs ds H2 b2 g2 x2 h2 => ?_) m⟩
      exact hq (v :: vs) (.op v :: ds) H2 b2 g2 (.cons rfl x2) h2
    | st =>
      obtain ⟨a, e, hs⟩ := q
      refine ⟨_, e, q1 σ H ρ b Z _ R _ s hT ht (fun vs ds H2 b2 g2 x2 h2 => ?_) m⟩
      exact hq (.ref a :: vs) (.st :: ds) H2 b2 g2 (.cons ⟨a, rfl, hs⟩ x2) h2
    | no => exact ht.elim
    | ls _ => exact ht.elim
    | im _ => exact ht.elim
    | er _ _ _ _ => exact ht.elim
    | fn _ _ _ _ _ => exact ht.elim
def dFn (sp : DSp) (ta : DTA) : DTE := fun ρ b Q R => ta ρ b (fun as b1 => sp as b1 Q R) R
/-- f(..): what leaves it is taken by W -/
theorem de_fnX (hG : X.A.guards = some []) (G : PrD X.prog X.w X.K X.mg X.base PT k x ps sp) (hF : ∀ p ∈ PT, HasT F p) (hr : Room k X.A) (tk : Takes X W) (ha : DAs X F W (e :: es) ta) (hg : Gl X x := by rfl)
    (hdb : (x == ("__debug__" : Str)) = false := by decide) (he : starEach (e :: es) X.env = (false, eval e X.env) :: starEach es X.env := by rfl) (hpl : (backTo pos (starEach es X.env)).any (·.1) = false := by rfl) :
    DE X F W (.Call (.Name x p) (e :: es) [] pos) (dFn sp ta) := by
  obtain ⟨t0, p, q⟩ := ha.ex
  refine ⟨_, pcallX hG G hr tk p hg hdb he hpl, fun σ H ρ b Z Q R Q0 s hT ht hq m => ?_⟩
  refine q σ H ρ b Z _ R _ s hT ht (fun vs as H1 b1 g1 x1 ht1 => ?_) m
  have s1 := s.go g1
  have hav : ∀ {vs as}, AVSs X.K F Z H1 vs as → AVs X.K (ownF F Z H1 s1.zp) Z0 H1 vs as := fun {vs as} h => by
    induction h with
    | nil => exact .nil
    | @cons v a vs as h1 _ ih =>
      refine .cons ?_ ih
      cases a with
      | im d => exact .inl (Dx.mono (fun x hx => bad0.mp hx) _ _ h1)
      | op u => exact h1
      | st =>
        obtain ⟨a, e, hs⟩ := h1
        exact ⟨a, e, own_st hs⟩
  refine ⟨ownF F Z H1 s1.zp, b1, as, Q, R, fun p hp => own_t (hF p hp), ⟨g1.r, fun _ _ => rfl⟩, hav x1, ht1, fun v d H' b' g x hd _ => ?_, fun cls y H' b' ed g hx hd => ?_⟩
  · exact hq v d H' b' (g1.trans (own_go g)) x hd
  · refine m.er cls y H' b' ed (g1.trans (own_go g)) ?_ hd
    obtain ⟨C, e1, e2, z, fs, e3, e4, e6, e5⟩ := hx
    exact ⟨C, e1, e2, z, fs, e3, e4, fun q => e6 (.inl q), Flds.mono (fun _ n => .inl n) e5⟩
/-- f(..): nothing leaves it -/
theorem de_fn (hG : X.A.guards = some []) (G : PrD X.prog X.w X.K X.mg X.base PT k x ps sp) (hF : ∀ p ∈ PT, HasT F p) (hr : Room k X.A) (ha : DAs X F W (e :: es) ta) (hg : Gl X x := by rfl)
    (hdb : (x == ("__debug__" : Str)) = false := by decide) (he : starEach (e :: es) X.env = (false, eval e X.env) :: starEach es X.env := by rfl) (hpl : (backTo pos (starEach es X.env)).any (·.1) = false := by rfl) :
    DE X F W (.Call (.Name x p) (e :: es) [] pos) (fun ρ b Q R => ta ρ b (fun as b1 => sp as b1 Q R0) R) := by
  obtain ⟨t0, p, q⟩ := ha.ex
  refine ⟨_, pcall hG G hr p hg hdb he hpl, fun σ H ρ b Z Q R Q0 s hT ht hq m => ?_⟩
  refine q σ H ρ b Z _ R _ s hT ht (fun vs as H1 b1 g1 x1 ht1 => ?_) m
  have s1 := s.go g1
  have hav : ∀ {vs as}, AVSs X.K F Z H1 vs as → AVs X.K (ownF F Z H1 s1.zp) Z0 H1 vs as := fun {vs as} h => by
    induction h with
    | nil => exact .nil
    | @cons v a vs as h1 _ ih =>
      refine .cons ?_ ih
      cases a with
      | im d => exact .inl (Dx.mono (fun x hx => bad0.mp hx) _ _ h1)
      | op u => exact h1
      | st =>
        obtain ⟨a, e, hs⟩ := h1
        exact ⟨a, e, own_st hs⟩
  refine ⟨ownF F Z H1 s1.zp, b1, as, Q, R0, fun p hp => own_t (hF p hp), ⟨g1.r, fun _ _ => rfl⟩, hav x1, ht1, fun v d H' b' g x hd _ => ?_, fun cls y H' b' ed g hx hd => hd.elim⟩
  exact hq v d H' b' (g1.trans (own_go g)) x hd
/-- lists of one's own may be handed in where no list comes back within what comes back -/
def shal : PyData → Bool
  | .list ds => flats ds
  | d => flat d
theorem avs_n {K : PySem.W.Frag} {Z : Addr → Option Nat} {H : Hp} {vs : List V} {as : List AV} (h : AVs K F Z H vs as) : AVs K F Z0 H vs as := by
  induction h with
  | nil => exact .nil
  | @cons v a vs as h1 _ ih =>
    refine .cons ?_ ih
    cases a with
    | im d => exact .inl (Dx.mono (fun x hx => bad0.mp hx) _ _ (Bw.n h1))
    | op u => exact h1
    | st => exact h1
theorem db_fn (hG : X.A.guards = some []) (G : PrD X.prog X.w X.K X.mg X.base PT k x ps sp) (hF : ∀ p ∈ PT, HasT F p) (hr : Room k X.A) (ha : DA X F W (e :: es) ta) (hg : Gl X x := by rfl)
    (hdb : (x == ("__debug__" : Str)) = false := by decide) (he : starEach (e :: es) X.env = (false, eval e X.env) :: starEach es X.env := by rfl) (hpl : (backTo pos (starEach es X.env)).any (·.1) = false := by rfl) :
    DB X F W (.Call (.Name x p) (e :: es) [] pos) (fun ρ b Q R => ta ρ b (fun as b1 => sp as b1 (fun d b2 => shal d = true ∧ Q d b2) R0) R) := by
  obtain ⟨t0, p, q⟩ := ha.ex
  refine ⟨_, pcall hG G hr p hg hdb he hpl, fun σ H ρ b Z Q R Q0 s hT ht hq m => ?_⟩
  refine q σ H ρ b Z _ R _ s hT ht (fun vs as H1 b1 g1 x1 ht1 => ?_) m
  refine ⟨F, b1, as, _, R0, hF, g1.r, avs_n x1, ht1, fun v d H' b' g x hd _ => ?_, fun cls y H' b' ed g hx hd => hd.elim⟩
  refine hq v d H' b' (g1.trans g) ?_ hd.2
  have hs := hd.1
  cases d with
  | list ds =>
    obtain ⟨a, xs, rfl, n, hl, ha⟩ := x.invL
    exact .inr ⟨a, xs, ds, rfl, rfl, n, hl, DxAll.flat _ _ hs ha⟩
  | none => exact .inl (Dx.flat _ _ hs x)
  | bool _ => exact .inl (Dx.flat _ _ hs x)
  | int _ => exact .inl (Dx.flat _ _ hs x)
  | str _ => exact .inl (Dx.flat _ _ hs x)
  | tuple _ => exact .inl (Dx.flat _ _ hs x)
  | dict _ => exact .inl (Dx.flat _ _ hs x)
/-- .. where what comes back has no list -/
theorem de_fnF (hG : X.A.guards = some []) (G : PrD X.prog X.w X.K X.mg X.base PT k x ps sp) (hF : ∀ p ∈ PT, HasT F p) (hr : Room k X.A) (ha : DA X F W (e :: es) ta) (hg : Gl X x := by rfl)
    (hdb : (x == ("__debug__" : Str)) = false := by decide) (he : starEach (e :: es) X.env = (false, eval e X.env) :: starEach es X.env := by rfl) (hpl : (backTo pos (starEach es X.env)).any (·.1) = false := by rfl) :
    DE X F W (.Call (.Name x p) (e :: es) [] pos) (fun ρ b Q R => ta ρ b (fun as b1 => sp as b1 (fun d b2 => flat d = true ∧ Q d b2) R0) R) := by
  obtain ⟨t0, p, q⟩ := ha.ex
  refine ⟨_, pcall hG G hr p hg hdb he hpl, fun σ H ρ b Z Q R Q0 s hT ht hq m => ?_⟩
  refine q σ H ρ b Z _ R _ s hT ht (fun vs as H1 b1 g1 x1 ht1 => ?_) m
  refine ⟨F, b1, as, _, R0, hF, g1.r, avs_n x1, ht1, fun v d H' b' g x hd _ => ?_, fun cls y H' b' ed g hx hd => hd.elim⟩
  exact hq v d H' b' (g1.trans g) (Dx.flat _ _ hd.1 x) hd.2
/-! ### raise -/
def sRaise (xn fld : Str) (te : DTE) : DTS := fun D ρ b => te ρ b (fun d b' => D.er (xn, [(fld, d)]) b') D.er
theorem ds_raise {xn : Str} {C fI : Addr} {fld : Str} {pos2 : Pos} (hc : X.calm = true) (T : LfX.SupTxt X.prog X.K X.mg xn C fI fld) (hr : Room k X.A) (tk : Takes X W) (ha : DE X F W e t) (hg : Gl X xn := by rfl) (hdb : (xn == ("__debug__" : Str)) = false := by decide)
    (hs : starEach [e] X.env = (false, eval e X.env) :: starEach [] X.env := by rfl) : DS X F W (.Raise (some (.Call (.Name xn p) [e] [] pos)) none pos2) (sRaise xn fld t) := by
  obtain ⟨t0, pp, q⟩ := ha.ex
  refine ⟨_, LfX.ps_raiseSup hc T hr tk (pa_cons pp pa_nil hs) hg hs rfl hdb, fun b0 H0 ps σ H ρ b D D' r h E => ?_⟩
  obtain ⟨Z, s, gg, hz, hp⟩ := r.ex
  refine q σ H ρ b Z _ _ _ s gg.r h (fun v d H' b' g' x hd => ?_) (met_of E gg)
  refine ⟨v, rfl, fun dx nd => ?_⟩
  refine E.er _ _ σ _ b' _ ((gg.trans g').add nd) ⟨C, rfl, T.gC, dx, _, rfl, upd_same, F.fresh g'.r nd, .cons ?_ .nil⟩ hd
  exact Dx.kz (Kz.new nd) _ _ (Dx.mono (fun _ z => .inl z) _ _ x)
end
end Df

set_option Elab.async false
set_option linter.all false
set_option maxRecDepth 100000
set_option maxHeartbeats 4000000
/-! DfP: built-in functions, slices, methods of lists by data. -/
namespace Df
open PySem PySem.Spec PyProof.Rows L2 Lf
theorem CallR.or {X : Cx} {f : Value} {r r' : List V → Hp → VK → Prop} (h : CallR X f r) (h' : CallR X f r') : CallR X f (fun xs H Q => r xs H Q ∨ r' xs H Q) := by
  intro pins s σ H xs us Q I r q
  rcases q with q | q
  · exact h pins s σ H xs us Q I r q
  · exact h' pins s σ H xs us Q I r q
section
variable {K : PySem.W.Frag} {F : Fr} {Z : Addr → Option Nat} {H : Hp} {vs : List V}
theorem avs1 {d : PyData} (h : AVs K F Z H vs [.im d]) : ∃ v, vs = [v] ∧ Bw K F Z H v d := by
  cases h with
  | cons h1 h2 => cases h2; exact ⟨_, rfl, h1⟩
theorem avs2 {d e : PyData} (h : AVs K F Z H vs [.im d, .im e]) : ∃ v u, vs = [v, u] ∧ Bw K F Z H v d ∧ Bw K F Z H u e := by
  cases h with
  | cons h1 h2 =>
    obtain ⟨u, rfl, h3⟩ := avs1 h2
    exact ⟨_, u, rfl, h1, h3⟩
end
section
variable {X : Cx} {K : PySem.W.Frag}
/-! ### len -/
def rLenA (K : PySem.W.Frag) : List V → Hp → VK → Prop := fun xs H Q => rLenK K xs H Q ∨ ∃ z, xs = [.str z] ∧ z.length ≤ sizeLine ∧ Q (.int z.length) H
theorem call_lenA : CallR X (.builtin "len") (rLenA X.K) := CallR.or call_len_seq call_len_str
def rdLen : RDC
  | [.list ds], Q => Q (.int ds.length)
  | [.tuple ds], Q => Q (.int ds.length)
  | [.str z], Q => z.length ≤ 1000000 ∧ Q (.int z.length)
  | _, _ => False
theorem cd_len : CallD K (rLenA K) rdLen := by
  intro F Z b H vs ds Q Q0 hh hv hr hq
  unfold rdLen at hr
  split at hr
  · obtain ⟨v, rfl, x⟩ := avs1 hv
    obtain ⟨a, us, rfl, _, hl, ha⟩ := x.lst
    exact .inl ⟨a, us, rfl, .inl (.inl (.inl hl)), hq _ _ H (Go.refl hh.t) (by rw [ha.length]; exact .int _) hr⟩
  · obtain ⟨v, rfl, x⟩ := avs1 hv
    obtain ⟨a, us, rfl, hl, ha⟩ := x.tup.inv
    exact .inl ⟨a, us, rfl, .inr hl, hq _ _ H (Go.refl hh.t) (by rw [ha.length]; exact .int _) hr⟩
  · obtain ⟨v, rfl, x⟩ := avs1 hv
    have := x.str
    subst this
    exact .inr ⟨_, rfl, sz6 hr.1, hq _ _ H (Go.refl hh.t) (.int _) hr.2⟩
  · exact hr.elim
/-! ### tuple, list -/
def rdTup : RDC
  | [.list ds], Q => Q (.tuple ds)
  | [.tuple ds], Q => Q (.tuple ds)
  | _, _ => False
theorem cd_tuple : CallD K (rTupK K) rdTup := by
  intro F Z b H vs ds Q Q0 hh hv hr hq
  unfold rdTup at hr
  split at hr
  · obtain ⟨v, rfl, x⟩ := avs1 hv
    obtain ⟨a, us, rfl, _, hl, ha⟩ := x.lst
    exact ⟨a, us, rfl, .inl ⟨.inl (.inl hl), fun p np => hq _ _ _ (Go.new hh.t np) (dx_tup np ha) hr⟩⟩
  · obtain ⟨v, rfl, x⟩ := avs1 hv
    obtain ⟨a, us, rfl, hl, ha⟩ := x.tup.inv
    exact ⟨a, us, rfl, .inr ⟨hl, hq _ _ _ (Go.refl hh.t) x.tup hr⟩⟩
  · exact hr.elim
def rdList : RDC
  | [.list ds], Q => Q (.list ds)
  | [.tuple ds], Q => Q (.list ds)
  | _, _ => False
theorem cd_list : CallD K (rListK K) rdList := by
  intro F Z b H vs ds Q Q0 hh hv hr hq
  unfold rdList at hr
  split at hr
  · obtain ⟨v, rfl, x⟩ := avs1 hv
    obtain ⟨a, us, rfl, _, hl, ha⟩ := x.lst
    exact ⟨a, us, rfl, .inl (.inl (.inl hl)), fun p np => hq _ _ _ (Go.new hh.t np) (dx_lst np (hh.fresh np) ha) hr⟩
  · obtain ⟨v, rfl, x⟩ := avs1 hv
    obtain ⟨a, us, rfl, hl, ha⟩ := x.tup.inv
    exact ⟨a, us, rfl, .inr hl, fun p np => hq _ _ _ (Go.new hh.t np) (dx_lst np (hh.fresh np) ha) hr⟩
  · exact hr.elim
/-! ### int, max, min, sum -/
def rInt1 : List V → Hp → VK → Prop := fun xs H Q => (∃ i, xs = [.int i] ∧ Q (.int i) H) ∨ ∃ k, xs = [.bl k] ∧ Q (.int (if k then 1 else 0)) H
theorem call_intA : CallR X (.type "int") rInt1 := call_int1
def rdInt : RDC
  | [.int i], Q => Q (.int i)
  | _, _ => False
theorem cd_int : CallD K rInt1 rdInt := by
  intro F Z b H vs ds Q Q0 hh hv hr hq
  unfold rdInt at hr
  split at hr
  · obtain ⟨v, rfl, x⟩ := avs1 hv
    have := x.int
    subst this
    exact .inl ⟨_, rfl, hq _ _ H (Go.refl hh.t) (.int _) hr⟩
  · exact hr.elim
def intsOf : List PyData → Option (List Int)
  | [] => some []
  | .int i :: r => (intsOf r).map (i :: ·)
  | _ :: _ => none
theorem intsOf_vals {B : Addr → Prop} {H : Hp} : ∀ {ds : List PyData} {us : List V} {ns : List Int}, intsOf ds = some ns → DxAll K B H us ds → us = ns.map V.int
  | [], us, ns, h, hx => by
    cases h
    cases hx
    rfl
  | .int i :: r, us, ns, h, hx => by
    simp only [intsOf, Option.map_eq_some_iff] at h
    obtain ⟨ms, h1, rfl⟩ := h
    cases hx with
    | cons h2 h3 =>
      have := h2.inv_int
      subst this
      rw [intsOf_vals h1 h3]
      rfl
  | .none :: _, _, _, h, _ => by cases h
  | .bool _ :: _, _, _, h, _ => by cases h
  | .str _ :: _, _, _, h, _ => by cases h
  | .tuple _ :: _, _, _, h, _ => by cases h
  | .list _ :: _, _, _, h, _ => by cases h
  | .dict _ :: _, _, _, h, _ => by cases h
theorem intsOf_map (ns : List Int) : intsOf (ns.map .int) = some ns := by
  induction ns with
  | nil => rfl
  | cons n r ih => simp only [List.map_cons, intsOf, ih]; rfl
def rdSum : RDC
  | [.list ds], Q => ∃ ns, intsOf ds = some ns ∧ Q (.int ns.sum)
  | _, _ => False
theorem cd_sum : CallD K (rSum K) rdSum := by
  intro F Z b H vs ds Q Q0 hh hv hr hq
  unfold rdSum at hr
  split at hr
  · obtain ⟨v, rfl, x⟩ := avs1 hv
    obtain ⟨a, us, rfl, _, hl, ha⟩ := x.lst
    obtain ⟨ns, h1, h2⟩ := hr
    have e := intsOf_vals h1 ha
    subst e
    exact ⟨a, ns, rfl, .inl (.inl hl), hq _ _ H (Go.refl hh.t) (.int _) h2⟩
  · exact hr.elim
/-- the greatest of some -/
def maxI : List Int → Int
  | [] => 0
  | [n] => n
  | n :: r => max n (maxI r)
theorem maxI_mem : ∀ {ns : List Int}, ns ≠ [] → maxI ns ∈ ns
  | [], h => absurd rfl h
  | [n], _ => by simp [maxI]
  | n :: m :: r, _ => by
    have ih := maxI_mem (ns := m :: r) (by simp)
    show max n (maxI (m :: r)) ∈ n :: m :: r
    rcases Int.le_total (maxI (m :: r)) n with h | h
    · rw [Int.max_eq_left h]; exact List.mem_cons_self
    · rw [Int.max_eq_right h]; exact List.mem_cons_of_mem _ ih
theorem maxI_ge : ∀ {ns : List Int} {y : Int}, y ∈ ns → y ≤ maxI ns
  | [], _, h => by cases h
  | [n], y, h => by
    have e : y = n := by simpa using h
    subst e
    exact Int.le_refl _
  | n :: m :: r, y, h => by
    show y ≤ max n (maxI (m :: r))
    rcases List.mem_cons.mp h with h | h
    · subst h; exact Int.le_max_left _ _
    · exact Int.le_trans (maxI_ge h) (Int.le_max_right _ _)
def rMaxA (K : PySem.W.Frag) : List V → Hp → VK → Prop := fun xs H Q => rMax K xs H Q ∨ ∃ i j, xs = [.int i, .int j] ∧ Q (.int (if j > i then j else i)) H
theorem call_maxA (hc : X.calm = true) : CallR X (.builtin "max") (rMaxA X.K) := CallR.or (cr_max hc) (call_max2 hc)
def rdMax : RDC
  | [.list ds], Q => ∃ ns, intsOf ds = some ns ∧ ns ≠ [] ∧ Q (.int (maxI ns))
  | [.int i, .int j], Q => Q (.int (max i j))
  | _, _ => False
theorem cd_max : CallD K (rMaxA K) rdMax := by
  intro F Z b H vs ds Q Q0 hh hv hr hq
  unfold rdMax at hr
  split at hr
  · obtain ⟨v, rfl, x⟩ := avs1 hv
    obtain ⟨a, us, rfl, _, hl, ha⟩ := x.lst
    obtain ⟨ns, h1, h0, h2⟩ := hr
    have e := intsOf_vals h1 ha
    subst e
    refine .inl ⟨a, ns, rfl, .inl (.inl hl), List.length_pos_iff.mpr h0, fun m hm hle => ?_⟩
    have e : m = maxI ns := Int.le_antisymm (maxI_ge hm) (hle _ (maxI_mem h0))
    rw [e]
    exact hq _ _ H (Go.refl hh.t) (.int _) h2
  · obtain ⟨v, u, rfl, x, y⟩ := avs2 hv
    have := x.int
    subst this
    have := y.int
    subst this
    refine .inr ⟨_, _, rfl, ?_⟩
    rename_i i j
    have e : (if j > i then j else i) = max i j := by split <;> omega
    rw [e]
    exact hq _ _ H (Go.refl hh.t) (.int _) hr
  · exact hr.elim
def rMin2A : List V → Hp → VK → Prop := fun xs H Q => ∃ i j, xs = [.int i, .int j] ∧ Q (.int (if j < i then j else i)) H
theorem call_min2A (hc : X.calm = true) : CallR X (.builtin "min") rMin2A := call_min2 hc
def rdMin2 : RDC
  | [.int i, .int j], Q => Q (.int (min i j))
  | _, _ => False
theorem cd_min2 : CallD K rMin2A rdMin2 := by
  intro F Z b H vs ds Q Q0 hh hv hr hq
  unfold rdMin2 at hr
  split at hr
  · obtain ⟨v, u, rfl, x, y⟩ := avs2 hv
    have := x.int
    subst this
    have := y.int
    subst this
    refine ⟨_, _, rfl, ?_⟩
    rename_i i j
    have e : (if j < i then j else i) = min i j := by split <;> omega
    rw [e]
    exact hq _ _ H (Go.refl hh.t) (.int _) hr
  · exact hr.elim
/-! ### isinstance -/
def isTup : PyData → Bool
  | .tuple _ => true
  | _ => false
def isLst : PyData → Bool
  | .list _ => true
  | _ => false
def isStr : PyData → Bool
  | .str _ => true
  | _ => false
def isInt : PyData → Bool
  | .int _ => true
  | .bool _ => true
  | _ => false
def isBool : PyData → Bool
  | .bool _ => true
  | _ => false
theorem kit_tup (d : PyData) : kitB (tyD d) "tuple" = some (isTup d) := by cases d <;> (simp only [tyD, isTup]; decide +kernel)
theorem kit_lst (d : PyData) : kitB (tyD d) "list" = some (isLst d) := by cases d <;> (simp only [tyD, isLst]; decide +kernel)
theorem kit_str' (d : PyData) : kitB (tyD d) "str" = some (isStr d) := by cases d <;> (simp only [tyD, isStr]; decide +kernel)
theorem kit_int (d : PyData) : kitB (tyD d) "int" = some (isInt d) := by cases d <;> (simp only [tyD, isInt]; decide +kernel)
theorem kit_bool (d : PyData) : kitB (tyD d) "bool" = some (isBool d) := by cases d <;> (simp only [tyD, isBool]; decide +kernel)
theorem tyX_dx {F : Fr} {Z : Addr → Option Nat} {H : Hp} {v : V} {d : PyData} (h : Bw K F Z H v d) : TyX K H v (.type (tyD d)) := by
  have h := h.n
  cases h with
  | non => exact .base .non
  | bl b => exact .base (.bl b)
  | int i => exact .base (.int i)
  | str x => exact .base (.str x)
  | tup hs ha =>
    rcases sqT_kinds _ _ hs with (q | ⟨o, q⟩) | ⟨o, q, c⟩
    · exact .base (.tup q)
    · exact .fTuple q
    · exact .kTuple q c
  | lst _ hl _ => exact .base (.lst hl)
  | dic _ hl => exact .base (.dK hl)
def dIsi (f : PyData → Bool) (t : DTE) : DTE := fun ρ b Q R => t ρ b (fun d b' => Q (.bool (f d)) b') R
theorem de_isi {F : Fr} {W : WX} {e : Expr} {t : DTE} {f : PyData → Bool} {T : Str} {cT : String} {p pos p2 : Pos} (hk : ∀ d, kitB (tyD d) cT = some (f d)) (hT : ∃ u, bootBuiltins T = some u ∧ RelV (.ty cT) u) (hm : X.mg "isinstance" = none) (hmT : X.mg T = none) (ha : DB X F W e t)
    (hg : Gl X "isinstance" := by rfl) (hgT : Gl X T := by rfl) (hnT : T ≠ "__name__" := by decide) (hdT : (T == ("__debug__" : Str)) = false := by decide)
    (hs1 : starEach [.Name T p2] X.env = (false, eval (.Name T p2) X.env) :: starEach [] X.env := by rfl) (he : starEach (e :: [.Name T p2]) X.env = (false, eval e X.env) :: starEach [.Name T p2] X.env := by rfl) (hpl : (backTo pos (starEach [.Name T p2] X.env)).any (·.1) = false := by rfl) :
    DE X F W (.Call (.Name "isinstance" p) [e, .Name T p2] [] pos) (dIsi f t) := by
  obtain ⟨t0, p, q⟩ := ha.ex
  obtain ⟨uT, hv, hrel⟩ := hT
  have pT : PE X (.Name T p2) (tC (.ty cT)) := pe_bltn hgT hmT hv hrel hnT hdT
  refine ⟨_, pe_callB (call_isi) hg hm (by decide +kernel) (pa_cons p (pa_cons pT pa_nil hs1) he) (by decide) (by decide) he hpl, fun σ H ρ b Z Q R Q0 s hT ht hq m => ?_⟩
  refine q σ H ρ b Z _ R _ s hT ht (fun v d H' b' g x hd => ?_) m
  exact ⟨v, .ty cT, .type (tyD d), .type cT, f d, rfl, .ty cT, tyX_dx x, kit_ty (hk d), hq _ _ H' b' g (.bl _) hd⟩
/-! ### repr -/
def rdRepr : RDC
  | [d], Q => (isLst d || isTup d) = true ∧ d.plain = true ∧ d.showable = true ∧ d.shown.length ≤ 1000000 ∧ d.depth ≤ 150 ∧ Q (.str d.shown)
  | _, _ => False
theorem cd_repr {A : Around} {k : Nat} (hr : Room k A) : CallD K (rReprD K A) rdRepr := by
  intro F Z b H vs ds Q Q0 hh hv ht hq
  unfold rdRepr at ht
  split at ht
  · obtain ⟨v, rfl, x⟩ := avs1 hv
    obtain ⟨h1, h2, h3, h4, h5, h6⟩ := ht
    have hun := hr.un
    have hd := x.dp h2
    obtain ⟨a, rfl⟩ : ∃ a, v = .ref a := by
      rename_i d
      cases hd with
      | lst _ _ => exact ⟨_, rfl⟩
      | tup _ _ => exact ⟨_, rfl⟩
      | non => cases h1
      | bl _ => cases h1
      | int _ => cases h1
      | str _ => cases h1
    exact ⟨a, _, rfl, hd, h3, sz6 h4, by omega, hq _ _ H (Go.refl hh.t) (.str _) h6⟩
  · exact ht.elim
/-! ### slices -/
def cutD (ds : List PyData) (lo hi : Option Int) : List PyData := (ds.drop (HT.sIx ds.length 0 lo)).take (HT.sIx ds.length ds.length hi - HT.sIx ds.length 0 lo)
theorem cut_dx {B : Addr → Prop} {H : Hp} {us : List V} {ds : List PyData} {lo hi : Option Int} (h : DxAll K B H us ds) : DxAll K B H (cutV us lo hi) (cutD ds lo hi) := by
  unfold cutV cutD
  rw [h.length]
  exact (h.drop _).take _
def rSlAll (K : PySem.W.Frag) : V → Option Int → Option Int → Hp → VK → Prop := fun x lo hi H Q => rSlA K x lo hi H Q ∨ rSlL K x lo hi H Q ∨ rSlS x lo hi H Q
theorem sl_all : SlR X (rSlAll X.K) := SlR.or sl_tupA (SlR.or sl_list sl_str)
abbrev DTO := List SV → Nat → (Option Int → Nat → Prop) → DR → Prop
structure DO (X : Cx) (F : Fr) (W : WX) (e : Option Expr) (t : DTO) : Prop where
  ex : ∃ t0, PO X e t0 ∧ ∀ σ H ρ b Z Q R Q0, Sl X.K F Z σ H ρ → F.T b H → t ρ b Q R → (∀ o H' b', Go F b H b' H' → Q o b' → Q0 o H') → Met X F W σ b H R → t0 σ H Q0
def dNo : DTO := fun _ b Q _ => Q none b
def dSo (t : DTE) : DTO := fun ρ b Q R => t ρ b (fun d b' => onI d fun i => Q (some i) b') R
theorem do_none {F : Fr} {W : WX} : DO X F W none dNo := ⟨_, po_none, fun σ H ρ b Z Q R Q0 s hT ht hq m => hq none H b (Go.refl hT) ht⟩
theorem do_some {F : Fr} {W : WX} {e : Expr} {t : DTE} (h : DE X F W e t) : DO X F W (some e) (dSo t) := by
  obtain ⟨t0, p, q⟩ := h.ex
  refine ⟨_, po_some p, fun σ H ρ b Z Q R Q0 s hT ht hq m => ?_⟩
  refine q σ H ρ b Z _ R _ s hT ht (fun v d H' b' g x hd => ?_) m
  unfold onI at hd
  split at hd
  · have := x.inv_int
    subst this
    exact ⟨_, rfl, hq _ H' b' g hd⟩
  · exact hd.elim
/-- a slice by data -/
def cutQ (lo hi : Option Int) : PyData → (PyData → Prop) → Prop
  | .tuple ds, Q => Q (.tuple (cutD ds lo hi))
  | .list ds, Q => Q (.list (cutD ds lo hi))
  | .str z, Q => z.length ≤ 1000000 ∧ Q (.str (cutS z lo hi))
  | _, _ => False
def dSl (t : DTE) (tl th : DTO) : DTE := fun ρ b Q R => t ρ b (fun d b1 => tl ρ b1 (fun lo b2 => th ρ b2 (fun hi b3 => cutQ lo hi d fun z => Q z b3) R) R) R
theorem de_slice {F : Fr} {W : WX} {e : Expr} {lo hi : Option Expr} {t : DTE} {tl th : DTO} {p2 pos : Pos} (ha : DB X F W e t) (hl : DO X F W lo tl) (hu : DO X F W hi th) : DE X F W (.Subscript e (.Slice lo hi none p2) pos) (dSl t tl th) := by
  obtain ⟨t1, p1, q1⟩ := ha.ex
  obtain ⟨t2, p2, q2⟩ := hl.ex
  obtain ⟨t3, p3, q3⟩ := hu.ex
  refine ⟨_, pe_slice sl_all p1 p2 p3, fun σ H ρ b Z Q R Q0 s hT ht hq m => ?_⟩
  refine q1 σ H ρ b Z _ R _ s hT ht (fun v d H1 b1 g1 x1 ht1 => ?_) m
  have s1 := s.go g1
  have h1 := s1.hd g1.r
  refine q2 σ H1 ρ b1 Z _ R _ s1 g1.r ht1 (fun lo' H2 b2 g2 ht2 => ?_) (m.go g1)
  refine q3 σ H2 ρ b2 Z _ R _ (s1.go g2) g2.r ht2 (fun hi' H3 b3 g3 ht3 => ?_) ((m.go g1).go g2)
  have g := (g1.trans g2).trans g3
  have x3 := (x1.go h1 g2).go (h1.go g2) g3
  have h3 := (h1.go g2).go g3
  unfold cutQ at ht3
  split at ht3
  · rename_i ds
    obtain ⟨a, us, rfl, hs, ha⟩ := x3.tup.inv
    have hl := ha.length
    refine .inl ⟨a, us, rfl, hs, fun z => ?_, fun _ p np => ?_⟩
    · refine hq _ _ H3 b3 g ?_ ht3
      have e : cutD ds lo' hi' = ds := by
        unfold cutD
        rw [← hl, z.1, z.2, List.drop_zero, Nat.sub_zero, hl, List.take_length]
      rw [e]
      exact .tup hs ha
    · exact hq _ _ _ b3 (g.add np) (dx_tup np (cut_dx ha)) ht3
  · obtain ⟨a, us, rfl, _, hs, ha⟩ := x3.lst
    exact .inr (.inl ⟨a, us, rfl, .inl (.inl hs), fun p np => hq _ _ _ b3 (g.add np) (dx_lst np (h3.fresh np) (cut_dx ha)) ht3⟩)
  · have := x3.str
    subst this
    exact .inr (.inr ⟨_, rfl, sz6 ht3.1, hq _ _ H3 b3 g (.str _) ht3.2⟩)
  · exact ht3.elim
end
end Df
namespace Df
open PySem PySem.Spec PyProof.Rows L2 Lf
section
variable {X : Cx} {F : Fr} {W : WX} {es : List Expr} {u : DTA} {pos : Pos} {x : Str}
/-! ### names by slot -/
theorem dv (i : Nat) (hN : X.N[i]? = some x := by rfl) (hv : Vis X.env.scope x := by first | exact .inl rfl | exact .inr (.inl rfl) | exact .inr (.inr rfl)) (hd : (x == ("__debug__" : Str)) = false := by decide) (hcd : (x == ("__classdict__" : Str)) = false := by decide) : DE X F W (.Name x pos) (dVar i) := de_var hN hv hd hcd
theorem dvb (i : Nat) (hN : X.N[i]? = some x := by rfl) (hv : Vis X.env.scope x := by first | exact .inl rfl | exact .inr (.inl rfl) | exact .inr (.inr rfl)) (hd : (x == ("__debug__" : Str)) = false := by decide) (hcd : (x == ("__classdict__" : Str)) = false := by decide) : DB X F W (.Name x pos) (dVarB i) := db_var hN hv hd hcd
theorem dav (i : Nat) (h' : DA X F W es u) (hN : X.N[i]? = some x := by rfl) (hv : Vis X.env.scope x := by first | exact .inl rfl | exact .inr (.inl rfl) | exact .inr (.inr rfl)) (hd : (x == ("__debug__" : Str)) = false := by decide) (hcd : (x == ("__classdict__" : Str)) = false := by decide)
    (hs : starEach (.Name x pos :: es) X.env = (false, eval (.Name x pos) X.env) :: starEach es X.env := by rfl) : DA X F W (.Name x pos :: es) (aVar i u) := da_var hN hv h' hd hcd hs
theorem dasv (i : Nat) (h' : DAs X F W es u) (hN : X.N[i]? = some x := by rfl) (hv : Vis X.env.scope x := by first | exact .inl rfl | exact .inr (.inl rfl) | exact .inr (.inr rfl)) (hd : (x == ("__debug__" : Str)) = false := by decide) (hcd : (x == ("__classdict__" : Str)) = false := by decide)
    (hs : starEach (.Name x pos :: es) X.env = (false, eval (.Name x pos) X.env) :: starEach es X.env := by rfl) : DAs X F W (.Name x pos :: es) (aVar i u) := das_var hN hv h' hd hcd hs
end
end Df

set_option Elab.async false
set_option linter.all false
set_option maxRecDepth 100000
set_option maxHeartbeats 4000000
/-! DfG: all(x in TEXT for x in text), by data. -/
namespace Df
open PySem PySem.Spec PyProof.Rows L2 Lf
open GxR (TabB TabG Tabbed GenS)
theorem all_range' (l : List Nat) (p : Nat → Bool) : ((List.range l.length).all fun i => match l[i]? with | some c => p c | none => false) = l.all p := by
  refine Eq.trans ?_ (Lf.all_range l p)
  exact congrArg (List.all (List.range l.length)) (funext fun i => by cases l[i]? <;> rfl)
section
variable {X : Cx} {F : Fr} {W : WX} {iter : Expr} {t : DTE}
def dAllIn (z : Str) (t : DTE) : DTE := fun ρ b Q R => t ρ b (fun d b' => match d with
  | .str a => Q (.bool (a.cps.toList.all fun c => decide (c ∈ z.cps.toList))) b'
  | _ => False) R
theorem de_allIn {c P : Addr} {x gx : Str} {px p pos gpos p1 p2 p3 : Pos} {scope : Scope} {k : Nat} {z : Str} {tz : Tok} (hP : HasTab F P) (hr : Room k X.A) (hm : X.mg "all" = none) (TB : TabB X.base X.mg c P) (hcode : X.env.code = .ref c) (S : GenS X.env scope x) (hz : X.mg gx = some (.str z tz)) (hi : DB X F W iter t)
    (hk : scope.kind = .function := by rfl) (hl : scope.names.lookup x = some .local := by rfl) (hgl : scope.names.lookup gx = some .globalImplicit := by rfl)
    (hg : Gl X "all" := by rfl) (hs : ∀ v, genFold iter X.env v = pure v := by intro _; rfl) (hd : (x == ("__debug__" : Str)) = false := by decide) (hd2 : (gx == ("__debug__" : Str)) = false := by decide)
    (he : starEach [.GeneratorExp (.Compare (.Name x p1) [.In] [.Name gx p2] p3) [⟨.Name x px, iter, [], 0⟩] scope gpos] X.env = (false, eval (.GeneratorExp (.Compare (.Name x p1) [.In] [.Name gx p2] p3) [⟨.Name x px, iter, [], 0⟩] scope gpos) X.env) :: starEach [] X.env := by rfl) :
    DE X F W (.Call (.Name "all" p) [.GeneratorExp (.Compare (.Name x p1) [.In] [.Name gx p2] p3) [⟨.Name x px, iter, [], 0⟩] scope gpos] [] pos) (dAllIn z t) := by
  obtain ⟨t0, pp, q⟩ := hi.ex
  refine ⟨_, LfG.pe_allG (R := fun v H n f => ∃ a : Str, v = .str a ∧ (∃ q, H P = some (.tbl q)) ∧ n = a.cps.size ∧ f = fun i => match a.cps.toList[i]? with | some c => decide (c ∈ z.cps.toList) | none => false)
      hr hm TB hcode S pp (fun pins σ v H1 n f s1 u hR I1 r1 => by
        obtain ⟨a, rfl, hp, rfl, rfl⟩ := hR
        obtain ⟨t, rfl⟩ := r1
        exact LfG.src_signs I1 hp hk hl hgl hz hd hd2) hg hs he, fun σ H ρ b Z Q R Q0 s hT ht hq m => ?_⟩
  refine q σ H ρ b Z _ R _ s hT ht (fun v d H' b' g x hd => ?_) m
  split at hd
  · rename_i a
    have := x.str
    subst this
    have hg := hP.g _ _ g.r
    obtain ⟨pq, hp1, hp2⟩ := hP.g _ _ g.r
    refine ⟨hg, a.cps.size, _, ⟨a, rfl, ⟨pq, hp1⟩, rfl, rfl⟩, fun H2 ht2 => ?_⟩
    have e : ((List.range a.cps.size).all fun i => match a.cps.toList[i]? with | some c => decide (c ∈ z.cps.toList) | none => false) = a.cps.toList.all fun c => decide (c ∈ z.cps.toList) := by
      rw [← Array.length_toList]
      exact all_range' _ _
    rw [e]
    exact hq _ _ H2 b' (g.trans (Go.tabbed hP g.r ht2)) (.bl _) hd
  · exact hd.elim
end
end Df

set_option Elab.async false
set_option linter.all false
set_option maxRecDepth 100000
set_option maxHeartbeats 4000000
/-! DfR: what the readings are at data that is told: for simp. -/
namespace Df
open PySem PySem.Spec PyProof.Rows L2 Lf
section
variable {xs ys ds : List PyData} {d e : PyData} {i j c : Int} {x y z : Str} {k : Bool} {b : Nat} {Q : PyData → Prop} {L : List PyData → Prop}
theorem onB_ {K : Bool → Prop} : onB (.bool k) K = K k := rfl
theorem onI_ {K : Int → Prop} : onI (.int i) K = K i := rfl
theorem onIt_l : onIt (.list ds) L = L ds := rfl
theorem onIt_t : onIt (.tuple ds) L = L ds := rfl
theorem onIt_s : onIt (.str x) L = L (signsD x) := rfl
theorem kRng1_ : kRng1 [.int j] L = (j < 2 ^ 61 ∧ -(2 ^ 61) < j ∧ L (rangeD 0 j.toNat)) := rfl
theorem kRng2_ : kRng2 [.int i, .int j] L = ((i < 2 ^ 61 ∧ -(2 ^ 61) < i) ∧ (j < 2 ^ 61 ∧ -(2 ^ 61) < j) ∧ L (rangeD i (j - i).toNat)) := rfl
theorem kRng3_ : kRng3 [.int i, .int j, .int c] L = (c = -1 ∧ (i < 2 ^ 61 ∧ -(2 ^ 61) < i) ∧ (j < 2 ^ 61 ∧ -(2 ^ 61) < j) ∧ L (rangeCD i (-1) (i - j).toNat)) := rfl
theorem kEnum_l : kEnum [.list ds] L = L (enumD ds) := rfl
theorem kEnum_t : kEnum [.tuple ds] L = L (enumD ds) := rfl
theorem kZip_l : kZip [.list xs, .list ys] L = L (zipD xs ys) := rfl
theorem kZip_t : kZip [.tuple xs, .tuple ys] L = L (zipD xs ys) := rfl
variable {lo hi : Option Int} {C : Int → Int → Prop} {f : Int → Int → Int} {g : Int → Int → Bool} {h : PyData → PyData → Bool} {n : Bool}
theorem cutQ_t : cutQ lo hi (.tuple ds) Q = Q (.tuple (cutD ds lo hi)) := rfl
theorem cutQ_l : cutQ lo hi (.list ds) Q = Q (.list (cutD ds lo hi)) := rfl
theorem cutQ_s : cutQ lo hi (.str z) Q = (z.length ≤ 1000000 ∧ Q (.str (cutS z lo hi))) := rfl
theorem rdI_ : rdI C f (.int i) (.int j) Q = (C i j ∧ Q (.int (f i j))) := rfl
theorem rdI0_ : rdI0 f (.int i) (.int j) Q = Q (.int (f i j)) := rfl
theorem rdB0_ : rdB0 g (.int i) (.int j) Q = Q (.bool (g i j)) := rfl
theorem rdAdd_i : rdAdd (.int i) (.int j) Q = Q (.int (i + j)) := rfl
theorem rdAdd_s : rdAdd (.str x) (.str y) Q = (x.length + y.length ≤ 1000000 ∧ Q (.str (x ++ y))) := rfl
theorem rdAdd_t : rdAdd (.tuple xs) (.tuple ys) Q = (xs.length + ys.length ≤ 1000000 ∧ Q (.tuple (xs ++ ys))) := rfl
theorem rdAdd_l : rdAdd (.list xs) (.list ys) Q = (xs.length + ys.length ≤ 1000000 ∧ Q (.list (xs ++ ys))) := rfl
theorem rdMul_i : rdMul (.int i) (.int j) Q = (IntMulOk i j ∧ Q (.int (i * j))) := rfl
theorem rdMul_l : rdMul (.list xs) (.int i) Q = (-(2 ^ 62) ≤ i ∧ i < 2 ^ 62 ∧ xs.length * i.toNat ≤ 1000000 ∧ Q (.list (List.replicate i.toNat xs).flatten)) := rfl
theorem rdMul_t : rdMul (.tuple xs) (.int i) Q = (xs ≠ [] ∧ 2 ≤ i ∧ i ≤ 1000 ∧ xs.length ≤ 1000 ∧ Q (.tuple (List.replicate i.toNat xs).flatten)) := rfl
theorem rdEq_i : rdEq n (.int i) (.int j) Q = Q (.bool (if n then !(i == j) else i == j)) := rfl
theorem rdEq_s : rdEq n (.str x) (.str y) Q = Q (.bool (if n then !(x == y) else x == y)) := rfl
theorem rdEq0_l : rdEq0 false (.list xs) (.list []) Q = Q (.bool xs.isEmpty) := rfl
theorem rdEq0_ln : rdEq0 true (.list xs) (.list []) Q = Q (.bool (!xs.isEmpty)) := rfl
theorem rdEq0_t : rdEq0 false (.tuple xs) (.tuple []) Q = Q (.bool xs.isEmpty) := rfl
theorem rdOrd_i : rdOrd g h (.int i) (.int j) Q = Q (.bool (g i j)) := rfl
theorem rdIsN_ : rdIsN false d .none Q = Q (.bool (isN d)) := rfl
theorem rdIsN_n : rdIsN true d .none Q = Q (.bool (!isN d)) := rfl
theorem rdIx_t : rdIx (.tuple ds) (.int i) Q = ∃ x, ixD ds i = some x ∧ Q x := rfl
theorem rdIx_l : rdIx (.list ds) (.int i) Q = ∃ x, ixD ds i = some x ∧ Q x := rfl
theorem rdIx_s : rdIx (.str z) (.int i) Q = ∃ c, z.length ≤ 1000000 ∧ ixD z.cps.toList i = some c ∧ Q (.str ⟨#[c]⟩) := rfl
theorem rdLen_l : rdLen [.list ds] Q = Q (.int ds.length) := rfl
theorem rdLen_t : rdLen [.tuple ds] Q = Q (.int ds.length) := rfl
theorem rdLen_s : rdLen [.str z] Q = (z.length ≤ 1000000 ∧ Q (.int z.length)) := rfl
theorem rdTup_l : rdTup [.list ds] Q = Q (.tuple ds) := rfl
theorem rdTup_t : rdTup [.tuple ds] Q = Q (.tuple ds) := rfl
theorem rdList_l : rdList [.list ds] Q = Q (.list ds) := rfl
theorem rdList_t : rdList [.tuple ds] Q = Q (.list ds) := rfl
theorem rdInt_ : rdInt [.int i] Q = Q (.int i) := rfl
theorem rdSum_ : rdSum [.list ds] Q = ∃ ns, intsOf ds = some ns ∧ Q (.int ns.sum) := rfl
theorem rdMax_l : rdMax [.list ds] Q = ∃ ns, intsOf ds = some ns ∧ ns ≠ [] ∧ Q (.int (maxI ns)) := rfl
theorem rdMax_i : rdMax [.int i, .int j] Q = Q (.int (max i j)) := rfl
theorem rdMin_i : rdMin2 [.int i, .int j] Q = Q (.int (min i j)) := rfl
theorem gT_ {m : Nat} {u : DTGs} {ρ : List SV} {Qr : List SV → Prop} : gT m u (.tuple ds) ρ Qr = (ds.length = m ∧ u ds ρ Qr) := rfl
theorem gsC_ {g : DTG} {u : DTGs} {ρ : List SV} {Qr : List SV → Prop} : gsC g u (d :: ds) ρ Qr = g d ρ (fun ρ' => u ds ρ' Qr) := rfl
variable {ρ : List SV} {as : List AV} {Qd : DQ} {R : DR} {m : Nat}
theorem dVar_0 : dVar 0 (.im d :: ρ) b Qd R = Qd d b := rfl
theorem dVarB_0 : dVarB 0 (.im d :: ρ) b Qd R = Qd d b := rfl
theorem dVarB_l : dVarB 0 (.ls ds :: ρ) b Qd R = Qd (.list ds) b := rfl
theorem dVar_s {s : SV} : dVar (m + 1) (s :: ρ) b Qd R = dVar m ρ b Qd R := rfl
theorem dVarB_s {s : SV} : dVarB (m + 1) (s :: ρ) b Qd R = dVarB m ρ b Qd R := rfl
theorem allIm_0 : allIm [] = some [] := rfl
theorem allIm_1 : allIm [.im d] = some [d] := rfl
theorem allIm_2 : allIm [.im d, .im e] = some [d, e] := rfl
variable {s : SV} {D : DEnds} {t u : DTS} {tt : DTT} {te tk : DTE} {tf : DTF} {tl : DTL} {gg : DTG} {ff : Int → Int → Int} {xn fld : Str}
theorem sNil_ : sNil D (s :: ρ) b = D.nx (s :: ρ) b := rfl
theorem sCons_ : sCons t u D (s :: ρ) b = t { D with nx := u D } (s :: ρ) b := rfl
theorem sRet_ : sRet te D (s :: ρ) b = te (s :: ρ) b D.rt D.er := rfl
theorem sRetN_ : sRetN D (s :: ρ) b = D.rt .none b := rfl
theorem sDrop_ : sDrop te D (s :: ρ) b = te (s :: ρ) b (fun _ b' => D.nx (s :: ρ) b') D.er := rfl
theorem sBreak_ : sBreak D (s :: ρ) b = D.bk (s :: ρ) b := rfl
theorem sCont_ : sCont D (s :: ρ) b = D.ct (s :: ρ) b := rfl
theorem sIf_ : sIf tt t u D (s :: ρ) b = tt (s :: ρ) b (fun k b' => cond k (t D (s :: ρ) b') (u D (s :: ρ) b')) D.er := rfl
theorem sSet_ : sSet m te D (s :: ρ) b = te (s :: ρ) b (fun d b' => D.nx ((s :: ρ).set m (.im d)) b') D.er := rfl
theorem sOwn_ : sOwn m tf D (s :: ρ) b = tf (s :: ρ) b (fun ds b' => D.nx ((s :: ρ).set m (.ls ds)) b') D.er := rfl
theorem sAsg_ : sAsg te gg D (s :: ρ) b = te (s :: ρ) b (fun d b' => gg d (s :: ρ) (fun ρ' => D.nx ρ' b')) D.er := rfl
theorem sRaise_ : sRaise xn fld te D (s :: ρ) b = te (s :: ρ) b (fun d b' => D.er (xn, [(fld, d)]) b') D.er := rfl
theorem sAppend_ : sAppend m te D (s :: ρ) b = (match (s :: ρ)[m]? with
  | some (.ls ds) => te (s :: ρ) b (fun d b' => ds.length < 1000000 ∧ D.nx ((s :: ρ).set m (.ls (ds ++ [d]))) b') D.er
  | _ => False) := rfl
theorem sPop_ : sPop m gg D (s :: ρ) b = (match (s :: ρ)[m]? with
  | some (.ls ds) => ∃ r d, ds = r ++ [d] ∧ gg d ((s :: ρ).set m (.ls r)) (fun ρ' => D.nx ρ' b)
  | _ => False) := rfl
theorem sAug_ : sAug ff m te D (s :: ρ) b = (match (s :: ρ)[m]? with
  | some (.im (.int i)) => te (s :: ρ) b (fun e b' => match e with
    | .int j => D.nx ((s :: ρ).set m (.im (.int (ff i j)))) b'
    | _ => False) D.er
  | _ => False) := rfl
theorem sSetI_ : sSetI m te tk D (s :: ρ) b = (match (s :: ρ)[m]? with
  | some (.ls ds) => te (s :: ρ) b (fun d b1 => tk (s :: ρ) b1 (fun k b2 => match k with
    | .int n => ∃ j, ixN ds.length n = some j ∧ D.nx ((s :: ρ).set m (.ls (ds.set j d))) b2
    | _ => False) D.er) D.er
  | _ => False) := rfl
theorem sFreeze_ : sFreeze m t D (s :: ρ) b = (match (s :: ρ)[m]? with
  | some (.ls ds) => t D ((s :: ρ).set m (.im (.list ds))) b
  | _ => t D (s :: ρ) b) := rfl
theorem sPar_ {m' : Nat} : sPar m m' tl D (s :: ρ) b = tl (s :: ρ) b (fun ds b' => match ds with
  | [d, e] => D.nx (((s :: ρ).set m (.im d)).set m' (.im e)) b'
  | _ => False) D.er := rfl
end
theorem rangeCD_get {lo c : Int} {n i : Nat} {x : PyData} (h : (rangeCD lo c n)[i]? = some x) : i < n ∧ x = .int (lo + (i : Nat) * c) := by
  unfold rangeCD at h
  rw [List.getElem?_map] at h
  have hl : i < n := by
    cases h' : (List.range n)[i]? with
    | none => rw [h'] at h; cases h
    | some c => simpa using (List.getElem?_eq_some_iff.mp h').1
  rw [List.getElem?_range hl] at h
  cases h
  exact ⟨hl, rfl⟩
theorem rangeCD_len {lo c : Int} {n : Nat} : (rangeCD lo c n).length = n := by simp [rangeCD]
theorem rangeD_get {lo : Int} {n i : Nat} {x : PyData} (h : (rangeD lo n)[i]? = some x) : i < n ∧ x = .int (lo + (i : Nat)) := by
  unfold rangeD at h
  rw [List.getElem?_map] at h
  have hl : i < n := by
    cases h' : (List.range n)[i]? with
    | none => rw [h'] at h; cases h
    | some c => simpa using (List.getElem?_eq_some_iff.mp h').1
  rw [List.getElem?_range hl] at h
  cases h
  exact ⟨hl, rfl⟩
theorem rangeD_len {lo : Int} {n : Nat} : (rangeD lo n).length = n := by simp [rangeD]
/-- an item by a number that is told otherwise -/
theorem ixD_nat {α : Type} {xs : List α} {i : Int} {n : Nat} {x : α} (e : i = (n : Nat)) (h : xs[n]? = some x) : ixD xs i = some x := by
  subst e
  exact h
end Df

set_option Elab.async false
set_option linter.all false
set_option maxRecDepth 100000
set_option maxHeartbeats 4000000
namespace PySem
namespace DfX
open MeetsSeq AutoSeq1
set_option maxRecDepth 8000 in
theorem extend_tuple (l : Addr) (items : Array Value) (n : Nat) (b : Addr) (items2 : Array Value) (n2 : Nat) (dd : Option Addr) (sl : Array (Option Value)) (hs0 : ¬(!items.isEmpty && Builtin.List.listTooLong (items.size + items2.size)) = true) (hs1 : items.size ≤ sizeLine) (hs2 : items.size + items2.size ≤ sizeLine + 1 := by seq_fits) :
    Meets (Builtin.«list.extend» ⟨[.ref l, .ref b], []⟩) (fun _ R s => s.heap.get? l = some { cls := .type "list", dict := none, data := .seq items n, slots := #[] } ∧ s.heap.get? b = some { cls := .type "tuple", dict := dd, data := .seq items2 n2, slots := sl } ∧ R (.ok (.ret Value.none)) { s with heap := s.heap.update l (Obj.mapSeq fun x => x ++ items2), toks := s.toks }) :=
  .of_wp fun prog w A R s h => by
    obtain ⟨hp, g, d, tk, os⟩ := s; obtain ⟨hl, hb, h⟩ := h; have f1 := idx_int; have f2 := sub_tuple_tuple; have f3 := sub_list_list; have f4 := sub_tuple_list; have f5 := sub_list_tuple;
    have hz' : (items ++ items2).size ≤ sizeLine + 1 := by rw [Array.size_append]; exact hs2
    wp_walk using (wpAny_updateSeq hl rfl (hz := hs1) (_hz' := hz')), wpAny_loadPart' hl, wpAny_loadPart' hb; exact ⟨_, rfl, h⟩
end DfX
end PySem

namespace Df
open PySem PySem.Spec PyProof.Rows L2 Lf
def rExtendT (K : PySem.W.Frag) : V → List V → Hp → VK → Prop := fun x vs H Q => ∃ l b xs zs, x = .ref l ∧ vs = [.ref b] ∧ H l = some (.lst xs) ∧ SqT K H b zs ∧ xs.length + zs.length ≤ sizeLine ∧ Q .non (upd H l (.lst (xs ++ zs)))
section
variable {X : Cx}
theorem mt_extendT : MtR X "list.extend" (rExtendT X.K) := by
  intro pins s σ H x vs v us Q I rx rv h
  obtain ⟨l, b, xs, zs, rfl, rfl, hH, hB, hz, q⟩ := h
  cases rx
  obtain ⟨u, rfl, ru⟩ := rv.one
  cases ru
  obtain ⟨z, its, n, r, hl, e⟩ := I.lstM hH
  obtain ⟨its2, r2, ⟨o2, e2, hc2, n2, hd2⟩, hl2⟩ := I.tuple hB
  have l2 := r2.length
  have hsz : its.toArray.size + its2.toArray.size ≤ sizeLine := by rw [List.size_toArray, List.size_toArray]; omega
  have hlong : ¬ (!its.toArray.isEmpty && Builtin.List.listTooLong (its.toArray.size + its2.toArray.size)) = true := by
    rw [notLongL hsz, Bool.and_false]
    exact Bool.false_ne_true
  obtain ⟨oc, od, odt, osl⟩ := o2
  have hc2 : oc = .type "tuple" := hc2
  have hd2 : odt = .seq its2.toArray n2 := hd2
  subst hc2
  subst hd2
  refine call_meets F.slot_list_extend ⟨_, e, rfl⟩ F.entry_list_extend (F.args_list_extend_2 _ _)
    (PySem.DfX.extend_tuple l its.toArray n b its2.toArray n2 od osl hlong (by rw [List.size_toArray]; omega) (by omega)) ⟨e, e2, ?_⟩
  refine ⟨.non, _, I.lset (its' := its ++ its2) hH e (by simp) (r.append r2) ?_, rfl, q⟩
  rw [List.length_append]
  omega
def rExtendA (K : PySem.W.Frag) : V → List V → Hp → VK → Prop := fun x vs H Q => rExtend x vs H Q ∨ rExtendT K x vs H Q
theorem mt_extendA : MtR X "list.extend" (rExtendA X.K) := MtR.or mt_extend mt_extendT
end
/-- a list's, a tuple's items -/
def onSq : PyData → (List PyData → Prop) → Prop
  | .list ds, K => K ds
  | .tuple ds, K => K ds
  | _, _ => False
theorem onSq_l {ds : List PyData} {K : List PyData → Prop} : onSq (.list ds) K = K ds := rfl
theorem onSq_t {ds : List PyData} {K : List PyData → Prop} : onSq (.tuple ds) K = K ds := rfl
def sExtend (i : Nat) (te : DTE) : DTS := fun D ρ b => match ρ[i]? with
  | some (.ls ds) => te ρ b (fun d b' => onSq d fun es => ds.length + es.length ≤ 1000000 ∧ D.nx (ρ.set i (.ls (ds ++ es))) b') D.er
  | _ => False
theorem sExtend_ {m : Nat} {te : DTE} {D : DEnds} {s : SV} {ρ : List SV} {b : Nat} : sExtend m te D (s :: ρ) b = (match (s :: ρ)[m]? with
  | some (.ls ds) => te (s :: ρ) b (fun d b' => onSq d fun es => ds.length + es.length ≤ 1000000 ∧ D.nx ((s :: ρ).set m (.ls (ds ++ es))) b') D.er
  | _ => False) := rfl
section
variable {X : Cx} {F : Fr} {W : WX} {e : Expr} {te : DTE} {pos : Pos}
theorem ds_extend {i : Nat} {x : Str} {xp apos cpos : Pos} (hi : X.N[i]? = some x) (hv : Vis X.env.scope x) (he : DB X F W e te) (hd : (x == ("__debug__" : Str)) = false := by decide) (hcd : (x == ("__classdict__" : Str)) = false := by decide)
    (hbase : attributeBase (.Name x xp) "extend" X.env (eval (.Name x xp) X.env) = eval (.Name x xp) X.env := by rfl)
    (hfew : ((backTo cpos (starEach [e] X.env)).all (fun x => !x.1) && (backToKw cpos (keywordEach [] X.env)).all (fun x => x.1.isSome)
      && decide (([e] : List Expr).length + ([] : List Keyword).length + (if ([] : List Keyword).isEmpty then 0 else 1) < 30)) = true := by rfl)
    (hline : (apos.endLine == cpos.line) = true := by rfl) (hs1 : starEach [e] X.env = (false, eval e X.env) :: starEach [] X.env := by rfl) (hplain : (backTo cpos (starEach [] X.env)).any (·.1) = false := by rfl)
    (hs : swapsWith (.Call (.Attribute (.Name x xp) "extend" apos) [e] [] cpos) none pos.line X.env = pure false := by rfl) :
    DS X F W (.Expr (.Call (.Attribute (.Name x xp) "extend" apos) [e] [] cpos) pos) (sExtend i te) := by
  obtain ⟨t0, p, q⟩ := he.ex
  refine ⟨_, ps_expr (pe_bm PySem.F.plainAttrs_list PySem.F.slot_list_extend PySem.F.type_list_extend mt_extendA (pe_var (i := i) hi hv hd hcd) (pa_cons p pa_nil hs1) hbase hfew hline hs1 hplain) hs, fun b0 H0 ps σ H ρ b D D' r h E => ?_⟩
  obtain ⟨Z, s, gg, hz, hp⟩ := r.ex
  unfold sExtend at h
  split at h
  · rename_i ds hds
    obtain ⟨y, xs, e1, z1, x1, y1⟩ := s.at' i _ hds
    refine ⟨_, e1, .inl ⟨rfl, _, SqL.of x1⟩, q σ H ρ b Z _ _ _ s gg.r h (fun v d H' b' g' x hd => ?_) (met_of E gg)⟩
    have x2 := g'.keep (s.zp y i z1).1 x1
    have y2 := Go.dxa s g' y1
    unfold onSq at hd
    split at hd
    · obtain ⟨a, us, rfl, _, hl, ha⟩ := x.lst
      exact .inl ⟨y, a, xs, us, rfl, rfl, x2, hl, by rw [y1.length, ha.length]; exact sz6 hd.1, E.nx _ _ _ _ (mut_rs (s.go g') (gg.trans g') hz (pins_go s g' hp) e1 z1 (y2.append ha)) hd.2⟩
    · obtain ⟨a, us, rfl, hl, ha⟩ := x.tup.inv
      exact .inr ⟨y, a, xs, us, rfl, rfl, x2, hl, by rw [y1.length, ha.length]; exact sz6 hd.1, E.nx _ _ _ _ (mut_rs (s.go g') (gg.trans g') hz (pins_go s g' hp) e1 z1 (y2.append ha)) hd.2⟩
    · exact hd.elim
  · exact h.elim
end
end Df

set_option Elab.async false
set_option linter.all false
set_option maxRecDepth 100000
set_option maxHeartbeats 4000000
/-! DfE: errors caught, by data. -/
namespace Df
open PySem PySem.Spec PyProof.Rows L2 Lf
def noLs : List SV → Bool
  | [] => true
  | .ls _ :: _ => false
  | _ :: r => noLs r
theorem noLs_get : ∀ {ρ : List SV} {i : Nat} {ds : List PyData}, noLs ρ = true → ρ[i]? ≠ some (.ls ds)
  | [], _, _, _, e => by simp at e
  | s :: r, 0, ds, h, e => by
    have e : s = .ls ds := Option.some.inj e
    subst e
    cases h
  | s :: r, i + 1, ds, h, e => by
    have e : r[i]? = some (.ls ds) := e
    cases s with
    | ls _ => cases h
    | _ => exact noLs_get (ρ := r) h e
section
variable {K : PySem.W.Frag} {F : Fr} {Z : Addr → Option Nat} {σ : L2.St} {H : Hp} {ρ : List SV}
theorem bad_sub {x : Addr} (h : Bad F Z0 x) : Bad F Z x := by
  rcases h with h | h
  · exact .inl h
  · cases h
/-- where no list is one's own -/
theorem Sl.bare (s : Sl K F Z σ H ρ) (h : noLs ρ = true) : Sl K F Z0 σ H ρ := by
  refine ⟨s.len, fun i sv hi => ?_, fun a i z => by cases z⟩
  have q := s.at' i sv hi
  cases sv with
  | no => exact trivial
  | im d =>
    obtain ⟨v, e, x⟩ := q
    exact ⟨v, e, Dx.mono (fun _ z => bad_sub z) _ _ x⟩
  | ls ds => exact absurd hi (noLs_get h)
  | op v => exact q
  | st => exact q
  | er a y c ed =>
    obtain ⟨e, fs, h1, n, f⟩ := q
    exact ⟨e, fs, h1, fun z => n (bad_sub z), f.mono fun _ z => bad_sub z⟩
  | fn f c q' σ' ρ' =>
    obtain ⟨e, h1, n, o⟩ := q
    exact ⟨e, h1, fun z => n (bad_sub z), o.up fun v d x => Dx.mono (fun _ z => bad_sub z) _ _ x⟩
end
/-- whether the clause of the class hn takes an error of the class xn -/
def ExM (K : PySem.W.Frag) (mg : Str → Option Value) (xn hn : Str) (k : Bool) : Prop := ∀ cls c, mg xn = some cls → mg hn = some c → PySem.W.exmOne K cls c = some k
abbrev ClD := Str × Option Nat × (Addr → Addr → Value → DTS)
def goneD (i : Nat) (D : DEnds) : DEnds := { er := R0, rt := D.rt, nx := fun ρ b => D.nx (ρ.set i .no) b, bk := fun ρ b => D.bk (ρ.set i .no) b, ct := fun ρ b => D.ct (ρ.set i .no) b }
def clRunD (D : DEnds) (t : DTS) (a y : Addr) (cls : Value) (ed : ED) (ρ : List SV) (b : Nat) : Option Nat → Prop
  | none => t { D with er := R0 } ρ b
  | some i => t (goneD i D) (ρ.set i (.er a y cls ed)) b
def sCl (K : PySem.W.Frag) (mg : Str → Option Value) : List ClD → DEnds → List SV → ED → Nat → Prop
  | [], D, _, ed, b => D.er ed b
  | (h, o, ts) :: r, D, ρ, ed, b => ∃ k, ExM K mg ed.1 h k ∧ (k = true → ∀ a y cls, mg ed.1 = some cls → clRunD D (ts a y cls) a y cls ed ρ b o) ∧ (k = false → sCl K mg r D ρ ed b)
inductive ClsD (X : Cx) (F : Fr) : List ExceptHandler → List ClD → Prop
  | nil : ClsD X F [] []
  | cons {x : Str} {n : Option Str} {o : Option Nat} {ts : Addr → Addr → Value → DTS} {s1 : Stmt} {ss : List Stmt} {p p' : Pos} {hs : List ExceptHandler} {l : List ClD} : Gl X x → (x == ("__debug__" : Str)) = false → (∃ C, X.mg x = some (.ref C)) → ClN X n o →
      (∀ (a y : Addr) (oe : Obj) (cls : Value) (pn : List (Addr × Obj)), Zc cls (some y) oe → (∃ vs, oe.data = .fields vs) → DSs (X.suite a ((a, oe) :: pn)) F W0 (s1 :: ss) (ts a y cls)) → ClsD X F hs l →
      ClsD X F (.ExceptHandler (some (.Name x p)) n (s1 :: ss) p' :: hs) ((x, o, ts) :: l)
def canS (X : Cx) (F : Fr) (t : DTS) : TS := fun D σ H => ∃ b0 H0 ps ρ b D', RS X.K F b0 H0 ps σ H ρ b ∧ t D' ρ b ∧ EndsR X F W0 b0 H0 ps D' D
def canC (X : Cx) (F : Fr) (ts : Addr → Addr → Value → DTS) : Addr → Value → Option Addr → TS := fun a cls d => match d with
  | some y => canS X F (ts a y cls)
  | none => fun _ _ _ => False
section
variable {X : Cx} {F : Fr} {W : WX} {e : Expr} {te : DTE} {ss : List Stmt} {t : DTS} {pos : Pos}
theorem clsD_ok {hs : List ExceptHandler} {l : List ClD} (h : ClsD X F hs l) : ∃ l', ClOk X hs l' ∧ ∀ {b0 b : Nat} {H0 H : Hp} {ps : List (V × PyData)} {σ : L2.St} {ρ : List SV} {D : Ends} {D' : DEnds} {cls : Value} {d : Option Addr} {ed : ED},
    Sl X.K F Z0 σ H ρ → Go F b0 H0 b H → (∀ p ∈ ps, Dx X.K (Bad F Z0) H p.1 p.2) → EndsR X F W b0 H0 ps D' D → ErrR X.K X.mg F.N H cls d ed → sCl X.K X.mg l D' ρ ed b → wCl X.K W D l' cls d σ H := by
  induction h with
  | nil => exact ⟨[], .nil, fun s g hp E er h => E.er _ _ _ _ _ _ g er h⟩
  | @cons x n o ts s1 ss p p' hs l hg hdb hC hn hsu _ ih =>
    obtain ⟨C, hC⟩ := hC
    obtain ⟨l', h1, h2⟩ := ih
    refine ⟨(.ref C, o, canC X F ts) :: l', .cons ⟨hg, hdb, .inl hC⟩ hn (fun a oe cls d pn hz hf => ?_) h1, fun {b0 b H0 H ps σ ρ D D' cls d ed} s g hp E er h => ?_⟩
    · cases d with
      | none => exact ⟨fun pins s σ H D I h => h.elim⟩
      | some y =>
        obtain ⟨t0, pr, q⟩ := (hsu a y oe cls pn hz hf).ex
        refine ⟨fun pins s σ H D I h => ?_⟩
        obtain ⟨b0, H0, ps, ρ, b, D', r, ht, E⟩ := h
        exact pr.run pins s σ H D I (q b0 H0 ps σ H ρ b D D' r ht ⟨E.nx, E.bk, E.ct, E.rt, E.er⟩)
    · obtain ⟨k, hk, hy, hno⟩ := h
      obtain ⟨C', rfl, hm, y, fs, rfl, hy1, nb, fl⟩ := id er
      refine ⟨k, hk _ _ hm hC, fun ek a na => ?_, fun ek => h2 s g hp E er (hno ek)⟩
      have hr := hy ek a y _ hm
      cases o with
      | none =>
        refine ⟨b0, H0, ps, ρ, b, _, .mk' s g (fun a i z => by cases z) hp, hr, E.nx, E.bk, E.ct, E.rt, fun _ _ _ _ _ _ _ _ z => z.elim⟩
      | some i =>
        have nb' : ¬ Bad F Z0 y := fun z => nb (bad0.mp z)
        have s2 : Sl X.K F Z0 (σ.set i (some (.ref a))) H (ρ.set i (.er a y (.ref C') ed)) := s.set ⟨rfl, fs, hy1, nb', fl.mono fun _ z => bad0.mp z⟩
        have back : ∀ {σ2 : L2.St} {H2 : Hp} {ρ2 : List SV} {b2 : Nat}, RS X.K F b0 H0 ps σ2 H2 ρ2 b2 → RS X.K F b0 H0 ps (σ2.set i none) H2 (ρ2.set i .no) b2 := fun {σ2 H2 ρ2 b2} r => by
          obtain ⟨Z2, s3, g3, hz3, hp3⟩ := r.ex
          exact .mk' (s3.set (o := none) (sv := .no) trivial) g3 hz3 hp3
        exact ⟨b0, H0, ps, _, b, _, .mk' s2 g (fun a i z => by cases z) hp, hr, fun σ2 H2 ρ2 b2 r h => E.nx _ _ _ _ (back r) h, fun σ2 H2 ρ2 b2 r h => E.bk _ _ _ _ (back r) h, fun σ2 H2 ρ2 b2 r h => E.ct _ _ _ _ (back r) h, E.rt, fun _ _ _ _ _ _ _ _ z => z.elim⟩
def canW (X : Cx) (F : Fr) (W : WX) (t : DTE) : TE := fun σ H Q0 => ∃ ρ b Z Q R, Sl X.K F Z σ H ρ ∧ F.T b H ∧ t ρ b Q R ∧ (∀ v d H' b', Go F b H b' H' → Dx X.K (Bad F Z) H' v d → Q d b' → Q0 v H') ∧ Met X F W σ b H R
/-- try: x = e / except .. -/
def sTry (K : PySem.W.Frag) (mg : Str → Option Value) (i : Nat) (te : DTE) (l : List ClD) : DTS := fun D ρ b => noLs ρ = true ∧ te ρ b (fun d b' => D.nx (ρ.set i (.im d)) b') (fun ed b' => sCl K mg l D ρ ed b')
theorem ds_try {i : Nat} {x : Str} {h0 : ExceptHandler} {hs : List ExceptHandler} {l : List ClD} {px pos2 : Pos} (est : X.stack = X.env :: X.outer) (ef : X.env.frame = some X.env.locals) (tk : Takes X W) (hN : X.N.Nodup) (hi : X.N[i]? = some x) (hx : Loc X.env.scope x)
    (he : ∀ (W : WX) (pn : List (Addr × Obj)) (xe : Value → Shared → Prop), Takes (X.tr pn xe) W → DE (X.tr pn xe) F W e te) (hc : ClsD X F (h0 :: hs) l)
    (hsw : swapsWith e (some (.Name x px)) pos2.line X.env = pure false := by rfl) (hf : X.fn x = true ∨ X.env.scope.names.lookup x = some .local := by first | exact .inl rfl | exact .inr rfl | assumption) :
    DS X F W (.Try [.Assign [.Name x px] e pos2] (h0 :: hs) [] [] pos) (sTry X.K X.mg i te l) := by
  obtain ⟨l', h1, h2⟩ := clsD_ok hc
  refine ⟨_, ps_tryM (tb := fun W => tSeq (tAsg (canW X F W te) (gName i)) (fun D σ H => D.nx σ H)) est ef tk (fun W pn xe tk2 _ => ?_) h1, fun b0 H0 ps σ H ρ b D D' r h E => ?_⟩
  · have pe : PE (X.tr pn xe) e (canW X F W te) := by
      obtain ⟨t0, p, q⟩ := (he W pn xe tk2).ex
      exact ⟨fun pins s σ H Q0 I ⟨ρ, b, Z, Q, R, sl, hT, ht, hq, m⟩ => p.run pins s σ H Q0 I (q σ H ρ b Z Q R Q0 sl hT ht hq ⟨m.er⟩)⟩
    exact pss_cons (ps_set (X := X.tr pn xe) hN hi hx pe hsw hf) pss_nil
  · obtain ⟨Z, s, gg, hz, hp⟩ := r.ex
    obtain ⟨hn, h⟩ := h
    have s0 := s.bare hn
    have hp0 : ∀ p ∈ ps, Dx X.K (Bad F Z0) H p.1 p.2 := fun p hm => Dx.mono (fun _ z => bad_sub z) _ _ (hp p hm)
    refine ⟨ρ, b, Z0, _, _, s0, gg.r, h, fun v d H' b' g hx hd => ?_, ⟨fun cls x H' b' ed g er hd => ?_⟩⟩
    · exact E.nx _ _ _ _ (.mk' ((s0.go g).setIm i hx) (gg.trans g) (fun a i z => by cases z) (pins_go s0 g hp0)) hd
    · exact h2 (s0.go g) (gg.trans g) (pins_go s0 g hp0) E er hd
/-! ### the error's fields, its class -/
def dErrF (i : Nat) (a y : Addr) (cls : Value) (mg : Str → Option Value) (xn fld : Str) : DTE := fun ρ b Q _ => match ρ[i]? with
  | some (.er a' y' cls' ed) => a' = a ∧ y' = y ∧ cls' = cls ∧ mg xn = some cls ∧ ∃ v, ed.2 = [(fld, v)] ∧ Q v b
  | _ => False
theorem de_errF {i : Nat} {n xn fld : Str} {C fI a y : Addr} {oe : Obj} {cls : Value} {pn : List (Addr × Obj)} {p : Pos} (T : LfX.SupTxt X.prog X.K X.mg xn C fI fld) (hz : Zc cls (some y) oe) (hf : ∃ vs, oe.data = .fields vs) (hN : X.N[i]? = some n) (hv : Vis X.env.scope n)
    (hd : (n == ("__debug__" : Str)) = false := by decide) (hcd : (n == ("__classdict__" : Str)) = false := by decide) (hb : attributeBase (.Name n p) fld X.env (eval (.Name n p) X.env) = eval (.Name n p) X.env := by rfl) :
    DE (X.suite a ((a, oe) :: pn)) F W (.Attribute (.Name n p) fld pos) (dErrF i a y cls X.mg xn fld) := by
  refine ⟨_, LfX.pe_bySup T hz hf (pe_var (X := X.suite a ((a, oe) :: pn)) (i := i) hN hv hd hcd) hb, fun σ H ρ b Z Q R Q0 s hT ht hq m => ?_⟩
  unfold dErrF at ht
  split at ht
  · rename_i a' y' cls' ed he
    obtain ⟨rfl, rfl, rfl, hm, v, e2, hQ⟩ := ht
    obtain ⟨e1, fs, h1, nb, fl⟩ := s.at' i _ he
    rw [e2] at fl
    cases fl with
    | cons hx hr =>
      cases hr
      have ec : cls' = .ref C := Option.some.inj (hm.symm.trans T.gC)
      exact ⟨_, e1, rfl, ec, y', _, rfl, h1, hq _ v H b (Go.refl hT) hx hQ⟩
  · exact ht.elim
/-- isinstance(error, T) -/
structure IsTxt (K : PySem.W.Frag) (mg : Str → Option Value) (xn tn : Str) (k : Bool) : Prop where
  ex : ∃ C CT, mg xn = some (.ref C) ∧ mg tn = some (.ref CT) ∧ L2.ExcC K C ∧ (PySem.W.clsIn K C).isSome = true ∧ PySem.W.kitOne K (.ref C) (.ref CT) = some k
def rIsY (K : PySem.W.Frag) (C a y : Addr) : List V → Hp → VK → Prop := fun xs H Q => ∃ (c : V) (cv : Value) (b : Bool), xs = [.ref a, c] ∧ (∀ u, RelV c u → u = cv) ∧ PySem.W.kitOne K (.ref C) cv = some b ∧ (∃ fs, H y = some (.xd fs)) ∧ Q (.bl b) H
theorem call_isY {a y C : Addr} {oe : Obj} {pn : List (Addr × Obj)} (cC : L2.ExcC X.K C) (cc : (PySem.W.clsIn X.K C).isSome = true) (hz : Zc (.ref C) (some y) oe) (hf : ∃ vs, oe.data = .fields vs) : CallR (X.suite a ((a, oe) :: pn)) (.builtin "isinstance") (rIsY X.K C a y) := by
  intro pins s σ H xs us Q I r h
  obtain ⟨c, cv, k, rfl, hcv, ek, ⟨fs, hy⟩, q⟩ := h
  match us, r with
  | [u1, u2], .cons r1 (.cons r2 .nil) =>
    obtain rfl : u1 = Value.ref a := r1
    obtain rfl := hcv _ r2
    have hx : ObjOk X.prog X.w H s.heap y (.xd fs) := I.hok y _ hy
    obtain ⟨mA, hns, _⟩ := hx
    obtain ⟨od, ho, _⟩ := lookIn_ns hns
    have ha := (I.pin (a, oe) (List.mem_append_left _ List.mem_cons_self)).1
    obtain ⟨vs, hd⟩ := hf
    have J : PySem.W.InstAt s.heap a oe C (some od) := ⟨ha, hz.1, by unfold PySem.W.notCls; rw [hd] <;> rfl, by rw [hz.2]; exact ho⟩
    exact PySem.W.kia_one (PySem.W.kitx_exc cc cC.hg cC.hk cC.hs cC.ha cC.hn cC.ht cC.hm) I.kIn J ek (fun z => nomatch z) fun tk => ⟨.bl k, H, I.kept (t' := tk) fun _ _ z => z, rfl, q⟩
def dErrI (i : Nat) (a y : Addr) (cls : Value) (mg : Str → Option Value) (xn : Str) (k : Bool) : DTE := fun ρ b Q _ => match ρ[i]? with
  | some (.er a' y' cls' ed) => a' = a ∧ y' = y ∧ cls' = cls ∧ mg xn = some cls ∧ Q (.bool k) b
  | _ => False
theorem de_errI {i : Nat} {n xn tn : Str} {a y : Addr} {oe : Obj} {cls : Value} {k : Bool} {pn : List (Addr × Obj)} {p p1 p2 : Pos} (T : IsTxt X.K X.mg xn tn k) (hz : Zc cls (some y) oe) (hf : ∃ vs, oe.data = .fields vs) (hN : X.N[i]? = some n) (hv : Vis X.env.scope n) (hm : X.mg "isinstance" = none)
    (hg : Gl X "isinstance" := by rfl) (hgT : Gl X tn := by rfl) (hdT : (tn == ("__debug__" : Str)) = false := by decide)
    (hd : (n == ("__debug__" : Str)) = false := by decide) (hcd : (n == ("__classdict__" : Str)) = false := by decide)
    (hs1 : starEach [.Name tn p2] X.env = (false, eval (.Name tn p2) X.env) :: starEach [] X.env := by rfl) (he : starEach (.Name n p1 :: [.Name tn p2]) X.env = (false, eval (.Name n p1) X.env) :: starEach [.Name tn p2] X.env := by rfl) (hpl : (backTo pos (starEach [.Name tn p2] X.env)).any (·.1) = false := by rfl) :
    DE (X.suite a ((a, oe) :: pn)) F W (.Call (.Name "isinstance" p) [.Name n p1, .Name tn p2] [] pos) (dErrI i a y cls X.mg xn k) := by
  obtain ⟨C, CT, h1, h2, h3, h4, h5⟩ := T.ex
  by_cases ec : cls = .ref C
  · subst ec
    have pT : PE (X.suite a ((a, oe) :: pn)) (.Name tn p2) (tC (.ref CT)) := pe_glob hgT h2 (show RelV (.ref CT) (.ref CT) from rfl) hdT
    refine ⟨_, pe_callB (X := X.suite a ((a, oe) :: pn)) (call_isY h3 h4 hz hf) hg hm (by decide +kernel) (pa_cons (pe_var (X := X.suite a ((a, oe) :: pn)) (i := i) hN hv hd hcd) (pa_cons pT pa_nil hs1) he) (by decide) (by decide) he hpl, fun σ H ρ b Z Q R Q0 s hT ht hq m => ?_⟩
    unfold dErrI at ht
    split at ht
    · rename_i a' y' cls' ed hq2
      obtain ⟨rfl, rfl, rfl, _, hQ⟩ := ht
      obtain ⟨e1, fs, f1, nb, fl⟩ := s.at' i _ hq2
      exact ⟨_, e1, .ref CT, .ref CT, k, rfl, (fun u r => r), h5, ⟨fs, f1⟩, hq _ _ H b (Go.refl hT) (.bl _) hQ⟩
    · exact ht.elim
  · refine ⟨fun _ _ _ => False, ⟨fun pins s σ H Q I h => h.elim⟩, fun σ H ρ b Z Q R Q0 s hT ht hq m => ?_⟩
    unfold dErrI at ht
    split at ht
    · obtain ⟨_, _, rfl, hm2, _⟩ := ht
      exact ec (Option.some.inj (hm2.symm.trans h1))
    · exact ht
end
end Df

set_option Elab.async false
set_option linter.all false
set_option maxRecDepth 100000
set_option maxHeartbeats 4000000
/-! DfM: a lambda handed to a def that calls it, by data. -/
namespace Df
open PySem PySem.Spec PyProof.Rows L2 Lf
open LamX (CodeO TabS lamEnv lamCx)
def toOV : SV → OV
  | .im d => .im d
  | .op v => .op v
  | .st => .st
  | _ => .no
def ofOV : OV → SV
  | .no => .no
  | .im d => .im d
  | .op v => .op v
  | .st => .st
/-- what is asked of the def that gets a lambda: the lambda's reading, the count of draws, what follows, what is raised -/
abbrev LSp := (Nat → DQ → DR → Prop) → Nat → DQ → DR → Prop
def dAct (i : Nat) (f c : Addr) (q : Str) (σ : L2.St) (ρo : List OV) (τ : Nat → DQ → DR → Prop) : DTE := fun ρ b Q R => ρ[i]? = some (.fn f c q σ ρo) ∧ ∃ Q1 R1, τ b Q1 R1 ∧ (∀ d b', Q1 d b' → flat d = true ∧ Q d b') ∧ ∀ ed b', R1 ed b' → R ed b'
section
variable {K : PySem.W.Frag} {F : Fr} {Z : Addr → Option Nat} {σ : L2.St} {H : Hp} {ρ : List SV} {ρo : List OV}
theorem OvA.sl (h : OvA K F (Bad F Z0) H σ ρo) : Sl K F Z0 σ H (ρo.map ofOV) := by
  refine ⟨by rw [List.length_map]; exact h.1, fun i sv e => ?_, fun a i z => by cases z⟩
  rw [List.getElem?_map] at e
  cases ho : ρo[i]? with
  | none => rw [ho] at e; cases e
  | some o =>
    rw [ho] at e
    cases e
    have q := h.2 i o ho
    cases o with
    | no => exact trivial
    | im d => exact q
    | op v => exact q
    | st => exact q
theorem Sl.ov {H1 : Hp} {hz : ∀ a i, Z a = some i → ¬ F.N a ∧ ∃ o, H1 a = some o ∧ (∀ xs, o ≠ .tup xs) ∧ (∀ ob w, o ≠ .frz ob w) ∧ (∀ fs, o ≠ .xd fs) ∧ ∀ φ, o ≠ .ext φ} (s : Sl K F Z σ H ρ) : OvA K (ownF F Z H1 hz) (Bad F Z) H σ (ρ.map toOV) := by
  refine ⟨by rw [List.length_map]; exact s.len, fun i o e => ?_⟩
  rw [List.getElem?_map] at e
  cases hs : ρ[i]? with
  | none => rw [hs] at e; cases e
  | some sv =>
    rw [hs] at e
    cases e
    have q := s.at' i sv hs
    cases sv with
    | im d => exact q
    | op v => exact q
    | st =>
      obtain ⟨a, e, h⟩ := q
      exact ⟨a, e, own_st h⟩
    | _ => exact trivial
end
/-- the def x calls what it gets -/
def RecvD (P : Program) (w : World) (K : PySem.W.Frag) (mg : Str → Option Value) (base : Heap) (PT : List (Addr × Option Str)) (k : Nat) (x a : Str) (st : Stmt) (g : Addr) (cdv : Value) (Ng : List Str) (sp : LSp) : Prop :=
  ∀ (A : Around) (outer : List Env) (s : Shared) (H : Hp) (E : XK) (f c : Addr) (q : Str) (σo : L2.St) (ρo : List OV) (F : Fr) (τ : Nat → DQ → DR → Prop), A.guards = some [] → Room k (A.deeper (envOfC x (defScope st) s.heap.objs.size g cdv)) → (∀ p ∈ PT, HasT F p) →
    (∀ (W : WX) (pn : List (Addr × Obj)) (xe : Value → Shared → Prop) (p1 p2 : Pos), Takes ((cxOf (L2.CX P w) P w K mg base Ng x (defScope st) g cdv A outer s H E).tr pn xe) W → DE ((cxOf (L2.CX P w) P w K mg base Ng x (defScope st) g cdv A outer s H E).tr pn xe) F W (.Call (.Name a p1) [] [] p2) (dAct 0 f c q σo ρo τ)) →
    ∃ t, DSs (cxOf (L2.CX P w) P w K mg base Ng x (defScope st) g cdv A outer s H E) F (fun cls d _ H => E cls d H) (defBody st) t ∧ ∀ b Q R, sp τ b Q R → t { nx := fun _ b' => Q .none b', rt := Q, er := R } (.fn f c q σo ρo :: List.replicate (Ng.length - 1) .no) b
structure LamPr (P : Program) (w : World) (K : PySem.W.Frag) (mg : Str → Option Value) (base : Heap) (PT : List (Addr × Option Str)) (k : Nat) (x a : Str) (sp : LSp) : Prop where
  ex : ∃ st g fd Ng, Def K mg x [a] st g fd ∧ FnScope Ng [a] (defScope st) ∧ Ng[0]? = some a ∧ Vis (defScope st) a ∧ (∀ v, L2.start Ng [v] = some v :: List.replicate (Ng.length - 1) none) ∧ RecvD P w K mg base PT (k + 1) x a st g fd.code Ng sp
/-- the reading of the lambda's body, by values -/
def canL (X : Cx) (PT : List (Addr × Option Str)) (t : DTE) (E : XK) : TE := fun σ G Q0 => ∃ (F : Fr) (ρ : List SV) (b : Nat) (Q : DQ) (R : DR), (∀ p ∈ PT, HasT F p) ∧ Sl X.K F Z0 σ G ρ ∧ F.T b G ∧ t ρ b Q R ∧ (∀ v d H' b', Go F b G b' H' → Dx X.K F.N H' v d → Q d b' → Q0 v H') ∧ ∀ cls x H' b' ed, Go F b G b' H' → ErrR X.K X.mg F.N H' cls x ed → R ed b' → E cls x H'
def TTd (X : Cx) (PT : List (Addr × Option Str)) (sp : LSp) (t : DTE) (c : Addr) (σ : L2.St) (E0 : XK) : Hp → VK → Prop := fun H1 Q => ∃ (F : Fr) (b : Nat) (ρo : List OV) (Qd : DQ) (R : DR), (∀ p ∈ PT, HasT F p) ∧ F.T b H1 ∧ OvA X.K F F.N H1 σ ρo ∧ ¬ F.N c ∧ sp (fun b Q R => t (ρo.map ofOV) b Q R) b Qd R ∧
  (∀ v d H' b', Go F b H1 b' H' → Dx X.K F.N H' v d → Qd d b' → Q v H') ∧ ∀ cls x H' b' ed, Go F b H1 b' H' → ErrR X.K X.mg F.N H' cls x ed → R ed b' → E0 cls x H'
section
variable {X : Cx} {F : Fr} {W : WX} {PT : List (Addr × Option Str)} {sp : LSp} {t : DTE} {x a q : Str} {k : Nat} {c P : Addr} {params : Arguments} {body : Expr} {scope : Scope} {ns : List Str} {vs : List V} {p lpos pos : Pos}
theorem pe_lam (D : LamPr X.prog X.w X.K X.mg X.base PT k x a sp) (hG : X.A.guards = some []) (hr : Room (k + 2) X.A) (tk : Takes X W) (TB : LamX.TabB X.base X.mg c P) (hcode : X.env.code = .ref c) (hq : X.env.qual ++ "<lambda>" = q) (L : LamSc X.N X.env.scope scope) (dv : Dfl X params vs) (bd : LamBd params body scope ns) (hl : vs.length = ns.length) (hloc : ∀ n ∈ ns, scope.names.lookup n = some .local)
    (hbody : ∀ (A : Around) (outer : List Env) (s : Shared) (H : Hp) (E : XK) (f c' : Addr) (F : Fr), (∀ p ∈ PT, HasT F p) → Room k (A.deeper (lamEnv X scope s.heap.objs.size f c')) → A.guards = some [] → DE (lamCx X A outer s H E scope f c') F (fun cls d _ H' => E cls d H') body t)
    (hg : Gl X x) (hdb : (x == ("__debug__" : Str)) = false) (hda : (a == ("__debug__" : Str)) = false) (hdc : (a == ("__classdict__" : Str)) = false) :
    PE X (.Call (.Name x p) [.Lambda params body scope lpos] [] pos) (fun σ H Q => TabS H P q ∧ ∀ (f c' : Addr) (H1 : Hp), Lamd P q H H1 → H1 f = none → H1 c' = some (CodeO c' q) → TTd X PT sp t c' σ (fun cls d H' => W cls d σ H') H1 Q) := by
  subst hq
  constructor
  intro pins s σ H Q I h
  obtain ⟨hT, h⟩ := h
  obtain ⟨st, g, fd, Ng, D, S, hN0, hva, hst, hR⟩ := D.ex
  obtain ⟨oc, od, kV, doc0, pm0, an, cdv, ct0, osl, efd, lk, hcd⟩ := D.fn.ex
  subst efd
  refine wpAny_Call_Name_kw (ld_glob I hg D.mg ?_ hdb)
  refine PySem.W.callWith_K (h₀ := X.base) I.ok.mod.kin D.fn.kp ?_ (by rfl) (by rfl)
  show wpAny _ _ (spliced ((false, eval (.Lambda params body scope lpos) X.env) :: backTo pos (starEach [] X.env))) _ _ s
  refine Calls.spliced_cons (lam_make (vs := vs) I TB hcode hT (L.has I.ok) dv fun f c' dV pm ct doc H1 s1 I1 lam ho hn hfr hc hdv => ?_)
  refine Calls.spliced_nil ⟨I1.kIn, ?_⟩
  obtain ⟨F1, b, ρo, Qd, R, hF, hT1, ov, nc, hsp, hq, he⟩ := h f c' H1 lam hn hc
  have ov0 : OvA X.K F1 (Bad F1 Z0) H1 σ ρo := ov.up fun v d z => Dx.mono (fun _ y => bad0.mp y) _ _ z
  have rc : codeAny (model X.prog X.w) X.A (.call (.ref g) ⟨[.ref f], []⟩) (CR (L2.CX X.prog X.w) X.stack X.prog X.w H1 s1 Q fun cls d H' => W cls d σ H') s1 := by
    refine LamX.run_ofS (N := Ng) (ps := [a]) (us := [.ref f]) (vs := [.ref f]) lk hcd S hr I1.env0 (D.bd s1 [.ref f] I1.kIn rfl) (.cons rfl .nil) rfl fun hr' => ?_
    obtain ⟨t1, hD, hs⟩ := hR X.A X.stack s1 H1 (fun cls d H' => W cls d σ H') f c' (X.env.qual ++ "<lambda>") σ ρo F1 (fun b Q R => t (ρo.map ofOV) b Q R) hG hr' hF fun W2 pn xe p1 p2 tk2 => by
      refine ⟨_, pe_lamAct (tb := canL X PT t) (i := 0) (k := k) I1 L rfl ho hn hfr hdv bd hl hloc tk2 hr' (fun A outer s H E hr2 eG => ?_) hN0 hva hda hdc, fun τ G ρ b2 Z Q2 R2 Q0 s2 hT2 ht2 hq2 m2 => ?_⟩
      · constructor
        intro pins4 s4 σ4 H4 Q4 I4 h4
        obtain ⟨F3, ρ3, b3, Q3, R3, hF3, s3, hT3, ht3, hq3, he3⟩ := h4
        obtain ⟨t3, pe3, q3⟩ := (hbody A outer s H E f c' F3 hF3 hr2 (eG.trans hG)).ex
        exact pe3.run pins4 s4 σ4 H4 Q4 I4 (q3 σ4 H4 ρ3 b3 Z0 Q3 R3 Q4 s3 hT3 ht3 (fun v d H' b' g' hx hd => hq3 v d H' b' g' (Dx.mono (fun _ y => .inl y) _ _ hx) hd) ⟨fun cls x H' b' ed g' er hd => he3 cls x H' b' ed g' er hd⟩)
      · obtain ⟨e0, Q1, R1, ht2, hQ1, hR1⟩ := ht2
        obtain ⟨e1, e2, e3, e4⟩ := s2.at' 0 _ e0
        refine ⟨e1, e2, F1, _, b2, Q1, R1, hF, (e4.up fun v d z => Dx.mono (fun _ y => bad_sub y) _ _ z).sl, hT2, ht2, fun v d H' b' g' hx hd => ?_, fun cls x H' b' ed g' er hd => m2.er cls x H' b' ed g' er (hR1 _ _ hd)⟩
        exact hq2 v d H' b' g' (Dx.flat _ _ (hQ1 _ _ hd).1 hx) (hQ1 _ _ hd).2
    obtain ⟨t0, p0, q0⟩ := hD.ex
    have sl : Sl X.K F1 Z0 (L2.start Ng [.ref f]) H1 (.fn f c' (X.env.qual ++ "<lambda>") σ ρo :: List.replicate (Ng.length - 1) .no) := by
      rw [hst]
      refine ⟨by simp, fun i sv e => ?_, fun a i z => by cases z⟩
      cases i with
      | zero =>
        cases e
        exact ⟨rfl, hc, fun z => nc (bad0.mp z), ov0⟩
      | succ i =>
        have e : (List.replicate (Ng.length - 1) SV.no)[i]? = some sv := e
        rw [List.getElem?_replicate] at e
        split at e
        · cases e
          exact trivial
        · cases e
    refine ⟨t0, p0, q0 b H1 [] (L2.start Ng [.ref f]) H1 _ b _ _ (.mk' sl (Go.refl hT1) (fun a i z => by cases z) (fun p h => by cases h)) (hs b Qd R hsp) ?_⟩
    refine ⟨fun τ G ρ b' r z => ?_, fun τ G ρ b' r z => z.elim, fun τ G ρ b' r z => z.elim, fun v d G b' g' hx hd => hq v d G b' g' hx hd, fun cls x τ G b' ed g' er hd => he cls x G b' ed g' er hd⟩
    obtain ⟨Z, s2, g2, _⟩ := r.ex
    exact hq .non .none G b' g2 .non z
  refine wpAny_call (codeAny_mono rc fun r s2 z => ?_)
  cases r with
  | error e => exact tk e s2 (XE.of_call I1 (fun cls d H' y => y) z)
  | ok fl =>
    cases fl with
    | ret u => exact I1.after z
    | next => exact z.elim
    | brk => exact z.elim
    | cont => exact z.elim
def dLam (sp : LSp) (t : DTE) : DTE := fun ρ b Q R => sp (fun b Q R => t ((ρ.map toOV).map ofOV) b Q R) b Q R
/-- x(lambda ..: body) -/
theorem de_lam (D : LamPr X.prog X.w X.K X.mg X.base PT k x a sp) (hG : X.A.guards = some []) (hr : Room (k + 2) X.A) (tk : Takes X W) (hF : ∀ p ∈ PT, HasT F p) (TB : LamX.TabB X.base X.mg c P) (hcode : X.env.code = .ref c) (hq : X.env.qual ++ "<lambda>" = q) (hP : (P, some q) ∈ PT) (L : LamSc X.N X.env.scope scope) (dv : Dfl X params vs) (bd : LamBd params body scope ns) (hl : vs.length = ns.length) (hloc : ∀ n ∈ ns, scope.names.lookup n = some .local)
    (hbody : ∀ (A : Around) (outer : List Env) (s : Shared) (H : Hp) (E : XK) (f c' : Addr) (F : Fr), (∀ p ∈ PT, HasT F p) → Room k (A.deeper (lamEnv X scope s.heap.objs.size f c')) → A.guards = some [] → DE (lamCx X A outer s H E scope f c') F (fun cls d _ H' => E cls d H') body t)
    (hg : Gl X x := by rfl) (hdb : (x == ("__debug__" : Str)) = false := by decide) (hda : (a == ("__debug__" : Str)) = false := by decide) (hdc : (a == ("__classdict__" : Str)) = false := by decide) :
    DE X F W (.Call (.Name x p) [.Lambda params body scope lpos] [] pos) (dLam sp t) := by
  refine ⟨_, pe_lam D hG hr tk TB hcode hq L dv bd hl hloc hbody hg hdb hda hdc, fun σ H ρ b Z Q R Q0 s hT ht hq2 m => ?_⟩
  have hL : HasLam F P q := hF _ hP
  refine ⟨hL.g _ _ hT, fun f c' H1 lam hn hc => ?_⟩
  have g1 := Go.lamd hL hT lam
  have s1 := s.go g1
  have nc : ¬ Bad F Z c' := fun z => by
    rcases z with z | z
    · obtain ⟨o, e, _, _, n⟩ := F.pos _ _ _ g1.r z
      rw [hc] at e
      exact n _ (Option.some.inj e).symm
    · obtain ⟨i, e⟩ := Option.isSome_iff_exists.mp z
      obtain ⟨_, o, e1, _, _, _, n⟩ := s1.zp c' i e
      rw [hc] at e1
      exact n _ (Option.some.inj e1).symm
  refine ⟨ownF F Z H1 s1.zp, b, ρ.map toOV, Q, R, fun p hp => own_t (hF p hp), ⟨g1.r, fun _ _ => rfl⟩, s1.ov, nc, ht, fun v d H' b' g hx hd => hq2 v d H' b' (g1.trans (own_go g)) hx hd, fun cls y H' b' ed g er hd => ?_⟩
  refine m.er cls y H' b' ed (g1.trans (own_go g)) ?_ hd
  obtain ⟨C, e1, e2, z, fs, e3, e4, e6, e5⟩ := er
  exact ⟨C, e1, e2, z, fs, e3, e4, fun q => e6 (.inl q), Flds.mono (fun _ n => .inl n) e5⟩
end
section
variable {params : Arguments} {body : Expr} {scope : Scope} {n : Str}
theorem lamBd0 (h0 : ∀ (q : Str) (cl : List (Str × Addr)) (doc pm cv ct : Value), bindArgs (PySem.W.kdv_fn "<lambda>" q params (.expr body) scope cl .none doc pm cv ct) ⟨[], []⟩ = pure [])
    (h1 : ∀ (q : Str) (cl : List (Str × Addr)) (T : Addr) (doc pm cv ct : Value), ∃ k, bindArgs (PySem.W.kdv_fn "<lambda>" q params (.expr body) scope cl (.ref T) doc pm cv ct) ⟨[], []⟩ = (seqItems? (.ref T) >>= k) ∧ k (some #[]) = pure []) : LamBd params body scope [] := by
  intro q cl dV doc pm cv ct us s hl h
  obtain rfl : us = [] := List.length_eq_zero_iff.mp hl
  rcases h with ⟨_, rfl⟩ | ⟨T, rfl, hT⟩
  · exact BindsTo.of_eq (h0 q cl doc pm cv ct)
  · obtain ⟨k, e1, e2⟩ := h1 q cl T doc pm cv ct
    exact BindsTo.of_defaults rfl hT rfl e1 e2
theorem lamBd1 (h1 : ∀ (q : Str) (cl : List (Str × Addr)) (T : Addr) (doc pm cv ct u : Value), ∃ k, bindArgs (PySem.W.kdv_fn "<lambda>" q params (.expr body) scope cl (.ref T) doc pm cv ct) ⟨[], []⟩ = (seqItems? (.ref T) >>= k) ∧ k (some #[u]) = pure [(n, u)]) : LamBd params body scope [n] := by
  intro q cl dV doc pm cv ct us s hl h
  match us, hl with
  | [u], _ =>
    rcases h with ⟨z, _⟩ | ⟨T, rfl, hT⟩
    · cases z
    · obtain ⟨k, e1, e2⟩ := h1 q cl T doc pm cv ct u
      exact BindsTo.of_defaults rfl hT rfl e1 e2
end
section
variable {K : PySem.W.Frag} {mg : Str → Option Value} {i b : Nat} {te : DTE} {l : List ClD} {D : DEnds} {s : SV} {ρ : List SV}
theorem sTry_ : sTry K mg i te l D (s :: ρ) b = (noLs (s :: ρ) = true ∧ te (s :: ρ) b (fun d b' => D.nx ((s :: ρ).set i (.im d)) b') (fun ed b' => sCl K mg l D (s :: ρ) ed b')) := rfl
theorem LamPr.mono {P : Program} {w : World} {base : Heap} {PT : List (Addr × Option Str)} {k j : Nat} {x a : Str} {sp : LSp} (h : LamPr P w K mg base PT k x a sp) (hk : k = j) : LamPr P w K mg base PT j x a sp := hk ▸ h
end
end Df

set_option Elab.async false
set_option linter.all false
set_option maxRecDepth 100000
set_option maxHeartbeats 4000000
/-! DfH: dicts by data: displays, get with a default; repr of what has dicts in it. -/
namespace Df
open PySem PySem.Spec PyProof.Rows L2 Lf
section
variable {K : PySem.W.Frag} {B : Addr → Prop} {H : Hp}
def kHas : PyData → Key → Bool
  | .int i, .inl j => i == j
  | .str x, .inr y => x == y
  | _, _ => false
def lookD (k : Key) : List (PyData × PyData) → Option PyData
  | [] => none
  | (e, d) :: r => if kHas e k then some d else lookD k r
theorem kHas_keyD (k j : Key) : kHas (keyD j) k = decide (j = k) := by
  cases j <;> cases k <;> simp [keyD, kHas] <;> rfl
theorem look_dx : ∀ {es : List (PyData × PyData)} {kvs : List (Key × V)} (k : Key), DxKv K B H kvs es → (lookD k es = none → valV kvs k = none) ∧ ∀ d, lookD k es = some d → ∃ v, valV kvs k = some v ∧ Dx K B H v d
  | [], _, k, h => by
    cases h
    exact ⟨fun _ => rfl, fun d z => by cases z⟩
  | (e, d) :: r, _, k, h => by
    cases h with
    | @cons j v _ r' _ h1 h2 =>
      have ih := look_dx k h2
      have e1 : valV ((j, v) :: r') k = if j = k then some v else valV r' k := by
        unfold valV
        rw [List.find?_cons]
        by_cases q : j = k <;> simp [q]
      rw [e1, lookD, kHas_keyD]
      by_cases q : j = k
      · simp only [q, decide_true, if_true]
        exact ⟨(fun z => by cases z), fun d' z => ⟨v, rfl, by cases z; exact h1⟩⟩
      · simp only [q, decide_false, if_false]
        exact ih
mutual
theorem Dx.rds {X : Cx} {pins : List (Addr × Obj)} {σ : L2.St} {H : Hp} {s : Shared} (I : Inv X pins σ H s) (hS : (X.K.lookup sysModules).isSome = true) : ∀ (d : PyData) (v : V) (u : Value), Dx X.K B H v d → RelV v u → ∃ as, Reads s.heap u d as ∧ sysModules ∉ as
  | .none, _, _, h, r => by
    cases h
    cases r
    exact ⟨_, .none, by simp⟩
  | .bool b, _, _, h, r => by
    cases h
    cases r
    exact ⟨_, .bool b, by simp⟩
  | .int i, _, _, h, r => by
    cases h
    obtain ⟨t, rfl⟩ := r
    exact ⟨_, .int i t, by simp⟩
  | .str x, _, _, h, r => by
    cases h
    obtain ⟨t, rfl⟩ := r
    exact ⟨_, .str x t, by simp⟩
  | .tuple ds, _, u, h, r => by
    cases h with
    | tup hs ha =>
      obtain rfl : u = _ := r
      obtain ⟨its, rv, ⟨o, ho, hc, n, hd⟩, _⟩ := I.tuple hs
      obtain ⟨as, hr, na⟩ := DxAll.rds I hS ds _ its ha rv
      exact ⟨_, Reads.tuple ho hc hd hr, na⟩
  | .list ds, _, u, h, r => by
    cases h with
    | @lst a _ _ hn hs ha =>
      obtain rfl : u = _ := r
      obtain ⟨its, rv, ⟨o, n, ho, hc, _, hd⟩, _⟩ := I.list (.inl (.inl hs))
      obtain ⟨as, hr, na⟩ := DxAll.rds I hS ds _ its ha rv
      refine ⟨_, Reads.list ho hc hd hr, fun z => ?_⟩
      rcases List.mem_cons.mp z with z | z
      · obtain ⟨o1, h1⟩ := Option.isSome_iff_exists.mp hS
        have h2 := (I.bs _ _ (I.ok.mod.kin _ _ h1)).2
        rw [z, hs] at h2
        cases h2
      · exact na z
  | .dict es, _, u, h, r => by
    cases h with
    | @dic a kvs _ hn hs hk =>
      obtain rfl : u = _ := r
      obtain ⟨z, hsm, vs, rk, dd⟩ := dk_of I.hok hs
      obtain ⟨o, ents, ep, ho, hc, hd, hks, hp, hnd⟩ := dd
      obtain ⟨as, bs, q1, q2, n1, n2⟩ := DxKv.rds I hS es kvs vs ents.toList hk rk hp
      refine ⟨_, Reads.dict ho hc.1 hd q1 q2, fun z => ?_⟩
      rcases List.mem_append.mp z with z | z
      · rcases List.mem_cons.mp z with z | z
        · rw [z] at hsm
          simp at hsm
        · exact n1 z
      · exact n2 z
theorem DxAll.rds {X : Cx} {pins : List (Addr × Obj)} {σ : L2.St} {H : Hp} {s : Shared} (I : Inv X pins σ H s) (hS : (X.K.lookup sysModules).isSome = true) : ∀ (ds : List PyData) (vs : List V) (us : List Value), DxAll X.K B H vs ds → Vals vs us → ∃ as, ReadsAll s.heap us ds as ∧ sysModules ∉ as
  | [], _, _, h, r => by
    cases h
    cases r
    exact ⟨_, .nil, by simp⟩
  | d :: ds, _, _, h, r => by
    cases h with
    | cons h1 h2 =>
      cases r with
      | cons r1 r2 =>
        obtain ⟨as, q1, n1⟩ := Dx.rds I hS d _ _ h1 r1
        obtain ⟨bs, q2, n2⟩ := DxAll.rds I hS ds _ _ h2 r2
        exact ⟨_, .cons q1 q2, fun z => (List.mem_append.mp z).elim n1 n2⟩
theorem DxKv.rds {X : Cx} {pins : List (Addr × Obj)} {σ : L2.St} {H : Hp} {s : Shared} (I : Inv X pins σ H s) (hS : (X.K.lookup sysModules).isSome = true) : ∀ (es : List (PyData × PyData)) (kvs : List (Key × V)) (vs : List (Key × Value)) (ents : List DictEntry), DxKv X.K B H kvs es → KV kvs vs → Pairs (mixKind X.prog X.w) ents vs →
    ∃ as bs, ReadsAll s.heap (ents.map (·.key)) (es.map (·.1)) as ∧ ReadsAll s.heap (ents.map (·.val)) (es.map (·.2)) bs ∧ sysModules ∉ as ∧ sysModules ∉ bs
  | [], _, _, _, h, r, p => by
    cases h
    cases r
    cases p
    exact ⟨_, _, .nil, .nil, by simp, by simp⟩
  | (_, d) :: es, _, _, _, h, r, p => by
    cases h with
    | cons h1 h2 =>
      cases r with
      | cons r1 r2 =>
        cases p with
        | cons p1 p2 p3 =>
          obtain ⟨as, bs, q1, q2, n1, n2⟩ := DxKv.rds I hS es _ _ _ h2 r2 p3
          obtain ⟨e1, e2⟩ := r1
          rw [← p2] at e2
          obtain ⟨cs, q3, n3⟩ := Dx.rds I hS d _ _ h1 e2
          rw [← e1] at p1
          rcases keyIs_shape p1 with ⟨i, t, ek, ev⟩ | ⟨x, t, ek, ev⟩
          · refine ⟨_, _, .cons (as := []) ?_ q1, .cons q3 q2, by simpa using n1, fun z => (List.mem_append.mp z).elim n3 n2⟩
            dsimp only at ek
            subst ek
            show Reads s.heap _ (.int i) []
            dsimp only
            rw [ev]
            exact .int i t
          · refine ⟨_, _, .cons (as := []) ?_ q1, .cons q3 q2, by simpa using n1, fun z => (List.mem_append.mp z).elim n3 n2⟩
            dsimp only at ek
            subst ek
            show Reads s.heap _ (.str x) []
            dsimp only
            rw [ev]
            exact .str x t
end
end
/-! ### repr -/
def rReprX (K : PySem.W.Frag) (A : Around) : List V → Hp → VK → Prop := fun xs H Q => ∃ (a : Addr) (d : PyData) (B : Addr → Prop), xs = [.ref a] ∧ Dx K B H (.ref a) d ∧ d.showable = true ∧ d.shown.length ≤ sizeLine ∧ A.units + (d.depth + 1) < cLine ∧ Q (.str d.shown) H
theorem call_reprX {X : Cx} (hG : X.A.guards = some []) (hS : (X.K.lookup sysModules).isSome = true) : CallR X (.builtin "repr") (rReprX X.K X.A) := by
  intro pins s σ H xs us Q I r h
  obtain ⟨a, d, B, rfl, hd, hs, hl, hu, q⟩ := h
  match us, r with
  | [u], .cons r1 .nil =>
    obtain rfl : u = Value.ref a := r1
    obtain ⟨as, r1, na⟩ := Dx.rds I hS d (.ref a) (.ref a) hd rfl
    exact repr_of_reads' r1 hs (fun _ => na) hG hu (fun _ _ e => e) (fun h' u tk hk => ⟨.str _, H, I.kept (t' := tk) hk, ⟨u, rfl⟩, q⟩) hl
def rdReprX : RDC
  | [d], Q => (isLst d || isTup d) = true ∧ d.showable = true ∧ d.shown.length ≤ 1000000 ∧ d.depth ≤ 150 ∧ Q (.str d.shown)
  | _, _ => False
theorem cd_reprX {K : PySem.W.Frag} {A : Around} {k : Nat} (hr : Room k A) : CallD K (rReprX K A) rdReprX := by
  intro F Z b H vs ds Q Q0 hh hv ht hq
  unfold rdReprX at ht
  split at ht
  · obtain ⟨v, rfl, x⟩ := avs1 hv
    obtain ⟨h1, h3, h4, h5, h6⟩ := ht
    have hun := hr.un
    have hd := x.n
    rename_i d
    obtain ⟨a, rfl⟩ : ∃ a, v = .ref a := by
      cases hd with
      | lst _ _ _ => exact ⟨_, rfl⟩
      | tup _ _ => exact ⟨_, rfl⟩
      | non => cases h1
      | bl _ => cases h1
      | int _ => cases h1
      | str _ => cases h1
      | dic _ _ _ => cases h1
    exact ⟨a, d, _, rfl, hd, h3, sz6 h4, by omega, hq _ _ H (Go.refl hh.t) (.str _) h6⟩
  · exact ht.elim
/-! ### {}, get -/
section
variable {X : Cx} {F : Fr} {W : WX} {e f : Expr} {pos : Pos}
theorem de_dict0 : DE X F W (.Dict [] [] pos) (dC (.dict [])) :=
  ⟨_, pe_dnewK, fun σ H ρ b Z Q R Q0 s hT ht hq m p np => hq _ _ _ b (Go.new hT np) (.dic (s.fresh hT np) upd_same .nil) ht⟩
def onDict : PyData → (List (PyData × PyData) → Prop) → Prop
  | .dict es, k => k es
  | _, _ => False
def onKey : PyData → (Key → Prop) → Prop
  | .int i, k => k (.inl i)
  | .str x, k => k (.inr x)
  | _, _ => False
def dGet2 (to te tf : DTE) : DTE := fun ρ b Q R => to ρ b (fun d b1 => onDict d fun es => te ρ b1 (fun kd b2 => onKey kd fun k => tf ρ b2 (fun z b3 => Q ((lookD k es).getD z) b3) R) R) R
theorem de_get2 {o : Expr} {to te tf : DTE} {apos cpos : Pos} (hu : X.A.units + 1 < cLine) (ho : DE X F W o to) (he : DE X F W e te) (hf : DE X F W f tf) (m : M2 X o "get" apos e f cpos) : DE X F W (.Call (.Attribute o "get" apos) [e, f] [] cpos) (dGet2 to te tf) := by
  obtain ⟨t1, p1, q1⟩ := ho.ex
  obtain ⟨t2, p2, q2⟩ := he.ex
  obtain ⟨t3, p3, q3⟩ := hf.ex
  refine ⟨_, pe_dget2 hu p1 p2 p3 m, fun σ H ρ b Z Q R Q0 s hT ht hq m => ?_⟩
  refine q1 σ H ρ b Z _ R _ s hT ht (fun v d H1 b1 g1 x1 h1 => ?_) m
  unfold onDict at h1
  split at h1
  · rename_i es
    cases x1 with
    | @dic a kvs _ na ha hk =>
      refine ⟨a, rfl, .inl ⟨kvs, .inl ha⟩, ?_⟩
      have s1 := s.go g1
      refine q2 σ H1 ρ b1 Z _ R _ s1 g1.r h1 (fun y kd H2 b2 g2 x2 h2 => ?_) (m.go g1)
      have fin : ∀ k : Key, y = kV k → tf ρ b2 (fun z b3 => Q ((lookD k es).getD z) b3) R → t3 σ H2 (fun z H3 => ∃ o, DGet H3 a y o ∧ Q0 (o.getD z) H3) := fun k ey h3 => by
        refine q3 σ H2 ρ b2 Z _ R _ (s1.go g2) g2.r h3 (fun z dz H3 b3 g3 x3 hQ => ?_) ((m.go g1).go g2)
        have kz := ((s1.go g2).kz g3)
        have n2 : ∀ {c : Addr}, ¬ Bad F Z c → ¬ F.N c := fun n z => n (.inl z)
        have ha3 : H3 a = some (.dK kvs) := g3.keep (n2 na) (g2.keep (n2 na) ha)
        have hk3 : DxKv X.K (Bad F Z) H3 kvs es := DxKv.kz kz _ _ (DxKv.kz (s1.kz g2) _ _ hk)
        refine ⟨_, ey ▸ DGet.k ha3, ?_⟩
        obtain ⟨l1, l2⟩ := look_dx k hk3
        cases hl : lookD k es with
        | none =>
          rw [l1 hl]
          rw [hl] at hQ
          exact hq z dz H3 b3 ((g1.trans g2).trans g3) x3 hQ
        | some d =>
          obtain ⟨v, e1, e2⟩ := l2 d hl
          rw [e1]
          rw [hl] at hQ
          exact hq v d H3 b3 ((g1.trans g2).trans g3) e2 hQ
      unfold onKey at h2
      split at h2
      · exact fin (.inl _) x2.inv_int h2
      · exact fin (.inr _) x2.inv_str h2
      · exact h2.elim
  · exact h1.elim
end
/-! ### {k: v, ..} -/
def kvD (ks : List Key) (ds : List PyData) : List (PyData × PyData) := (ks.map keyD).zip ds
theorem kv_dx {K : PySem.W.Frag} {B : Addr → Prop} {H : Hp} : ∀ {ks : List Key} {vs : List V} {ds : List PyData}, vs.length = ks.length → DxAll K B H vs ds → DxKv K B H (ks.zip vs) (kvD ks ds)
  | [], vs, ds, hl, h => by
    cases List.length_eq_zero_iff.mp hl
    cases h
    exact .nil
  | k :: ks, [], ds, hl, h => by cases hl
  | k :: ks, v :: vs, ds, hl, h => by
    cases h with
    | cons h1 h2 => exact .cons h1 (kv_dx (by simpa using hl) h2)
structure PPD (X : Cx) (F : Fr) (W : WX) (pos : Pos) (keys : List (Option Expr)) (values : List Expr) (ks : List Key) (u : DTL) : Prop where
  ex : ∃ trs, PPs X pos keys values trs ∧ ∀ σ H ρ b Z Q R (Q0 : List (V × V) → Hp → Prop), Sl X.K F Z σ H ρ → F.T b H → u ρ b Q R → (∀ vs ds H' b', Go F b H b' H' → DxAll X.K (Bad F Z) H' vs ds → vs.length = ks.length → Q ds b' → Q0 ((ks.zip vs).map fun kv => (kV kv.1, kv.2)) H') → Met X F W σ b H R → tPairs trs σ H Q0
section
variable {X : Cx} {F : Fr} {W : WX} {pos : Pos} {keys : List (Option Expr)} {values : List Expr} {ks : List Key} {u : DTL}
theorem ppd_nil : PPD X F W pos [] [] [] dNil := ⟨_, pps_nil, fun σ H ρ b Z Q R Q0 s hT ht hq m => hq [] [] H b (Go.refl hT) .nil rfl ht⟩
theorem ppd_cons {ke v : Expr} {k : Key} {t : DTE} (hk : PE X ke (tC (kV k))) (hv : DE X F W v t) (h : PPD X F W pos keys values ks u) : PPD X F W pos (some ke :: keys) (v :: values) (k :: ks) (dCons t u) := by
  obtain ⟨t0, p, q⟩ := hv.ex
  obtain ⟨trs, ps, qs⟩ := h.ex
  refine ⟨_, pps_cons hk p ps, fun σ H ρ b Z Q R Q0 s hT ht hq m => ?_⟩
  refine q σ H ρ b Z _ R _ s hT ht (fun y d H1 b1 g1 x1 h1 => ?_) m
  refine qs σ H1 ρ b1 Z _ R _ (s.go g1) g1.r h1 (fun vs ds H2 b2 g2 x2 hl h2 => ?_) (m.go g1)
  exact hq (y :: vs) (d :: ds) H2 b2 (g1.trans g2) (.cons (Go.dx (s.go g1) g2 x1) x2) (by simp [hl]) h2
def dDisp (ks : List Key) (u : DTL) : DTE := fun ρ b Q R => u ρ b (fun ds b' => flats ds = true ∧ Q (.dict (kvD ks ds)) b') R
theorem de_disp (h : PPD X F W pos keys values ks u) (hm : ∀ vs : List V, vs.length = ks.length → mergeK [] (ks.zip vs) = ks.zip vs) (hall : keys.all (·.isSome) = true := by rfl) (hl : keys.length = values.length := by rfl) (h0 : keys ≠ [] := by exact fun z => nomatch z) (h15 : keys.length ≤ 15 := by decide) (hks : ks.length ≤ 15 := by decide) :
    DE X F W (.Dict keys values pos) (dDisp ks u) := by
  obtain ⟨trs, ps, qs⟩ := h.ex
  refine ⟨_, pe_disp ps hall hl h0 h15, fun σ H ρ b Z Q R Q0 s hT ht hq m p np => ?_⟩
  have g0 := Go.new (o := .dK []) hT np
  have nB := s.fresh hT np
  refine qs σ _ ρ b Z _ R _ (s.go g0) g0.r ht (fun vs ds H' b' g x hl hQ => ?_) (m.go g0)
  have hp : H' p = some (.dK []) := g.keep (fun z => nB (.inl z)) upd_same
  refine ⟨hp, ks.zip vs, rfl, ?_, ?_⟩
  · rw [List.length_zip]
    omega
  · rw [hm vs hl]
    have kz : Kz (fun a => a = p) H' (upd H' p (.dK (ks.zip vs))) := Kz.mut rfl hp (fun _ z => by cases z) (fun _ _ z => by cases z)
    have x2 : DxAll X.K (Bad F Z) (upd H' p (.dK (ks.zip vs))) vs ds := DxAll.flat _ _ hQ.1 (DxAll.kz kz _ _ (DxAll.flat (C := fun a => a = p) _ _ hQ.1 x))
    exact hq _ _ _ b' ((g0.trans g).put np (nx_dK hp)) (.dic nB upd_same (kv_dx hl x2)) hQ.2
end
section
variable {ds : List PyData} {es : List (PyData × PyData)} {Q : PyData → Prop} {i : Int} {x : Str} {q : List (PyData × PyData) → Prop} {r : Key → Prop}
theorem rdReprX_l : rdReprX [.list ds] Q = ((PyData.list ds).showable = true ∧ (PyData.list ds).shown.length ≤ 1000000 ∧ (PyData.list ds).depth ≤ 150 ∧ Q (.str (PyData.list ds).shown)) := by
  show (_ ∧ _) = _
  simp [isLst]
theorem rdReprX_t : rdReprX [.tuple ds] Q = ((PyData.tuple ds).showable = true ∧ (PyData.tuple ds).shown.length ≤ 1000000 ∧ (PyData.tuple ds).depth ≤ 150 ∧ Q (.str (PyData.tuple ds).shown)) := by
  show (_ ∧ _) = _
  simp [isTup]
theorem onDict_ : onDict (.dict es) q = q es := rfl
theorem onKey_i : onKey (.int i) r = r (.inl i) := rfl
theorem onKey_s : onKey (.str x) r = r (.inr x) := rfl
end
end Df

set_option Elab.async false
set_option linter.all false
set_option maxRecDepth 100000
set_option maxHeartbeats 4000000
/-! DfK: what can be shown: bounds. -/
namespace Df
open PySem PySem.Spec PyProof.Rows L2 Lf
structure Rp (n m : Nat) (d : PyData) : Prop where
  sh : d.showable = true
  ls : d.leavesShort 13 = true
  bk : d.bulk ≤ n
  dp : d.depth ≤ m
structure Rps (n m : Nat) (ds : List PyData) : Prop where
  sh : PyData.showableAll ds = true
  ls : PyData.leavesShortAll 13 ds = true
  bk : PyData.bulkAll ds ≤ n
  dp : PyData.depthAll ds ≤ m
section
variable {n m a b : Nat} {d : PyData} {ds es : List PyData}
theorem Rp.mono (h : Rp n m d) (h1 : n ≤ a) (h2 : m ≤ b) : Rp a b d := ⟨h.sh, h.ls, Nat.le_trans h.bk h1, Nat.le_trans h.dp h2⟩
theorem Rps.mono (h : Rps n m ds) (h1 : n ≤ a) (h2 : m ≤ b) : Rps a b ds := ⟨h.sh, h.ls, Nat.le_trans h.bk h1, Nat.le_trans h.dp h2⟩
theorem rp_none : Rp 0 m .none := ⟨rfl, rfl, Nat.le_refl _, by simp [PyData.depth]⟩
theorem rp_bool {k : Bool} : Rp 0 m (.bool k) := ⟨rfl, rfl, Nat.le_refl _, by simp [PyData.depth]⟩
theorem rp_int {i : Int} (h1 : -999999999 ≤ i) (h2 : i ≤ 999999999) : Rp 0 m (.int i) := by
  refine ⟨?_, ?_, Nat.le_refl _, by simp [PyData.depth]⟩
  · unfold PyData.showable
    have : i.natAbs < 2 ^ 30 := by omega
    have h3 : i.natAbs.log2 < 1920 := by
      by_cases h0 : i.natAbs = 0
      · rw [h0]; decide
      · exact Nat.lt_trans ((Nat.log2_lt h0).mpr this) (by decide)
    exact decide_eq_true h3
  · unfold PyData.leavesShort
    exact decide_eq_true (PyData.shown_int_le2 (by omega) (by omega))
theorem rp_str {x : Str} (h : (x.cps.toList.all fun c => decide (c < 16 ^ 8)) = true) : Rp x.cps.size m (.str x) := ⟨rfl, h, Nat.le_refl _, by simp [PyData.depth]⟩
theorem rps_nil : Rps 0 m [] := ⟨rfl, rfl, Nat.le_refl _, by simp [PyData.depthAll]⟩
theorem rps_cons (h : Rp a m d) (h' : Rps b m ds) : Rps (a + 1 + b) m (d :: ds) := by
  refine ⟨?_, ?_, ?_, ?_⟩
  · rw [PyData.showableAll, h.sh, h'.sh]; rfl
  · rw [PyData.leavesShortAll, h.ls, h'.ls]; rfl
  · rw [PyData.bulkAll]
    have := h.bk
    have := h'.bk
    omega
  · rw [PyData.depthAll]
    have := h.dp
    have := h'.dp
    omega
theorem rps_app : ∀ {ds : List PyData} {a : Nat}, Rps a m ds → Rps b m es → Rps (a + b) m (ds ++ es)
  | [], a, h, h' => h'.mono (by omega) (Nat.le_refl _)
  | d :: ds, a, h, h' => by
    have h1 := h.sh
    have h2 := h.ls
    have h3 := h.bk
    have h4 := h.dp
    rw [PyData.showableAll, Bool.and_eq_true] at h1
    rw [PyData.leavesShortAll, Bool.and_eq_true] at h2
    rw [PyData.bulkAll] at h3
    rw [PyData.depthAll] at h4
    have q1 : Rp d.bulk m d := ⟨h1.1, h2.1, Nat.le_refl _, by omega⟩
    have q2 : Rps (PyData.bulkAll ds) m ds := ⟨h1.2, h2.2, Nat.le_refl _, by omega⟩
    exact (rps_cons q1 (rps_app q2 h')).mono (by omega) (Nat.le_refl _)
theorem rps_all : ∀ {ds : List PyData}, (∀ d ∈ ds, Rp n m d) → Rps (ds.length * (n + 1)) m ds
  | [], _ => rps_nil.mono (by simp) (Nat.le_refl _)
  | d :: ds, h => (rps_cons (h d List.mem_cons_self) (rps_all fun e he => h e (List.mem_cons_of_mem _ he))).mono (by rw [List.length_cons, Nat.succ_mul]; omega) (Nat.le_refl _)
theorem rp_list (h : Rps n m ds) : Rp n (m + 1) (.list ds) := ⟨by rw [PyData.showable]; exact h.sh, by rw [PyData.leavesShort]; exact h.ls, by rw [PyData.bulk]; exact h.bk, by have := h.dp; rw [PyData.depth]; omega⟩
theorem rp_tuple (h : Rps n m ds) : Rp n (m + 1) (.tuple ds) := ⟨by rw [PyData.showable]; exact h.sh, by rw [PyData.leavesShort]; exact h.ls, by rw [PyData.bulk]; exact h.bk, by have := h.dp; rw [PyData.depth]; omega⟩
theorem rp_dict0 : Rp 0 (m + 1) (.dict []) := ⟨rfl, rfl, Nat.le_refl _, by simp [PyData.depth, PyData.depthKv]⟩
theorem Rp.len (h : Rp n m d) (hn : n ≤ 60000) : d.shown.length ≤ 1000000 := by
  have := PyData.shown_le_bulk 13 (by decide) d h.ls
  have := h.bk
  omega
end
end Df

set_option Elab.async false
set_option linter.all false
set_option maxRecDepth 100000
set_option maxHeartbeats 4000000
/-! DfN: a tuple once, a text some times. -/
namespace PySem
namespace DfN
open MeetsSeq AutoSeq1
set_option maxRecDepth 8000 in
theorem tuple_once (l : Addr) (items : Array Value) (n : Nat) (dd : Option Addr) (sl : Array (Option Value)) (u : Tok) :
    Meets (Builtin.«tuple.__mul__» ⟨[.ref l, .int 1 u], []⟩) (fun _ R s => s.heap.get? l = some { cls := .type "tuple", dict := dd, data := .seq items n, slots := sl } ∧ R (.ok (.ret (Value.ref l))) s) :=
  .of_wp fun prog w A R s h => by
    obtain ⟨hp, g, d, tk, os⟩ := s; obtain ⟨hl, h⟩ := h; have f1 := idx_int; have f2 := sub_tuple_tuple
    have c1 : (items.isEmpty || (1 : Int) == 1) = true := by simp
    wp_walk using wpAny_loadPart' hl
    exact ⟨_, rfl, h⟩
end DfN
end PySem

namespace Df
open PySem PySem.Spec PyProof.Rows L2 Lf
def rOnce (K : PySem.W.Frag) : R2 := fun x y H Q => ∃ l xs, x = .ref l ∧ y = .int 1 ∧ SqT K H l xs ∧ Q (.ref l) H
def repS (n : Nat) (z : Str) : Str := ⟨(List.replicate n z.cps).foldl (· ++ ·) #[]⟩
def rRepS : R2 := fun x y H Q => ∃ z k, x = .str z ∧ y = .int k ∧ 2 ≤ k ∧ k ≤ 1000 ∧ 0 < z.length ∧ z.length ≤ 1000 ∧ Q (.str (repS k.toNat z)) H
section
variable {X : Cx} {K : PySem.W.Frag}
theorem op_once : OpR X (binaryOp .Mult) (rOnce X.K) := by
  intro pins s σ H x y v u Q I rx ry h
  obtain ⟨l, xs, rfl, rfl, hT, q⟩ := h
  obtain rfl : v = Value.ref l := rx
  obtain ⟨t, rfl⟩ := ry
  obtain ⟨its, r, ⟨⟨cls, dd, data, sl⟩, ho, hc, n, hd⟩, hs⟩ := I.tuple hT
  simp only at hc hd
  subst hc hd
  refine wpAny_binaryOp_repeat_ref (T := "tuple") (U := "int") (by decide) ⟨_, ho, rfl⟩ (fun s' => typeIs_int s' 1 t) noFill_tuple_mul F.fills_int_mul F.slot_int_rmul repeat_tuple F.slot_int_index.lookup
    (call_meets F.slot_int_rmul (typeIs_int s 1 t) F.entry_int_rmul (F.args_int_rmul_2 _ _) (int_rmul_tuple 1 t l its.toArray n dd sl)
      ⟨ho, rfl, ⟨_, ho, rfl⟩, call_meets F.slot_tuple_mul ⟨_, ho, rfl⟩ F.entry_tuple_mul (F.args_tuple_mul_2 _ _) (PySem.DfN.tuple_once l its.toArray n dd sl t) ⟨ho, ?_⟩⟩)
  exact ⟨.ref l, H, I, rfl, q⟩
theorem rep_size (a : Array Nat) : ∀ (m : Nat) (acc : Array Nat), (List.foldl (fun x1 x2 => x1 ++ x2) acc (List.replicate m a)).size = acc.size + m * a.size
  | 0, acc => by simp
  | m + 1, acc => by
    rw [List.replicate_succ, List.foldl_cons, rep_size a m, Array.size_append, Nat.succ_mul]
    omega
theorem op_repS : OpR X (binaryOp .Mult) rRepS := by
  intro pins s σ H x y v u Q I rx ry h
  obtain ⟨z, k, rfl, rfl, h1, h2, h0, h3, q⟩ := h
  obtain ⟨t, rfl⟩ := rx
  obtain ⟨t', rfl⟩ := ry
  have hk : k.toNat ≤ 1000 := by omega
  have hm : z.length * k.toNat ≤ 1000 * 1000 := Nat.mul_le_mul h3 hk
  have c1 : (k == 1 || z.length == 0) = false := by
    rw [Bool.or_eq_false_iff]
    exact ⟨beq_eq_false_iff_ne.mpr (by omega), beq_eq_false_iff_ne.mpr (by omega)⟩
  refine PySem.P.mul_str (by rw [decide_eq_false (by omega), decide_eq_false (by omega)]; rfl) (fun _ _ => ?_) (fun _ _ => ?_) ?_
  · have : (2 ^ 63 - 1 : Int) / 1000 ≤ (2 ^ 63 - 1) / k := by
      refine Int.le_ediv_of_mul_le (by omega) ?_
      have : (2 ^ 63 - 1 : Int) / 1000 * k ≤ (2 ^ 63 - 1 : Int) / 1000 * 1000 := Int.mul_le_mul_of_nonneg_left (by omega) (by decide)
      omega
    omega
  · unfold Builtin.Str.tooLong
    exact decide_eq_false (by rw [sizeLine_eq]; omega)
  · rw [if_neg (by omega), c1, if_neg Bool.false_ne_true]
    refine ⟨?_, .str _, H, I.tok _, ⟨_, rfl⟩, q⟩
    show (List.foldl (fun x1 x2 => x1 ++ x2) #[] (List.replicate k.toNat z.cps)).size ≤ sizeLine
    rw [rep_size, sizeLine_eq]
    have e1 : z.cps.size = z.length := rfl
    rw [e1, Nat.mul_comm]
    simp only [List.size_toArray, List.length_nil]
    omega
theorem opd_once : OpD K (rOnce K) (fun d e Q => ∃ ds, d = .tuple ds ∧ e = .int 1 ∧ Q d) := by
  intro F Z b H v u d e Q Q0 hh hv hu hr hq
  obtain ⟨ds, rfl, rfl, h⟩ := hr
  obtain ⟨a, us, rfl, hs, ha⟩ := hv.tup.inv
  have e2 := hu.int
  subst e2
  exact ⟨a, us, rfl, rfl, hs, hq _ _ H (Go.refl hh.t) (.tup hs ha) h⟩
theorem opd_repS : OpD K rRepS (fun d e Q => ∃ z k, d = .str z ∧ e = .int k ∧ 2 ≤ k ∧ k ≤ 1000 ∧ 0 < z.length ∧ z.length ≤ 1000 ∧ Q (.str (repS k.toNat z))) := by
  intro F Z b H v u d e Q Q0 hh hv hu hr hq
  obtain ⟨z, k, rfl, rfl, h1, h2, h3, h4, h⟩ := hr
  have e1 := hv.str
  have e2 := hu.int
  subst e1 e2
  exact ⟨z, k, rfl, rfl, h1, h2, h3, h4, hq _ _ H (Go.refl hh.t) (.str _) h⟩
end
end Df

set_option Elab.async false
set_option linter.all false
set_option maxRecDepth 100000
set_option maxHeartbeats 4000000
/-! DfQ: what comes behind the state's making; the frame at the start. -/
namespace Df
open PySem PySem.Spec PyProof.Rows L2 Lf
open GxR (TabG Tabbed)
open LamX (TabS CodeO)
def canR (X : Cx) (PT : List (Addr × Option Str)) (W : WX) (t : DTS) : TS := fun D σ H => ∃ F b0 H0 ps ρ b D', (∀ p ∈ PT, HasT F p) ∧ RS X.K F b0 H0 ps σ H ρ b ∧ t D' ρ b ∧ EndsR X F W b0 H0 ps D' D
theorem dss_any {X : Cx} {PT : List (Addr × Option Str)} {W : WX} {ss : List Stmt} {t : DTS} (h : ∀ F, (∀ p ∈ PT, HasT F p) → DSs X F W ss t) : PSs X ss (canR X PT W t) := by
  constructor
  intro pins s σ H D I ⟨F, b0, H0, ps, ρ, b, D', hF, r, ht, E⟩
  obtain ⟨t0, p, q⟩ := (h F hF).ex
  exact p.run pins s σ H D I (q b0 H0 ps σ H ρ b D D' r ht E)
/-! ### the start's frame -/
def TabP (H : Hp) : Addr × Option Str → Prop
  | (P, none) => TabG H P
  | (P, some q) => TabS H P q
theorem TabP.tbl {H : Hp} : ∀ {p : Addr × Option Str}, TabP H p → ∃ ps, H p.1 = some (.tbl ps)
  | (_, none), ⟨ps, e, _⟩ => ⟨ps, e⟩
  | (_, some _), ⟨ps, e, _⟩ => ⟨ps, e⟩
theorem TabP.keep {H H' : Hp} : ∀ {p : Addr × Option Str}, TabP H p → (∀ o, H p.1 = some o → H' p.1 = some o) → (∀ a o, H a = some (.ext o) → H' a = some (.ext o)) → TabP H' p
  | (_, none), ⟨ps, e, t⟩, h, _ => ⟨ps, h _ e, t⟩
  | (_, some _), ⟨ps, e, t, c⟩, h, x => ⟨ps, h _ e, t, fun pos cv hc => by
    obtain ⟨a, e1, e2⟩ := c pos cv hc
    exact ⟨a, e1, x a _ e2⟩⟩
theorem tabP_nil {H : Hp} : ∀ {p : Addr × Option Str}, H p.1 = some (.tbl #[]) → TabP H p
  | (_, none), e => ⟨#[], e, trivial⟩
  | (_, some _), e => TabS.nil e
def FT (PT : List (Addr × Option Str)) : Fr where
  N a := ∃ p ∈ PT, p.1 = a
  T _ H := ∀ p ∈ PT, TabP H p
  pos b H a h n := by
    obtain ⟨p, hp, rfl⟩ := n
    obtain ⟨ps, e⟩ := (h p hp).tbl
    exact ⟨_, e, (fun _ z => by cases z), (fun _ _ z => by cases z), (fun _ z => by cases z)⟩
  loc b H H' h e x p hp := (h p hp).keep (fun o z => (e _ ⟨p, hp, rfl⟩).trans z) x
  mono b c H h _ := h
theorem FT.has {PT : List (Addr × Option Str)} (nd : (PT.map (·.1)).Nodup) : ∀ p ∈ PT, HasT (FT PT) p := by
  have uniq : ∀ p ∈ PT, ∀ p' ∈ PT, p.1 = p'.1 → p = p' := by
    induction PT with
    | nil => intro p hp; cases hp
    | cons q r ih =>
      rw [List.map_cons, List.nodup_cons] at nd
      intro p hp p' hp' e
      rcases List.mem_cons.mp hp with rfl | h1
      · rcases List.mem_cons.mp hp' with rfl | h2
        · rfl
        · exact absurd (e ▸ List.mem_map_of_mem (f := (·.1)) h2) nd.1
      · rcases List.mem_cons.mp hp' with rfl | h2
        · exact absurd (e ▸ List.mem_map_of_mem (f := (·.1)) h1) nd.1
        · exact ih nd.2 p h1 p' h2 e
  intro p hp
  obtain ⟨P, o⟩ := p
  cases o with
  | none =>
    refine ⟨⟨_, hp, rfl⟩, fun b H h => h _ hp, fun b H H' h t p' hp' => ?_⟩
    by_cases e : p'.1 = P
    · have := uniq p' hp' _ hp e
      subst this
      exact t.1
    · obtain ⟨ps, eP⟩ := (h _ hp).tbl
      refine (h p' hp').keep (fun o z => (t.2 _ e).trans z) fun a o z => (t.2 a fun y => ?_).trans z
      rw [y, show H P = some (.tbl ps) from eP] at z
      cases z
  | some q =>
    refine ⟨⟨_, hp, rfl⟩, fun b H h => h _ hp, fun b H H' h t p' hp' => ?_⟩
    by_cases e : p'.1 = P
    · have := uniq p' hp' _ hp e
      subst this
      exact t.1
    · obtain ⟨ps, eP⟩ := (h _ hp).tbl
      refine (h p' hp').keep (fun o z => t.2 _ _ e z) fun a o z => t.2 a _ (fun y => ?_) z
      rw [y, show H P = some (.tbl ps) from eP] at z
      cases z
end Df

set_option Elab.async false
set_option linter.all false
set_option maxRecDepth 100000
set_option maxHeartbeats 4000000
/-! K0a: the text, what is read of the module. -/
namespace K00
open PySem PySem.Spec PyProof.Rows L2 Lf
open GxR (TabB TabG Tabbed GenS)
abbrev R : PySem.W.OpenRow := PySem.W.OpenLaw.row PySem.Challenge.rw_everyleaf_k00_whole_documents_and_places
def topS (i : Nat) : Stmt := PySem.Challenge.pw_everyleaf_k00_whole_documents_and_places.main.body.getD i (.Pass ⟨0, 0, 0, 0⟩)
/-- the built-ins that are read, the module's constants -/
structure Txt (mg : Str → Option Value) : Prop where
  len : mg "len" = none
  isinstance : mg "isinstance" = none
  str : mg "str" = none
  tuple : mg "tuple" = none
  list : mg "list" = none
  int : mg "int" = none
  all : mg "all" = none
  sum : mg "sum" = none
  range : mg "range" = none
  enumerate : mg "enumerate" = none
  zip : mg "zip" = none
  repr : mg "repr" = none
  sorted : mg "sorted" = none
  max : mg "max" = none
  bool : mg "bool" = none
  small : ∃ t, mg "SMALL" = some (.str smalls t)
  sign : ∃ t, mg "SIGNS" = some (.str Lf.signs t)
  longest : ∃ t, mg "LONGEST" = some (.int 8 t)
  names : ∃ t, mg "MOST_NAMES" = some (.int 2000 t)
  deeps : ∃ t, mg "MOST_DEEP" = some (.int 100 t)
  parts : ∃ t, mg "MOST_PARTS" = some (.int 3 t)
end K00

set_option Elab.async false
set_option linter.all false
set_option maxRecDepth 100000
set_option maxHeartbeats 4000000
/-! D0a: names, documents looked at. -/
namespace K00
open PySem PySem.Spec PyProof.Rows L2 Lf Df
open GxR (TabB TabG Tabbed GenS)
abbrev s_is_name : Stmt := topS 9
abbrev N_is_name : List Str := ["value"]
theorem sc_is_name : FnScope N_is_name ["value"] (defScope s_is_name) := ⟨rfl, rfl, rfl, by decide +kernel, rfl, by decide +kernel, by decide +kernel⟩
abbrev s_check_document : Stmt := topS 14
abbrev N_check_document : List Str := ["value", "waiting", "count", "one", "place", "number"]
theorem sc_check_document : FnScope N_check_document ["value"] (defScope s_check_document) := ⟨rfl, rfl, rfl, by decide +kernel, rfl, by decide +kernel, by decide +kernel⟩
abbrev s_need_document : Stmt := topS 15
abbrev N_need_document : List Str := ["document", "wrong"]
theorem sc_need_document : FnScope N_need_document ["document"] (defScope s_need_document) := ⟨rfl, rfl, rfl, by decide +kernel, rfl, by decide +kernel, by decide +kernel⟩
section
variable {P : Program} {w : World} {K : PySem.W.Frag} {mg : Str → Option Value} {base : Heap} {PT : List (Addr × Option Str)}
/-! ### is_name -/
def spName : DSp := fun as b Q _ => ∃ d, as = [.im d] ∧ (∀ s, d = .str s → s.length ≤ 1000) ∧ Q (.bool (isName d)) b
theorem pr_is_name {f c P1 : Addr} {fd : FuncData} {k : Nat} (T : Txt mg) (D : Def K mg "is_name" ["value"] s_is_name f fd) (hc : fd.code = .ref c) (TB : TabB base mg c P1) (hP1 : (P1, none) ∈ PT) : PrD P w K mg base PT (k + 1) "is_name" ["value"] spName := by
  refine PrD.of D sc_is_name (fun as b Q R h => by obtain ⟨_, rfl, _⟩ := h; rfl) (by decide) fun cdv A outer s H E F hcd hG hr hF => ?_
  have ecd : cdv = .ref c := hcd.symm.trans hc
  subst ecd
  have hP : HasTab F P1 := hF _ hP1
  obtain ⟨t1, m_SMALL⟩ := T.small
  obtain ⟨t2, m_SIGNS⟩ := T.sign
  obtain ⟨t3, m_LONGEST⟩ := T.longest
  refine ⟨_, (dss_cons (ds_if (DW.dt (dw_or (dt_not (dt_val (DE.db (de_isi kit_str' ⟨.type "str", by decide +kernel, rfl⟩ T.isinstance T.str (dvb 0))))) (dw_or1 (dt_not (dt_chain op_leO op_leO (opd_ord hr) (opd_ord hr) (DE.db de_int) (DE.db (de_call (fun _ h => pe_callB call_lenA (by rfl) T.len PySem.boot_len h) cd_len (da_cons (dvb 0) da_nil))) (DE.db (de_gi rfl m_LONGEST))))))) (
    (dss_one (ds_ret (DE.db de_bl)))) (dss_nil))
  (dss_cons (ds_if (dt_cmp op_notInO (opd_in hr) (DE.db (de_ix ix_seq opd_ix (dvb 0) (DE.db de_int) (fun _ _ => rfl))) (DE.db (de_gs rfl m_SMALL)) rfl) (
    (dss_one (ds_ret (DE.db de_bl)))) (dss_nil))
  (dss_one (ds_ret (DE.db (de_allIn hP hr T.all TB rfl ⟨rfl, rfl, by decide +kernel, rfl, rfl, fun y hy e => absurd e (by revert y; decide +kernel)⟩ m_SIGNS (dvb 0))))))), fun as b Q R h => ?_⟩
  obtain ⟨d, rfl, hs, q⟩ := h
  cases d with
  | str x =>
    have hx := hs x rfl
    have hsz : x.length = x.cps.toList.length := by rw [Array.length_toList]; rfl
    simp only [sCons_, sIf_, sRet_, sNil_, sSet_, sOwn_, sAppend_, sExtend_, onSq_l, onSq_t, sPop_, sPar_, sAsg_, sAug_, sRetN_, sDrop_, sRaise_, sFreeze_, sSetI_, sBreak_, sCont_, sTry_, dAct, dLam, dGet2, dDisp, rdReprX_l, rdReprX_t, onDict_, onKey_i, onKey_s, toOV, ofOV, dOr, dAnd, dNot, dB, dIsi, dVar_0, dVar_s, dVarB_0, dVarB_l, dVarB_s, dChain, dC, dCall, aCons, aNil, aVar, allIm_0, allIm_1, allIm_2, d2, dAllIn, startD, svOf, gN, gsC_, gsN, dTup, dCons, dNil, dLst, dAddL, dMulL, dF, dIf, dAndV, dOrV, dNotV, dNeg, dIter, dRng1, dRng2, dRng3, dEnum, dZip, dYes, dSl, dNo, dSo, dFn, wipeR, onB_, onI_, onIt_l, onIt_t, onIt_s, kRng1_, kRng2_, kRng3_, kEnum_l, kEnum_t, kZip_l, kZip_t, cutQ_t, cutQ_l, cutQ_s, rdI_, rdI0_, rdB0_, rdAdd_i, rdAdd_s, rdAdd_t, rdAdd_l, rdMul_i, rdMul_l, rdMul_t, rdEq_i, rdEq_s, rdEq0_l, rdEq0_ln, rdEq0_t, rdOrd_i, rdIsN_, rdIsN_n, rdIx_t, rdIx_l, rdIx_s, rdLen_l, rdLen_t, rdLen_s, rdTup_l, rdTup_t, rdList_l, rdList_t, rdInt_, rdSum_, rdMax_l, rdMax_i, rdMin_i, gT_, List.map_cons, List.map_nil, List.getElem?_cons_zero, List.getElem?_cons_succ, List.set_cons_zero, List.set_cons_succ, List.length_cons, List.length_nil, List.replicate, List.cons_append, List.nil_append, Option.map_some, Option.map_none, if_true, cond_true, cond_false, Bool.not_true, Bool.not_false, Nat.add_sub_cancel, Nat.sub_self, Nat.zero_add, Nat.reduceAdd, Nat.reduceSub, true_and, and_true]
    by_cases h1 : 1 ≤ x.length
    · by_cases h2 : x.length ≤ 8
      · obtain ⟨c0, r0, e0⟩ : ∃ c0 r0, x.cps.toList = c0 :: r0 := by
          cases e : x.cps.toList with
          | nil => rw [hsz, e] at h1; simp at h1
          | cons c0 r0 => exact ⟨c0, r0, rfl⟩
        have e : isName (.str x) = (decide (c0 ∈ smalls.cps.toList) && x.cps.toList.all fun c => decide (c ∈ Lf.signs.cps.toList)) := by
          show isNameS x = _
          unfold isNameS
          rw [decide_eq_true h1, decide_eq_true h2, e0]
          rfl
        rw [e] at q
        refine ⟨by omega, ?_⟩
        rw [decide_eq_true (show (1 : Int) ≤ (x.length : Nat) by omega), decide_eq_true (show ((x.length : Nat) : Int) ≤ 8 by omega)]
        refine ⟨c0, by omega, by rw [e0]; rfl, c0, rfl, ?_⟩
        cases h : decide (c0 ∈ smalls.cps.toList) with
        | true => rw [h] at q; exact q
        | false => rw [h] at q; exact q
      · refine ⟨by omega, ?_⟩
        rw [decide_eq_true (show (1 : Int) ≤ (x.length : Nat) by omega), decide_eq_false (show ¬ ((x.length : Nat) : Int) ≤ 8 by omega)]
        have e : isName (.str x) = false := by
          show isNameS x = false
          unfold isNameS
          simp [h2]
        rw [e] at q
        exact q
    · rw [decide_eq_false (show ¬ (1 : Int) ≤ (x.length : Nat) by omega)]
      have e : isName (.str x) = false := by
        show isNameS x = false
        unfold isNameS
        simp [h1]
      rw [e] at q
      exact ⟨by omega, q⟩
  | _ => exact q
/-! ### check_document -/
def encR : Option (List Nat) → PyData
  | none => .none
  | some pl => encPl pl
def spChk : DSp := fun as b Q _ => ∃ d n r, as = [.im d] ∧ sh d = true ∧ chk n [(d, [])] 0 = some r ∧ Q (encR r) b
theorem pr_check_document {f : Addr} {fd : FuncData} {k : Nat} (T : Txt mg) (D : Def K mg "check_document" ["value"] s_check_document f fd) (G_is_name : PrD P w K mg base PT k "is_name" ["value"] spName) : PrD P w K mg base PT (k + 1) "check_document" ["value"] spChk := by
  refine PrD.of D sc_check_document (fun as b Q R h => by obtain ⟨_, _, _, rfl, _⟩ := h; rfl) (by decide) fun cdv A outer s H E F hcd hG hr hF => ?_
  obtain ⟨t1, m_MOST_NAMES⟩ := T.names
  obtain ⟨t2, m_MOST_DEEP⟩ := T.deeps
  obtain ⟨t3, m_MOST_PARTS⟩ := T.parts
  refine ⟨_, (dss_cons (ds_own (i := 1) sc_check_document.nd rfl (Or.inl rfl) (df_lst (dl_cons (de_tup (dl_cons (dv 0) (dl_cons (de_tup dl_nil) dl_nil))) dl_nil)))
  (dss_cons (ds_set (i := 2) sc_check_document.nd rfl (Or.inl rfl) de_int)
  (dss_cons (ds_while (passes_of rfl) (dt_cmp (op_ne0 hr) (opd_eq0 hr) (dvb 1) (DE.db (DF.de (df_lst dl_nil))) (nomark _)) (
    (dss_cons (ds_popG (i := 1) rfl (.inl rfl) (dg_tup (n := 2) rfl (dgs_cons (dg_name (i := 3) sc_check_document.nd rfl (Or.inl rfl)) (dgs_cons (dg_name (i := 4) sc_check_document.nd rfl (Or.inl rfl)) dgs_nil))))
    (dss_cons (ds_aug (i := 2) sc_check_document.nd rfl (Or.inl rfl) de_int ip_add)
    (dss_cons (ds_if (DW.dt (dw_or (dt_not (dt_val (DE.db (de_isi kit_tup ⟨.type "tuple", by decide +kernel, rfl⟩ T.isinstance T.tuple (dvb 3))))) (dw_or (dt_cmp (op_eq0 hr) (opd_eq0 hr) (dvb 3) (DE.db (de_tup dl_nil)) (nomark _)) (dw_or (dt_cmp op_gtO (opd_ord hr) (DE.db (de_call (fun _ h => pe_callB call_lenA (by rfl) T.len PySem.boot_len h) cd_len (da_cons (dvb 3) da_nil))) (DE.db (de_op op_addAll opd_add (DE.db de_int) (DE.db (de_gi rfl m_MOST_PARTS)))) (nomark _)) (dw_or1 (dt_not (dt_val (DE.db (de_fn hG (G_is_name.mono (by omega)) hF hr (das_cons (de_ix ix_seq opd_ix (dvb 3) (DE.db de_int) (fun _ _ => rfl)) das_nil)))))))))) (
      (dss_one (ds_ret (dvb 4)))) (dss_nil))
    (dss_cons (ds_if (DW.dt (dw_or (dt_cmp op_gtO (opd_ord hr) (dvb 2) (DE.db (de_gi rfl m_MOST_NAMES)) (nomark _)) (dw_or1 (dt_cmp op_geO (opd_ord hr) (DE.db (de_call (fun _ h => pe_callB call_lenA (by rfl) T.len PySem.boot_len h) cd_len (da_cons (dvb 4) da_nil))) (DE.db (de_gi rfl m_MOST_DEEP)) (nomark _))))) (
      (dss_one (ds_ret (dvb 4)))) (dss_nil))
    (dss_one (ds_for (passes_of rfl) rfl (DI.two (di_range3 (by rfl) T.range (dl_cons (de_op op_sub opd_i0 (DE.db (de_call (fun _ h => pe_callB call_lenA (by rfl) T.len PySem.boot_len h) cd_len (da_cons (dvb 3) da_nil))) (DE.db de_int)) (dl_cons de_int (dl_cons (de_neg de_int) dl_nil))))) (dg_name (i := 5) sc_check_document.nd rfl (Or.inl rfl)) (
      (dss_one (ds_append (i := 1) rfl (.inl rfl) (de_tup (dl_cons (de_ix ix_seq opd_ix (dvb 3) (dvb 5) (fun _ _ => rfl)) (dl_cons (de_op op_addAll opd_add (dvb 4) (DE.db (de_tup (dl_cons (de_op op_sub opd_i0 (dvb 5) (DE.db de_int)) dl_nil)))) dl_nil))))))))))))))
  (dss_one (ds_ret (DE.db de_non)))))), fun as b Q R h => ?_⟩
  obtain ⟨d, n, r, rfl, hs, hk, q⟩ := h
  simp only [sCons_, sIf_, sRet_, sNil_, sSet_, sOwn_, sAppend_, sExtend_, onSq_l, onSq_t, sPop_, sPar_, sAsg_, sAug_, sRetN_, sDrop_, sRaise_, sFreeze_, sSetI_, sBreak_, sCont_, sTry_, dAct, dLam, dGet2, dDisp, rdReprX_l, rdReprX_t, onDict_, onKey_i, onKey_s, toOV, ofOV, dOr, dAnd, dNot, dB, dIsi, dVar_0, dVar_s, dVarB_0, dVarB_l, dVarB_s, dChain, dC, dCall, aCons, aNil, aVar, allIm_0, allIm_1, allIm_2, d2, dAllIn, startD, svOf, gN, gsC_, gsN, dTup, dCons, dNil, dLst, dAddL, dMulL, dF, dIf, dAndV, dOrV, dNotV, dNeg, dIter, dRng1, dRng2, dRng3, dEnum, dZip, dYes, dSl, dNo, dSo, dFn, wipeR, onB_, onI_, onIt_l, onIt_t, onIt_s, kRng1_, kRng2_, kRng3_, kEnum_l, kEnum_t, kZip_l, kZip_t, cutQ_t, cutQ_l, cutQ_s, rdI_, rdI0_, rdB0_, rdAdd_i, rdAdd_s, rdAdd_t, rdAdd_l, rdMul_i, rdMul_l, rdMul_t, rdEq_i, rdEq_s, rdEq0_l, rdEq0_ln, rdEq0_t, rdOrd_i, rdIsN_, rdIsN_n, rdIx_t, rdIx_l, rdIx_s, rdLen_l, rdLen_t, rdLen_s, rdTup_l, rdTup_t, rdList_l, rdList_t, rdInt_, rdSum_, rdMax_l, rdMax_i, rdMin_i, gT_, List.map_cons, List.map_nil, List.getElem?_cons_zero, List.getElem?_cons_succ, List.set_cons_zero, List.set_cons_succ, List.length_cons, List.length_nil, List.replicate, List.cons_append, List.nil_append, Option.map_some, Option.map_none, if_true, cond_true, cond_false, Bool.not_true, Bool.not_false, Nat.add_sub_cancel, Nat.sub_self, Nat.zero_add, Nat.reduceAdd, Nat.reduceSub, true_and, and_true]
  refine ⟨fun m ρ b' => ∃ (st : List (PyData × List Nat)) (c : Nat) (s3 s4 s5 : SV), ρ = [.im d, .ls (st.reverse.map encW), .im (.int c), s3, s4, s5] ∧ b' = b ∧ chk m st c = some r ∧ (∀ e ∈ st, sh e.1 = true ∧ e.2.length ≤ 100) ∧ st.length ≤ 1 + 3 * c ∧ c ≤ 2000,
    ⟨n, [(d, [])], 0, .no, .no, .no, rfl, rfl, hk, fun e he => ?_, by simp, by omega⟩, fun m ρ b' hI => ?_⟩
  · rcases List.mem_singleton.mp he with rfl
    exact ⟨hs, Nat.zero_le _⟩
  obtain ⟨st, c, s3, s4, s5, rfl, rfl, hck, hst, hsl, hc2⟩ := hI
  simp only [sCons_, sIf_, sRet_, sNil_, sSet_, sOwn_, sAppend_, sExtend_, onSq_l, onSq_t, sPop_, sPar_, sAsg_, sAug_, sRetN_, sDrop_, sRaise_, sFreeze_, sSetI_, sBreak_, sCont_, sTry_, dAct, dLam, dGet2, dDisp, rdReprX_l, rdReprX_t, onDict_, onKey_i, onKey_s, toOV, ofOV, dOr, dAnd, dNot, dB, dIsi, dVar_0, dVar_s, dVarB_0, dVarB_l, dVarB_s, dChain, dC, dCall, aCons, aNil, aVar, allIm_0, allIm_1, allIm_2, d2, dAllIn, startD, svOf, gN, gsC_, gsN, dTup, dCons, dNil, dLst, dAddL, dMulL, dF, dIf, dAndV, dOrV, dNotV, dNeg, dIter, dRng1, dRng2, dRng3, dEnum, dZip, dYes, dSl, dNo, dSo, dFn, wipeR, onB_, onI_, onIt_l, onIt_t, onIt_s, kRng1_, kRng2_, kRng3_, kEnum_l, kEnum_t, kZip_l, kZip_t, cutQ_t, cutQ_l, cutQ_s, rdI_, rdI0_, rdB0_, rdAdd_i, rdAdd_s, rdAdd_t, rdAdd_l, rdMul_i, rdMul_l, rdMul_t, rdEq_i, rdEq_s, rdEq0_l, rdEq0_ln, rdEq0_t, rdOrd_i, rdIsN_, rdIsN_n, rdIx_t, rdIx_l, rdIx_s, rdLen_l, rdLen_t, rdLen_s, rdTup_l, rdTup_t, rdList_l, rdList_t, rdInt_, rdSum_, rdMax_l, rdMax_i, rdMin_i, gT_, List.map_cons, List.map_nil, List.getElem?_cons_zero, List.getElem?_cons_succ, List.set_cons_zero, List.set_cons_succ, List.length_cons, List.length_nil, List.replicate, List.cons_append, List.nil_append, Option.map_some, Option.map_none, if_true, cond_true, cond_false, Bool.not_true, Bool.not_false, Nat.add_sub_cancel, Nat.sub_self, Nat.zero_add, Nat.reduceAdd, Nat.reduceSub, true_and, and_true]
  cases m with
  | zero => simp [chk] at hck
  | succ m =>
    cases st with
    | nil =>
      simp only [chk, Option.some.injEq] at hck
      subst hck
      exact q
    | cons e st =>
      obtain ⟨d1, pl⟩ := e
      obtain ⟨hsh, hpl⟩ := hst _ List.mem_cons_self
      have hst' : ∀ e ∈ st, sh e.1 = true ∧ e.2.length ≤ 100 := fun e he => hst e (List.mem_cons_of_mem _ he)
      have hne : ((st.reverse ++ [(d1, pl)]).map encW).isEmpty = false := by simp
      rw [List.reverse_cons, hne]
      simp only [sCons_, sIf_, sRet_, sNil_, sSet_, sOwn_, sAppend_, sExtend_, onSq_l, onSq_t, sPop_, sPar_, sAsg_, sAug_, sRetN_, sDrop_, sRaise_, sFreeze_, sSetI_, sBreak_, sCont_, sTry_, dAct, dLam, dGet2, dDisp, rdReprX_l, rdReprX_t, onDict_, onKey_i, onKey_s, toOV, ofOV, dOr, dAnd, dNot, dB, dIsi, dVar_0, dVar_s, dVarB_0, dVarB_l, dVarB_s, dChain, dC, dCall, aCons, aNil, aVar, allIm_0, allIm_1, allIm_2, d2, dAllIn, startD, svOf, gN, gsC_, gsN, dTup, dCons, dNil, dLst, dAddL, dMulL, dF, dIf, dAndV, dOrV, dNotV, dNeg, dIter, dRng1, dRng2, dRng3, dEnum, dZip, dYes, dSl, dNo, dSo, dFn, wipeR, onB_, onI_, onIt_l, onIt_t, onIt_s, kRng1_, kRng2_, kRng3_, kEnum_l, kEnum_t, kZip_l, kZip_t, cutQ_t, cutQ_l, cutQ_s, rdI_, rdI0_, rdB0_, rdAdd_i, rdAdd_s, rdAdd_t, rdAdd_l, rdMul_i, rdMul_l, rdMul_t, rdEq_i, rdEq_s, rdEq0_l, rdEq0_ln, rdEq0_t, rdOrd_i, rdIsN_, rdIsN_n, rdIx_t, rdIx_l, rdIx_s, rdLen_l, rdLen_t, rdLen_s, rdTup_l, rdTup_t, rdList_l, rdList_t, rdInt_, rdSum_, rdMax_l, rdMax_i, rdMin_i, gT_, List.map_cons, List.map_nil, List.getElem?_cons_zero, List.getElem?_cons_succ, List.set_cons_zero, List.set_cons_succ, List.length_cons, List.length_nil, List.replicate, List.cons_append, List.nil_append, Option.map_some, Option.map_none, if_true, cond_true, cond_false, Bool.not_true, Bool.not_false, Nat.add_sub_cancel, Nat.sub_self, Nat.zero_add, Nat.reduceAdd, Nat.reduceSub, true_and, and_true]
      refine ⟨_, fun ρ' b' h => ⟨m, Nat.lt_succ_self _, h⟩, st.reverse.map encW, encW (d1, pl), by rw [List.map_append]; rfl, ?_⟩
      simp only [encW, sCons_, sIf_, sRet_, sNil_, sSet_, sOwn_, sAppend_, sExtend_, onSq_l, onSq_t, sPop_, sPar_, sAsg_, sAug_, sRetN_, sDrop_, sRaise_, sFreeze_, sSetI_, sBreak_, sCont_, sTry_, dAct, dLam, dGet2, dDisp, rdReprX_l, rdReprX_t, onDict_, onKey_i, onKey_s, toOV, ofOV, dOr, dAnd, dNot, dB, dIsi, dVar_0, dVar_s, dVarB_0, dVarB_l, dVarB_s, dChain, dC, dCall, aCons, aNil, aVar, allIm_0, allIm_1, allIm_2, d2, dAllIn, startD, svOf, gN, gsC_, gsN, dTup, dCons, dNil, dLst, dAddL, dMulL, dF, dIf, dAndV, dOrV, dNotV, dNeg, dIter, dRng1, dRng2, dRng3, dEnum, dZip, dYes, dSl, dNo, dSo, dFn, wipeR, onB_, onI_, onIt_l, onIt_t, onIt_s, kRng1_, kRng2_, kRng3_, kEnum_l, kEnum_t, kZip_l, kZip_t, cutQ_t, cutQ_l, cutQ_s, rdI_, rdI0_, rdB0_, rdAdd_i, rdAdd_s, rdAdd_t, rdAdd_l, rdMul_i, rdMul_l, rdMul_t, rdEq_i, rdEq_s, rdEq0_l, rdEq0_ln, rdEq0_t, rdOrd_i, rdIsN_, rdIsN_n, rdIx_t, rdIx_l, rdIx_s, rdLen_l, rdLen_t, rdLen_s, rdTup_l, rdTup_t, rdList_l, rdList_t, rdInt_, rdSum_, rdMax_l, rdMax_i, rdMin_i, gT_, List.map_cons, List.map_nil, List.getElem?_cons_zero, List.getElem?_cons_succ, List.set_cons_zero, List.set_cons_succ, List.length_cons, List.length_nil, List.replicate, List.cons_append, List.nil_append, Option.map_some, Option.map_none, if_true, cond_true, cond_false, Bool.not_true, Bool.not_false, Nat.add_sub_cancel, Nat.sub_self, Nat.zero_add, Nat.reduceAdd, Nat.reduceSub, true_and, and_true]
      simp only [chk] at hck
      have back : (badOne d1 || decide (c + 1 > 2000) || decide (pl.length ≥ 100)) = true → Q (encPl pl) b' := fun hb => by
        rw [if_pos hb] at hck
        cases hck
        exact q
      have h1 : badOne d1 = true → Q (encPl pl) b' := fun h => back (by simp [h])
      cases d1 with
      | none => exact h1 rfl
      | bool _ => exact h1 rfl
      | int _ => exact h1 rfl
      | str _ => exact h1 rfl
      | list _ => exact h1 rfl
      | dict _ => exact h1 rfl
      | tuple ds =>
        cases ds with
        | nil => exact h1 rfl
        | cons y0 rr =>
          simp only [isTup, sCons_, sIf_, sRet_, sNil_, sSet_, sOwn_, sAppend_, sExtend_, onSq_l, onSq_t, sPop_, sPar_, sAsg_, sAug_, sRetN_, sDrop_, sRaise_, sFreeze_, sSetI_, sBreak_, sCont_, sTry_, dAct, dLam, dGet2, dDisp, rdReprX_l, rdReprX_t, onDict_, onKey_i, onKey_s, toOV, ofOV, dOr, dAnd, dNot, dB, dIsi, dVar_0, dVar_s, dVarB_0, dVarB_l, dVarB_s, dChain, dC, dCall, aCons, aNil, aVar, allIm_0, allIm_1, allIm_2, d2, dAllIn, startD, svOf, gN, gsC_, gsN, dTup, dCons, dNil, dLst, dAddL, dMulL, dF, dIf, dAndV, dOrV, dNotV, dNeg, dIter, dRng1, dRng2, dRng3, dEnum, dZip, dYes, dSl, dNo, dSo, dFn, wipeR, onB_, onI_, onIt_l, onIt_t, onIt_s, kRng1_, kRng2_, kRng3_, kEnum_l, kEnum_t, kZip_l, kZip_t, cutQ_t, cutQ_l, cutQ_s, rdI_, rdI0_, rdB0_, rdAdd_i, rdAdd_s, rdAdd_t, rdAdd_l, rdMul_i, rdMul_l, rdMul_t, rdEq_i, rdEq_s, rdEq0_l, rdEq0_ln, rdEq0_t, rdOrd_i, rdIsN_, rdIsN_n, rdIx_t, rdIx_l, rdIx_s, rdLen_l, rdLen_t, rdLen_s, rdTup_l, rdTup_t, rdList_l, rdList_t, rdInt_, rdSum_, rdMax_l, rdMax_i, rdMin_i, gT_, List.map_cons, List.map_nil, List.getElem?_cons_zero, List.getElem?_cons_succ, List.set_cons_zero, List.set_cons_succ, List.length_cons, List.length_nil, List.replicate, List.cons_append, List.nil_append, Option.map_some, Option.map_none, if_true, cond_true, cond_false, Bool.not_true, Bool.not_false, Nat.add_sub_cancel, Nat.sub_self, Nat.zero_add, Nat.reduceAdd, Nat.reduceSub, true_and, and_true]
          show cond _ _ _
          by_cases hbig : rr.length > 3
          · rw [decide_eq_true (show (1 + 3 : Int) < ((rr.length + 1 : Nat) : Int) by omega)]
            exact h1 (by simp [badOne, hbig])
          · rw [decide_eq_false (show ¬ (1 + 3 : Int) < ((rr.length + 1 : Nat) : Int) by omega)]
            refine ⟨y0, rfl, y0, rfl, fun s0 e => ?_, ?_⟩
            · have hsh0 : sh y0 = true := shs_all _ hsh _ List.mem_cons_self
              subst e
              exact of_decide_eq_true hsh0
            cases hnm : isName y0 with
            | false => exact h1 (by simp [badOne, hnm])
            | true =>
              have hnb : badOne (.tuple (y0 :: rr)) = false := by simp [badOne, hnm, hbig]
              show cond _ _ _
              by_cases hcn : c + 1 > 2000
              · rw [decide_eq_true (show (2000 : Int) < (c : Int) + 1 by omega)]
                exact back (by simp [hcn])
              · rw [decide_eq_false (show ¬ (2000 : Int) < (c : Int) + 1 by omega)]
                simp only [encPl, List.length_map, sCons_, sIf_, sRet_, sNil_, sSet_, sOwn_, sAppend_, sExtend_, onSq_l, onSq_t, sPop_, sPar_, sAsg_, sAug_, sRetN_, sDrop_, sRaise_, sFreeze_, sSetI_, sBreak_, sCont_, sTry_, dAct, dLam, dGet2, dDisp, rdReprX_l, rdReprX_t, onDict_, onKey_i, onKey_s, toOV, ofOV, dOr, dAnd, dNot, dB, dIsi, dVar_0, dVar_s, dVarB_0, dVarB_l, dVarB_s, dChain, dC, dCall, aCons, aNil, aVar, allIm_0, allIm_1, allIm_2, d2, dAllIn, startD, svOf, gN, gsC_, gsN, dTup, dCons, dNil, dLst, dAddL, dMulL, dF, dIf, dAndV, dOrV, dNotV, dNeg, dIter, dRng1, dRng2, dRng3, dEnum, dZip, dYes, dSl, dNo, dSo, dFn, wipeR, onB_, onI_, onIt_l, onIt_t, onIt_s, kRng1_, kRng2_, kRng3_, kEnum_l, kEnum_t, kZip_l, kZip_t, cutQ_t, cutQ_l, cutQ_s, rdI_, rdI0_, rdB0_, rdAdd_i, rdAdd_s, rdAdd_t, rdAdd_l, rdMul_i, rdMul_l, rdMul_t, rdEq_i, rdEq_s, rdEq0_l, rdEq0_ln, rdEq0_t, rdOrd_i, rdIsN_, rdIsN_n, rdIx_t, rdIx_l, rdIx_s, rdLen_l, rdLen_t, rdLen_s, rdTup_l, rdTup_t, rdList_l, rdList_t, rdInt_, rdSum_, rdMax_l, rdMax_i, rdMin_i, gT_, List.map_cons, List.map_nil, List.getElem?_cons_zero, List.getElem?_cons_succ, List.set_cons_zero, List.set_cons_succ, List.length_cons, List.length_nil, List.replicate, List.cons_append, List.nil_append, Option.map_some, Option.map_none, if_true, cond_true, cond_false, Bool.not_true, Bool.not_false, Nat.add_sub_cancel, Nat.sub_self, Nat.zero_add, Nat.reduceAdd, Nat.reduceSub, true_and, and_true]
                by_cases hpp : pl.length ≥ 100
                · rw [decide_eq_true (show (100 : Int) ≤ (pl.length : Nat) by omega)]
                  exact back (by simp [hpp])
                · rw [decide_eq_false (show ¬ (100 : Int) ≤ (pl.length : Nat) by omega)]
                  rw [if_neg (by rw [hnb]; simp; omega)] at hck
                  simp only [sCons_, sIf_, sRet_, sNil_, sSet_, sOwn_, sAppend_, sExtend_, onSq_l, onSq_t, sPop_, sPar_, sAsg_, sAug_, sRetN_, sDrop_, sRaise_, sFreeze_, sSetI_, sBreak_, sCont_, sTry_, dAct, dLam, dGet2, dDisp, rdReprX_l, rdReprX_t, onDict_, onKey_i, onKey_s, toOV, ofOV, dOr, dAnd, dNot, dB, dIsi, dVar_0, dVar_s, dVarB_0, dVarB_l, dVarB_s, dChain, dC, dCall, aCons, aNil, aVar, allIm_0, allIm_1, allIm_2, d2, dAllIn, startD, svOf, gN, gsC_, gsN, dTup, dCons, dNil, dLst, dAddL, dMulL, dF, dIf, dAndV, dOrV, dNotV, dNeg, dIter, dRng1, dRng2, dRng3, dEnum, dZip, dYes, dSl, dNo, dSo, dFn, wipeR, onB_, onI_, onIt_l, onIt_t, onIt_s, kRng1_, kRng2_, kRng3_, kEnum_l, kEnum_t, kZip_l, kZip_t, cutQ_t, cutQ_l, cutQ_s, rdI_, rdI0_, rdB0_, rdAdd_i, rdAdd_s, rdAdd_t, rdAdd_l, rdMul_i, rdMul_l, rdMul_t, rdEq_i, rdEq_s, rdEq0_l, rdEq0_ln, rdEq0_t, rdOrd_i, rdIsN_, rdIsN_n, rdIx_t, rdIx_l, rdIx_s, rdLen_l, rdLen_t, rdLen_s, rdTup_l, rdTup_t, rdList_l, rdList_t, rdInt_, rdSum_, rdMax_l, rdMax_i, rdMin_i, gT_, List.map_cons, List.map_nil, List.getElem?_cons_zero, List.getElem?_cons_succ, List.set_cons_zero, List.set_cons_succ, List.length_cons, List.length_nil, List.replicate, List.cons_append, List.nil_append, Option.map_some, Option.map_none, if_true, cond_true, cond_false, Bool.not_true, Bool.not_false, Nat.add_sub_cancel, Nat.sub_self, Nat.zero_add, Nat.reduceAdd, Nat.reduceSub, true_and, and_true]
                  have hlr : ∀ j (h : j < rr.length), (kids (.tuple (y0 :: rr)) pl).drop j = (rr[j], pl ++ [j]) :: (kids (.tuple (y0 :: rr)) pl).drop (j + 1) := fun j h => by
                    refine List.drop_eq_getElem_cons (by rw [kids_len]; exact h) |>.trans ?_
                    congr 1
                    have := kids_at (x := y0) (r := rr) (pl := pl) (i := j)
                    rw [List.getElem?_eq_getElem (by rw [kids_len]; exact h), List.getElem?_eq_getElem h] at this
                    exact Option.some.inj this
                  unfold sFor
                  simp only [sCons_, sIf_, sRet_, sNil_, sSet_, sOwn_, sAppend_, sExtend_, onSq_l, onSq_t, sPop_, sPar_, sAsg_, sAug_, sRetN_, sDrop_, sRaise_, sFreeze_, sSetI_, sBreak_, sCont_, sTry_, dAct, dLam, dGet2, dDisp, rdReprX_l, rdReprX_t, onDict_, onKey_i, onKey_s, toOV, ofOV, dOr, dAnd, dNot, dB, dIsi, dVar_0, dVar_s, dVarB_0, dVarB_l, dVarB_s, dChain, dC, dCall, aCons, aNil, aVar, allIm_0, allIm_1, allIm_2, d2, dAllIn, startD, svOf, gN, gsC_, gsN, dTup, dCons, dNil, dLst, dAddL, dMulL, dF, dIf, dAndV, dOrV, dNotV, dNeg, dIter, dRng1, dRng2, dRng3, dEnum, dZip, dYes, dSl, dNo, dSo, dFn, wipeR, onB_, onI_, onIt_l, onIt_t, onIt_s, kRng1_, kRng2_, kRng3_, kEnum_l, kEnum_t, kZip_l, kZip_t, cutQ_t, cutQ_l, cutQ_s, rdI_, rdI0_, rdB0_, rdAdd_i, rdAdd_s, rdAdd_t, rdAdd_l, rdMul_i, rdMul_l, rdMul_t, rdEq_i, rdEq_s, rdEq0_l, rdEq0_ln, rdEq0_t, rdOrd_i, rdIsN_, rdIsN_n, rdIx_t, rdIx_l, rdIx_s, rdLen_l, rdLen_t, rdLen_s, rdTup_l, rdTup_t, rdList_l, rdList_t, rdInt_, rdSum_, rdMax_l, rdMax_i, rdMin_i, gT_, List.map_cons, List.map_nil, List.getElem?_cons_zero, List.getElem?_cons_succ, List.set_cons_zero, List.set_cons_succ, List.length_cons, List.length_nil, List.replicate, List.cons_append, List.nil_append, Option.map_some, Option.map_none, if_true, cond_true, cond_false, Bool.not_true, Bool.not_false, Nat.add_sub_cancel, Nat.sub_self, Nat.zero_add, Nat.reduceAdd, Nat.reduceSub, true_and, and_true]
                  refine ⟨⟨by omega, by omega⟩, ⟨by decide, by decide⟩, fun i ρ b2 => ∃ s5', ρ = [.im d, .ls ((((kids (.tuple (y0 :: rr)) pl).drop (rr.length - i) ++ st).reverse).map encW), .im (.int (c + 1 : Nat)), .im (.tuple (y0 :: rr)), .im (encPl pl), s5'] ∧ b2 = b' ∧ i ≤ rr.length, ⟨s5, ?_, rfl, Nat.zero_le _⟩, fun i x ρ b2 hx hi => ?_, fun ρ b2 hi => ?_⟩
                  · rw [Nat.sub_zero, List.drop_of_length_le (by rw [kids_len]; exact Nat.le_refl _), List.nil_append]
                    rfl
                  · obtain ⟨s5', rfl, rfl, hile⟩ := hi
                    obtain ⟨hlt, rfl⟩ := rangeCD_get hx
                    have hlt : i < rr.length := by omega
                    obtain ⟨j, hj⟩ : ∃ j, rr.length = i + 1 + j := ⟨rr.length - (i + 1), by omega⟩
                    have hjl : j < rr.length := by omega
                    have en : (((rr.length + 1 : Nat) : Int) - 1 + (i : Nat) * -1) = ((j + 1 : Nat) : Int) := by omega
                    rw [en]
                    have ej : rr.length - i = j + 1 := by omega
                    have ej2 : rr.length - (i + 1) = j := by omega
                    rw [ej]
                    simp only [encPl, List.length_map, List.length_reverse, List.length_append, List.length_drop, kids_len, sCons_, sIf_, sRet_, sNil_, sSet_, sOwn_, sAppend_, sExtend_, onSq_l, onSq_t, sPop_, sPar_, sAsg_, sAug_, sRetN_, sDrop_, sRaise_, sFreeze_, sSetI_, sBreak_, sCont_, sTry_, dAct, dLam, dGet2, dDisp, rdReprX_l, rdReprX_t, onDict_, onKey_i, onKey_s, toOV, ofOV, dOr, dAnd, dNot, dB, dIsi, dVar_0, dVar_s, dVarB_0, dVarB_l, dVarB_s, dChain, dC, dCall, aCons, aNil, aVar, allIm_0, allIm_1, allIm_2, d2, dAllIn, startD, svOf, gN, gsC_, gsN, dTup, dCons, dNil, dLst, dAddL, dMulL, dF, dIf, dAndV, dOrV, dNotV, dNeg, dIter, dRng1, dRng2, dRng3, dEnum, dZip, dYes, dSl, dNo, dSo, dFn, wipeR, onB_, onI_, onIt_l, onIt_t, onIt_s, kRng1_, kRng2_, kRng3_, kEnum_l, kEnum_t, kZip_l, kZip_t, cutQ_t, cutQ_l, cutQ_s, rdI_, rdI0_, rdB0_, rdAdd_i, rdAdd_s, rdAdd_t, rdAdd_l, rdMul_i, rdMul_l, rdMul_t, rdEq_i, rdEq_s, rdEq0_l, rdEq0_ln, rdEq0_t, rdOrd_i, rdIsN_, rdIsN_n, rdIx_t, rdIx_l, rdIx_s, rdLen_l, rdLen_t, rdLen_s, rdTup_l, rdTup_t, rdList_l, rdList_t, rdInt_, rdSum_, rdMax_l, rdMax_i, rdMin_i, gT_, List.map_cons, List.map_nil, List.getElem?_cons_zero, List.getElem?_cons_succ, List.set_cons_zero, List.set_cons_succ, List.length_cons, List.length_nil, List.replicate, List.cons_append, List.nil_append, Option.map_some, Option.map_none, if_true, cond_true, cond_false, Bool.not_true, Bool.not_false, Nat.add_sub_cancel, Nat.sub_self, Nat.zero_add, Nat.reduceAdd, Nat.reduceSub, true_and, and_true]
                    refine ⟨rr[j], ixD_nat rfl (by simp [hjl]), by omega, by simp at hsl; omega, .im (.int (j + 1 : Nat)), ?_, by omega⟩
                    rw [ej2, hlr j hjl, List.cons_append, List.reverse_cons, List.map_append]
                    have e3 : (((j + 1 : Nat) : Int) - 1) = ((j : Nat) : Int) := by omega
                    rw [e3]
                    simp [encW, encPl]
                  · obtain ⟨s5', rfl, rfl, hile⟩ := hi
                    rw [rangeCD_len] at *
                    have en : (((rr.length + 1 : Nat) : Int) - 1 - 0).toNat = rr.length := by omega
                    rw [en] at hile ⊢
                    rw [Nat.sub_self, List.drop_zero]
                    refine ⟨_, c + 1, _, _, _, rfl, rfl, hck, fun e he => ?_, ?_, by omega⟩
                    · rcases List.mem_append.mp he with q1 | q1
                      · obtain ⟨p, hp, rfl⟩ := List.mem_map.mp q1
                        obtain ⟨_, _, h3⟩ := List.mem_zipIdx hp
                        refine ⟨shs_all _ hsh _ (List.mem_cons_of_mem _ ?_), ?_⟩
                        · rw [h3]
                          exact List.getElem_mem _
                        · show (pl ++ [p.2]).length ≤ 100
                          rw [List.length_append, List.length_singleton]
                          omega
                      · exact hst' e q1
                    · rw [List.length_append, kids_len]
                      simp at hsl
                      omega
end
end K00

set_option Elab.async false
set_option linter.all false
set_option maxRecDepth 100000
set_option maxHeartbeats 4000000
/-! D0b: documents needed, counted. -/
namespace K00
open PySem PySem.Spec PyProof.Rows L2 Lf Df
open GxR (TabB TabG Tabbed GenS)
abbrev s_is_whole : Stmt := topS 8
abbrev N_is_whole : List Str := ["value"]
theorem sc_is_whole : FnScope N_is_whole ["value"] (defScope s_is_whole) := ⟨rfl, rfl, rfl, by decide +kernel, rfl, by decide +kernel, by decide +kernel⟩
abbrev s_count_names : Stmt := topS 16
abbrev N_count_names : List Str := ["document", "waiting", "count", "one"]
theorem sc_count_names : FnScope N_count_names ["document"] (defScope s_count_names) := ⟨rfl, rfl, rfl, by decide +kernel, rfl, by decide +kernel, by decide +kernel⟩
abbrev s_count_depth : Stmt := topS 17
abbrev N_count_depth : List Str := ["document", "waiting", "deepest", "one", "depth", "part"]
theorem sc_count_depth : FnScope N_count_depth ["document"] (defScope s_count_depth) := ⟨rfl, rfl, rfl, by decide +kernel, rfl, by decide +kernel, by decide +kernel⟩
abbrev s_size_of : Stmt := topS 18
abbrev N_size_of : List Str := ["document"]
theorem sc_size_of : FnScope N_size_of ["document"] (defScope s_size_of) := ⟨rfl, rfl, rfl, by decide +kernel, rfl, by decide +kernel, by decide +kernel⟩
abbrev s_depth_of : Stmt := topS 19
abbrev N_depth_of : List Str := ["document"]
theorem sc_depth_of : FnScope N_depth_of ["document"] (defScope s_depth_of) := ⟨rfl, rfl, rfl, by decide +kernel, rfl, by decide +kernel, by decide +kernel⟩
/-- the document's name and parts at once -/
theorem enc_nd (n : Str) (ps : List Doc) : (Doc.nd n ps).enc = .tuple (.str n :: encs ps) := by rw [Doc.enc]
theorem cut1 (x : PyData) (r : List PyData) : Df.cutD (x :: r) (some 1) none = r := by
  unfold Df.cutD
  rw [HT.sIx_none, show HT.sIx (x :: r).length 0 (some 1) = min 1 (x :: r).length from HT.sIx_nat _ 0 1]
  have e : min 1 (x :: r).length = 1 := by rw [List.length_cons]; omega
  rw [e]
  show r.take _ = r
  exact List.take_of_length_le (by rw [List.length_cons]; omega)
def wrongR (R : DR) (pl : List Nat) (b : Nat) : Prop := R ("BadDocument", [("place", encPl pl)]) b
section
variable {P : Program} {w : World} {K : PySem.W.Frag} {mg : Str → Option Value} {base : Heap} {PT : List (Addr × Option Str)}
/-! ### need_document -/
def spNeed : DSp := fun as b Q R => ∃ d n r, as = [.im d] ∧ sh d = true ∧ chk n [(d, [])] 0 = some r ∧ match r with
  | none => Q d b
  | some pl => wrongR R pl b
theorem pr_need_document {f C fI : Addr} {fd : FuncData} {k : Nat} (T : Txt mg) (D : Def K mg "need_document" ["document"] s_need_document f fd) (TS_BadDocument : LfX.SupTxt P K mg "BadDocument" C fI "place") (G_check_document : PrD P w K mg base PT k "check_document" ["value"] spChk) : PrD P w K mg base PT (k + 1) "need_document" ["document"] spNeed := by
  refine PrD.of D sc_need_document (fun as b Q R h => by obtain ⟨_, _, _, rfl, _⟩ := h; rfl) (by decide) fun cdv A outer s H E F hcd hG hr hF => ?_
  refine ⟨_, (dss_cons (ds_set (i := 1) sc_need_document.nd rfl (Or.inl rfl) (de_fn hG (G_check_document.mono (by omega)) hF hr (das_cons (dv 0) das_nil)))
  (dss_cons (ds_if (dt_cmp op_isnotO opd_is (dvb 1) (DE.db de_non) (nomark _)) (
    (dss_one (ds_raise rfl TS_BadDocument hr (takes_of rfl rfl rfl rfl) (dv 1)))) (dss_nil))
  (dss_one (ds_ret (dvb 0))))), fun as b Q R h => ?_⟩
  obtain ⟨d, n, r, rfl, hs, hk, q⟩ := h
  simp only [sCons_, sIf_, sRet_, sNil_, sSet_, sOwn_, sAppend_, sExtend_, onSq_l, onSq_t, sPop_, sPar_, sAsg_, sAug_, sRetN_, sDrop_, sRaise_, sFreeze_, sSetI_, sBreak_, sCont_, sTry_, dAct, dLam, dGet2, dDisp, rdReprX_l, rdReprX_t, onDict_, onKey_i, onKey_s, toOV, ofOV, dOr, dAnd, dNot, dB, dIsi, dVar_0, dVar_s, dVarB_0, dVarB_l, dVarB_s, dChain, dC, dCall, aCons, aNil, aVar, allIm_0, allIm_1, allIm_2, d2, dAllIn, startD, svOf, gN, gsC_, gsN, dTup, dCons, dNil, dLst, dAddL, dMulL, dF, dIf, dAndV, dOrV, dNotV, dNeg, dIter, dRng1, dRng2, dRng3, dEnum, dZip, dYes, dSl, dNo, dSo, dFn, wipeR, onB_, onI_, onIt_l, onIt_t, onIt_s, kRng1_, kRng2_, kRng3_, kEnum_l, kEnum_t, kZip_l, kZip_t, cutQ_t, cutQ_l, cutQ_s, rdI_, rdI0_, rdB0_, rdAdd_i, rdAdd_s, rdAdd_t, rdAdd_l, rdMul_i, rdMul_l, rdMul_t, rdEq_i, rdEq_s, rdEq0_l, rdEq0_ln, rdEq0_t, rdOrd_i, rdIsN_, rdIsN_n, rdIx_t, rdIx_l, rdIx_s, rdLen_l, rdLen_t, rdLen_s, rdTup_l, rdTup_t, rdList_l, rdList_t, rdInt_, rdSum_, rdMax_l, rdMax_i, rdMin_i, gT_, List.map_cons, List.map_nil, List.getElem?_cons_zero, List.getElem?_cons_succ, List.set_cons_zero, List.set_cons_succ, List.length_cons, List.length_nil, List.replicate, List.cons_append, List.nil_append, Option.map_some, Option.map_none, if_true, cond_true, cond_false, Bool.not_true, Bool.not_false, Nat.add_sub_cancel, Nat.sub_self, Nat.zero_add, Nat.reduceAdd, Nat.reduceSub, true_and, and_true]
  refine ⟨d, n, r, rfl, hs, hk, ?_⟩
  cases r with
  | none => exact q
  | some pl => exact q
/-! ### is_whole -/
def isWhole : PyData → Bool
  | .int _ => true
  | _ => false
def spWhole : DSp := fun as b Q _ => ∃ d, as = [.im d] ∧ Q (.bool (isWhole d)) b
theorem pr_is_whole {f : Addr} {fd : FuncData} {k : Nat} (T : Txt mg) (D : Def K mg "is_whole" ["value"] s_is_whole f fd) : PrD P w K mg base PT (k + 1) "is_whole" ["value"] spWhole := by
  refine PrD.of D sc_is_whole (fun as b Q R h => by obtain ⟨_, rfl, _⟩ := h; rfl) (by decide) fun cdv A outer s H E F hcd hG hr hF => ?_
  refine ⟨_, (dss_one (ds_ret (DE.db (de_and (de_isi kit_int ⟨.type "int", by decide +kernel, rfl⟩ T.isinstance T.int (dvb 0)) (de_one (de_not (de_isi kit_bool ⟨.type "bool", by decide +kernel, rfl⟩ T.isinstance T.bool (dvb 0)))))))), fun as b Q R h => ?_⟩
  obtain ⟨d, rfl, q⟩ := h
  simp only [sCons_, sIf_, sRet_, sNil_, sSet_, sOwn_, sAppend_, sExtend_, onSq_l, onSq_t, sPop_, sPar_, sAsg_, sAug_, sRetN_, sDrop_, sRaise_, sFreeze_, sSetI_, sBreak_, sCont_, sTry_, dAct, dLam, dGet2, dDisp, rdReprX_l, rdReprX_t, onDict_, onKey_i, onKey_s, toOV, ofOV, dOr, dAnd, dNot, dB, dIsi, dVar_0, dVar_s, dVarB_0, dVarB_l, dVarB_s, dChain, dC, dCall, aCons, aNil, aVar, allIm_0, allIm_1, allIm_2, d2, dAllIn, startD, svOf, gN, gsC_, gsN, dTup, dCons, dNil, dLst, dAddL, dMulL, dF, dIf, dAndV, dOrV, dNotV, dNeg, dIter, dRng1, dRng2, dRng3, dEnum, dZip, dYes, dSl, dNo, dSo, dFn, wipeR, onB_, onI_, onIt_l, onIt_t, onIt_s, kRng1_, kRng2_, kRng3_, kEnum_l, kEnum_t, kZip_l, kZip_t, cutQ_t, cutQ_l, cutQ_s, rdI_, rdI0_, rdB0_, rdAdd_i, rdAdd_s, rdAdd_t, rdAdd_l, rdMul_i, rdMul_l, rdMul_t, rdEq_i, rdEq_s, rdEq0_l, rdEq0_ln, rdEq0_t, rdOrd_i, rdIsN_, rdIsN_n, rdIx_t, rdIx_l, rdIx_s, rdLen_l, rdLen_t, rdLen_s, rdTup_l, rdTup_t, rdList_l, rdList_t, rdInt_, rdSum_, rdMax_l, rdMax_i, rdMin_i, gT_, List.map_cons, List.map_nil, List.getElem?_cons_zero, List.getElem?_cons_succ, List.set_cons_zero, List.set_cons_succ, List.length_cons, List.length_nil, List.replicate, List.cons_append, List.nil_append, Option.map_some, Option.map_none, if_true, cond_true, cond_false, Bool.not_true, Bool.not_false, Nat.add_sub_cancel, Nat.sub_self, Nat.zero_add, Nat.reduceAdd, Nat.reduceSub, true_and, and_true]
  cases d with
  | _ => exact q
/-! ### count_names -/
def spNames : DSp := fun as b Q _ => ∃ d : Doc, as = [.im d.enc] ∧ d.size ≤ 2000 ∧ Q (.int (d.size : Nat)) b
theorem pr_count_names {f : Addr} {fd : FuncData} {k : Nat} (T : Txt mg) (D : Def K mg "count_names" ["document"] s_count_names f fd) : PrD P w K mg base PT (k + 1) "count_names" ["document"] spNames := by
  refine PrD.of D sc_count_names (fun as b Q R h => by obtain ⟨_, rfl, _⟩ := h; rfl) (by decide) fun cdv A outer s H E F hcd hG hr hF => ?_
  refine ⟨_, (dss_cons (ds_own (i := 1) sc_count_names.nd rfl (Or.inl rfl) (df_lst (dl_cons (dv 0) dl_nil)))
  (dss_cons (ds_set (i := 2) sc_count_names.nd rfl (Or.inl rfl) de_int)
  (dss_cons (ds_while (passes_of rfl) (dt_cmp (op_ne0 hr) (opd_eq0 hr) (dvb 1) (DE.db (DF.de (df_lst dl_nil))) (nomark _)) (
    (dss_cons (ds_popN (i := 1) (j := 3) sc_count_names.nd rfl (Or.inl rfl) rfl (.inl rfl))
    (dss_cons (ds_aug (i := 2) sc_count_names.nd rfl (Or.inl rfl) de_int ip_add)
    (dss_one (ds_extend (i := 1) rfl (.inl rfl) (DE.db (de_slice (dvb 3) (do_some de_int) do_none))))))))
  (dss_one (ds_ret (dvb 2)))))), fun as b Q R h => ?_⟩
  obtain ⟨d, rfl, hz, q⟩ := h
  simp only [sCons_, sIf_, sRet_, sNil_, sSet_, sOwn_, sAppend_, sExtend_, onSq_l, onSq_t, sPop_, sPar_, sAsg_, sAug_, sRetN_, sDrop_, sRaise_, sFreeze_, sSetI_, sBreak_, sCont_, sTry_, dAct, dLam, dGet2, dDisp, rdReprX_l, rdReprX_t, onDict_, onKey_i, onKey_s, toOV, ofOV, dOr, dAnd, dNot, dB, dIsi, dVar_0, dVar_s, dVarB_0, dVarB_l, dVarB_s, dChain, dC, dCall, aCons, aNil, aVar, allIm_0, allIm_1, allIm_2, d2, dAllIn, startD, svOf, gN, gsC_, gsN, dTup, dCons, dNil, dLst, dAddL, dMulL, dF, dIf, dAndV, dOrV, dNotV, dNeg, dIter, dRng1, dRng2, dRng3, dEnum, dZip, dYes, dSl, dNo, dSo, dFn, wipeR, onB_, onI_, onIt_l, onIt_t, onIt_s, kRng1_, kRng2_, kRng3_, kEnum_l, kEnum_t, kZip_l, kZip_t, cutQ_t, cutQ_l, cutQ_s, rdI_, rdI0_, rdB0_, rdAdd_i, rdAdd_s, rdAdd_t, rdAdd_l, rdMul_i, rdMul_l, rdMul_t, rdEq_i, rdEq_s, rdEq0_l, rdEq0_ln, rdEq0_t, rdOrd_i, rdIsN_, rdIsN_n, rdIx_t, rdIx_l, rdIx_s, rdLen_l, rdLen_t, rdLen_s, rdTup_l, rdTup_t, rdList_l, rdList_t, rdInt_, rdSum_, rdMax_l, rdMax_i, rdMin_i, gT_, List.map_cons, List.map_nil, List.getElem?_cons_zero, List.getElem?_cons_succ, List.set_cons_zero, List.set_cons_succ, List.length_cons, List.length_nil, List.replicate, List.cons_append, List.nil_append, Option.map_some, Option.map_none, if_true, cond_true, cond_false, Bool.not_true, Bool.not_false, Nat.add_sub_cancel, Nat.sub_self, Nat.zero_add, Nat.reduceAdd, Nat.reduceSub, true_and, and_true]
  refine ⟨fun m ρ b' => ∃ (L : List Doc) (c : Nat) (s3 : SV), ρ = [.im d.enc, .ls (encs L), .im (.int (c : Nat)), s3] ∧ b' = b ∧ c + sizes L = d.size ∧ m = sizes L,
    ⟨sizes [d], [d], 0, .no, rfl, rfl, by simp [sizes], rfl⟩, fun m ρ b' hI => ?_⟩
  obtain ⟨L, c, s3, rfl, rfl, hc, rfl⟩ := hI
  simp only [sCons_, sIf_, sRet_, sNil_, sSet_, sOwn_, sAppend_, sExtend_, onSq_l, onSq_t, sPop_, sPar_, sAsg_, sAug_, sRetN_, sDrop_, sRaise_, sFreeze_, sSetI_, sBreak_, sCont_, sTry_, dAct, dLam, dGet2, dDisp, rdReprX_l, rdReprX_t, onDict_, onKey_i, onKey_s, toOV, ofOV, dOr, dAnd, dNot, dB, dIsi, dVar_0, dVar_s, dVarB_0, dVarB_l, dVarB_s, dChain, dC, dCall, aCons, aNil, aVar, allIm_0, allIm_1, allIm_2, d2, dAllIn, startD, svOf, gN, gsC_, gsN, dTup, dCons, dNil, dLst, dAddL, dMulL, dF, dIf, dAndV, dOrV, dNotV, dNeg, dIter, dRng1, dRng2, dRng3, dEnum, dZip, dYes, dSl, dNo, dSo, dFn, wipeR, onB_, onI_, onIt_l, onIt_t, onIt_s, kRng1_, kRng2_, kRng3_, kEnum_l, kEnum_t, kZip_l, kZip_t, cutQ_t, cutQ_l, cutQ_s, rdI_, rdI0_, rdB0_, rdAdd_i, rdAdd_s, rdAdd_t, rdAdd_l, rdMul_i, rdMul_l, rdMul_t, rdEq_i, rdEq_s, rdEq0_l, rdEq0_ln, rdEq0_t, rdOrd_i, rdIsN_, rdIsN_n, rdIx_t, rdIx_l, rdIx_s, rdLen_l, rdLen_t, rdLen_s, rdTup_l, rdTup_t, rdList_l, rdList_t, rdInt_, rdSum_, rdMax_l, rdMax_i, rdMin_i, gT_, List.map_cons, List.map_nil, List.getElem?_cons_zero, List.getElem?_cons_succ, List.set_cons_zero, List.set_cons_succ, List.length_cons, List.length_nil, List.replicate, List.cons_append, List.nil_append, Option.map_some, Option.map_none, if_true, cond_true, cond_false, Bool.not_true, Bool.not_false, Nat.add_sub_cancel, Nat.sub_self, Nat.zero_add, Nat.reduceAdd, Nat.reduceSub, true_and, and_true]
  rcases List.eq_nil_or_concat L with rfl | ⟨L, e, rfl⟩
  · have e0 : c = d.size := by simpa [sizes] using hc
    rw [e0]
    exact q
  · rw [List.concat_eq_append] at *
    have hsz : ∀ (A B : List Doc), sizes (A ++ B) = sizes A + sizes B := fun A B => by rw [sizes_sum, sizes_sum, sizes_sum, List.map_append, List.sum_append]
    have hne : (encs (L ++ [e])).isEmpty = false := by simp [encs_map]
    rw [hne]
    simp only [sCons_, sIf_, sRet_, sNil_, sSet_, sOwn_, sAppend_, sExtend_, onSq_l, onSq_t, sPop_, sPar_, sAsg_, sAug_, sRetN_, sDrop_, sRaise_, sFreeze_, sSetI_, sBreak_, sCont_, sTry_, dAct, dLam, dGet2, dDisp, rdReprX_l, rdReprX_t, onDict_, onKey_i, onKey_s, toOV, ofOV, dOr, dAnd, dNot, dB, dIsi, dVar_0, dVar_s, dVarB_0, dVarB_l, dVarB_s, dChain, dC, dCall, aCons, aNil, aVar, allIm_0, allIm_1, allIm_2, d2, dAllIn, startD, svOf, gN, gsC_, gsN, dTup, dCons, dNil, dLst, dAddL, dMulL, dF, dIf, dAndV, dOrV, dNotV, dNeg, dIter, dRng1, dRng2, dRng3, dEnum, dZip, dYes, dSl, dNo, dSo, dFn, wipeR, onB_, onI_, onIt_l, onIt_t, onIt_s, kRng1_, kRng2_, kRng3_, kEnum_l, kEnum_t, kZip_l, kZip_t, cutQ_t, cutQ_l, cutQ_s, rdI_, rdI0_, rdB0_, rdAdd_i, rdAdd_s, rdAdd_t, rdAdd_l, rdMul_i, rdMul_l, rdMul_t, rdEq_i, rdEq_s, rdEq0_l, rdEq0_ln, rdEq0_t, rdOrd_i, rdIsN_, rdIsN_n, rdIx_t, rdIx_l, rdIx_s, rdLen_l, rdLen_t, rdLen_s, rdTup_l, rdTup_t, rdList_l, rdList_t, rdInt_, rdSum_, rdMax_l, rdMax_i, rdMin_i, gT_, List.map_cons, List.map_nil, List.getElem?_cons_zero, List.getElem?_cons_succ, List.set_cons_zero, List.set_cons_succ, List.length_cons, List.length_nil, List.replicate, List.cons_append, List.nil_append, Option.map_some, Option.map_none, if_true, cond_true, cond_false, Bool.not_true, Bool.not_false, Nat.add_sub_cancel, Nat.sub_self, Nat.zero_add, Nat.reduceAdd, Nat.reduceSub, true_and, and_true]
    obtain ⟨n, ps⟩ := e
    refine ⟨_, fun ρ' b' h => ⟨sizes (L ++ ps), ?_, h⟩, encs L, (Doc.nd n ps).enc, by simp [encs_map], ?_⟩
    · rw [hsz, hsz]; simp [sizes, Doc.size]
    · rw [enc_nd]
      simp only [sCons_, sIf_, sRet_, sNil_, sSet_, sOwn_, sAppend_, sExtend_, onSq_l, onSq_t, sPop_, sPar_, sAsg_, sAug_, sRetN_, sDrop_, sRaise_, sFreeze_, sSetI_, sBreak_, sCont_, sTry_, dAct, dLam, dGet2, dDisp, rdReprX_l, rdReprX_t, onDict_, onKey_i, onKey_s, toOV, ofOV, dOr, dAnd, dNot, dB, dIsi, dVar_0, dVar_s, dVarB_0, dVarB_l, dVarB_s, dChain, dC, dCall, aCons, aNil, aVar, allIm_0, allIm_1, allIm_2, d2, dAllIn, startD, svOf, gN, gsC_, gsN, dTup, dCons, dNil, dLst, dAddL, dMulL, dF, dIf, dAndV, dOrV, dNotV, dNeg, dIter, dRng1, dRng2, dRng3, dEnum, dZip, dYes, dSl, dNo, dSo, dFn, wipeR, onB_, onI_, onIt_l, onIt_t, onIt_s, kRng1_, kRng2_, kRng3_, kEnum_l, kEnum_t, kZip_l, kZip_t, cutQ_t, cutQ_l, cutQ_s, rdI_, rdI0_, rdB0_, rdAdd_i, rdAdd_s, rdAdd_t, rdAdd_l, rdMul_i, rdMul_l, rdMul_t, rdEq_i, rdEq_s, rdEq0_l, rdEq0_ln, rdEq0_t, rdOrd_i, rdIsN_, rdIsN_n, rdIx_t, rdIx_l, rdIx_s, rdLen_l, rdLen_t, rdLen_s, rdTup_l, rdTup_t, rdList_l, rdList_t, rdInt_, rdSum_, rdMax_l, rdMax_i, rdMin_i, gT_, List.map_cons, List.map_nil, List.getElem?_cons_zero, List.getElem?_cons_succ, List.set_cons_zero, List.set_cons_succ, List.length_cons, List.length_nil, List.replicate, List.cons_append, List.nil_append, Option.map_some, Option.map_none, if_true, cond_true, cond_false, Bool.not_true, Bool.not_false, Nat.add_sub_cancel, Nat.sub_self, Nat.zero_add, Nat.reduceAdd, Nat.reduceSub, true_and, and_true]
      rw [cut1]
      rw [hsz] at hc
      simp [sizes, Doc.size] at hc
      refine ⟨?_, L ++ ps, c + 1, .im (.tuple (.str n :: encs ps)), ?_, ?_, rfl⟩
      · rw [encs_len, encs_len]
        have h1 := len_le_sizes L
        have h2 := len_le_sizes ps
        omega
      · simp [encs_map]
      · rw [hsz]; omega
/-! ### count_depth -/
def encD (e : Doc × Nat) : PyData := .tuple [e.1.enc, .int (e.2 : Nat)]
/-- the deepest of those that wait -/
def deepL : List (Doc × Nat) → Nat
  | [] => 0
  | (d, k) :: r => max (k + d.deep - 1) (deepL r)
theorem deepL_app (A B : List (Doc × Nat)) : deepL (A ++ B) = max (deepL A) (deepL B) := by
  induction A with
  | nil => simp [deepL]
  | cons a r ih =>
    obtain ⟨d, k⟩ := a
    rw [List.cons_append, deepL, deepL, ih]
    omega
theorem deepL_kids (k : Nat) : ∀ ps : List Doc, max k (deepL (ps.map fun e => (e, k + 1))) = k + deeps ps
  | [] => by simp [deepL, deeps]
  | d :: r => by
    have ih := deepL_kids k r
    have h1 := deep_pos d
    rw [List.map_cons, deepL, deeps]
    omega
def spCDeep : DSp := fun as b Q _ => ∃ d : Doc, as = [.im d.enc] ∧ d.size ≤ 2000 ∧ Q (.int (d.deep : Nat)) b
theorem pr_count_depth {f : Addr} {fd : FuncData} {k : Nat} (T : Txt mg) (D : Def K mg "count_depth" ["document"] s_count_depth f fd) : PrD P w K mg base PT (k + 1) "count_depth" ["document"] spCDeep := by
  refine PrD.of D sc_count_depth (fun as b Q R h => by obtain ⟨_, rfl, _⟩ := h; rfl) (by decide) fun cdv A outer s H E F hcd hG hr hF => ?_
  refine ⟨_, (dss_cons (ds_own (i := 1) sc_count_depth.nd rfl (Or.inl rfl) (df_lst (dl_cons (de_tup (dl_cons (dv 0) (dl_cons de_int dl_nil))) dl_nil)))
  (dss_cons (ds_set (i := 2) sc_count_depth.nd rfl (Or.inl rfl) de_int)
  (dss_cons (ds_while (passes_of rfl) (dt_cmp (op_ne0 hr) (opd_eq0 hr) (dvb 1) (DE.db (DF.de (df_lst dl_nil))) (nomark _)) (
    (dss_cons (ds_popG (i := 1) rfl (.inl rfl) (dg_tup (n := 2) rfl (dgs_cons (dg_name (i := 3) sc_count_depth.nd rfl (Or.inl rfl)) (dgs_cons (dg_name (i := 4) sc_count_depth.nd rfl (Or.inl rfl)) dgs_nil))))
    (dss_cons (ds_set (i := 2) sc_count_depth.nd rfl (Or.inl rfl) (de_call (fun _ h => pe_callB (call_maxA rfl) (by rfl) T.max (by decide +kernel) h) cd_max (da_cons (dvb 2) (da_cons (dvb 4) da_nil))))
    (dss_one (ds_for (passes_of rfl) rfl (DI.two (di_any (de_slice (dvb 3) (do_some de_int) do_none))) (dg_name (i := 5) sc_count_depth.nd rfl (Or.inl rfl)) (
      (dss_one (ds_append (i := 1) rfl (.inl rfl) (de_tup (dl_cons (dv 5) (dl_cons (de_op op_addAll opd_add (dvb 4) (DE.db de_int)) dl_nil))))))))))))
  (dss_one (ds_ret (dvb 2)))))), fun as b Q R h => ?_⟩
  obtain ⟨d, rfl, hz, q⟩ := h
  have hsz : ∀ (A B : List Doc), sizes (A ++ B) = sizes A + sizes B := fun A B => by rw [sizes_sum, sizes_sum, sizes_sum, List.map_append, List.sum_append]
  simp only [sCons_, sIf_, sRet_, sNil_, sSet_, sOwn_, sAppend_, sExtend_, onSq_l, onSq_t, sPop_, sPar_, sAsg_, sAug_, sRetN_, sDrop_, sRaise_, sFreeze_, sSetI_, sBreak_, sCont_, sTry_, dAct, dLam, dGet2, dDisp, rdReprX_l, rdReprX_t, onDict_, onKey_i, onKey_s, toOV, ofOV, dOr, dAnd, dNot, dB, dIsi, dVar_0, dVar_s, dVarB_0, dVarB_l, dVarB_s, dChain, dC, dCall, aCons, aNil, aVar, allIm_0, allIm_1, allIm_2, d2, dAllIn, startD, svOf, gN, gsC_, gsN, dTup, dCons, dNil, dLst, dAddL, dMulL, dF, dIf, dAndV, dOrV, dNotV, dNeg, dIter, dRng1, dRng2, dRng3, dEnum, dZip, dYes, dSl, dNo, dSo, dFn, wipeR, onB_, onI_, onIt_l, onIt_t, onIt_s, kRng1_, kRng2_, kRng3_, kEnum_l, kEnum_t, kZip_l, kZip_t, cutQ_t, cutQ_l, cutQ_s, rdI_, rdI0_, rdB0_, rdAdd_i, rdAdd_s, rdAdd_t, rdAdd_l, rdMul_i, rdMul_l, rdMul_t, rdEq_i, rdEq_s, rdEq0_l, rdEq0_ln, rdEq0_t, rdOrd_i, rdIsN_, rdIsN_n, rdIx_t, rdIx_l, rdIx_s, rdLen_l, rdLen_t, rdLen_s, rdTup_l, rdTup_t, rdList_l, rdList_t, rdInt_, rdSum_, rdMax_l, rdMax_i, rdMin_i, gT_, List.map_cons, List.map_nil, List.getElem?_cons_zero, List.getElem?_cons_succ, List.set_cons_zero, List.set_cons_succ, List.length_cons, List.length_nil, List.replicate, List.cons_append, List.nil_append, Option.map_some, Option.map_none, if_true, cond_true, cond_false, Bool.not_true, Bool.not_false, Nat.add_sub_cancel, Nat.sub_self, Nat.zero_add, Nat.reduceAdd, Nat.reduceSub, true_and, and_true]
  refine ⟨fun m ρ b' => ∃ (L : List (Doc × Nat)) (c : Nat) (s3 s4 s5 : SV), ρ = [.im d.enc, .ls (L.map encD), .im (.int (c : Nat)), s3, s4, s5] ∧ b' = b ∧ max c (deepL L) = d.deep ∧ m = sizes (L.map (·.1)) ∧ m ≤ d.size,
    ⟨sizes [d], [(d, 1)], 0, .no, .no, .no, rfl, rfl, ?_, rfl, by simp [sizes]⟩, fun m ρ b' hI => ?_⟩
  · have := deep_pos d
    simp only [deepL]
    omega
  obtain ⟨L, c, s3, s4, s5, rfl, rfl, hc, rfl, hm⟩ := hI
  simp only [sCons_, sIf_, sRet_, sNil_, sSet_, sOwn_, sAppend_, sExtend_, onSq_l, onSq_t, sPop_, sPar_, sAsg_, sAug_, sRetN_, sDrop_, sRaise_, sFreeze_, sSetI_, sBreak_, sCont_, sTry_, dAct, dLam, dGet2, dDisp, rdReprX_l, rdReprX_t, onDict_, onKey_i, onKey_s, toOV, ofOV, dOr, dAnd, dNot, dB, dIsi, dVar_0, dVar_s, dVarB_0, dVarB_l, dVarB_s, dChain, dC, dCall, aCons, aNil, aVar, allIm_0, allIm_1, allIm_2, d2, dAllIn, startD, svOf, gN, gsC_, gsN, dTup, dCons, dNil, dLst, dAddL, dMulL, dF, dIf, dAndV, dOrV, dNotV, dNeg, dIter, dRng1, dRng2, dRng3, dEnum, dZip, dYes, dSl, dNo, dSo, dFn, wipeR, onB_, onI_, onIt_l, onIt_t, onIt_s, kRng1_, kRng2_, kRng3_, kEnum_l, kEnum_t, kZip_l, kZip_t, cutQ_t, cutQ_l, cutQ_s, rdI_, rdI0_, rdB0_, rdAdd_i, rdAdd_s, rdAdd_t, rdAdd_l, rdMul_i, rdMul_l, rdMul_t, rdEq_i, rdEq_s, rdEq0_l, rdEq0_ln, rdEq0_t, rdOrd_i, rdIsN_, rdIsN_n, rdIx_t, rdIx_l, rdIx_s, rdLen_l, rdLen_t, rdLen_s, rdTup_l, rdTup_t, rdList_l, rdList_t, rdInt_, rdSum_, rdMax_l, rdMax_i, rdMin_i, gT_, List.map_cons, List.map_nil, List.getElem?_cons_zero, List.getElem?_cons_succ, List.set_cons_zero, List.set_cons_succ, List.length_cons, List.length_nil, List.replicate, List.cons_append, List.nil_append, Option.map_some, Option.map_none, if_true, cond_true, cond_false, Bool.not_true, Bool.not_false, Nat.add_sub_cancel, Nat.sub_self, Nat.zero_add, Nat.reduceAdd, Nat.reduceSub, true_and, and_true]
  rcases List.eq_nil_or_concat L with rfl | ⟨L, e, rfl⟩
  · have e0 : c = d.deep := by simpa [deepL] using hc
    rw [e0]
    exact q
  · rw [List.concat_eq_append] at *
    have hne : ((L ++ [e]).map encD).isEmpty = false := by simp
    rw [hne]
    simp only [sCons_, sIf_, sRet_, sNil_, sSet_, sOwn_, sAppend_, sExtend_, onSq_l, onSq_t, sPop_, sPar_, sAsg_, sAug_, sRetN_, sDrop_, sRaise_, sFreeze_, sSetI_, sBreak_, sCont_, sTry_, dAct, dLam, dGet2, dDisp, rdReprX_l, rdReprX_t, onDict_, onKey_i, onKey_s, toOV, ofOV, dOr, dAnd, dNot, dB, dIsi, dVar_0, dVar_s, dVarB_0, dVarB_l, dVarB_s, dChain, dC, dCall, aCons, aNil, aVar, allIm_0, allIm_1, allIm_2, d2, dAllIn, startD, svOf, gN, gsC_, gsN, dTup, dCons, dNil, dLst, dAddL, dMulL, dF, dIf, dAndV, dOrV, dNotV, dNeg, dIter, dRng1, dRng2, dRng3, dEnum, dZip, dYes, dSl, dNo, dSo, dFn, wipeR, onB_, onI_, onIt_l, onIt_t, onIt_s, kRng1_, kRng2_, kRng3_, kEnum_l, kEnum_t, kZip_l, kZip_t, cutQ_t, cutQ_l, cutQ_s, rdI_, rdI0_, rdB0_, rdAdd_i, rdAdd_s, rdAdd_t, rdAdd_l, rdMul_i, rdMul_l, rdMul_t, rdEq_i, rdEq_s, rdEq0_l, rdEq0_ln, rdEq0_t, rdOrd_i, rdIsN_, rdIsN_n, rdIx_t, rdIx_l, rdIx_s, rdLen_l, rdLen_t, rdLen_s, rdTup_l, rdTup_t, rdList_l, rdList_t, rdInt_, rdSum_, rdMax_l, rdMax_i, rdMin_i, gT_, List.map_cons, List.map_nil, List.getElem?_cons_zero, List.getElem?_cons_succ, List.set_cons_zero, List.set_cons_succ, List.length_cons, List.length_nil, List.replicate, List.cons_append, List.nil_append, Option.map_some, Option.map_none, if_true, cond_true, cond_false, Bool.not_true, Bool.not_false, Nat.add_sub_cancel, Nat.sub_self, Nat.zero_add, Nat.reduceAdd, Nat.reduceSub, true_and, and_true]
    obtain ⟨⟨n, ps⟩, dk⟩ := e
    have hmm : sizes (List.map (·.1) (L ++ [(Doc.nd n ps, dk)])) = sizes (L.map (·.1)) + (1 + sizes ps) := by
      rw [List.map_append, hsz]
      simp [sizes, Doc.size]
    rw [hmm] at hm ⊢
    refine ⟨_, fun ρ' b' h => ⟨sizes (L.map (·.1)) + sizes ps, by omega, h⟩, L.map encD, encD (Doc.nd n ps, dk), by simp, ?_⟩
    simp only [encD, enc_nd, sCons_, sIf_, sRet_, sNil_, sSet_, sOwn_, sAppend_, sExtend_, onSq_l, onSq_t, sPop_, sPar_, sAsg_, sAug_, sRetN_, sDrop_, sRaise_, sFreeze_, sSetI_, sBreak_, sCont_, sTry_, dAct, dLam, dGet2, dDisp, rdReprX_l, rdReprX_t, onDict_, onKey_i, onKey_s, toOV, ofOV, dOr, dAnd, dNot, dB, dIsi, dVar_0, dVar_s, dVarB_0, dVarB_l, dVarB_s, dChain, dC, dCall, aCons, aNil, aVar, allIm_0, allIm_1, allIm_2, d2, dAllIn, startD, svOf, gN, gsC_, gsN, dTup, dCons, dNil, dLst, dAddL, dMulL, dF, dIf, dAndV, dOrV, dNotV, dNeg, dIter, dRng1, dRng2, dRng3, dEnum, dZip, dYes, dSl, dNo, dSo, dFn, wipeR, onB_, onI_, onIt_l, onIt_t, onIt_s, kRng1_, kRng2_, kRng3_, kEnum_l, kEnum_t, kZip_l, kZip_t, cutQ_t, cutQ_l, cutQ_s, rdI_, rdI0_, rdB0_, rdAdd_i, rdAdd_s, rdAdd_t, rdAdd_l, rdMul_i, rdMul_l, rdMul_t, rdEq_i, rdEq_s, rdEq0_l, rdEq0_ln, rdEq0_t, rdOrd_i, rdIsN_, rdIsN_n, rdIx_t, rdIx_l, rdIx_s, rdLen_l, rdLen_t, rdLen_s, rdTup_l, rdTup_t, rdList_l, rdList_t, rdInt_, rdSum_, rdMax_l, rdMax_i, rdMin_i, gT_, List.map_cons, List.map_nil, List.getElem?_cons_zero, List.getElem?_cons_succ, List.set_cons_zero, List.set_cons_succ, List.length_cons, List.length_nil, List.replicate, List.cons_append, List.nil_append, Option.map_some, Option.map_none, if_true, cond_true, cond_false, Bool.not_true, Bool.not_false, Nat.add_sub_cancel, Nat.sub_self, Nat.zero_add, Nat.reduceAdd, Nat.reduceSub, true_and, and_true]
    unfold sFor
    simp only [sCons_, sIf_, sRet_, sNil_, sSet_, sOwn_, sAppend_, sExtend_, onSq_l, onSq_t, sPop_, sPar_, sAsg_, sAug_, sRetN_, sDrop_, sRaise_, sFreeze_, sSetI_, sBreak_, sCont_, sTry_, dAct, dLam, dGet2, dDisp, rdReprX_l, rdReprX_t, onDict_, onKey_i, onKey_s, toOV, ofOV, dOr, dAnd, dNot, dB, dIsi, dVar_0, dVar_s, dVarB_0, dVarB_l, dVarB_s, dChain, dC, dCall, aCons, aNil, aVar, allIm_0, allIm_1, allIm_2, d2, dAllIn, startD, svOf, gN, gsC_, gsN, dTup, dCons, dNil, dLst, dAddL, dMulL, dF, dIf, dAndV, dOrV, dNotV, dNeg, dIter, dRng1, dRng2, dRng3, dEnum, dZip, dYes, dSl, dNo, dSo, dFn, wipeR, onB_, onI_, onIt_l, onIt_t, onIt_s, kRng1_, kRng2_, kRng3_, kEnum_l, kEnum_t, kZip_l, kZip_t, cutQ_t, cutQ_l, cutQ_s, rdI_, rdI0_, rdB0_, rdAdd_i, rdAdd_s, rdAdd_t, rdAdd_l, rdMul_i, rdMul_l, rdMul_t, rdEq_i, rdEq_s, rdEq0_l, rdEq0_ln, rdEq0_t, rdOrd_i, rdIsN_, rdIsN_n, rdIx_t, rdIx_l, rdIx_s, rdLen_l, rdLen_t, rdLen_s, rdTup_l, rdTup_t, rdList_l, rdList_t, rdInt_, rdSum_, rdMax_l, rdMax_i, rdMin_i, gT_, List.map_cons, List.map_nil, List.getElem?_cons_zero, List.getElem?_cons_succ, List.set_cons_zero, List.set_cons_succ, List.length_cons, List.length_nil, List.replicate, List.cons_append, List.nil_append, Option.map_some, Option.map_none, if_true, cond_true, cond_false, Bool.not_true, Bool.not_false, Nat.add_sub_cancel, Nat.sub_self, Nat.zero_add, Nat.reduceAdd, Nat.reduceSub, true_and, and_true]
    rw [cut1]
    have hcc : max c (dk + (1 + deeps ps) - 1) = max (max c dk) (deepL (ps.map fun e => (e, dk + 1))) := by
      have := deepL_kids dk ps
      omega
    refine ⟨fun i ρ b2 => ∃ s5', ρ = [.im d.enc, .ls ((L ++ (ps.take i).map fun e => (e, dk + 1)).map encD), .im (.int (max c dk : Nat)), .im (.tuple (.str n :: encs ps)), .im (.int (dk : Nat)), s5'] ∧ b2 = b', ⟨s5, ?_, rfl⟩, fun i x ρ b2 hx hi => ?_, fun ρ b2 hi => ?_⟩
    · have e2 : max (c : Int) (dk : Int) = ((max c dk : Nat) : Int) := by omega
      rw [e2]
      simp [encD]
    · obtain ⟨s5', rfl, rfl⟩ := hi
      rw [encs_map, List.getElem?_map] at hx
      obtain ⟨e, he, rfl⟩ : ∃ e, ps[i]? = some e ∧ e.enc = x := by
        cases h : ps[i]? with
        | none => rw [h] at hx; cases hx
        | some e => rw [h] at hx; cases hx; exact ⟨e, rfl, rfl⟩
      simp only [sCons_, sIf_, sRet_, sNil_, sSet_, sOwn_, sAppend_, sExtend_, onSq_l, onSq_t, sPop_, sPar_, sAsg_, sAug_, sRetN_, sDrop_, sRaise_, sFreeze_, sSetI_, sBreak_, sCont_, sTry_, dAct, dLam, dGet2, dDisp, rdReprX_l, rdReprX_t, onDict_, onKey_i, onKey_s, toOV, ofOV, dOr, dAnd, dNot, dB, dIsi, dVar_0, dVar_s, dVarB_0, dVarB_l, dVarB_s, dChain, dC, dCall, aCons, aNil, aVar, allIm_0, allIm_1, allIm_2, d2, dAllIn, startD, svOf, gN, gsC_, gsN, dTup, dCons, dNil, dLst, dAddL, dMulL, dF, dIf, dAndV, dOrV, dNotV, dNeg, dIter, dRng1, dRng2, dRng3, dEnum, dZip, dYes, dSl, dNo, dSo, dFn, wipeR, onB_, onI_, onIt_l, onIt_t, onIt_s, kRng1_, kRng2_, kRng3_, kEnum_l, kEnum_t, kZip_l, kZip_t, cutQ_t, cutQ_l, cutQ_s, rdI_, rdI0_, rdB0_, rdAdd_i, rdAdd_s, rdAdd_t, rdAdd_l, rdMul_i, rdMul_l, rdMul_t, rdEq_i, rdEq_s, rdEq0_l, rdEq0_ln, rdEq0_t, rdOrd_i, rdIsN_, rdIsN_n, rdIx_t, rdIx_l, rdIx_s, rdLen_l, rdLen_t, rdLen_s, rdTup_l, rdTup_t, rdList_l, rdList_t, rdInt_, rdSum_, rdMax_l, rdMax_i, rdMin_i, gT_, List.map_cons, List.map_nil, List.getElem?_cons_zero, List.getElem?_cons_succ, List.set_cons_zero, List.set_cons_succ, List.length_cons, List.length_nil, List.replicate, List.cons_append, List.nil_append, Option.map_some, Option.map_none, if_true, cond_true, cond_false, Bool.not_true, Bool.not_false, Nat.add_sub_cancel, Nat.sub_self, Nat.zero_add, Nat.reduceAdd, Nat.reduceSub, true_and, and_true]
      have hi := (List.getElem?_eq_some_iff.mp he).1
      refine ⟨?_, .im e.enc, ?_⟩
      · have h1 := len_le_sizes (L.map (·.1))
        have h2 := len_le_sizes ps
        simp at h1 ⊢
        omega
      · rw [List.take_add_one, he]
        simp [encD]
    · obtain ⟨s5', rfl, rfl⟩ := hi
      rw [encs_len, List.take_length]
      refine ⟨L ++ ps.map fun e => (e, dk + 1), max c dk, _, _, _, rfl, rfl, ?_, ?_, by omega⟩
      · rw [deepL_app] at hc ⊢
        have e3 : deepL [(Doc.nd n ps, dk)] = dk + (1 + deeps ps) - 1 := by
          simp [deepL, Doc.deep]
        rw [e3] at hc
        omega
      · rw [List.map_append, hsz]
        simp [Function.comp_def]
/-! ### size_of, depth_of -/
def spChecked (g : Doc → PyData) : DSp := fun as b Q R => ∃ d n r, as = [.im d] ∧ sh d = true ∧ chk n [(d, [])] 0 = some r ∧ match r with
  | none => ∃ e : Doc, d = e.enc ∧ e.size ≤ 2000 ∧ Q (g e) b
  | some pl => wrongR R pl b
theorem pr_size_of {f : Addr} {fd : FuncData} {k : Nat} (T : Txt mg) (D : Def K mg "size_of" ["document"] s_size_of f fd) (G_need_document : PrD P w K mg base PT k "need_document" ["document"] spNeed) (G_count_names : PrD P w K mg base PT k "count_names" ["document"] spNames) : PrD P w K mg base PT (k + 1) "size_of" ["document"] (spChecked fun e => .int (e.size : Nat)) := by
  refine PrD.of D sc_size_of (fun as b Q R h => by obtain ⟨_, _, _, rfl, _⟩ := h; rfl) (by decide) fun cdv A outer s H E F hcd hG hr hF => ?_
  refine ⟨_, (dss_one (ds_ret (DE.db (de_fn hG (G_count_names.mono (by omega)) hF hr (das_cons (de_fnX hG (G_need_document.mono (by omega)) hF hr (takes_of rfl rfl rfl rfl) (das_cons (dv 0) das_nil)) das_nil))))), fun as b Q R h => ?_⟩
  obtain ⟨d, n, r, rfl, hs, hk, q⟩ := h
  simp only [sCons_, sIf_, sRet_, sNil_, sSet_, sOwn_, sAppend_, sExtend_, onSq_l, onSq_t, sPop_, sPar_, sAsg_, sAug_, sRetN_, sDrop_, sRaise_, sFreeze_, sSetI_, sBreak_, sCont_, sTry_, dAct, dLam, dGet2, dDisp, rdReprX_l, rdReprX_t, onDict_, onKey_i, onKey_s, toOV, ofOV, dOr, dAnd, dNot, dB, dIsi, dVar_0, dVar_s, dVarB_0, dVarB_l, dVarB_s, dChain, dC, dCall, aCons, aNil, aVar, allIm_0, allIm_1, allIm_2, d2, dAllIn, startD, svOf, gN, gsC_, gsN, dTup, dCons, dNil, dLst, dAddL, dMulL, dF, dIf, dAndV, dOrV, dNotV, dNeg, dIter, dRng1, dRng2, dRng3, dEnum, dZip, dYes, dSl, dNo, dSo, dFn, wipeR, onB_, onI_, onIt_l, onIt_t, onIt_s, kRng1_, kRng2_, kRng3_, kEnum_l, kEnum_t, kZip_l, kZip_t, cutQ_t, cutQ_l, cutQ_s, rdI_, rdI0_, rdB0_, rdAdd_i, rdAdd_s, rdAdd_t, rdAdd_l, rdMul_i, rdMul_l, rdMul_t, rdEq_i, rdEq_s, rdEq0_l, rdEq0_ln, rdEq0_t, rdOrd_i, rdIsN_, rdIsN_n, rdIx_t, rdIx_l, rdIx_s, rdLen_l, rdLen_t, rdLen_s, rdTup_l, rdTup_t, rdList_l, rdList_t, rdInt_, rdSum_, rdMax_l, rdMax_i, rdMin_i, gT_, List.map_cons, List.map_nil, List.getElem?_cons_zero, List.getElem?_cons_succ, List.set_cons_zero, List.set_cons_succ, List.length_cons, List.length_nil, List.replicate, List.cons_append, List.nil_append, Option.map_some, Option.map_none, if_true, cond_true, cond_false, Bool.not_true, Bool.not_false, Nat.add_sub_cancel, Nat.sub_self, Nat.zero_add, Nat.reduceAdd, Nat.reduceSub, true_and, and_true]
  refine ⟨d, n, r, rfl, hs, hk, ?_⟩
  cases r with
  | none =>
    obtain ⟨e, rfl, hz, q⟩ := q
    exact ⟨e, rfl, hz, q⟩
  | some pl => exact q
theorem pr_depth_of {f : Addr} {fd : FuncData} {k : Nat} (T : Txt mg) (D : Def K mg "depth_of" ["document"] s_depth_of f fd) (G_need_document : PrD P w K mg base PT k "need_document" ["document"] spNeed) (G_count_depth : PrD P w K mg base PT k "count_depth" ["document"] spCDeep) : PrD P w K mg base PT (k + 1) "depth_of" ["document"] (spChecked fun e => .int (e.deep : Nat)) := by
  refine PrD.of D sc_depth_of (fun as b Q R h => by obtain ⟨_, _, _, rfl, _⟩ := h; rfl) (by decide) fun cdv A outer s H E F hcd hG hr hF => ?_
  refine ⟨_, (dss_one (ds_ret (DE.db (de_fn hG (G_count_depth.mono (by omega)) hF hr (das_cons (de_fnX hG (G_need_document.mono (by omega)) hF hr (takes_of rfl rfl rfl rfl) (das_cons (dv 0) das_nil)) das_nil))))), fun as b Q R h => ?_⟩
  obtain ⟨d, n, r, rfl, hs, hk, q⟩ := h
  simp only [sCons_, sIf_, sRet_, sNil_, sSet_, sOwn_, sAppend_, sExtend_, onSq_l, onSq_t, sPop_, sPar_, sAsg_, sAug_, sRetN_, sDrop_, sRaise_, sFreeze_, sSetI_, sBreak_, sCont_, sTry_, dAct, dLam, dGet2, dDisp, rdReprX_l, rdReprX_t, onDict_, onKey_i, onKey_s, toOV, ofOV, dOr, dAnd, dNot, dB, dIsi, dVar_0, dVar_s, dVarB_0, dVarB_l, dVarB_s, dChain, dC, dCall, aCons, aNil, aVar, allIm_0, allIm_1, allIm_2, d2, dAllIn, startD, svOf, gN, gsC_, gsN, dTup, dCons, dNil, dLst, dAddL, dMulL, dF, dIf, dAndV, dOrV, dNotV, dNeg, dIter, dRng1, dRng2, dRng3, dEnum, dZip, dYes, dSl, dNo, dSo, dFn, wipeR, onB_, onI_, onIt_l, onIt_t, onIt_s, kRng1_, kRng2_, kRng3_, kEnum_l, kEnum_t, kZip_l, kZip_t, cutQ_t, cutQ_l, cutQ_s, rdI_, rdI0_, rdB0_, rdAdd_i, rdAdd_s, rdAdd_t, rdAdd_l, rdMul_i, rdMul_l, rdMul_t, rdEq_i, rdEq_s, rdEq0_l, rdEq0_ln, rdEq0_t, rdOrd_i, rdIsN_, rdIsN_n, rdIx_t, rdIx_l, rdIx_s, rdLen_l, rdLen_t, rdLen_s, rdTup_l, rdTup_t, rdList_l, rdList_t, rdInt_, rdSum_, rdMax_l, rdMax_i, rdMin_i, gT_, List.map_cons, List.map_nil, List.getElem?_cons_zero, List.getElem?_cons_succ, List.set_cons_zero, List.set_cons_succ, List.length_cons, List.length_nil, List.replicate, List.cons_append, List.nil_append, Option.map_some, Option.map_none, if_true, cond_true, cond_false, Bool.not_true, Bool.not_false, Nat.add_sub_cancel, Nat.sub_self, Nat.zero_add, Nat.reduceAdd, Nat.reduceSub, true_and, and_true]
  refine ⟨d, n, r, rfl, hs, hk, ?_⟩
  cases r with
  | none =>
    obtain ⟨e, rfl, hz, q⟩ := q
    exact ⟨e, rfl, hz, q⟩
  | some pl => exact q
end
end K00

set_option Elab.async false
set_option linter.all false
set_option maxRecDepth 100000
set_option maxHeartbeats 4000000
/-! D0c: places. -/
namespace K00
open PySem PySem.Spec PyProof.Rows L2 Lf Df
open GxR (TabB TabG Tabbed GenS)
abbrev s_all_places : Stmt := topS 20
abbrev N_all_places : List Str := ["document", "waiting", "found", "one", "place", "number"]
theorem sc_all_places : FnScope N_all_places ["document"] (defScope s_all_places) := ⟨rfl, rfl, rfl, by decide +kernel, rfl, by decide +kernel, by decide +kernel⟩
abbrev s_places_of : Stmt := topS 21
abbrev N_places_of : List Str := ["document"]
theorem sc_places_of : FnScope N_places_of ["document"] (defScope s_places_of) := ⟨rfl, rfl, rfl, by decide +kernel, rfl, by decide +kernel, by decide +kernel⟩
abbrev s_is_place : Stmt := topS 22
abbrev N_is_place : List Str := ["document", "value", "here", "number"]
theorem sc_is_place : FnScope N_is_place ["document", "value"] (defScope s_is_place) := ⟨rfl, rfl, rfl, by decide +kernel, rfl, by decide +kernel, by decide +kernel⟩
abbrev s_part_there : Stmt := topS 23
abbrev N_part_there : List Str := ["document", "place", "here", "number"]
theorem sc_part_there : FnScope N_part_there ["document", "place"] (defScope s_part_there) := ⟨rfl, rfl, rfl, by decide +kernel, rfl, by decide +kernel, by decide +kernel⟩
/-! ### plainly -/
mutual
def places : Doc → List Nat → List (List Nat)
  | .nd _ ps, pl => pl :: placess ps 0 pl
def placess : List Doc → Nat → List Nat → List (List Nat)
  | [], _, _ => []
  | d :: r, i, pl => places d (pl ++ [i]) ++ placess r (i + 1) pl
end
mutual
theorem places_len : ∀ (d : Doc) (pl : List Nat), (places d pl).length = d.size
  | .nd n ps, pl => by rw [places, List.length_cons, placess_len ps 0 pl, Doc.size]; omega
theorem placess_len : ∀ (ps : List Doc) (i : Nat) (pl : List Nat), (placess ps i pl).length = sizes ps
  | [], _, _ => rfl
  | d :: r, i, pl => by rw [placess, List.length_append, places_len d, placess_len r (i + 1) pl, sizes]
end
def kidsD (ps : List Doc) (pl : List Nat) : List (Doc × List Nat) := ps.zipIdx.map fun p => (p.1, pl ++ [p.2])
theorem kidsD_len (ps : List Doc) (pl : List Nat) : (kidsD ps pl).length = ps.length := by unfold kidsD; rw [List.length_map, List.length_zipIdx]
theorem kidsD_get (ps : List Doc) (pl : List Nat) (i : Nat) : (kidsD ps pl)[i]? = ps[i]?.map fun e => (e, pl ++ [i]) := by
  unfold kidsD
  rw [List.getElem?_map, List.getElem?_zipIdx]
  cases ps[i]? with
  | none => rfl
  | some e => simp
theorem kidsD_places (ps : List Doc) (pl : List Nat) : (kidsD ps pl).flatMap (fun e => places e.1 e.2) = placess ps 0 pl := by
  unfold kidsD
  have h : ∀ (ps : List Doc) (i : Nat), ((ps.zipIdx i).map fun p => (p.1, pl ++ [p.2])).flatMap (fun e : Doc × List Nat => places e.1 e.2) = placess ps i pl := by
    intro ps
    induction ps with
    | nil => intro i; rfl
    | cons d r ih =>
      intro i
      rw [List.zipIdx_cons, List.map_cons, List.flatMap_cons, ih, placess]
  exact h ps 0
theorem kidsD_sizes (ps : List Doc) (pl : List Nat) : sizes ((kidsD ps pl).map (·.1)) = sizes ps := by
  congr 1
  refine List.ext_getElem? fun i => ?_
  rw [List.getElem?_map, kidsD_get]
  cases ps[i]? <;> rfl
theorem sizes_app (A B : List Doc) : sizes (A ++ B) = sizes A + sizes B := by rw [sizes_sum, sizes_sum, sizes_sum, List.map_append, List.sum_append]
def encWD (e : Doc × List Nat) : PyData := .tuple [e.1.enc, encPl e.2]
section
variable {P : Program} {w : World} {K : PySem.W.Frag} {mg : Str → Option Value} {base : Heap} {PT : List (Addr × Option Str)}
/-! ### all_places -/
def spPlaces : DSp := fun as b Q _ => ∃ d : Doc, as = [.im d.enc] ∧ d.size ≤ 2000 ∧ Q (.tuple ((places d []).map encPl)) b
theorem pr_all_places {f : Addr} {fd : FuncData} {k : Nat} (T : Txt mg) (D : Def K mg "all_places" ["document"] s_all_places f fd) : PrD P w K mg base PT (k + 1) "all_places" ["document"] spPlaces := by
  refine PrD.of D sc_all_places (fun as b Q R h => by obtain ⟨_, rfl, _⟩ := h; rfl) (by decide) fun cdv A outer s H E F hcd hG hr hF => ?_
  refine ⟨_, (dss_cons (ds_own (i := 1) sc_all_places.nd rfl (Or.inl rfl) (df_lst (dl_cons (de_tup (dl_cons (dv 0) (dl_cons (de_tup dl_nil) dl_nil))) dl_nil)))
  (dss_cons (ds_own (i := 2) sc_all_places.nd rfl (Or.inl rfl) (df_lst dl_nil))
  (dss_cons (ds_while (passes_of rfl) (dt_cmp (op_ne0 hr) (opd_eq0 hr) (dvb 1) (DE.db (DF.de (df_lst dl_nil))) (nomark _)) (
    (dss_cons (ds_popG (i := 1) rfl (.inl rfl) (dg_tup (n := 2) rfl (dgs_cons (dg_name (i := 3) sc_all_places.nd rfl (Or.inl rfl)) (dgs_cons (dg_name (i := 4) sc_all_places.nd rfl (Or.inl rfl)) dgs_nil))))
    (dss_cons (ds_append (i := 2) rfl (.inl rfl) (dv 4))
    (dss_one (ds_for (passes_of rfl) rfl (DI.two (di_range3 (by rfl) T.range (dl_cons (de_op op_sub opd_i0 (DE.db (de_call (fun _ h => pe_callB call_lenA (by rfl) T.len PySem.boot_len h) cd_len (da_cons (dvb 3) da_nil))) (DE.db de_int)) (dl_cons de_int (dl_cons (de_neg de_int) dl_nil))))) (dg_name (i := 5) sc_all_places.nd rfl (Or.inl rfl)) (
      (dss_one (ds_append (i := 1) rfl (.inl rfl) (de_tup (dl_cons (de_ix ix_seq opd_ix (dvb 3) (dvb 5) (fun _ _ => rfl)) (dl_cons (de_op op_addAll opd_add (dvb 4) (DE.db (de_tup (dl_cons (de_op op_sub opd_i0 (dvb 5) (DE.db de_int)) dl_nil)))) dl_nil))))))))))))
  (dss_one (ds_ret (DE.db (de_call (fun _ h => pe_callTy call_tuple_of (by rfl) T.tuple (by decide +kernel) h) cd_tuple (da_cons (dvb 2) da_nil)))))))), fun as b Q R h => ?_⟩
  obtain ⟨d, rfl, hz, q⟩ := h
  simp only [sCons_, sIf_, sRet_, sNil_, sSet_, sOwn_, sAppend_, sExtend_, onSq_l, onSq_t, sPop_, sPar_, sAsg_, sAug_, sRetN_, sDrop_, sRaise_, sFreeze_, sSetI_, sBreak_, sCont_, sTry_, dAct, dLam, dGet2, dDisp, rdReprX_l, rdReprX_t, onDict_, onKey_i, onKey_s, toOV, ofOV, dOr, dAnd, dNot, dB, dIsi, dVar_0, dVar_s, dVarB_0, dVarB_l, dVarB_s, dChain, dC, dCall, aCons, aNil, aVar, allIm_0, allIm_1, allIm_2, d2, dAllIn, startD, svOf, gN, gsC_, gsN, dTup, dCons, dNil, dLst, dAddL, dMulL, dF, dIf, dAndV, dOrV, dNotV, dNeg, dIter, dRng1, dRng2, dRng3, dEnum, dZip, dYes, dSl, dNo, dSo, dFn, wipeR, onB_, onI_, onIt_l, onIt_t, onIt_s, kRng1_, kRng2_, kRng3_, kEnum_l, kEnum_t, kZip_l, kZip_t, cutQ_t, cutQ_l, cutQ_s, rdI_, rdI0_, rdB0_, rdAdd_i, rdAdd_s, rdAdd_t, rdAdd_l, rdMul_i, rdMul_l, rdMul_t, rdEq_i, rdEq_s, rdEq0_l, rdEq0_ln, rdEq0_t, rdOrd_i, rdIsN_, rdIsN_n, rdIx_t, rdIx_l, rdIx_s, rdLen_l, rdLen_t, rdLen_s, rdTup_l, rdTup_t, rdList_l, rdList_t, rdInt_, rdSum_, rdMax_l, rdMax_i, rdMin_i, gT_, List.map_cons, List.map_nil, List.getElem?_cons_zero, List.getElem?_cons_succ, List.set_cons_zero, List.set_cons_succ, List.length_cons, List.length_nil, List.replicate, List.cons_append, List.nil_append, Option.map_some, Option.map_none, if_true, cond_true, cond_false, Bool.not_true, Bool.not_false, Nat.add_sub_cancel, Nat.sub_self, Nat.zero_add, Nat.reduceAdd, Nat.reduceSub, true_and, and_true]
  refine ⟨fun m ρ b' => ∃ (st : List (Doc × List Nat)) (fs : List (List Nat)) (s3 s4 s5 : SV), ρ = [.im d.enc, .ls (st.reverse.map encWD), .ls (fs.map encPl), s3, s4, s5] ∧ b' = b ∧ fs ++ st.flatMap (fun e => places e.1 e.2) = places d [] ∧ m = sizes (st.map (·.1)) ∧
      m ≤ d.size ∧ ∀ e ∈ st, e.2.length + e.1.size ≤ d.size,
    ⟨sizes [d], [(d, [])], [], .no, .no, .no, rfl, rfl, by simp, rfl, by simp [sizes], by simp⟩, fun m ρ b' hI => ?_⟩
  obtain ⟨st, fs, s3, s4, s5, rfl, rfl, hc, rfl, hm, hpl⟩ := hI
  simp only [sCons_, sIf_, sRet_, sNil_, sSet_, sOwn_, sAppend_, sExtend_, onSq_l, onSq_t, sPop_, sPar_, sAsg_, sAug_, sRetN_, sDrop_, sRaise_, sFreeze_, sSetI_, sBreak_, sCont_, sTry_, dAct, dLam, dGet2, dDisp, rdReprX_l, rdReprX_t, onDict_, onKey_i, onKey_s, toOV, ofOV, dOr, dAnd, dNot, dB, dIsi, dVar_0, dVar_s, dVarB_0, dVarB_l, dVarB_s, dChain, dC, dCall, aCons, aNil, aVar, allIm_0, allIm_1, allIm_2, d2, dAllIn, startD, svOf, gN, gsC_, gsN, dTup, dCons, dNil, dLst, dAddL, dMulL, dF, dIf, dAndV, dOrV, dNotV, dNeg, dIter, dRng1, dRng2, dRng3, dEnum, dZip, dYes, dSl, dNo, dSo, dFn, wipeR, onB_, onI_, onIt_l, onIt_t, onIt_s, kRng1_, kRng2_, kRng3_, kEnum_l, kEnum_t, kZip_l, kZip_t, cutQ_t, cutQ_l, cutQ_s, rdI_, rdI0_, rdB0_, rdAdd_i, rdAdd_s, rdAdd_t, rdAdd_l, rdMul_i, rdMul_l, rdMul_t, rdEq_i, rdEq_s, rdEq0_l, rdEq0_ln, rdEq0_t, rdOrd_i, rdIsN_, rdIsN_n, rdIx_t, rdIx_l, rdIx_s, rdLen_l, rdLen_t, rdLen_s, rdTup_l, rdTup_t, rdList_l, rdList_t, rdInt_, rdSum_, rdMax_l, rdMax_i, rdMin_i, gT_, List.map_cons, List.map_nil, List.getElem?_cons_zero, List.getElem?_cons_succ, List.set_cons_zero, List.set_cons_succ, List.length_cons, List.length_nil, List.replicate, List.cons_append, List.nil_append, Option.map_some, Option.map_none, if_true, cond_true, cond_false, Bool.not_true, Bool.not_false, Nat.add_sub_cancel, Nat.sub_self, Nat.zero_add, Nat.reduceAdd, Nat.reduceSub, true_and, and_true]
  cases st with
  | nil =>
    have e0 : fs = places d [] := by simpa using hc
    rw [e0]
    exact q
  | cons e st =>
    obtain ⟨⟨n, ps⟩, pl⟩ := e
    have hne : ((st.reverse ++ [(Doc.nd n ps, pl)]).map encWD).isEmpty = false := by simp
    rw [List.reverse_cons, hne]
    simp only [sCons_, sIf_, sRet_, sNil_, sSet_, sOwn_, sAppend_, sExtend_, onSq_l, onSq_t, sPop_, sPar_, sAsg_, sAug_, sRetN_, sDrop_, sRaise_, sFreeze_, sSetI_, sBreak_, sCont_, sTry_, dAct, dLam, dGet2, dDisp, rdReprX_l, rdReprX_t, onDict_, onKey_i, onKey_s, toOV, ofOV, dOr, dAnd, dNot, dB, dIsi, dVar_0, dVar_s, dVarB_0, dVarB_l, dVarB_s, dChain, dC, dCall, aCons, aNil, aVar, allIm_0, allIm_1, allIm_2, d2, dAllIn, startD, svOf, gN, gsC_, gsN, dTup, dCons, dNil, dLst, dAddL, dMulL, dF, dIf, dAndV, dOrV, dNotV, dNeg, dIter, dRng1, dRng2, dRng3, dEnum, dZip, dYes, dSl, dNo, dSo, dFn, wipeR, onB_, onI_, onIt_l, onIt_t, onIt_s, kRng1_, kRng2_, kRng3_, kEnum_l, kEnum_t, kZip_l, kZip_t, cutQ_t, cutQ_l, cutQ_s, rdI_, rdI0_, rdB0_, rdAdd_i, rdAdd_s, rdAdd_t, rdAdd_l, rdMul_i, rdMul_l, rdMul_t, rdEq_i, rdEq_s, rdEq0_l, rdEq0_ln, rdEq0_t, rdOrd_i, rdIsN_, rdIsN_n, rdIx_t, rdIx_l, rdIx_s, rdLen_l, rdLen_t, rdLen_s, rdTup_l, rdTup_t, rdList_l, rdList_t, rdInt_, rdSum_, rdMax_l, rdMax_i, rdMin_i, gT_, List.map_cons, List.map_nil, List.getElem?_cons_zero, List.getElem?_cons_succ, List.set_cons_zero, List.set_cons_succ, List.length_cons, List.length_nil, List.replicate, List.cons_append, List.nil_append, Option.map_some, Option.map_none, if_true, cond_true, cond_false, Bool.not_true, Bool.not_false, Nat.add_sub_cancel, Nat.sub_self, Nat.zero_add, Nat.reduceAdd, Nat.reduceSub, true_and, and_true]
    have hm2 : 1 + sizes ps + sizes (st.map (·.1)) ≤ d.size := by
      rw [List.map_cons, sizes, Doc.size] at hm
      exact hm
    refine ⟨_, fun ρ' b' h => ⟨sizes ps + sizes (st.map (·.1)), by rw [sizes, Doc.size]; omega, h⟩, st.reverse.map encWD, encWD (Doc.nd n ps, pl), by simp, ?_⟩
    simp only [encWD, encPl, enc_nd, encs_len, sCons_, sIf_, sRet_, sNil_, sSet_, sOwn_, sAppend_, sExtend_, onSq_l, onSq_t, sPop_, sPar_, sAsg_, sAug_, sRetN_, sDrop_, sRaise_, sFreeze_, sSetI_, sBreak_, sCont_, sTry_, dAct, dLam, dGet2, dDisp, rdReprX_l, rdReprX_t, onDict_, onKey_i, onKey_s, toOV, ofOV, dOr, dAnd, dNot, dB, dIsi, dVar_0, dVar_s, dVarB_0, dVarB_l, dVarB_s, dChain, dC, dCall, aCons, aNil, aVar, allIm_0, allIm_1, allIm_2, d2, dAllIn, startD, svOf, gN, gsC_, gsN, dTup, dCons, dNil, dLst, dAddL, dMulL, dF, dIf, dAndV, dOrV, dNotV, dNeg, dIter, dRng1, dRng2, dRng3, dEnum, dZip, dYes, dSl, dNo, dSo, dFn, wipeR, onB_, onI_, onIt_l, onIt_t, onIt_s, kRng1_, kRng2_, kRng3_, kEnum_l, kEnum_t, kZip_l, kZip_t, cutQ_t, cutQ_l, cutQ_s, rdI_, rdI0_, rdB0_, rdAdd_i, rdAdd_s, rdAdd_t, rdAdd_l, rdMul_i, rdMul_l, rdMul_t, rdEq_i, rdEq_s, rdEq0_l, rdEq0_ln, rdEq0_t, rdOrd_i, rdIsN_, rdIsN_n, rdIx_t, rdIx_l, rdIx_s, rdLen_l, rdLen_t, rdLen_s, rdTup_l, rdTup_t, rdList_l, rdList_t, rdInt_, rdSum_, rdMax_l, rdMax_i, rdMin_i, gT_, List.map_cons, List.map_nil, List.getElem?_cons_zero, List.getElem?_cons_succ, List.set_cons_zero, List.set_cons_succ, List.length_cons, List.length_nil, List.replicate, List.cons_append, List.nil_append, Option.map_some, Option.map_none, if_true, cond_true, cond_false, Bool.not_true, Bool.not_false, Nat.add_sub_cancel, Nat.sub_self, Nat.zero_add, Nat.reduceAdd, Nat.reduceSub, true_and, and_true]
    have hlen := places_len d []
    rw [← hc, List.length_append, List.flatMap_cons, List.length_append, places_len, Doc.size] at hlen
    have hpl0 : pl.length + (1 + sizes ps) ≤ d.size := by
      have := hpl _ List.mem_cons_self
      simpa only [Doc.size] using this
    have hls := len_le_sizes ps
    have hls2 := len_le_sizes (st.map (·.1))
    rw [List.length_map] at hls2
    refine ⟨by rw [List.length_map]; omega, ?_⟩
    have hlr : ∀ j (h : j < ps.length), (kidsD ps pl).drop j = (ps[j], pl ++ [j]) :: (kidsD ps pl).drop (j + 1) := fun j h => by
      refine List.drop_eq_getElem_cons (by rw [kidsD_len]; exact h) |>.trans ?_
      congr 1
      have := kidsD_get ps pl j
      rw [List.getElem?_eq_getElem (by rw [kidsD_len]; exact h), List.getElem?_eq_getElem h] at this
      exact Option.some.inj this
    unfold sFor
    simp only [encs_len, sCons_, sIf_, sRet_, sNil_, sSet_, sOwn_, sAppend_, sExtend_, onSq_l, onSq_t, sPop_, sPar_, sAsg_, sAug_, sRetN_, sDrop_, sRaise_, sFreeze_, sSetI_, sBreak_, sCont_, sTry_, dAct, dLam, dGet2, dDisp, rdReprX_l, rdReprX_t, onDict_, onKey_i, onKey_s, toOV, ofOV, dOr, dAnd, dNot, dB, dIsi, dVar_0, dVar_s, dVarB_0, dVarB_l, dVarB_s, dChain, dC, dCall, aCons, aNil, aVar, allIm_0, allIm_1, allIm_2, d2, dAllIn, startD, svOf, gN, gsC_, gsN, dTup, dCons, dNil, dLst, dAddL, dMulL, dF, dIf, dAndV, dOrV, dNotV, dNeg, dIter, dRng1, dRng2, dRng3, dEnum, dZip, dYes, dSl, dNo, dSo, dFn, wipeR, onB_, onI_, onIt_l, onIt_t, onIt_s, kRng1_, kRng2_, kRng3_, kEnum_l, kEnum_t, kZip_l, kZip_t, cutQ_t, cutQ_l, cutQ_s, rdI_, rdI0_, rdB0_, rdAdd_i, rdAdd_s, rdAdd_t, rdAdd_l, rdMul_i, rdMul_l, rdMul_t, rdEq_i, rdEq_s, rdEq0_l, rdEq0_ln, rdEq0_t, rdOrd_i, rdIsN_, rdIsN_n, rdIx_t, rdIx_l, rdIx_s, rdLen_l, rdLen_t, rdLen_s, rdTup_l, rdTup_t, rdList_l, rdList_t, rdInt_, rdSum_, rdMax_l, rdMax_i, rdMin_i, gT_, List.map_cons, List.map_nil, List.getElem?_cons_zero, List.getElem?_cons_succ, List.set_cons_zero, List.set_cons_succ, List.length_cons, List.length_nil, List.replicate, List.cons_append, List.nil_append, Option.map_some, Option.map_none, if_true, cond_true, cond_false, Bool.not_true, Bool.not_false, Nat.add_sub_cancel, Nat.sub_self, Nat.zero_add, Nat.reduceAdd, Nat.reduceSub, true_and, and_true]
    refine ⟨⟨by omega, by omega⟩, ⟨by decide, by decide⟩, fun i ρ b2 => ∃ s5', ρ = [.im d.enc, .ls ((((kidsD ps pl).drop (ps.length - i) ++ st).reverse).map encWD), .ls ((fs ++ [pl]).map encPl), .im (Doc.nd n ps).enc, .im (encPl pl), s5'] ∧ b2 = b' ∧ i ≤ ps.length, ⟨s5, ?_, rfl, Nat.zero_le _⟩, fun i x ρ b2 hx hi => ?_, fun ρ b2 hi => ?_⟩
    · rw [Nat.sub_zero, List.drop_of_length_le (by rw [kidsD_len]; exact Nat.le_refl _), List.nil_append, enc_nd]
      simp [encPl]
    · obtain ⟨s5', rfl, rfl, hile⟩ := hi
      obtain ⟨hlt, rfl⟩ := rangeCD_get hx
      have hlt : i < ps.length := by omega
      obtain ⟨j, hj⟩ : ∃ j, ps.length = i + 1 + j := ⟨ps.length - (i + 1), by omega⟩
      have hjl : j < ps.length := by omega
      have en : (((ps.length + 1 : Nat) : Int) - 1 + (i : Nat) * -1) = ((j + 1 : Nat) : Int) := by omega
      rw [en]
      have ej : ps.length - i = j + 1 := by omega
      have ej2 : ps.length - (i + 1) = j := by omega
      rw [ej]
      simp only [enc_nd, encPl, List.length_map, List.length_reverse, List.length_append, List.length_drop, kidsD_len, sCons_, sIf_, sRet_, sNil_, sSet_, sOwn_, sAppend_, sExtend_, onSq_l, onSq_t, sPop_, sPar_, sAsg_, sAug_, sRetN_, sDrop_, sRaise_, sFreeze_, sSetI_, sBreak_, sCont_, sTry_, dAct, dLam, dGet2, dDisp, rdReprX_l, rdReprX_t, onDict_, onKey_i, onKey_s, toOV, ofOV, dOr, dAnd, dNot, dB, dIsi, dVar_0, dVar_s, dVarB_0, dVarB_l, dVarB_s, dChain, dC, dCall, aCons, aNil, aVar, allIm_0, allIm_1, allIm_2, d2, dAllIn, startD, svOf, gN, gsC_, gsN, dTup, dCons, dNil, dLst, dAddL, dMulL, dF, dIf, dAndV, dOrV, dNotV, dNeg, dIter, dRng1, dRng2, dRng3, dEnum, dZip, dYes, dSl, dNo, dSo, dFn, wipeR, onB_, onI_, onIt_l, onIt_t, onIt_s, kRng1_, kRng2_, kRng3_, kEnum_l, kEnum_t, kZip_l, kZip_t, cutQ_t, cutQ_l, cutQ_s, rdI_, rdI0_, rdB0_, rdAdd_i, rdAdd_s, rdAdd_t, rdAdd_l, rdMul_i, rdMul_l, rdMul_t, rdEq_i, rdEq_s, rdEq0_l, rdEq0_ln, rdEq0_t, rdOrd_i, rdIsN_, rdIsN_n, rdIx_t, rdIx_l, rdIx_s, rdLen_l, rdLen_t, rdLen_s, rdTup_l, rdTup_t, rdList_l, rdList_t, rdInt_, rdSum_, rdMax_l, rdMax_i, rdMin_i, gT_, List.map_cons, List.map_nil, List.getElem?_cons_zero, List.getElem?_cons_succ, List.set_cons_zero, List.set_cons_succ, List.length_cons, List.length_nil, List.replicate, List.cons_append, List.nil_append, Option.map_some, Option.map_none, if_true, cond_true, cond_false, Bool.not_true, Bool.not_false, Nat.add_sub_cancel, Nat.sub_self, Nat.zero_add, Nat.reduceAdd, Nat.reduceSub, true_and, and_true]
      refine ⟨ps[j].enc, ixD_nat rfl (by rw [encs_map]; simp [hjl]), by omega, by omega, .im (.int (j + 1 : Nat)), ?_, by omega⟩
      rw [ej2, hlr j hjl, List.cons_append, List.reverse_cons, List.map_append]
      have e3 : (((j + 1 : Nat) : Int) - 1) = ((j : Nat) : Int) := by omega
      rw [e3]
      simp [encWD, encPl]
    · obtain ⟨s5', rfl, rfl, hile⟩ := hi
      rw [rangeCD_len] at *
      have en : (((ps.length + 1 : Nat) : Int) - 1 - 0).toNat = ps.length := by omega
      rw [en] at hile ⊢
      rw [Nat.sub_self, List.drop_zero]
      refine ⟨kidsD ps pl ++ st, fs ++ [pl], _, _, _, rfl, rfl, ?_, ?_, by omega, fun e he => ?_⟩
      · rw [← hc, List.flatMap_append, kidsD_places, List.flatMap_cons, places]
        simp
      · rw [List.map_append, sizes_app, kidsD_sizes]
      · rcases List.mem_append.mp he with q1 | q1
        · obtain ⟨p, hp, rfl⟩ := List.mem_map.mp q1
          obtain ⟨_, _, h3⟩ := List.mem_zipIdx hp
          have hmem : p.1 ∈ ps := by rw [h3]; exact List.getElem_mem _
          have := size_le_sizes hmem
          show (pl ++ [p.2]).length + p.1.size ≤ d.size
          rw [List.length_append, List.length_singleton]
          omega
        · exact hpl e (List.mem_cons_of_mem _ q1)
theorem pr_places_of {f : Addr} {fd : FuncData} {k : Nat} (T : Txt mg) (D : Def K mg "places_of" ["document"] s_places_of f fd) (G_need_document : PrD P w K mg base PT k "need_document" ["document"] spNeed) (G_all_places : PrD P w K mg base PT k "all_places" ["document"] spPlaces) : PrD P w K mg base PT (k + 1) "places_of" ["document"] (spChecked fun e => .tuple ((places e []).map encPl)) := by
  refine PrD.of D sc_places_of (fun as b Q R h => by obtain ⟨_, _, _, rfl, _⟩ := h; rfl) (by decide) fun cdv A outer s H E F hcd hG hr hF => ?_
  refine ⟨_, (dss_one (ds_ret (DE.db (de_fn hG (G_all_places.mono (by omega)) hF hr (das_cons (de_fnX hG (G_need_document.mono (by omega)) hF hr (takes_of rfl rfl rfl rfl) (das_cons (dv 0) das_nil)) das_nil))))), fun as b Q R h => ?_⟩
  obtain ⟨d, n, r, rfl, hs, hk, q⟩ := h
  simp only [sCons_, sIf_, sRet_, sNil_, sSet_, sOwn_, sAppend_, sExtend_, onSq_l, onSq_t, sPop_, sPar_, sAsg_, sAug_, sRetN_, sDrop_, sRaise_, sFreeze_, sSetI_, sBreak_, sCont_, sTry_, dAct, dLam, dGet2, dDisp, rdReprX_l, rdReprX_t, onDict_, onKey_i, onKey_s, toOV, ofOV, dOr, dAnd, dNot, dB, dIsi, dVar_0, dVar_s, dVarB_0, dVarB_l, dVarB_s, dChain, dC, dCall, aCons, aNil, aVar, allIm_0, allIm_1, allIm_2, d2, dAllIn, startD, svOf, gN, gsC_, gsN, dTup, dCons, dNil, dLst, dAddL, dMulL, dF, dIf, dAndV, dOrV, dNotV, dNeg, dIter, dRng1, dRng2, dRng3, dEnum, dZip, dYes, dSl, dNo, dSo, dFn, wipeR, onB_, onI_, onIt_l, onIt_t, onIt_s, kRng1_, kRng2_, kRng3_, kEnum_l, kEnum_t, kZip_l, kZip_t, cutQ_t, cutQ_l, cutQ_s, rdI_, rdI0_, rdB0_, rdAdd_i, rdAdd_s, rdAdd_t, rdAdd_l, rdMul_i, rdMul_l, rdMul_t, rdEq_i, rdEq_s, rdEq0_l, rdEq0_ln, rdEq0_t, rdOrd_i, rdIsN_, rdIsN_n, rdIx_t, rdIx_l, rdIx_s, rdLen_l, rdLen_t, rdLen_s, rdTup_l, rdTup_t, rdList_l, rdList_t, rdInt_, rdSum_, rdMax_l, rdMax_i, rdMin_i, gT_, List.map_cons, List.map_nil, List.getElem?_cons_zero, List.getElem?_cons_succ, List.set_cons_zero, List.set_cons_succ, List.length_cons, List.length_nil, List.replicate, List.cons_append, List.nil_append, Option.map_some, Option.map_none, if_true, cond_true, cond_false, Bool.not_true, Bool.not_false, Nat.add_sub_cancel, Nat.sub_self, Nat.zero_add, Nat.reduceAdd, Nat.reduceSub, true_and, and_true]
  refine ⟨d, n, r, rfl, hs, hk, ?_⟩
  cases r with
  | none =>
    obtain ⟨e, rfl, hz, q⟩ := q
    exact ⟨e, rfl, hz, q⟩
  | some pl => exact q
/-! ### is_place -/
def isPl : Doc → List PyData → Bool
  | _, [] => true
  | .nd _ ps, .int i :: r => match (if 0 ≤ i ∧ i < (ps.length : Nat) then ps[i.toNat]? else none) with
    | some d => isPl d r
    | none => false
  | _, _ :: _ => false
def isPlD (e : Doc) : PyData → Bool
  | .tuple ds => isPl e ds
  | _ => false
def spIsPl : DSp := fun as b Q _ => ∃ (e : Doc) (d : PyData), as = [.im e.enc, .im d] ∧ Q (.bool (isPlD e d)) b
theorem pr_is_place {f : Addr} {fd : FuncData} {k : Nat} (T : Txt mg) (D : Def K mg "is_place" ["document", "value"] s_is_place f fd) (G_is_whole : PrD P w K mg base PT k "is_whole" ["value"] spWhole) : PrD P w K mg base PT (k + 1) "is_place" ["document", "value"] spIsPl := by
  refine PrD.of D sc_is_place (fun as b Q R h => by obtain ⟨_, _, rfl, _⟩ := h; rfl) (by decide) fun cdv A outer s H E F hcd hG hr hF => ?_
  refine ⟨_, (dss_cons (ds_if (dt_not (dt_val (DE.db (de_isi kit_tup ⟨.type "tuple", by decide +kernel, rfl⟩ T.isinstance T.tuple (dvb 1))))) (
    (dss_one (ds_ret (DE.db de_bl)))) (dss_nil))
  (dss_cons (ds_set (i := 2) sc_is_place.nd rfl (Or.inl rfl) (dv 0))
  (dss_cons (ds_for (passes_of rfl) rfl (DI.two (di_any (dv 1))) (dg_name (i := 3) sc_is_place.nd rfl (Or.inl rfl)) (
    (dss_cons (ds_if (DW.dt (dw_or (dt_not (dt_val (DE.db (de_fn hG (G_is_whole.mono (by omega)) hF hr (das_cons (dv 3) das_nil))))) (dw_or1 (dt_not (dt_chain op_leO op_ltO (opd_ord hr) (opd_ord hr) (DE.db de_int) (dvb 3) (DE.db (de_op op_sub opd_i0 (DE.db (de_call (fun _ h => pe_callB call_lenA (by rfl) T.len PySem.boot_len h) cd_len (da_cons (dvb 2) da_nil))) (DE.db de_int)))))))) (
      (dss_one (ds_ret (DE.db de_bl)))) (dss_nil))
    (dss_one (ds_set (i := 2) sc_is_place.nd rfl (Or.inl rfl) (de_ix ix_seq opd_ix (dvb 2) (DE.db (de_op op_addAll opd_add (dvb 3) (DE.db de_int))) (fun _ _ => rfl)))))))
  (dss_one (ds_ret (DE.db de_bl)))))), fun as b Q R h => ?_⟩
  obtain ⟨e, d, rfl, q⟩ := h
  simp only [sCons_, sIf_, sRet_, sNil_, sSet_, sOwn_, sAppend_, sExtend_, onSq_l, onSq_t, sPop_, sPar_, sAsg_, sAug_, sRetN_, sDrop_, sRaise_, sFreeze_, sSetI_, sBreak_, sCont_, sTry_, dAct, dLam, dGet2, dDisp, rdReprX_l, rdReprX_t, onDict_, onKey_i, onKey_s, toOV, ofOV, dOr, dAnd, dNot, dB, dIsi, dVar_0, dVar_s, dVarB_0, dVarB_l, dVarB_s, dChain, dC, dCall, aCons, aNil, aVar, allIm_0, allIm_1, allIm_2, d2, dAllIn, startD, svOf, gN, gsC_, gsN, dTup, dCons, dNil, dLst, dAddL, dMulL, dF, dIf, dAndV, dOrV, dNotV, dNeg, dIter, dRng1, dRng2, dRng3, dEnum, dZip, dYes, dSl, dNo, dSo, dFn, wipeR, onB_, onI_, onIt_l, onIt_t, onIt_s, kRng1_, kRng2_, kRng3_, kEnum_l, kEnum_t, kZip_l, kZip_t, cutQ_t, cutQ_l, cutQ_s, rdI_, rdI0_, rdB0_, rdAdd_i, rdAdd_s, rdAdd_t, rdAdd_l, rdMul_i, rdMul_l, rdMul_t, rdEq_i, rdEq_s, rdEq0_l, rdEq0_ln, rdEq0_t, rdOrd_i, rdIsN_, rdIsN_n, rdIx_t, rdIx_l, rdIx_s, rdLen_l, rdLen_t, rdLen_s, rdTup_l, rdTup_t, rdList_l, rdList_t, rdInt_, rdSum_, rdMax_l, rdMax_i, rdMin_i, gT_, List.map_cons, List.map_nil, List.getElem?_cons_zero, List.getElem?_cons_succ, List.set_cons_zero, List.set_cons_succ, List.length_cons, List.length_nil, List.replicate, List.cons_append, List.nil_append, Option.map_some, Option.map_none, if_true, cond_true, cond_false, Bool.not_true, Bool.not_false, Nat.add_sub_cancel, Nat.sub_self, Nat.zero_add, Nat.reduceAdd, Nat.reduceSub, true_and, and_true]
  cases d with
  | tuple ds =>
    simp only [isTup, sCons_, sIf_, sRet_, sNil_, sSet_, sOwn_, sAppend_, sExtend_, onSq_l, onSq_t, sPop_, sPar_, sAsg_, sAug_, sRetN_, sDrop_, sRaise_, sFreeze_, sSetI_, sBreak_, sCont_, sTry_, dAct, dLam, dGet2, dDisp, rdReprX_l, rdReprX_t, onDict_, onKey_i, onKey_s, toOV, ofOV, dOr, dAnd, dNot, dB, dIsi, dVar_0, dVar_s, dVarB_0, dVarB_l, dVarB_s, dChain, dC, dCall, aCons, aNil, aVar, allIm_0, allIm_1, allIm_2, d2, dAllIn, startD, svOf, gN, gsC_, gsN, dTup, dCons, dNil, dLst, dAddL, dMulL, dF, dIf, dAndV, dOrV, dNotV, dNeg, dIter, dRng1, dRng2, dRng3, dEnum, dZip, dYes, dSl, dNo, dSo, dFn, wipeR, onB_, onI_, onIt_l, onIt_t, onIt_s, kRng1_, kRng2_, kRng3_, kEnum_l, kEnum_t, kZip_l, kZip_t, cutQ_t, cutQ_l, cutQ_s, rdI_, rdI0_, rdB0_, rdAdd_i, rdAdd_s, rdAdd_t, rdAdd_l, rdMul_i, rdMul_l, rdMul_t, rdEq_i, rdEq_s, rdEq0_l, rdEq0_ln, rdEq0_t, rdOrd_i, rdIsN_, rdIsN_n, rdIx_t, rdIx_l, rdIx_s, rdLen_l, rdLen_t, rdLen_s, rdTup_l, rdTup_t, rdList_l, rdList_t, rdInt_, rdSum_, rdMax_l, rdMax_i, rdMin_i, gT_, List.map_cons, List.map_nil, List.getElem?_cons_zero, List.getElem?_cons_succ, List.set_cons_zero, List.set_cons_succ, List.length_cons, List.length_nil, List.replicate, List.cons_append, List.nil_append, Option.map_some, Option.map_none, if_true, cond_true, cond_false, Bool.not_true, Bool.not_false, Nat.add_sub_cancel, Nat.sub_self, Nat.zero_add, Nat.reduceAdd, Nat.reduceSub, true_and, and_true]
    unfold sFor
    simp only [sCons_, sIf_, sRet_, sNil_, sSet_, sOwn_, sAppend_, sExtend_, onSq_l, onSq_t, sPop_, sPar_, sAsg_, sAug_, sRetN_, sDrop_, sRaise_, sFreeze_, sSetI_, sBreak_, sCont_, sTry_, dAct, dLam, dGet2, dDisp, rdReprX_l, rdReprX_t, onDict_, onKey_i, onKey_s, toOV, ofOV, dOr, dAnd, dNot, dB, dIsi, dVar_0, dVar_s, dVarB_0, dVarB_l, dVarB_s, dChain, dC, dCall, aCons, aNil, aVar, allIm_0, allIm_1, allIm_2, d2, dAllIn, startD, svOf, gN, gsC_, gsN, dTup, dCons, dNil, dLst, dAddL, dMulL, dF, dIf, dAndV, dOrV, dNotV, dNeg, dIter, dRng1, dRng2, dRng3, dEnum, dZip, dYes, dSl, dNo, dSo, dFn, wipeR, onB_, onI_, onIt_l, onIt_t, onIt_s, kRng1_, kRng2_, kRng3_, kEnum_l, kEnum_t, kZip_l, kZip_t, cutQ_t, cutQ_l, cutQ_s, rdI_, rdI0_, rdB0_, rdAdd_i, rdAdd_s, rdAdd_t, rdAdd_l, rdMul_i, rdMul_l, rdMul_t, rdEq_i, rdEq_s, rdEq0_l, rdEq0_ln, rdEq0_t, rdOrd_i, rdIsN_, rdIsN_n, rdIx_t, rdIx_l, rdIx_s, rdLen_l, rdLen_t, rdLen_s, rdTup_l, rdTup_t, rdList_l, rdList_t, rdInt_, rdSum_, rdMax_l, rdMax_i, rdMin_i, gT_, List.map_cons, List.map_nil, List.getElem?_cons_zero, List.getElem?_cons_succ, List.set_cons_zero, List.set_cons_succ, List.length_cons, List.length_nil, List.replicate, List.cons_append, List.nil_append, Option.map_some, Option.map_none, if_true, cond_true, cond_false, Bool.not_true, Bool.not_false, Nat.add_sub_cancel, Nat.sub_self, Nat.zero_add, Nat.reduceAdd, Nat.reduceSub, true_and, and_true]
    refine ⟨fun i ρ b2 => ∃ (z : Doc) (s3 : SV), ρ = [.im e.enc, .im (.tuple ds), .im z.enc, s3] ∧ b2 = b ∧ isPl z (ds.drop i) = isPl e ds, ⟨e, .no, rfl, rfl, rfl⟩, fun i x ρ b2 hx hi => ?_, fun ρ b2 hi => ?_⟩
    · obtain ⟨z, s3, rfl, rfl, hp⟩ := hi
      simp only [sCons_, sIf_, sRet_, sNil_, sSet_, sOwn_, sAppend_, sExtend_, onSq_l, onSq_t, sPop_, sPar_, sAsg_, sAug_, sRetN_, sDrop_, sRaise_, sFreeze_, sSetI_, sBreak_, sCont_, sTry_, dAct, dLam, dGet2, dDisp, rdReprX_l, rdReprX_t, onDict_, onKey_i, onKey_s, toOV, ofOV, dOr, dAnd, dNot, dB, dIsi, dVar_0, dVar_s, dVarB_0, dVarB_l, dVarB_s, dChain, dC, dCall, aCons, aNil, aVar, allIm_0, allIm_1, allIm_2, d2, dAllIn, startD, svOf, gN, gsC_, gsN, dTup, dCons, dNil, dLst, dAddL, dMulL, dF, dIf, dAndV, dOrV, dNotV, dNeg, dIter, dRng1, dRng2, dRng3, dEnum, dZip, dYes, dSl, dNo, dSo, dFn, wipeR, onB_, onI_, onIt_l, onIt_t, onIt_s, kRng1_, kRng2_, kRng3_, kEnum_l, kEnum_t, kZip_l, kZip_t, cutQ_t, cutQ_l, cutQ_s, rdI_, rdI0_, rdB0_, rdAdd_i, rdAdd_s, rdAdd_t, rdAdd_l, rdMul_i, rdMul_l, rdMul_t, rdEq_i, rdEq_s, rdEq0_l, rdEq0_ln, rdEq0_t, rdOrd_i, rdIsN_, rdIsN_n, rdIx_t, rdIx_l, rdIx_s, rdLen_l, rdLen_t, rdLen_s, rdTup_l, rdTup_t, rdList_l, rdList_t, rdInt_, rdSum_, rdMax_l, rdMax_i, rdMin_i, gT_, List.map_cons, List.map_nil, List.getElem?_cons_zero, List.getElem?_cons_succ, List.set_cons_zero, List.set_cons_succ, List.length_cons, List.length_nil, List.replicate, List.cons_append, List.nil_append, Option.map_some, Option.map_none, if_true, cond_true, cond_false, Bool.not_true, Bool.not_false, Nat.add_sub_cancel, Nat.sub_self, Nat.zero_add, Nat.reduceAdd, Nat.reduceSub, true_and, and_true]
      refine ⟨x, rfl, ?_⟩
      have hd := List.drop_eq_getElem?_toList_append (l := ds) (i := i)
      rw [hx] at hd
      rw [hd] at hp
      obtain ⟨n, ps⟩ := z
      cases x with
      | int j =>
        simp only [isWhole, enc_nd, encs_len, sCons_, sIf_, sRet_, sNil_, sSet_, sOwn_, sAppend_, sExtend_, onSq_l, onSq_t, sPop_, sPar_, sAsg_, sAug_, sRetN_, sDrop_, sRaise_, sFreeze_, sSetI_, sBreak_, sCont_, sTry_, dAct, dLam, dGet2, dDisp, rdReprX_l, rdReprX_t, onDict_, onKey_i, onKey_s, toOV, ofOV, dOr, dAnd, dNot, dB, dIsi, dVar_0, dVar_s, dVarB_0, dVarB_l, dVarB_s, dChain, dC, dCall, aCons, aNil, aVar, allIm_0, allIm_1, allIm_2, d2, dAllIn, startD, svOf, gN, gsC_, gsN, dTup, dCons, dNil, dLst, dAddL, dMulL, dF, dIf, dAndV, dOrV, dNotV, dNeg, dIter, dRng1, dRng2, dRng3, dEnum, dZip, dYes, dSl, dNo, dSo, dFn, wipeR, onB_, onI_, onIt_l, onIt_t, onIt_s, kRng1_, kRng2_, kRng3_, kEnum_l, kEnum_t, kZip_l, kZip_t, cutQ_t, cutQ_l, cutQ_s, rdI_, rdI0_, rdB0_, rdAdd_i, rdAdd_s, rdAdd_t, rdAdd_l, rdMul_i, rdMul_l, rdMul_t, rdEq_i, rdEq_s, rdEq0_l, rdEq0_ln, rdEq0_t, rdOrd_i, rdIsN_, rdIsN_n, rdIx_t, rdIx_l, rdIx_s, rdLen_l, rdLen_t, rdLen_s, rdTup_l, rdTup_t, rdList_l, rdList_t, rdInt_, rdSum_, rdMax_l, rdMax_i, rdMin_i, gT_, List.map_cons, List.map_nil, List.getElem?_cons_zero, List.getElem?_cons_succ, List.set_cons_zero, List.set_cons_succ, List.length_cons, List.length_nil, List.replicate, List.cons_append, List.nil_append, Option.map_some, Option.map_none, if_true, cond_true, cond_false, Bool.not_true, Bool.not_false, Nat.add_sub_cancel, Nat.sub_self, Nat.zero_add, Nat.reduceAdd, Nat.reduceSub, true_and, and_true]
        by_cases h0 : 0 ≤ j
        · rw [decide_eq_true h0]
          have ee : (((ps.length + 1 : Nat) : Int) - 1) = ((ps.length : Nat) : Int) := by omega
          rw [ee]
          by_cases h1 : j < (ps.length : Nat)
          · have hx1 : ps[j.toNat]? = some (ps[j.toNat]'(by omega)) := List.getElem?_eq_getElem (by omega)
            simp only [sCons_, sIf_, sRet_, sNil_, sSet_, sOwn_, sAppend_, sExtend_, onSq_l, onSq_t, sPop_, sPar_, sAsg_, sAug_, sRetN_, sDrop_, sRaise_, sFreeze_, sSetI_, sBreak_, sCont_, sTry_, dAct, dLam, dGet2, dDisp, rdReprX_l, rdReprX_t, onDict_, onKey_i, onKey_s, toOV, ofOV, dOr, dAnd, dNot, dB, dIsi, dVar_0, dVar_s, dVarB_0, dVarB_l, dVarB_s, dChain, dC, dCall, aCons, aNil, aVar, allIm_0, allIm_1, allIm_2, d2, dAllIn, startD, svOf, gN, gsC_, gsN, dTup, dCons, dNil, dLst, dAddL, dMulL, dF, dIf, dAndV, dOrV, dNotV, dNeg, dIter, dRng1, dRng2, dRng3, dEnum, dZip, dYes, dSl, dNo, dSo, dFn, wipeR, onB_, onI_, onIt_l, onIt_t, onIt_s, kRng1_, kRng2_, kRng3_, kEnum_l, kEnum_t, kZip_l, kZip_t, cutQ_t, cutQ_l, cutQ_s, rdI_, rdI0_, rdB0_, rdAdd_i, rdAdd_s, rdAdd_t, rdAdd_l, rdMul_i, rdMul_l, rdMul_t, rdEq_i, rdEq_s, rdEq0_l, rdEq0_ln, rdEq0_t, rdOrd_i, rdIsN_, rdIsN_n, rdIx_t, rdIx_l, rdIx_s, rdLen_l, rdLen_t, rdLen_s, rdTup_l, rdTup_t, rdList_l, rdList_t, rdInt_, rdSum_, rdMax_l, rdMax_i, rdMin_i, gT_, List.map_cons, List.map_nil, List.getElem?_cons_zero, List.getElem?_cons_succ, List.set_cons_zero, List.set_cons_succ, List.length_cons, List.length_nil, List.replicate, List.cons_append, List.nil_append, Option.map_some, Option.map_none, if_true, cond_true, cond_false, Bool.not_true, Bool.not_false, Nat.add_sub_cancel, Nat.sub_self, Nat.zero_add, Nat.reduceAdd, Nat.reduceSub, true_and, and_true]
            refine Eq.mpr (congrArg (fun c => cond (!c) _ _) (decide_eq_true h1)) ?_
            refine ⟨(ps[j.toNat]'(by omega)).enc, ixD_nat (n := j.toNat + 1) (by omega) (by rw [List.getElem?_cons_succ, encs_map, List.getElem?_map, hx1]; rfl), _, .im (.int j), rfl, ?_⟩
            rw [← hp]
            show _ = isPl (.nd n ps) (.int j :: _)
            rw [isPl, if_pos ⟨h0, h1⟩, hx1]
            rfl
          · refine Eq.mpr (congrArg (fun c => cond (!c) _ _) (decide_eq_false h1)) ?_
            have : isPl e ds = false := by
              rw [← hp]
              show isPl (.nd n ps) (.int j :: _) = _
              rw [isPl, if_neg (fun z => h1 z.2)]
            rw [show isPlD e (.tuple ds) = false from this] at q
            exact q
        · refine Eq.mpr (congrArg (fun c => cond c _ _) (decide_eq_false h0)) ?_
          have : isPl e ds = false := by
            rw [← hp]
            show isPl (.nd n ps) (.int j :: _) = _
            rw [isPl, if_neg (fun z => h0 z.1)]
          rw [show isPlD e (.tuple ds) = false from this] at q
          exact q
      | _ =>
        have : isPl e ds = false := by rw [← hp]; rfl
        rw [show isPlD e (.tuple ds) = false from this] at q
        exact q
    · obtain ⟨z, s3, rfl, rfl, hp⟩ := hi
      have : isPl e ds = true := by
        rw [← hp, List.drop_length]
        cases z
        rfl
      rw [show isPlD e (.tuple ds) = true from this] at q
      exact q
  | _ => exact q
/-! ### part_there -/
theorem part_cons {n : Str} {ps : List Doc} {i : Nat} {r : List Nat} {z : Doc} (h : (Doc.nd n ps).part (i :: r) = some z) : ∃ d, ps[i]? = some d ∧ d.part r = some z := by
  rw [Doc.part] at h
  exact parts_get h
def spThere : DSp := fun as b Q _ => ∃ (e : Doc) (pl : List Nat) (z : Doc), as = [.im e.enc, .im (encPl pl)] ∧ e.part pl = some z ∧ Q z.enc b
theorem pr_part_there {f : Addr} {fd : FuncData} {k : Nat} (T : Txt mg) (D : Def K mg "part_there" ["document", "place"] s_part_there f fd) : PrD P w K mg base PT (k + 1) "part_there" ["document", "place"] spThere := by
  refine PrD.of D sc_part_there (fun as b Q R h => by obtain ⟨_, _, _, rfl, _⟩ := h; rfl) (by decide) fun cdv A outer s H E F hcd hG hr hF => ?_
  refine ⟨_, (dss_cons (ds_set (i := 2) sc_part_there.nd rfl (Or.inl rfl) (dv 0))
  (dss_cons (ds_for (passes_of rfl) rfl (DI.two (di_any (dv 1))) (dg_name (i := 3) sc_part_there.nd rfl (Or.inl rfl)) (
    (dss_one (ds_set (i := 2) sc_part_there.nd rfl (Or.inl rfl) (de_ix ix_seq opd_ix (dvb 2) (DE.db (de_op op_addAll opd_add (dvb 3) (DE.db de_int))) (fun _ _ => rfl))))))
  (dss_one (ds_ret (dvb 2))))), fun as b Q R h => ?_⟩
  obtain ⟨e, pl, z, rfl, hz, q⟩ := h
  simp only [sCons_, sIf_, sRet_, sNil_, sSet_, sOwn_, sAppend_, sExtend_, onSq_l, onSq_t, sPop_, sPar_, sAsg_, sAug_, sRetN_, sDrop_, sRaise_, sFreeze_, sSetI_, sBreak_, sCont_, sTry_, dAct, dLam, dGet2, dDisp, rdReprX_l, rdReprX_t, onDict_, onKey_i, onKey_s, toOV, ofOV, dOr, dAnd, dNot, dB, dIsi, dVar_0, dVar_s, dVarB_0, dVarB_l, dVarB_s, dChain, dC, dCall, aCons, aNil, aVar, allIm_0, allIm_1, allIm_2, d2, dAllIn, startD, svOf, gN, gsC_, gsN, dTup, dCons, dNil, dLst, dAddL, dMulL, dF, dIf, dAndV, dOrV, dNotV, dNeg, dIter, dRng1, dRng2, dRng3, dEnum, dZip, dYes, dSl, dNo, dSo, dFn, wipeR, onB_, onI_, onIt_l, onIt_t, onIt_s, kRng1_, kRng2_, kRng3_, kEnum_l, kEnum_t, kZip_l, kZip_t, cutQ_t, cutQ_l, cutQ_s, rdI_, rdI0_, rdB0_, rdAdd_i, rdAdd_s, rdAdd_t, rdAdd_l, rdMul_i, rdMul_l, rdMul_t, rdEq_i, rdEq_s, rdEq0_l, rdEq0_ln, rdEq0_t, rdOrd_i, rdIsN_, rdIsN_n, rdIx_t, rdIx_l, rdIx_s, rdLen_l, rdLen_t, rdLen_s, rdTup_l, rdTup_t, rdList_l, rdList_t, rdInt_, rdSum_, rdMax_l, rdMax_i, rdMin_i, gT_, List.map_cons, List.map_nil, List.getElem?_cons_zero, List.getElem?_cons_succ, List.set_cons_zero, List.set_cons_succ, List.length_cons, List.length_nil, List.replicate, List.cons_append, List.nil_append, Option.map_some, Option.map_none, if_true, cond_true, cond_false, Bool.not_true, Bool.not_false, Nat.add_sub_cancel, Nat.sub_self, Nat.zero_add, Nat.reduceAdd, Nat.reduceSub, true_and, and_true]
  unfold sFor
  simp only [encPl, sCons_, sIf_, sRet_, sNil_, sSet_, sOwn_, sAppend_, sExtend_, onSq_l, onSq_t, sPop_, sPar_, sAsg_, sAug_, sRetN_, sDrop_, sRaise_, sFreeze_, sSetI_, sBreak_, sCont_, sTry_, dAct, dLam, dGet2, dDisp, rdReprX_l, rdReprX_t, onDict_, onKey_i, onKey_s, toOV, ofOV, dOr, dAnd, dNot, dB, dIsi, dVar_0, dVar_s, dVarB_0, dVarB_l, dVarB_s, dChain, dC, dCall, aCons, aNil, aVar, allIm_0, allIm_1, allIm_2, d2, dAllIn, startD, svOf, gN, gsC_, gsN, dTup, dCons, dNil, dLst, dAddL, dMulL, dF, dIf, dAndV, dOrV, dNotV, dNeg, dIter, dRng1, dRng2, dRng3, dEnum, dZip, dYes, dSl, dNo, dSo, dFn, wipeR, onB_, onI_, onIt_l, onIt_t, onIt_s, kRng1_, kRng2_, kRng3_, kEnum_l, kEnum_t, kZip_l, kZip_t, cutQ_t, cutQ_l, cutQ_s, rdI_, rdI0_, rdB0_, rdAdd_i, rdAdd_s, rdAdd_t, rdAdd_l, rdMul_i, rdMul_l, rdMul_t, rdEq_i, rdEq_s, rdEq0_l, rdEq0_ln, rdEq0_t, rdOrd_i, rdIsN_, rdIsN_n, rdIx_t, rdIx_l, rdIx_s, rdLen_l, rdLen_t, rdLen_s, rdTup_l, rdTup_t, rdList_l, rdList_t, rdInt_, rdSum_, rdMax_l, rdMax_i, rdMin_i, gT_, List.map_cons, List.map_nil, List.getElem?_cons_zero, List.getElem?_cons_succ, List.set_cons_zero, List.set_cons_succ, List.length_cons, List.length_nil, List.replicate, List.cons_append, List.nil_append, Option.map_some, Option.map_none, if_true, cond_true, cond_false, Bool.not_true, Bool.not_false, Nat.add_sub_cancel, Nat.sub_self, Nat.zero_add, Nat.reduceAdd, Nat.reduceSub, true_and, and_true]
  refine ⟨fun i ρ b2 => ∃ (y : Doc) (s3 : SV), ρ = [.im e.enc, .im (encPl pl), .im y.enc, s3] ∧ b2 = b ∧ y.part (pl.drop i) = some z, ⟨e, .no, rfl, rfl, hz⟩, fun i x ρ b2 hx hi => ?_, fun ρ b2 hi => ?_⟩
  · obtain ⟨y, s3, rfl, rfl, hp⟩ := hi
    rw [List.getElem?_map] at hx
    obtain ⟨j, hj, rfl⟩ : ∃ j, pl[i]? = some j ∧ PyData.int (j : Nat) = x := by
      cases h : pl[i]? with
      | none => rw [h] at hx; cases hx
      | some e => rw [h] at hx; cases hx; exact ⟨e, rfl, rfl⟩
    have hd := List.drop_eq_getElem?_toList_append (l := pl) (i := i)
    rw [hj] at hd
    rw [hd] at hp
    obtain ⟨n, ps⟩ := y
    obtain ⟨d, h1, h2⟩ := part_cons hp
    simp only [enc_nd, sCons_, sIf_, sRet_, sNil_, sSet_, sOwn_, sAppend_, sExtend_, onSq_l, onSq_t, sPop_, sPar_, sAsg_, sAug_, sRetN_, sDrop_, sRaise_, sFreeze_, sSetI_, sBreak_, sCont_, sTry_, dAct, dLam, dGet2, dDisp, rdReprX_l, rdReprX_t, onDict_, onKey_i, onKey_s, toOV, ofOV, dOr, dAnd, dNot, dB, dIsi, dVar_0, dVar_s, dVarB_0, dVarB_l, dVarB_s, dChain, dC, dCall, aCons, aNil, aVar, allIm_0, allIm_1, allIm_2, d2, dAllIn, startD, svOf, gN, gsC_, gsN, dTup, dCons, dNil, dLst, dAddL, dMulL, dF, dIf, dAndV, dOrV, dNotV, dNeg, dIter, dRng1, dRng2, dRng3, dEnum, dZip, dYes, dSl, dNo, dSo, dFn, wipeR, onB_, onI_, onIt_l, onIt_t, onIt_s, kRng1_, kRng2_, kRng3_, kEnum_l, kEnum_t, kZip_l, kZip_t, cutQ_t, cutQ_l, cutQ_s, rdI_, rdI0_, rdB0_, rdAdd_i, rdAdd_s, rdAdd_t, rdAdd_l, rdMul_i, rdMul_l, rdMul_t, rdEq_i, rdEq_s, rdEq0_l, rdEq0_ln, rdEq0_t, rdOrd_i, rdIsN_, rdIsN_n, rdIx_t, rdIx_l, rdIx_s, rdLen_l, rdLen_t, rdLen_s, rdTup_l, rdTup_t, rdList_l, rdList_t, rdInt_, rdSum_, rdMax_l, rdMax_i, rdMin_i, gT_, List.map_cons, List.map_nil, List.getElem?_cons_zero, List.getElem?_cons_succ, List.set_cons_zero, List.set_cons_succ, List.length_cons, List.length_nil, List.replicate, List.cons_append, List.nil_append, Option.map_some, Option.map_none, if_true, cond_true, cond_false, Bool.not_true, Bool.not_false, Nat.add_sub_cancel, Nat.sub_self, Nat.zero_add, Nat.reduceAdd, Nat.reduceSub, true_and, and_true]
    exact ⟨d.enc, ixD_nat (n := j + 1) (by omega) (by rw [List.getElem?_cons_succ, encs_map, List.getElem?_map, h1]; rfl), d, _, rfl, h2⟩
  · obtain ⟨y, s3, rfl, rfl, hp⟩ := hi
    rw [List.length_map, List.drop_length] at hp
    have e0 : y = z := by
      cases y
      rw [Doc.part] at hp
      exact Option.some.inj hp
    rw [e0]
    exact q
end
end K00

set_option Elab.async false
set_option linter.all false
set_option maxRecDepth 100000
set_option maxHeartbeats 4000000
/-! D0d: parts put at places. -/
namespace K00
open PySem PySem.Spec PyProof.Rows L2 Lf Df
open GxR (TabB TabG Tabbed GenS)
abbrev s_with_part : Stmt := topS 24
abbrev N_with_part : List Str := ["document", "place", "part", "line", "number", "found", "depth", "above"]
theorem sc_with_part : FnScope N_with_part ["document", "place", "part"] (defScope s_with_part) := ⟨rfl, rfl, rfl, by decide +kernel, rfl, by decide +kernel, by decide +kernel⟩
abbrev s_part_at : Stmt := topS 25
abbrev N_part_at : List Str := ["document", "place"]
theorem sc_part_at : FnScope N_part_at ["document", "place"] (defScope s_part_at) := ⟨rfl, rfl, rfl, by decide +kernel, rfl, by decide +kernel, by decide +kernel⟩
abbrev s_put_at : Stmt := topS 26
abbrev N_put_at : List Str := ["document", "place", "part"]
theorem sc_put_at : FnScope N_put_at ["document", "place", "part"] (defScope s_put_at) := ⟨rfl, rfl, rfl, by decide +kernel, rfl, by decide +kernel, by decide +kernel⟩
/-- a document's data with other data at a place -/
def putD : Doc → List Nat → PyData → PyData
  | _, [], x => x
  | .nd n ps, i :: r, x => .tuple (.str n :: ((encs ps).take i ++ ((match ps[i]? with | some d => putD d r x | none => .none) :: (encs ps).drop (i + 1))))
theorem putD_cons {n : Str} {ps : List Doc} {i : Nat} {r : List Nat} {x : PyData} {d : Doc} (h : ps[i]? = some d) : putD (.nd n ps) (i :: r) x = .tuple (.str n :: ((encs ps).take i ++ (putD d r x :: (encs ps).drop (i + 1)))) := by
  rw [putD, h]
theorem putD_enc : ∀ (pl : List Nat) (e z y : Doc), e.part pl = some z → (e.put pl y).enc = putD e pl y.enc
  | [], e, z, y, h => by
    cases e
    rw [Doc.put, putD]
  | i :: r, .nd n ps, z, y, h => by
    obtain ⟨d, h1, h2⟩ := part_cons h
    rw [Doc.put, enc_nd, puts_encs h1, putD_cons h1, putD_enc r d z y h2]
theorem cutTo (x : PyData) (r : List PyData) (i : Int) (n : Nat) (e : i = (n + 1 : Nat)) : Df.cutD (x :: r) none (some i) = x :: r.take n := by
  subst e
  unfold Df.cutD
  rw [HT.sIx_none, show HT.sIx (x :: r).length (x :: r).length (some ((n + 1 : Nat) : Int)) = min (n + 1) (x :: r).length from HT.sIx_nat _ _ _]
  rw [List.drop_zero, Nat.sub_zero, List.length_cons]
  by_cases h : n ≤ r.length
  · rw [Nat.min_eq_left (by omega), List.take_succ_cons]
  · rw [Nat.min_eq_right (by omega), List.take_succ_cons, List.take_of_length_le (Nat.le_refl _), List.take_of_length_le (by omega)]
theorem cutFrom (x : PyData) (r : List PyData) (i : Int) (n : Nat) (e : i = (n + 1 : Nat)) : Df.cutD (x :: r) (some i) none = r.drop n := by
  subst e
  unfold Df.cutD
  rw [HT.sIx_none, show HT.sIx (x :: r).length 0 (some ((n + 1 : Nat) : Int)) = min (n + 1) (x :: r).length from HT.sIx_nat _ _ _]
  by_cases h : n ≤ r.length
  · rw [Nat.min_eq_left (by rw [List.length_cons]; omega), List.drop_succ_cons]
    exact List.take_of_length_le (by rw [List.length_drop, List.length_cons]; omega)
  · rw [Nat.min_eq_right (by rw [List.length_cons]; omega), List.drop_of_length_le (Nat.le_refl _), List.drop_of_length_le (by omega), List.take_nil]
theorem part_take : ∀ (pl : List Nat) (e z : Doc) (j : Nat), e.part pl = some z → ∃ y, e.part (pl.take j) = some y ∧ y.part (pl.drop j) = some z
  | [], e, z, j, h => ⟨e, by simp [Doc.part], by simpa using h⟩
  | i :: r, e, z, 0, h => ⟨e, by simp [Doc.part], h⟩
  | i :: r, .nd n ps, z, j + 1, h => by
    obtain ⟨d, h1, h2⟩ := part_cons h
    obtain ⟨y, h3, h4⟩ := part_take r d z j h2
    refine ⟨y, ?_, by simpa using h4⟩
    rw [List.take_succ_cons, Doc.part]
    exact parts_of h1 h3
theorem part_snoc : ∀ (pl : List Nat) (e : Doc) (n : Str) (ps : List Doc) (i : Nat) (d : Doc), e.part pl = some (.nd n ps) → ps[i]? = some d → e.part (pl ++ [i]) = some d
  | [], e, n, ps, i, d, h, h1 => by
    cases e
    rw [Doc.part] at h
    cases h
    rw [List.nil_append, Doc.part]
    exact parts_of h1 (by cases d; rw [Doc.part])
  | j :: r, .nd m qs, n, ps, i, d, h, h1 => by
    obtain ⟨c, h2, h3⟩ := part_cons h
    rw [List.cons_append, Doc.part]
    exact parts_of h2 (part_snoc r c n ps i d h3 h1)
mutual
theorem deep_size : ∀ d : Doc, d.deep ≤ d.size
  | .nd n ps => by
    have := deeps_sizes ps
    rw [Doc.deep, Doc.size]
    omega
theorem deeps_sizes : ∀ ps : List Doc, deeps ps ≤ sizes ps
  | [] => by simp [deeps, sizes]
  | d :: r => by
    have h1 := deep_size d
    have h2 := deeps_sizes r
    rw [deeps, sizes]
    omega
end
theorem sizes_enc (ps : List Doc) : (encs ps).length ≤ sizes ps := by rw [encs_len]; exact len_le_sizes ps
theorem part_size : ∀ (pl : List Nat) (e z : Doc), e.part pl = some z → z.size ≤ e.size
  | [], e, z, h => by
    cases e
    rw [Doc.part] at h
    cases h
    exact Nat.le_refl _
  | i :: r, .nd n ps, z, h => by
    obtain ⟨d, h1, h2⟩ := part_cons h
    have h3 := part_size r d z h2
    have h4 := size_le_sizes (List.mem_of_getElem? h1)
    rw [Doc.size]
    omega
section
variable {P : Program} {w : World} {K : PySem.W.Frag} {mg : Str → Option Value} {base : Heap} {PT : List (Addr × Option Str)}
/-! ### with_part -/
def spWith : DSp := fun as b Q _ => ∃ (e : Doc) (pl : List Nat) (z : Doc) (x : PyData), as = [.im e.enc, .im (encPl pl), .im x] ∧ e.size ≤ 2000 ∧ e.part pl = some z ∧ Q (putD e pl x) b
theorem pr_with_part {f : Addr} {fd : FuncData} {k : Nat} (T : Txt mg) (D : Def K mg "with_part" ["document", "place", "part"] s_with_part f fd) : PrD P w K mg base PT (k + 1) "with_part" ["document", "place", "part"] spWith := by
  refine PrD.of D sc_with_part (fun as b Q R h => by obtain ⟨_, _, _, _, rfl, _⟩ := h; rfl) (by decide) fun cdv A outer s H E F hcd hG hr hF => ?_
  refine ⟨_, (dss_cons (ds_own (i := 3) sc_with_part.nd rfl (Or.inl rfl) (df_lst (dl_cons (dv 0) dl_nil)))
  (dss_cons (ds_for (passes_of rfl) rfl (DI.two (di_any (dv 1))) (dg_name (i := 4) sc_with_part.nd rfl (Or.inl rfl)) (
    (dss_one (ds_append (i := 3) rfl (.inl rfl) (de_ix ix_seq opd_ix (DE.db (de_ix ix_seq opd_ix (dvb 3) (DE.db (de_neg de_int)) (fun _ _ => rfl))) (DE.db (de_op op_addAll opd_add (dvb 4) (DE.db de_int))) (fun _ _ => rfl))))))
  (dss_cons (ds_set (i := 5) sc_with_part.nd rfl (Or.inl rfl) (dv 2))
  (dss_cons (ds_for (passes_of rfl) rfl (DI.two (di_range3 (by rfl) T.range (dl_cons (de_op op_sub opd_i0 (DE.db (de_call (fun _ h => pe_callB call_lenA (by rfl) T.len PySem.boot_len h) cd_len (da_cons (dvb 1) da_nil))) (DE.db de_int)) (dl_cons (de_neg de_int) (dl_cons (de_neg de_int) dl_nil))))) (dg_name (i := 6) sc_with_part.nd rfl (Or.inl rfl)) (
    (dss_cons (ds_set (i := 7) sc_with_part.nd rfl (Or.inl rfl) (de_ix ix_seq opd_ix (dvb 3) (dvb 6) (fun _ _ => rfl)))
    (dss_cons (ds_set (i := 4) sc_with_part.nd rfl (Or.inl rfl) (de_ix ix_seq opd_ix (dvb 1) (dvb 6) (fun _ _ => rfl)))
    (dss_one (ds_set (i := 5) sc_with_part.nd rfl (Or.inl rfl) (de_op op_addAll opd_add (DE.db (de_op op_addAll opd_add (DE.db (de_slice (dvb 7) do_none (do_some (de_op op_addAll opd_add (dvb 4) (DE.db de_int))))) (DE.db (de_tup (dl_cons (dv 5) dl_nil))))) (DE.db (de_slice (dvb 7) (do_some (de_op op_addAll opd_add (dvb 4) (DE.db de_int))) do_none)))))))))
  (dss_one (ds_ret (dvb 5))))))), fun as b Q R h => ?_⟩
  obtain ⟨e, pl, z, x, rfl, hsz, hz, q⟩ := h
  have hpl := part_len pl e z hz
  have hds : ∀ d : Doc, d.deep ≤ d.size := deep_size
  have hpl2 : pl.length ≤ 2000 := by have := hds e; omega
  simp only [sCons_, sIf_, sRet_, sNil_, sSet_, sOwn_, sAppend_, sExtend_, onSq_l, onSq_t, sPop_, sPar_, sAsg_, sAug_, sRetN_, sDrop_, sRaise_, sFreeze_, sSetI_, sBreak_, sCont_, sTry_, dAct, dLam, dGet2, dDisp, rdReprX_l, rdReprX_t, onDict_, onKey_i, onKey_s, toOV, ofOV, dOr, dAnd, dNot, dB, dIsi, dVar_0, dVar_s, dVarB_0, dVarB_l, dVarB_s, dChain, dC, dCall, aCons, aNil, aVar, allIm_0, allIm_1, allIm_2, d2, dAllIn, startD, svOf, gN, gsC_, gsN, dTup, dCons, dNil, dLst, dAddL, dMulL, dF, dIf, dAndV, dOrV, dNotV, dNeg, dIter, dRng1, dRng2, dRng3, dEnum, dZip, dYes, dSl, dNo, dSo, dFn, wipeR, onB_, onI_, onIt_l, onIt_t, onIt_s, kRng1_, kRng2_, kRng3_, kEnum_l, kEnum_t, kZip_l, kZip_t, cutQ_t, cutQ_l, cutQ_s, rdI_, rdI0_, rdB0_, rdAdd_i, rdAdd_s, rdAdd_t, rdAdd_l, rdMul_i, rdMul_l, rdMul_t, rdEq_i, rdEq_s, rdEq0_l, rdEq0_ln, rdEq0_t, rdOrd_i, rdIsN_, rdIsN_n, rdIx_t, rdIx_l, rdIx_s, rdLen_l, rdLen_t, rdLen_s, rdTup_l, rdTup_t, rdList_l, rdList_t, rdInt_, rdSum_, rdMax_l, rdMax_i, rdMin_i, gT_, List.map_cons, List.map_nil, List.getElem?_cons_zero, List.getElem?_cons_succ, List.set_cons_zero, List.set_cons_succ, List.length_cons, List.length_nil, List.replicate, List.cons_append, List.nil_append, Option.map_some, Option.map_none, if_true, cond_true, cond_false, Bool.not_true, Bool.not_false, Nat.add_sub_cancel, Nat.sub_self, Nat.zero_add, Nat.reduceAdd, Nat.reduceSub, true_and, and_true]
  unfold sFor
  simp only [encPl, sCons_, sIf_, sRet_, sNil_, sSet_, sOwn_, sAppend_, sExtend_, onSq_l, onSq_t, sPop_, sPar_, sAsg_, sAug_, sRetN_, sDrop_, sRaise_, sFreeze_, sSetI_, sBreak_, sCont_, sTry_, dAct, dLam, dGet2, dDisp, rdReprX_l, rdReprX_t, onDict_, onKey_i, onKey_s, toOV, ofOV, dOr, dAnd, dNot, dB, dIsi, dVar_0, dVar_s, dVarB_0, dVarB_l, dVarB_s, dChain, dC, dCall, aCons, aNil, aVar, allIm_0, allIm_1, allIm_2, d2, dAllIn, startD, svOf, gN, gsC_, gsN, dTup, dCons, dNil, dLst, dAddL, dMulL, dF, dIf, dAndV, dOrV, dNotV, dNeg, dIter, dRng1, dRng2, dRng3, dEnum, dZip, dYes, dSl, dNo, dSo, dFn, wipeR, onB_, onI_, onIt_l, onIt_t, onIt_s, kRng1_, kRng2_, kRng3_, kEnum_l, kEnum_t, kZip_l, kZip_t, cutQ_t, cutQ_l, cutQ_s, rdI_, rdI0_, rdB0_, rdAdd_i, rdAdd_s, rdAdd_t, rdAdd_l, rdMul_i, rdMul_l, rdMul_t, rdEq_i, rdEq_s, rdEq0_l, rdEq0_ln, rdEq0_t, rdOrd_i, rdIsN_, rdIsN_n, rdIx_t, rdIx_l, rdIx_s, rdLen_l, rdLen_t, rdLen_s, rdTup_l, rdTup_t, rdList_l, rdList_t, rdInt_, rdSum_, rdMax_l, rdMax_i, rdMin_i, gT_, List.map_cons, List.map_nil, List.getElem?_cons_zero, List.getElem?_cons_succ, List.set_cons_zero, List.set_cons_succ, List.length_cons, List.length_nil, List.replicate, List.cons_append, List.nil_append, Option.map_some, Option.map_none, if_true, cond_true, cond_false, Bool.not_true, Bool.not_false, Nat.add_sub_cancel, Nat.sub_self, Nat.zero_add, Nat.reduceAdd, Nat.reduceSub, true_and, and_true]
  refine ⟨fun i ρ b2 => ∃ (L : List Doc) (s4 : SV), ρ = [.im e.enc, .im (encPl pl), .im x, .ls (encs L), s4, .no, .no, .no] ∧ b2 = b ∧ L.length = i + 1 ∧ ∀ j, j ≤ i → e.part (pl.take j) = L[j]?, ⟨[e], .no, by simp [encs, encPl], rfl, rfl, fun j hj => ?_⟩, fun i y ρ b2 hx hi => ?_, fun ρ b2 hi => ?_⟩
  · have : j = 0 := by omega
    subst this
    simp [Doc.part]
  · obtain ⟨L, s4, rfl, rfl, hl, hL⟩ := hi
    rw [List.getElem?_map] at hx
    obtain ⟨c, hc, rfl⟩ : ∃ c, pl[i]? = some c ∧ PyData.int (c : Nat) = y := by
      cases h : pl[i]? with
      | none => rw [h] at hx; cases hx
      | some e => rw [h] at hx; cases hx; exact ⟨e, rfl, rfl⟩
    have hil := (List.getElem?_eq_some_iff.mp hc).1
    obtain ⟨y, h1, h2⟩ := part_take pl e z i hz
    have hd := List.drop_eq_getElem?_toList_append (l := pl) (i := i)
    rw [hc] at hd
    rw [hd] at h2
    obtain ⟨n, ps⟩ := y
    obtain ⟨d, h3, h4⟩ := part_cons h2
    have hLi := (hL i (Nat.le_refl _)).symm.trans h1
    simp only [encs_len, sCons_, sIf_, sRet_, sNil_, sSet_, sOwn_, sAppend_, sExtend_, onSq_l, onSq_t, sPop_, sPar_, sAsg_, sAug_, sRetN_, sDrop_, sRaise_, sFreeze_, sSetI_, sBreak_, sCont_, sTry_, dAct, dLam, dGet2, dDisp, rdReprX_l, rdReprX_t, onDict_, onKey_i, onKey_s, toOV, ofOV, dOr, dAnd, dNot, dB, dIsi, dVar_0, dVar_s, dVarB_0, dVarB_l, dVarB_s, dChain, dC, dCall, aCons, aNil, aVar, allIm_0, allIm_1, allIm_2, d2, dAllIn, startD, svOf, gN, gsC_, gsN, dTup, dCons, dNil, dLst, dAddL, dMulL, dF, dIf, dAndV, dOrV, dNotV, dNeg, dIter, dRng1, dRng2, dRng3, dEnum, dZip, dYes, dSl, dNo, dSo, dFn, wipeR, onB_, onI_, onIt_l, onIt_t, onIt_s, kRng1_, kRng2_, kRng3_, kEnum_l, kEnum_t, kZip_l, kZip_t, cutQ_t, cutQ_l, cutQ_s, rdI_, rdI0_, rdB0_, rdAdd_i, rdAdd_s, rdAdd_t, rdAdd_l, rdMul_i, rdMul_l, rdMul_t, rdEq_i, rdEq_s, rdEq0_l, rdEq0_ln, rdEq0_t, rdOrd_i, rdIsN_, rdIsN_n, rdIx_t, rdIx_l, rdIx_s, rdLen_l, rdLen_t, rdLen_s, rdTup_l, rdTup_t, rdList_l, rdList_t, rdInt_, rdSum_, rdMax_l, rdMax_i, rdMin_i, gT_, List.map_cons, List.map_nil, List.getElem?_cons_zero, List.getElem?_cons_succ, List.set_cons_zero, List.set_cons_succ, List.length_cons, List.length_nil, List.replicate, List.cons_append, List.nil_append, Option.map_some, Option.map_none, if_true, cond_true, cond_false, Bool.not_true, Bool.not_false, Nat.add_sub_cancel, Nat.sub_self, Nat.zero_add, Nat.reduceAdd, Nat.reduceSub, true_and, and_true]
    refine ⟨(Doc.nd n ps).enc, ?_, ?_⟩
    · show (if 0 < (encs L).length then (encs L)[(encs L).length - 1 - 0]? else none) = _
      rw [encs_len, hl, if_pos (by omega), Nat.add_sub_cancel, Nat.sub_zero, encs_map, List.getElem?_map, hLi]
      rfl
    simp only [enc_nd, sCons_, sIf_, sRet_, sNil_, sSet_, sOwn_, sAppend_, sExtend_, onSq_l, onSq_t, sPop_, sPar_, sAsg_, sAug_, sRetN_, sDrop_, sRaise_, sFreeze_, sSetI_, sBreak_, sCont_, sTry_, dAct, dLam, dGet2, dDisp, rdReprX_l, rdReprX_t, onDict_, onKey_i, onKey_s, toOV, ofOV, dOr, dAnd, dNot, dB, dIsi, dVar_0, dVar_s, dVarB_0, dVarB_l, dVarB_s, dChain, dC, dCall, aCons, aNil, aVar, allIm_0, allIm_1, allIm_2, d2, dAllIn, startD, svOf, gN, gsC_, gsN, dTup, dCons, dNil, dLst, dAddL, dMulL, dF, dIf, dAndV, dOrV, dNotV, dNeg, dIter, dRng1, dRng2, dRng3, dEnum, dZip, dYes, dSl, dNo, dSo, dFn, wipeR, onB_, onI_, onIt_l, onIt_t, onIt_s, kRng1_, kRng2_, kRng3_, kEnum_l, kEnum_t, kZip_l, kZip_t, cutQ_t, cutQ_l, cutQ_s, rdI_, rdI0_, rdB0_, rdAdd_i, rdAdd_s, rdAdd_t, rdAdd_l, rdMul_i, rdMul_l, rdMul_t, rdEq_i, rdEq_s, rdEq0_l, rdEq0_ln, rdEq0_t, rdOrd_i, rdIsN_, rdIsN_n, rdIx_t, rdIx_l, rdIx_s, rdLen_l, rdLen_t, rdLen_s, rdTup_l, rdTup_t, rdList_l, rdList_t, rdInt_, rdSum_, rdMax_l, rdMax_i, rdMin_i, gT_, List.map_cons, List.map_nil, List.getElem?_cons_zero, List.getElem?_cons_succ, List.set_cons_zero, List.set_cons_succ, List.length_cons, List.length_nil, List.replicate, List.cons_append, List.nil_append, Option.map_some, Option.map_none, if_true, cond_true, cond_false, Bool.not_true, Bool.not_false, Nat.add_sub_cancel, Nat.sub_self, Nat.zero_add, Nat.reduceAdd, Nat.reduceSub, true_and, and_true]
    refine ⟨d.enc, ixD_nat (n := c + 1) (by omega) (by rw [List.getElem?_cons_succ, encs_map, List.getElem?_map, h3]; rfl), by omega, L ++ [d], .im (.int (c : Nat)), by simp [encs_map, encPl], by simp [hl], fun j hj => ?_⟩
    by_cases hji : j ≤ i
    · rw [List.getElem?_append_left (by omega)]
      exact hL j hji
    · have : j = i + 1 := by omega
      subst this
      rw [List.getElem?_append_right (by omega), hl, Nat.sub_self, List.take_add_one, hc]
      exact part_snoc _ _ _ _ _ _ h1 h3
  · obtain ⟨L, s4, rfl, rfl, hl, hL⟩ := hi
    rw [List.length_map] at hl hL
    simp only [encPl, List.length_map, sCons_, sIf_, sRet_, sNil_, sSet_, sOwn_, sAppend_, sExtend_, onSq_l, onSq_t, sPop_, sPar_, sAsg_, sAug_, sRetN_, sDrop_, sRaise_, sFreeze_, sSetI_, sBreak_, sCont_, sTry_, dAct, dLam, dGet2, dDisp, rdReprX_l, rdReprX_t, onDict_, onKey_i, onKey_s, toOV, ofOV, dOr, dAnd, dNot, dB, dIsi, dVar_0, dVar_s, dVarB_0, dVarB_l, dVarB_s, dChain, dC, dCall, aCons, aNil, aVar, allIm_0, allIm_1, allIm_2, d2, dAllIn, startD, svOf, gN, gsC_, gsN, dTup, dCons, dNil, dLst, dAddL, dMulL, dF, dIf, dAndV, dOrV, dNotV, dNeg, dIter, dRng1, dRng2, dRng3, dEnum, dZip, dYes, dSl, dNo, dSo, dFn, wipeR, onB_, onI_, onIt_l, onIt_t, onIt_s, kRng1_, kRng2_, kRng3_, kEnum_l, kEnum_t, kZip_l, kZip_t, cutQ_t, cutQ_l, cutQ_s, rdI_, rdI0_, rdB0_, rdAdd_i, rdAdd_s, rdAdd_t, rdAdd_l, rdMul_i, rdMul_l, rdMul_t, rdEq_i, rdEq_s, rdEq0_l, rdEq0_ln, rdEq0_t, rdOrd_i, rdIsN_, rdIsN_n, rdIx_t, rdIx_l, rdIx_s, rdLen_l, rdLen_t, rdLen_s, rdTup_l, rdTup_t, rdList_l, rdList_t, rdInt_, rdSum_, rdMax_l, rdMax_i, rdMin_i, gT_, List.map_cons, List.map_nil, List.getElem?_cons_zero, List.getElem?_cons_succ, List.set_cons_zero, List.set_cons_succ, List.length_cons, List.length_nil, List.replicate, List.cons_append, List.nil_append, Option.map_some, Option.map_none, if_true, cond_true, cond_false, Bool.not_true, Bool.not_false, Nat.add_sub_cancel, Nat.sub_self, Nat.zero_add, Nat.reduceAdd, Nat.reduceSub, true_and, and_true]
    refine ⟨⟨by omega, by omega⟩, ⟨by decide, by decide⟩, fun i ρ b3 => ∃ (s4 s6 s7 : SV) (y : Doc), ρ = [.im e.enc, .im (encPl pl), .im x, .ls (encs L), s4, .im (putD y (pl.drop (pl.length - i)) x), s6, s7] ∧ b3 = b2 ∧ i ≤ pl.length ∧ e.part (pl.take (pl.length - i)) = some y, ⟨s4, .no, .no, z, ?_, rfl, Nat.zero_le _, ?_⟩, fun i y ρ b3 hx hi => ?_, fun ρ b3 hi => ?_⟩
    · rw [Nat.sub_zero, List.drop_length]
      cases z
      rw [putD]
      rfl
    · rw [Nat.sub_zero, List.take_length]
      exact hz
    · obtain ⟨s4, s6, s7, yd, rfl, rfl, hile, hyp⟩ := hi
      obtain ⟨hlt, rfl⟩ := rangeCD_get hx
      obtain ⟨j, hj⟩ : ∃ j, pl.length = i + 1 + j := ⟨pl.length - (i + 1), by omega⟩
      have en : (((pl.length : Nat) : Int) - 1 + (i : Nat) * -1) = ((j : Nat) : Int) := by omega
      rw [en]
      have ej : pl.length - i = j + 1 := by omega
      have ej2 : pl.length - (i + 1) = j := by omega
      rw [ej] at hyp ⊢
      obtain ⟨y, h1, h2⟩ := part_take pl e z j hz
      have hjl : j < pl.length := by omega
      have hc : pl[j]? = some pl[j] := List.getElem?_eq_getElem hjl
      have hd := List.drop_eq_getElem?_toList_append (l := pl) (i := j)
      rw [hc] at hd
      rw [hd] at h2
      obtain ⟨n, ps⟩ := y
      obtain ⟨d, h3, h4⟩ := part_cons h2
      have h5 := part_snoc _ _ _ _ _ _ h1 h3
      have h6 : pl.take j ++ [pl[j]] = pl.take (j + 1) := by rw [List.take_add_one, hc]; rfl
      rw [h6, hyp] at h5
      cases h5
      have hLj := (hL j (by omega)).symm.trans h1
      have hps := part_size _ _ _ h1
      rw [Doc.size] at hps
      have hse := sizes_enc ps
      simp only [encPl, sCons_, sIf_, sRet_, sNil_, sSet_, sOwn_, sAppend_, sExtend_, onSq_l, onSq_t, sPop_, sPar_, sAsg_, sAug_, sRetN_, sDrop_, sRaise_, sFreeze_, sSetI_, sBreak_, sCont_, sTry_, dAct, dLam, dGet2, dDisp, rdReprX_l, rdReprX_t, onDict_, onKey_i, onKey_s, toOV, ofOV, dOr, dAnd, dNot, dB, dIsi, dVar_0, dVar_s, dVarB_0, dVarB_l, dVarB_s, dChain, dC, dCall, aCons, aNil, aVar, allIm_0, allIm_1, allIm_2, d2, dAllIn, startD, svOf, gN, gsC_, gsN, dTup, dCons, dNil, dLst, dAddL, dMulL, dF, dIf, dAndV, dOrV, dNotV, dNeg, dIter, dRng1, dRng2, dRng3, dEnum, dZip, dYes, dSl, dNo, dSo, dFn, wipeR, onB_, onI_, onIt_l, onIt_t, onIt_s, kRng1_, kRng2_, kRng3_, kEnum_l, kEnum_t, kZip_l, kZip_t, cutQ_t, cutQ_l, cutQ_s, rdI_, rdI0_, rdB0_, rdAdd_i, rdAdd_s, rdAdd_t, rdAdd_l, rdMul_i, rdMul_l, rdMul_t, rdEq_i, rdEq_s, rdEq0_l, rdEq0_ln, rdEq0_t, rdOrd_i, rdIsN_, rdIsN_n, rdIx_t, rdIx_l, rdIx_s, rdLen_l, rdLen_t, rdLen_s, rdTup_l, rdTup_t, rdList_l, rdList_t, rdInt_, rdSum_, rdMax_l, rdMax_i, rdMin_i, gT_, List.map_cons, List.map_nil, List.getElem?_cons_zero, List.getElem?_cons_succ, List.set_cons_zero, List.set_cons_succ, List.length_cons, List.length_nil, List.replicate, List.cons_append, List.nil_append, Option.map_some, Option.map_none, if_true, cond_true, cond_false, Bool.not_true, Bool.not_false, Nat.add_sub_cancel, Nat.sub_self, Nat.zero_add, Nat.reduceAdd, Nat.reduceSub, true_and, and_true]
      refine ⟨(Doc.nd n ps).enc, ixD_nat (n := j) rfl (by rw [encs_map, List.getElem?_map, hLj]; rfl), ?_⟩
      simp only [enc_nd, sCons_, sIf_, sRet_, sNil_, sSet_, sOwn_, sAppend_, sExtend_, onSq_l, onSq_t, sPop_, sPar_, sAsg_, sAug_, sRetN_, sDrop_, sRaise_, sFreeze_, sSetI_, sBreak_, sCont_, sTry_, dAct, dLam, dGet2, dDisp, rdReprX_l, rdReprX_t, onDict_, onKey_i, onKey_s, toOV, ofOV, dOr, dAnd, dNot, dB, dIsi, dVar_0, dVar_s, dVarB_0, dVarB_l, dVarB_s, dChain, dC, dCall, aCons, aNil, aVar, allIm_0, allIm_1, allIm_2, d2, dAllIn, startD, svOf, gN, gsC_, gsN, dTup, dCons, dNil, dLst, dAddL, dMulL, dF, dIf, dAndV, dOrV, dNotV, dNeg, dIter, dRng1, dRng2, dRng3, dEnum, dZip, dYes, dSl, dNo, dSo, dFn, wipeR, onB_, onI_, onIt_l, onIt_t, onIt_s, kRng1_, kRng2_, kRng3_, kEnum_l, kEnum_t, kZip_l, kZip_t, cutQ_t, cutQ_l, cutQ_s, rdI_, rdI0_, rdB0_, rdAdd_i, rdAdd_s, rdAdd_t, rdAdd_l, rdMul_i, rdMul_l, rdMul_t, rdEq_i, rdEq_s, rdEq0_l, rdEq0_ln, rdEq0_t, rdOrd_i, rdIsN_, rdIsN_n, rdIx_t, rdIx_l, rdIx_s, rdLen_l, rdLen_t, rdLen_s, rdTup_l, rdTup_t, rdList_l, rdList_t, rdInt_, rdSum_, rdMax_l, rdMax_i, rdMin_i, gT_, List.map_cons, List.map_nil, List.getElem?_cons_zero, List.getElem?_cons_succ, List.set_cons_zero, List.set_cons_succ, List.length_cons, List.length_nil, List.replicate, List.cons_append, List.nil_append, Option.map_some, Option.map_none, if_true, cond_true, cond_false, Bool.not_true, Bool.not_false, Nat.add_sub_cancel, Nat.sub_self, Nat.zero_add, Nat.reduceAdd, Nat.reduceSub, true_and, and_true]
      refine ⟨.int (pl[j] : Nat), ixD_nat (n := j) rfl (by rw [List.getElem?_map, hc]; rfl), ?_⟩
      simp only [sCons_, sIf_, sRet_, sNil_, sSet_, sOwn_, sAppend_, sExtend_, onSq_l, onSq_t, sPop_, sPar_, sAsg_, sAug_, sRetN_, sDrop_, sRaise_, sFreeze_, sSetI_, sBreak_, sCont_, sTry_, dAct, dLam, dGet2, dDisp, rdReprX_l, rdReprX_t, onDict_, onKey_i, onKey_s, toOV, ofOV, dOr, dAnd, dNot, dB, dIsi, dVar_0, dVar_s, dVarB_0, dVarB_l, dVarB_s, dChain, dC, dCall, aCons, aNil, aVar, allIm_0, allIm_1, allIm_2, d2, dAllIn, startD, svOf, gN, gsC_, gsN, dTup, dCons, dNil, dLst, dAddL, dMulL, dF, dIf, dAndV, dOrV, dNotV, dNeg, dIter, dRng1, dRng2, dRng3, dEnum, dZip, dYes, dSl, dNo, dSo, dFn, wipeR, onB_, onI_, onIt_l, onIt_t, onIt_s, kRng1_, kRng2_, kRng3_, kEnum_l, kEnum_t, kZip_l, kZip_t, cutQ_t, cutQ_l, cutQ_s, rdI_, rdI0_, rdB0_, rdAdd_i, rdAdd_s, rdAdd_t, rdAdd_l, rdMul_i, rdMul_l, rdMul_t, rdEq_i, rdEq_s, rdEq0_l, rdEq0_ln, rdEq0_t, rdOrd_i, rdIsN_, rdIsN_n, rdIx_t, rdIx_l, rdIx_s, rdLen_l, rdLen_t, rdLen_s, rdTup_l, rdTup_t, rdList_l, rdList_t, rdInt_, rdSum_, rdMax_l, rdMax_i, rdMin_i, gT_, List.map_cons, List.map_nil, List.getElem?_cons_zero, List.getElem?_cons_succ, List.set_cons_zero, List.set_cons_succ, List.length_cons, List.length_nil, List.replicate, List.cons_append, List.nil_append, Option.map_some, Option.map_none, if_true, cond_true, cond_false, Bool.not_true, Bool.not_false, Nat.add_sub_cancel, Nat.sub_self, Nat.zero_add, Nat.reduceAdd, Nat.reduceSub, true_and, and_true]
      rw [cutTo _ _ _ pl[j] (by omega), cutFrom _ _ _ (pl[j] + 1) (by omega)]
      refine ⟨?_, ?_, .im (.int (pl[j] : Nat)), .im (.int (j : Nat)), .im (Doc.nd n ps).enc, .nd n ps, ?_, by omega, ?_⟩
      · simp only [List.length_cons, List.length_nil, List.length_take]
        omega
      · simp only [List.length_append, List.length_cons, List.length_nil, List.length_take, List.length_drop]
        omega
      · rw [ej2, hd]
        show _ = [_, _, _, _, _, SV.im (putD (.nd n ps) (pl[j] :: pl.drop (j + 1)) x), _, _]
        rw [putD_cons h3, enc_nd]
        simp
      · rw [ej2]
        exact h1
    · obtain ⟨s4, s6, s7, yd, rfl, rfl, hile, hyp⟩ := hi
      rw [rangeCD_len] at *
      have en : (((pl.length : Nat) : Int) - 1 - -1).toNat = pl.length := by omega
      rw [en] at hyp ⊢
      rw [Nat.sub_self, List.take_zero] at hyp
      have e0 : yd = e := by
        cases e
        rw [Doc.part] at hyp
        exact (Option.some.inj hyp).symm
      rw [Nat.sub_self, List.drop_zero, e0]
      exact q
/-! ### part_at, put_at -/
/-- where a document is looked at and then asked at a place -/
def spAt : DSp := fun as b Q R => ∃ d p n r, as = [.im d, .im p] ∧ sh d = true ∧ chk n [(d, [])] 0 = some r ∧ match r with
  | none => ∃ e : Doc, d = e.enc ∧ ((isPlD e p = false ∧ R ("BadPlace", [("value", p)]) b) ∨ ∃ pl z, p = encPl pl ∧ e.part pl = some z ∧ isPlD e p = true ∧ Q z.enc b)
  | some pl => wrongR R pl b
theorem pr_part_at {f C fI : Addr} {fd : FuncData} {k : Nat} (T : Txt mg) (D : Def K mg "part_at" ["document", "place"] s_part_at f fd) (TS_BadPlace : LfX.SupTxt P K mg "BadPlace" C fI "value") (G_need_document : PrD P w K mg base PT k "need_document" ["document"] spNeed) (G_is_place : PrD P w K mg base PT k "is_place" ["document", "value"] spIsPl) (G_part_there : PrD P w K mg base PT k "part_there" ["document", "place"] spThere) : PrD P w K mg base PT (k + 1) "part_at" ["document", "place"] spAt := by
  refine PrD.of D sc_part_at (fun as b Q R h => by obtain ⟨_, _, _, _, rfl, _⟩ := h; rfl) (by decide) fun cdv A outer s H E F hcd hG hr hF => ?_
  refine ⟨_, (dss_cons (ds_expr (DE.db (de_fnX hG (G_need_document.mono (by omega)) hF hr (takes_of rfl rfl rfl rfl) (das_cons (dv 0) das_nil))))
  (dss_cons (ds_if (dt_not (dt_val (DE.db (de_fn hG (G_is_place.mono (by omega)) hF hr (das_cons (dv 0) (das_cons (dv 1) das_nil)))))) (
    (dss_one (ds_raise rfl TS_BadPlace hr (takes_of rfl rfl rfl rfl) (dv 1)))) (dss_nil))
  (dss_one (ds_ret (DE.db (de_fn hG (G_part_there.mono (by omega)) hF hr (das_cons (dv 0) (das_cons (dv 1) das_nil)))))))), fun as b Q R h => ?_⟩
  obtain ⟨d, p, n, r, rfl, hs, hk, q⟩ := h
  simp only [sCons_, sIf_, sRet_, sNil_, sSet_, sOwn_, sAppend_, sExtend_, onSq_l, onSq_t, sPop_, sPar_, sAsg_, sAug_, sRetN_, sDrop_, sRaise_, sFreeze_, sSetI_, sBreak_, sCont_, sTry_, dAct, dLam, dGet2, dDisp, rdReprX_l, rdReprX_t, onDict_, onKey_i, onKey_s, toOV, ofOV, dOr, dAnd, dNot, dB, dIsi, dVar_0, dVar_s, dVarB_0, dVarB_l, dVarB_s, dChain, dC, dCall, aCons, aNil, aVar, allIm_0, allIm_1, allIm_2, d2, dAllIn, startD, svOf, gN, gsC_, gsN, dTup, dCons, dNil, dLst, dAddL, dMulL, dF, dIf, dAndV, dOrV, dNotV, dNeg, dIter, dRng1, dRng2, dRng3, dEnum, dZip, dYes, dSl, dNo, dSo, dFn, wipeR, onB_, onI_, onIt_l, onIt_t, onIt_s, kRng1_, kRng2_, kRng3_, kEnum_l, kEnum_t, kZip_l, kZip_t, cutQ_t, cutQ_l, cutQ_s, rdI_, rdI0_, rdB0_, rdAdd_i, rdAdd_s, rdAdd_t, rdAdd_l, rdMul_i, rdMul_l, rdMul_t, rdEq_i, rdEq_s, rdEq0_l, rdEq0_ln, rdEq0_t, rdOrd_i, rdIsN_, rdIsN_n, rdIx_t, rdIx_l, rdIx_s, rdLen_l, rdLen_t, rdLen_s, rdTup_l, rdTup_t, rdList_l, rdList_t, rdInt_, rdSum_, rdMax_l, rdMax_i, rdMin_i, gT_, List.map_cons, List.map_nil, List.getElem?_cons_zero, List.getElem?_cons_succ, List.set_cons_zero, List.set_cons_succ, List.length_cons, List.length_nil, List.replicate, List.cons_append, List.nil_append, Option.map_some, Option.map_none, if_true, cond_true, cond_false, Bool.not_true, Bool.not_false, Nat.add_sub_cancel, Nat.sub_self, Nat.zero_add, Nat.reduceAdd, Nat.reduceSub, true_and, and_true]
  refine ⟨d, n, r, rfl, hs, hk, ?_⟩
  cases r with
  | some pl => exact q
  | none =>
    obtain ⟨e, rfl, q⟩ := q
    refine ⟨e, p, rfl, ?_⟩
    rcases q with ⟨h1, q⟩ | ⟨pl, z, rfl, hz, h1, q⟩
    · rw [h1]
      exact q
    · rw [h1]
      exact ⟨e, pl, z, rfl, hz, q⟩
def spPut : DSp := fun as b Q R => ∃ d p x n r, as = [.im d, .im p, .im x] ∧ sh d = true ∧ chk n [(d, [])] 0 = some r ∧ match r with
  | none => ∃ e : Doc, d = e.enc ∧ e.size ≤ 2000 ∧ ((isPlD e p = false ∧ R ("BadPlace", [("value", p)]) b) ∨ ∃ pl z, p = encPl pl ∧ e.part pl = some z ∧ isPlD e p = true ∧ ∃ m r2, sh x = true ∧ chk m [(x, [])] 0 = some r2 ∧ match r2 with
    | none => Q (putD e pl x) b
    | some pl2 => wrongR R pl2 b)
  | some pl => wrongR R pl b
theorem pr_put_at {f C fI : Addr} {fd : FuncData} {k : Nat} (T : Txt mg) (D : Def K mg "put_at" ["document", "place", "part"] s_put_at f fd) (TS_BadPlace : LfX.SupTxt P K mg "BadPlace" C fI "value") (G_need_document : PrD P w K mg base PT k "need_document" ["document"] spNeed) (G_is_place : PrD P w K mg base PT k "is_place" ["document", "value"] spIsPl) (G_with_part : PrD P w K mg base PT k "with_part" ["document", "place", "part"] spWith) : PrD P w K mg base PT (k + 1) "put_at" ["document", "place", "part"] spPut := by
  refine PrD.of D sc_put_at (fun as b Q R h => by obtain ⟨_, _, _, _, _, rfl, _⟩ := h; rfl) (by decide) fun cdv A outer s H E F hcd hG hr hF => ?_
  refine ⟨_, (dss_cons (ds_expr (DE.db (de_fnX hG (G_need_document.mono (by omega)) hF hr (takes_of rfl rfl rfl rfl) (das_cons (dv 0) das_nil))))
  (dss_cons (ds_if (dt_not (dt_val (DE.db (de_fn hG (G_is_place.mono (by omega)) hF hr (das_cons (dv 0) (das_cons (dv 1) das_nil)))))) (
    (dss_one (ds_raise rfl TS_BadPlace hr (takes_of rfl rfl rfl rfl) (dv 1)))) (dss_nil))
  (dss_cons (ds_expr (DE.db (de_fnX hG (G_need_document.mono (by omega)) hF hr (takes_of rfl rfl rfl rfl) (das_cons (dv 2) das_nil))))
  (dss_one (ds_ret (DE.db (de_fn hG (G_with_part.mono (by omega)) hF hr (das_cons (dv 0) (das_cons (dv 1) (das_cons (dv 2) das_nil)))))))))), fun as b Q R h => ?_⟩
  obtain ⟨d, p, x, n, r, rfl, hs, hk, q⟩ := h
  simp only [sCons_, sIf_, sRet_, sNil_, sSet_, sOwn_, sAppend_, sExtend_, onSq_l, onSq_t, sPop_, sPar_, sAsg_, sAug_, sRetN_, sDrop_, sRaise_, sFreeze_, sSetI_, sBreak_, sCont_, sTry_, dAct, dLam, dGet2, dDisp, rdReprX_l, rdReprX_t, onDict_, onKey_i, onKey_s, toOV, ofOV, dOr, dAnd, dNot, dB, dIsi, dVar_0, dVar_s, dVarB_0, dVarB_l, dVarB_s, dChain, dC, dCall, aCons, aNil, aVar, allIm_0, allIm_1, allIm_2, d2, dAllIn, startD, svOf, gN, gsC_, gsN, dTup, dCons, dNil, dLst, dAddL, dMulL, dF, dIf, dAndV, dOrV, dNotV, dNeg, dIter, dRng1, dRng2, dRng3, dEnum, dZip, dYes, dSl, dNo, dSo, dFn, wipeR, onB_, onI_, onIt_l, onIt_t, onIt_s, kRng1_, kRng2_, kRng3_, kEnum_l, kEnum_t, kZip_l, kZip_t, cutQ_t, cutQ_l, cutQ_s, rdI_, rdI0_, rdB0_, rdAdd_i, rdAdd_s, rdAdd_t, rdAdd_l, rdMul_i, rdMul_l, rdMul_t, rdEq_i, rdEq_s, rdEq0_l, rdEq0_ln, rdEq0_t, rdOrd_i, rdIsN_, rdIsN_n, rdIx_t, rdIx_l, rdIx_s, rdLen_l, rdLen_t, rdLen_s, rdTup_l, rdTup_t, rdList_l, rdList_t, rdInt_, rdSum_, rdMax_l, rdMax_i, rdMin_i, gT_, List.map_cons, List.map_nil, List.getElem?_cons_zero, List.getElem?_cons_succ, List.set_cons_zero, List.set_cons_succ, List.length_cons, List.length_nil, List.replicate, List.cons_append, List.nil_append, Option.map_some, Option.map_none, if_true, cond_true, cond_false, Bool.not_true, Bool.not_false, Nat.add_sub_cancel, Nat.sub_self, Nat.zero_add, Nat.reduceAdd, Nat.reduceSub, true_and, and_true]
  refine ⟨d, n, r, rfl, hs, hk, ?_⟩
  cases r with
  | some pl => exact q
  | none =>
    obtain ⟨e, rfl, hz, q⟩ := q
    refine ⟨e, p, rfl, ?_⟩
    rcases q with ⟨h1, q⟩ | ⟨pl, z, rfl, hp, h1, m, r2, hs2, hk2, q⟩
    · rw [h1]
      exact q
    · rw [h1]
      refine ⟨x, m, r2, rfl, hs2, hk2, ?_⟩
      cases r2 with
      | none => exact ⟨e, pl, z, x, rfl, hz, hp, q⟩
      | some pl2 => exact q
end
end K00

set_option Elab.async false
set_option linter.all false
set_option maxRecDepth 100000
set_option maxHeartbeats 4000000
/-! K0c: the law's draws. -/
namespace K00
open PySem PySem.Spec PyProof.Rows L2 Lf
abbrev s__law_begin : Stmt := topS 28
abbrev N__law_begin : List Str := ["script", "cells_so", "cell"]
theorem sc__law_begin : FnScope N__law_begin ["script"] (defScope s__law_begin) := ⟨rfl, rfl, rfl, by decide +kernel, rfl, by decide +kernel, by decide +kernel⟩
abbrev s__law_mixed : Stmt := topS 29
abbrev N__law_mixed : List Str := ["cell", "k"]
theorem sc__law_mixed : FnScope N__law_mixed ["cell", "k"] (defScope s__law_mixed) := ⟨rfl, rfl, rfl, by decide +kernel, rfl, by decide +kernel, by decide +kernel⟩
abbrev s__law_draw : Stmt := topS 30
abbrev N__law_draw : List Str := ["state", "limit", "at", "place", "left", "number"]
theorem sc__law_draw : FnScope N__law_draw ["state", "limit"] (defScope s__law_draw) := ⟨rfl, rfl, rfl, by decide +kernel, rfl, by decide +kernel, by decide +kernel⟩
abbrev s__law_of : Stmt := topS 31
abbrev N__law_of : List Str := ["state", "some"]
theorem sc__law_of : FnScope N__law_of ["state", "some"] (defScope s__law_of) := ⟨rfl, rfl, rfl, by decide +kernel, rfl, by decide +kernel, by decide +kernel⟩
section
variable {P : Program} {w : World} {K : PySem.W.Frag} {mg : Str → Option Value} {base : Heap}
/-! ### _law_mixed -/
def spMixed : Sp := fun vs H Q _ => ∃ (c : Int) (k : Nat), vs = [.int c, .int (k : Nat)] ∧ k ≤ 1000000000 ∧ ∀ m : Int, 0 ≤ m → m < 2147483629 → Q (.int m) H
theorem pr__law_mixed {f : Addr} {fd : FuncData} {k : Nat} (T : Txt mg) (D : Def K mg "_law_mixed" ["cell", "k"] s__law_mixed f fd) : Pr P w K mg base (k + 1) "_law_mixed" ["cell", "k"] spMixed := by
  refine Pr.of' D sc__law_mixed (fun vs H Q E h => ?_) fun cdv A outer s H vs Q E hcd hG hr h => ?_
  · obtain ⟨_, _, rfl, _⟩ := h
    rfl
  · obtain ⟨c, k', rfl, hk, q⟩ := h
    refine ⟨_, (pss_cons (ps_set (i := 0) sc__law_mixed.nd rfl (Or.inl rfl) (pe_op op_modN (pe_callTy call_int1 (by rfl) T.int (by decide +kernel) (pa_cons (pv 0) pa_nil)) pe_int))
  (pss_one (ps_ret (pe_op op_modN (pe_op op_mul (pe_op op_modN (pe_op op_add (pe_op op_add (pe_op op_mul (pv 0) (pe_op op_add pe_int (pe_op op_mul (pe_op op_mul pe_int (pv 1)) (pv 1)))) (pe_op op_mul pe_int (pv 1))) pe_int) pe_int) pe_int) pe_int)))), ?_⟩
    have h1 : 0 ≤ c.fmod 2147483647 ∧ c.fmod 2147483647 < 2147483647 := by
      rw [Int.fmod_eq_emod_of_nonneg _ (by decide)]
      omega
    refine ⟨_, rfl, .inl ⟨_, rfl, _, _, rfl, rfl, (by show (2147483647 : Int) ≠ 0; decide), ?_⟩⟩
    refine ⟨_, rfl, _, rfl, _, _, rfl, rfl, .inl ⟨by decide, by decide⟩, _, rfl, _, _, rfl, rfl, .inl ⟨by omega, by omega⟩, _, _, rfl, rfl, _, _, rfl, rfl, .inl ⟨by omega, by omega⟩, _, rfl, _, _, rfl, rfl, .inl ⟨by decide, by decide⟩, _, _, rfl, rfl, _, _, rfl, rfl,
      _, _, rfl, rfl, (by show (2147483647 : Int) ≠ 0; decide), _, _, rfl, rfl, .inr ⟨by decide, by decide⟩, _, _, rfl, rfl, (by show (2147483629 : Int) ≠ 0; decide), ?_⟩
    refine q _ ?_ ?_
    · rw [Int.fmod_eq_emod_of_nonneg _ (by decide : (0 : Int) ≤ 2147483629)]
      omega
    · rw [Int.fmod_eq_emod_of_nonneg _ (by decide : (0 : Int) ≤ 2147483629)]
      omega
/-! ### _law_draw -/
def spDraw : Sp := fun vs H Q _ => ∃ (F : Fr) (b : Nat) (st : Addr) (l : Nat), vs = [.ref st, .int (l : Nat)] ∧ F.T b H ∧ HasSt F st ∧ 0 < l ∧ l ≤ 1000000 ∧ b ≤ 1000000 ∧ ∀ (m : Nat) H', m < l → Go F b H (b + 1) H' → Q (.int (m : Nat)) H'
theorem pr__law_draw {f : Addr} {fd : FuncData} {k : Nat} (T : Txt mg) (D : Def K mg "_law_draw" ["state", "limit"] s__law_draw f fd) (G__law_mixed : Pr P w K mg base k "_law_mixed" ["cell", "k"] spMixed) : Pr P w K mg base (k + 1) "_law_draw" ["state", "limit"] spDraw := by
  refine Pr.of' D sc__law_draw (fun vs H Q E h => ?_) fun cdv A outer s H vs Q E hcd hG hr h => ?_
  · obtain ⟨_, _, _, _, rfl, _⟩ := h
    rfl
  · obtain ⟨F, b, st, l, rfl, hT, hS, hl, hl2, hb, q⟩ := h
    obtain ⟨cA, lA, n1, n2, n3, hg, ht⟩ := hS.ex
    obtain ⟨⟨cs, ls, at_, h1, h2, h3, h4, h5, h6, h7⟩, hne⟩ := hg _ _ hT
    refine ⟨_, (pss_cons (ps_set (i := 2) sc__law_draw.nd rfl (Or.inl rfl) (pe_dget (hu_of hr) (pv 0) pe_str (fun _ _ => rfl)))
  (pss_cons (ps_dput (hu_of hr) (pv 0) pe_str (pe_op op_add (pv 2) pe_int) rfl)
  (pss_cons (ps_set (i := 3) sc__law_draw.nd rfl (Or.inl rfl) (pe_op op_modN (pe_callTy call_int1 (by rfl) T.int (by decide +kernel) (pa_cons (pv 2) pa_nil)) (pe_callB call_len_seq (by rfl) T.len PySem.boot_len (pa_cons (pe_dget (hu_of hr) (pv 0) pe_str (fun _ _ => rfl)) pa_nil))))
  (pss_cons (ps_set (i := 4) sc__law_draw.nd rfl (Or.inl rfl) (pe_ix ix_list (pe_dget (hu_of hr) (pv 0) pe_str (fun _ _ => rfl)) (pv 3) (fun _ _ => rfl)))
  (pss_cons (ps_if (pt_cmpR op_gt (pv 4) pe_int (nomark _)) (
    (pss_cons (ps_asg (pe_op op_fdiv (pv 4) (pv 1)) (pg_sub (pe_dget (hu_of hr) (pv 0) pe_str (fun _ _ => rfl)) (pv 3) set_list))
    (pss_one (ps_ret (pe_op op_modN (pe_callTy call_int1 (by rfl) T.int (by decide +kernel) (pa_cons (pv 4) pa_nil)) (pv 1)))))) (pss_nil))
  (pss_cons (ps_set (i := 5) sc__law_draw.nd rfl (Or.inl rfl) (pcall hG G__law_mixed hr (pa_cons (pcall hG G__law_mixed hr (pa_cons (pe_ix ix_list (pe_dget (hu_of hr) (pv 0) pe_str (fun _ _ => rfl)) (pv 3) (fun _ _ => rfl)) (pa_cons (pv 2) pa_nil))) (pa_cons (pe_op op_add pe_int (pv 2)) pa_nil))))
  (pss_one (ps_ret (pe_op op_modN (pe_op op_fdiv (pe_callTy call_int1 (by rfl) T.int (by decide +kernel) (pa_cons (pe_op op_add (pe_op op_mul (pv 5) pe_int) (pcall hG G__law_mixed hr (pa_cons (pv 5) (pa_cons (pe_op op_add pe_int (pv 2)) pa_nil)))) pa_nil)) pe_int) (pv 1)))))))))), ?_⟩
    have nsA : st ≠ cA := ne_of h1 h2 (by intro z; cases z)
    have nsL : st ≠ lA := ne_of h1 h3 (by intro z; cases z)
    refine ⟨_, rfl, st, _, rfl, dg_at h1, ?_⟩
    refine ⟨_, rfl, _, _, rfl, rfl, _, rfl, st, _, rfl, dp_at h1, ?_⟩
    have k1 : (upd H st (.dK (stK cA lA (at_ + 1)))) st = some (.dK (stK cA lA (at_ + 1))) := upd_same
    have k2 : (upd H st (.dK (stK cA lA (at_ + 1)))) cA = some (.lst (cs.map V.int)) := (upd_ne nsA.symm).trans h2
    have k3 : (upd H st (.dK (stK cA lA (at_ + 1)))) lA = some (.lst (ls.map V.int)) := (upd_ne nsL.symm).trans h3
    have kx : ∀ a, a ≠ st → (upd H st (.dK (stK cA lA (at_ + 1)))) a = H a := fun a na => upd_ne na
    generalize upd H st (.dK (stK cA lA (at_ + 1))) = H1 at *
    have T1 : F.T (b + 1) H1 := ht b (b + 1) H H1 hT (fun a n _ => kx a n) ⟨⟨cs, ls, at_ + 1, k1, k2, k3, h4, h5, h6, by omega⟩, hne⟩ (by omega)
    have g1 : Go F b H (b + 1) H1 := ⟨fun a o n e => (kx a (fun z => n (z ▸ n1))).trans e, hT, T1⟩
    obtain ⟨pN, hpN, ep⟩ : ∃ pN : Nat, pN < cs.length ∧ ((at_ : Nat) : Int).fmod (((cs.map V.int).length : Nat) : Int) = (pN : Int) := by
      rw [List.length_map, Int.fmod_eq_emod_of_nonneg _ (by omega)]
      have a1 := Int.emod_nonneg ((at_ : Nat) : Int) (b := ((cs.length : Nat) : Int)) (by omega)
      have a2 := Int.emod_lt_of_pos ((at_ : Nat) : Int) (b := ((cs.length : Nat) : Int)) (by omega)
      exact ⟨(((at_ : Nat) : Int) % ((cs.length : Nat) : Int)).toNat, by omega, by omega⟩
    refine ⟨_, rfl, .inl ⟨_, rfl, _, rfl, st, _, rfl, dg_cells k1, cA, _, rfl, .inl (.inl (.inl k2)), _, _, rfl, rfl, (by show (((cs.map V.int).length : Nat) : Int) ≠ 0; rw [List.length_map]; omega), ?_⟩⟩
    dsimp only
    rw [ep]
    have hlp : ls[pN]? = some (ls[pN]'(by omega)) := List.getElem?_eq_getElem _
    have hcp : cs[pN]? = some (cs[pN]'hpN) := List.getElem?_eq_getElem _
    have hlv : (ls.map V.int)[pN]? = some (.int (ls[pN]'(by omega))) := by rw [List.getElem?_map, hlp]; rfl
    have hcv : (cs.map V.int)[pN]? = some (.int (cs[pN]'hpN)) := by rw [List.getElem?_map, hcp]; rfl
    generalize ls[pN]'(by omega) = left at *
    generalize cs[pN]'hpN = cell at *
    refine ⟨_, rfl, st, _, rfl, dg_lefts k1, _, rfl, lA, _, _, _, rfl, rfl, .inl (.inl k3), atI_nat hlv, ?_⟩
    refine ⟨_, rfl, _, _, rfl, rfl, _, rfl, ?_⟩
    have fin : ∀ (z : Int) (H' : Hp), Go F b H (b + 1) H' → Q (.int (z.fmod (l : Nat))) H' := fun z H' g' => by
      rw [Int.fmod_eq_emod_of_nonneg _ (by omega)]
      have a1 := Int.emod_nonneg z (b := ((l : Nat) : Int)) (by omega)
      have a2 := Int.emod_lt_of_pos z (b := ((l : Nat) : Int)) (by omega)
      have e : z % ((l : Nat) : Int) = (((z % ((l : Nat) : Int)).toNat : Nat) : Int) := by omega
      rw [e]
      exact q _ H' (by omega) g'
    by_cases hpos : (0 : Int) < left
    · rw [decide_eq_true hpos]
      refine iteT ?_
      refine ⟨_, rfl, _, rfl, _, _, rfl, rfl, ⟨by omega, by omega⟩, _, rfl, st, _, rfl, dg_lefts k1, _, rfl, lA, _, _, pN, rfl, rfl, k3, ixN_nat' (by rw [List.length_map]; omega), ?_⟩
      refine ⟨_, rfl, .inl ⟨_, rfl, _, rfl, _, _, rfl, rfl, (by show ((l : Nat) : Int) ≠ 0; omega), fin _ _ ?_⟩⟩
      refine ⟨fun a o n e => ?_, hT, ht (b + 1) (b + 1) H1 _ T1 (fun a n1 n2 => upd_ne n2) ?_ (Nat.le_refl _)⟩
      · have na : a ≠ lA := fun z => n (by rw [z]; exact n3)
        exact (upd_ne na).trans (g1.kp a o n e)
      · refine ⟨⟨cs, ls.set pN (left / ((l : Nat) : Int)), at_ + 1, (upd_ne nsL).trans k1, (upd_ne hne).trans k2, ?_, by rw [List.length_set]; exact h4, h5, h6, by omega⟩, hne⟩
        rw [upd_same, List.map_set]
    · rw [decide_eq_false hpos]
      refine iteF ?_
      refine ⟨_, rfl, st, _, rfl, dg_cells k1, _, rfl, cA, _, _, _, rfl, rfl, .inl (.inl k2), atI_nat hcv, _, rfl, cell, at_, rfl, by omega, fun m1 m10 m11 _ => ⟨_, rfl, _, _, rfl, rfl, m1, 40 + at_, rfl, by omega, fun m2 m20 m21 _ => ?_⟩⟩
      refine ⟨_, rfl, _, _, rfl, rfl, .inr ⟨by decide, by decide⟩, _, rfl, _, rfl, _, _, rfl, rfl, m2, 7 + at_, rfl, by omega, fun m3 m30 m31 _ => ?_⟩
      refine ⟨_, _, rfl, rfl, .inl ⟨_, rfl, _, _, rfl, rfl, ⟨by decide, by decide⟩, _, rfl, _, _, rfl, rfl, (by show ((l : Nat) : Int) ≠ 0; omega), fin _ _ g1⟩⟩
/-! ### _law_of -/
/-- a list of one's own, or a tuple -/
def Row (K : PySem.W.Frag) (F : Fr) (H : Hp) (a : Addr) (xs : List V) : Prop := (H a = some (.lst xs) ∧ ¬ F.N a) ∨ SqT K H a xs
theorem Row.sq {F : Fr} {H : Hp} {a : Addr} {xs : List V} (h : Row K F H a xs) : SqL K H a xs ∨ SqT K H a xs := by
  rcases h with h | h
  · exact .inl (.inl (.inl h.1))
  · exact .inr h
theorem Row.go {F : Fr} {b c : Nat} {H H' : Hp} {a : Addr} {xs : List V} (g : Go F b H c H') (h : Row K F H a xs) : Row K F H' a xs := by
  rcases h with h | h
  · exact .inl ⟨g.keep h.2 h.1, h.2⟩
  · exact .inr (g.sqT h)
def spOf (K : PySem.W.Frag) : Sp := fun vs H Q _ => ∃ (F : Fr) (b : Nat) (st a : Addr) (xs : List V), vs = [.ref st, .ref a] ∧ F.T b H ∧ HasSt F st ∧ Row K F H a xs ∧ 0 < xs.length ∧ xs.length ≤ 1000000 ∧ b ≤ 1000000 ∧ ∀ (i : Nat) (x : V) H', xs[i]? = some x → Go F b H (b + 1) H' → Q x H'
theorem pr__law_of {f : Addr} {fd : FuncData} {k : Nat} (T : Txt mg) (D : Def K mg "_law_of" ["state", "some"] s__law_of f fd) (G__law_draw : Pr P w K mg base k "_law_draw" ["state", "limit"] spDraw) : Pr P w K mg base (k + 1) "_law_of" ["state", "some"] (spOf K) := by
  refine Pr.of' D sc__law_of (fun vs H Q E h => ?_) fun cdv A outer s H vs Q E hcd hG hr h => ?_
  · obtain ⟨_, _, _, _, _, rfl, _⟩ := h
    rfl
  · obtain ⟨F, b, st, a, xs, rfl, hT, hS, hR, h0, hz, hb, q⟩ := h
    refine ⟨_, (pss_one (ps_ret (pe_ix ix_seq (pv 1) (pcall hG G__law_draw hr (pa_cons (pv 0) (pa_cons (pe_callB call_len_seq (by rfl) T.len PySem.boot_len (pa_cons (pv 1) pa_nil)) pa_nil))) (fun _ _ => rfl)))), ?_⟩
    refine ⟨_, rfl, _, rfl, _, rfl, a, xs, rfl, hR.sq, F, b, st, xs.length, rfl, hT, hS, h0, hz, hb, fun m H' hm g _ => ?_⟩
    have hx : xs[m]? = some (xs[m]'hm) := List.getElem?_eq_getElem _
    have hR' := hR.go g
    rcases hR' with ⟨h, _⟩ | h
    · exact .inl ⟨a, xs, _, _, rfl, rfl, .inl (.inl h), atI_nat hx, q m _ H' hx g⟩
    · exact .inr (.inl ⟨a, xs, _, _, rfl, rfl, h, atI_nat hx, q m _ H' hx g⟩)
/-! ### _law_begin -/
def spBegin (K : PySem.W.Frag) : Sp := fun vs H Q _ => ∃ (F : Fr) (b : Nat) (a : Addr) (ns : List Int), vs = [.ref a] ∧ F.T b H ∧ ¬ F.N a ∧ SqL K H a (ns.map V.int) ∧ ns.length ≤ 63 ∧
  ∀ H' st cA lA, Go F b H b H' → H st = none → H cA = none → H lA = none → StOk st cA lA b H' → Q (.ref st) H'
theorem pr__law_begin {f : Addr} {fd : FuncData} {k : Nat} (T : Txt mg) (D : Def K mg "_law_begin" ["script"] s__law_begin f fd) : Pr P w K mg base (k + 1) "_law_begin" ["script"] (spBegin K) := by
  refine Pr.of' D sc__law_begin (fun vs H Q E h => ?_) fun cdv A outer s H vs Q E hcd hG hr h => ?_
  · obtain ⟨_, _, _, _, rfl, _⟩ := h
    rfl
  · obtain ⟨F, b, a, ns, rfl, hT, hn, hsq, hz, q⟩ := h
    refine ⟨_, (Evl.pss_cut (ps_set (i := 1) sc__law_begin.nd rfl (Or.inl rfl) (pe_ifExp (pt_cmpR (op_neL0 (hu0 hr)) (pv 0) (pe_lst pa_nil) (nomark _)) (pe_callTy call_list_of (by rfl) T.list (by decide +kernel) (pa_cons (pv 0) pa_nil)) (pe_lst (pa_cons pe_int pa_nil))))
  (pss_one (ps_ret (pe_disp (pps_cons pe_str (pv 1) (pps_cons pe_str (pe_lc (own := [("cell", 2)]) rfl sc__law_begin.nd (pi_list (pv 1)) (blkOk_by (own := [("cell", 2)]) (N := N__law_begin) (sc := defScope s__law_begin) (by decide +kernel)) (fun _ _ _ _ _ => (pg_name (i := 2) sc__law_begin.nd rfl (Or.inl rfl))) (fun _ _ _ _ _ => pts_nil) (fun _ _ _ _ _ => (pe_ifExp (pt_cmpR op_ge (pv 2) (pe_op op_pow pe_int pe_int) (nomark _)) (pv 2) pe_int))) (pps_cons pe_str pe_int pps_nil))) (by rfl) (by rfl) (fun z => by cases z) (by decide))))), ?_⟩
    refine ⟨fun σ' H' => ∃ (cA : Addr) (cs : List Int), σ' = [some (.ref a), some (.ref cA), none] ∧ Go F b H b H' ∧ H cA = none ∧ H' cA = some (.lst (cs.map V.int)) ∧ 0 < cs.length ∧ cs.length ≤ 63, ?_, fun σ' H' hm => ?_⟩
    · refine ⟨_, rfl, Nat.zero_le _, fun e ne => ?_⟩
      have g1 := Go.new (o := .lst []) hT ne
      have hsq1 : SqL K (upd H e (.lst [])) a (ns.map V.int) := by
        rcases hsq with h | h
        · exact .inl (rd_kp g1.kp hn h)
        · exact .inr h
      refine ⟨a, e, _, rfl, rfl, hsq1, .inl (.inl upd_same), _, rfl, ?_⟩
      cases ns with
      | nil =>
        refine iteF ⟨by show 1 ≤ sizeLine; decide, fun l nl => ?_⟩
        exact ⟨l, [0], rfl, g1.add nl, g1.was nl, upd_same, by decide, by decide⟩
      | cons n0 nr =>
        refine iteT ⟨_, rfl, a, _, rfl, .inl hsq1, fun l nl => ?_⟩
        exact ⟨l, n0 :: nr, rfl, g1.add nl, g1.was nl, upd_same, by simp, hz⟩
    · obtain ⟨cA, cs, rfl, g1, nA, hA, h0, h63⟩ := hm
      refine fun p np => ⟨_, rfl, ?_⟩
      have g2 := g1.add (o := .dK []) np
      have hpA : cA ≠ p := ne_of_none hA np
      have hA2 : (upd H' p (.dK [])) cA = some (.lst (cs.map V.int)) := (upd_ne hpA).trans hA
      dsimp only [tPairs, L2.tC]
      refine tLc_iList ?_
      refine ⟨_, rfl, ?_⟩
      refine lcL (K := K) (F := F) (b := b) (e := 0) (g := gName 2) (vs := [2]) (R := fun _ i y H => ∃ z : Int, y = .int z) hA2 (g1.nn nA) g2.r (by rw [List.length_map]; omega) (fun D i H H' y _ t h => h) (fun D i x H2 hD hI hx Pq hPq => ?_) fun lA ys H2 nL g3 hL hly hall => ?_
      · rw [List.getElem?_map] at hx
        cases hc : cs[i]? with
        | none => rw [hc] at hx; cases hx
        | some z =>
          rw [hc] at hx
          cases hx
          refine ⟨rfl, _, rfl, _, _, rfl, rfl, ⟨by decide, by decide, by decide⟩, _, _, rfl, rfl, _, rfl, ?_⟩
          by_cases hbig : (10 : Int) ^ (18 : Int).toNat ≤ z
          · rw [decide_eq_true hbig]
            exact iteT ⟨_, rfl, hPq _ _ (Go.refl hI.go.r) ⟨z, rfl⟩⟩
          · rw [decide_eq_false hbig]
            exact iteF (hPq _ _ (Go.refl hI.go.r) ⟨0, rfl⟩)
      · obtain ⟨ls, rfl⟩ := ints_of hall
        have g3' : Go F b (upd H' p (.dK [])) b H2 := g3
        have hnp : ¬ F.N p := g1.nn' np
        have hp2 : H2 p = some (.dK []) := g3'.keep hnp upd_same
        have hA3 := g3'.keep (g1.nn nA) hA2
        have hlA : lA ≠ p := fun z => by
          rw [z, upd_same] at nL
          cases nL
        have hneA : cA ≠ lA := ne_of_none hA2 nL
        refine ⟨hp2, [(.inr "cells", .ref cA), (.inr "lefts", .ref lA), (.inr "at", .int 0)], rfl, by show 3 ≤ 15; decide, ?_⟩
        have nlA : H lA = none := g2.was nL
        refine q _ p cA lA ((g2.trans g3').put (g1.was np)) (g1.was np) nA nlA ?_
        refine ⟨⟨cs, ls, 0, upd_same, (upd_ne hpA).trans hA3, (upd_ne hlA).trans hL, ?_, h0, by omega, Nat.zero_le _⟩, hneA⟩
        simpa using hly.symm
end
end K00

set_option Elab.async false
set_option linter.all false
set_option maxRecDepth 100000
set_option maxHeartbeats 4000000
/-! K0d: the law's defs over documents. -/
namespace K00
open PySem PySem.Spec PyProof.Rows L2 Lf
open PySem.W (alike alikeAll dataLt)
abbrev s__law_size : Stmt := topS 38
abbrev N__law_size : List Str := ["document", "part"]
theorem sc__law_size : FnScope N__law_size ["document"] (defScope s__law_size) := ⟨rfl, rfl, rfl, by decide +kernel, rfl, by decide +kernel, by decide +kernel⟩
abbrev s__law_key : Stmt := topS 32
abbrev N__law_key : List Str := ["document", "keys", "part", "key"]
theorem sc__law_key : FnScope N__law_key ["document"] (defScope s__law_key) := ⟨rfl, rfl, rfl, by decide +kernel, rfl, by decide +kernel, by decide +kernel⟩
abbrev s__law_with : Stmt := topS 37
abbrev N__law_with : List Str := ["output", "place", "part", "spot"]
theorem sc__law_with : FnScope N__law_with ["output", "place", "part"] (defScope s__law_with) := ⟨rfl, rfl, rfl, by decide +kernel, rfl, by decide +kernel, by decide +kernel⟩
section
variable {P : Program} {w : World} {K : PySem.W.Frag} {mg : Str → Option Value} {base : Heap}
/-- a promise that nobody can ask for -/
theorem Pr.never {x : Str} {ps : List Str} {st : Stmt} {f : Addr} {fd : FuncData} {k : Nat} {sp : Sp} (D : Def K mg x ps st f fd) (h : ∀ vs H Q E, ¬ sp vs H Q E) : Pr P w K mg base k x ps sp :=
  ⟨f, fd, D.mg, D.fn.kp, ⟨fun vs H Q E q => (h _ _ _ _ q).elim, fun A outer s H args us vs Q E _ _ _ _ _ q => (h _ _ _ _ q).elim⟩, D.bd⟩
/-! ### _law_size -/
def spSize (K : PySem.W.Frag) (n : Nat) : Sp := fun vs H Q _ => ∃ (F : Fr) (b : Nat) (v : V) (d : Doc), vs = [v] ∧ F.T b H ∧ Dt K H v d.enc ∧ d.deep ≤ n ∧ d.size ≤ 1000000 ∧ ∀ H', Go F b H b H' → Q (.int (d.size : Nat)) H'
theorem pr__law_size {f : Addr} {fd : FuncData} {k : Nat} (T : Txt mg) (D : Def K mg "_law_size" ["document"] s__law_size f fd) : ∀ n, Pr P w K mg base (k + n) "_law_size" ["document"] (spSize K n)
  | 0 => Pr.never D fun vs H Q E h => by
    obtain ⟨_, _, _, d, _, _, _, hn, _⟩ := h
    have := deep_pos d
    omega
  | n + 1 => by
    have G__law_size := pr__law_size (k := k) T D n
    refine Pr.of' D sc__law_size (fun vs H Q E h => ?_) fun cdv A outer s H vs Q E hcd hG hr h => ?_
    · obtain ⟨_, _, _, _, rfl, _⟩ := h
      rfl
    · obtain ⟨F, b, v, d, rfl, hT, hd, hn, hz, q⟩ := h
      obtain ⟨n0, ps⟩ := d
      rw [Doc.enc] at hd
      rw [Doc.deep] at hn
      rw [Doc.size] at hz q
      have hlen := encs_len ps
      have hls := len_le_sizes ps
      refine ⟨_, (pss_one (ps_ret (pe_op op_add pe_int (pe_callB (cr_sum rfl) (by rfl) T.sum (by decide +kernel) (pa_cons (pe_lc (own := [("part", 1)]) rfl sc__law_size.nd (pi_tup (pe_slice sl_tupA (pv 0) (po_some pe_int) po_none)) (blkOk_by (own := [("part", 1)]) (N := N__law_size) (sc := defScope s__law_size) (by decide +kernel)) (fun _ _ _ _ _ => (pg_name (i := 1) sc__law_size.nd rfl (Or.inl rfl))) (fun _ _ _ _ _ => pts_nil) (fun _ _ _ _ _ => (pcall hG G__law_size hr (pa_cons (pv 1) pa_nil)))) pa_nil))))), ?_⟩
      dsimp only [tRet, tOp, L2.tC, tCB, tCons]
      refine tLc_iTup ?_
      refine ⟨_, rfl, 1, rfl, ?_⟩
      dsimp only [tNoPart]
      refine sl1D hT hd fun p us H1 g1 hp hus => ?_
      have hus' := hus.length
      refine lcT (K := K) (F := F) (b := b) (e := 0) (g := gName 1) (vs := [1]) (R := fun _ i y H => ∃ e, ps[i]? = some e ∧ y = .int (e.size : Nat)) (.inl (.inl hp)) g1.r (by omega) (fun D i H H' y _ t h => h) (fun D i x H2 hD hI hx Pq hPq => ?_) fun L ys H2 hL g2 hl2 hly hall => ?_
      · obtain ⟨e, he, hx2⟩ := hus.get hx
        rw [encs_map, List.getElem?_map] at he
        cases hpi : ps[i]? with
        | none => rw [hpi] at he; cases he
        | some di =>
          rw [hpi] at he
          cases he
          have hm := List.mem_of_getElem? hpi
          have gI := hI.go
          have hdeep := (deeps_le (n := deeps ps) ps).mp (Nat.le_refl _) _ hm
          have hsz := size_le_sizes hm
          exact ⟨rfl, _, rfl, F, b, x, di, rfl, gI.r, gI.dt hx2, by omega, by omega, fun H3 g3 _ => hPq _ _ g3 ⟨di, hpi, rfl⟩⟩
      · have g2' : Go F b H1 b H2 := g2
        have hyps : ys.length = ps.length := by omega
        have eys : ys = (ps.map fun e => (e.size : Int)).map V.int := by
          refine List.ext_getElem? fun i => ?_
          rw [List.getElem?_map, List.getElem?_map]
          cases hy : ys[i]? with
          | none =>
            have : ps[i]? = none := by
              rw [List.getElem?_eq_none_iff] at hy ⊢
              omega
            rw [this]
            rfl
          | some y =>
            obtain ⟨e, he, rfl⟩ := hall i y hy
            rw [he]
            rfl
        dsimp only [tNil]
        refine ⟨L, ps.map (fun e => (e.size : Int)), rfl, .inl (.inl (by rw [← eys]; exact hl2)), _, _, rfl, rfl, ?_⟩
        rw [sizes_int]
        have e1 : (1 : Int) + ((sizes ps : Nat) : Int) = ((1 + sizes ps : Nat) : Int) := by omega
        have q1 := q H2 (g1.trans g2')
        rw [← e1] at q1
        exact q1
/-! ### _law_key -/
def spKey0 (K : PySem.W.Frag) (n : Nat) : Sp := fun vs H Q _ => ∃ (F : Fr) (b : Nat) (v : V) (d : Doc), vs = [v] ∧ F.T b H ∧ Dt K H v d.enc ∧ d.deep ≤ n ∧ d.size ≤ 1000000 ∧ ∀ H' u, Go F b H b H' → Dt K H' u d.key → Q u H'
theorem pr__law_key {f : Addr} {fd : FuncData} {k : Nat} (T : Txt mg) (D : Def K mg "_law_key" ["document"] s__law_key f fd) : ∀ n, Pr P w K mg base (k + n) "_law_key" ["document"] (spKey0 K n)
  | 0 => Pr.never D fun vs H Q E h => by
    obtain ⟨_, _, _, d, _, _, _, hn, _⟩ := h
    have := deep_pos d
    omega
  | n + 1 => by
    have G__law_key := pr__law_key (k := k) T D n
    refine Pr.of' D sc__law_key (fun vs H Q E h => ?_) fun cdv A outer s H vs Q E hcd hG hr h => ?_
    · obtain ⟨_, _, _, _, rfl, _⟩ := h
      rfl
    · obtain ⟨F, b, v, d, rfl, hT, hd, hn, hz, q⟩ := h
      refine ⟨_, (pss_cons (ps_setLc (i := 1) (own := [("part", 2)]) rfl sc__law_key.nd rfl rfl (sw_true rfl rfl rfl (by decide +kernel)) (pi_tup (pe_slice sl_tupA (pv 0) (po_some pe_int) po_none)) (blkOk_by (own := [("part", 2)]) (N := N__law_key) (sc := defScope s__law_key) (by decide +kernel)) (fun _ _ _ _ _ => (pg_name (i := 2) sc__law_key.nd rfl (Or.inl rfl))) (fun _ _ _ _ _ => pts_nil) (fun _ _ _ _ _ => (pcall hG G__law_key hr (pa_cons (pv 2) pa_nil))))
  (pss_one (ps_ret (pe_tup (pa_cons (pe_op op_add pe_int (pe_callB (cr_sum rfl) (by rfl) T.sum (by decide +kernel) (pa_cons (pe_lc (own := [("key", 3)]) rfl sc__law_key.nd (pi_list (pv 1)) (blkOk_by (own := [("key", 3)]) (N := N__law_key) (sc := defScope s__law_key) (by decide +kernel)) (fun _ _ _ _ _ => (pg_name (i := 3) sc__law_key.nd rfl (Or.inl rfl))) (fun _ _ _ _ _ => pts_nil) (fun _ _ _ _ _ => (pe_ix (show IxR _ (rIxT K) from ix_tup) (pv 3) pe_int (fun _ _ => rfl)))) pa_nil))) (pa_cons (pe_ix ix_tup (pv 0) pe_int (fun _ _ => rfl)) (pa_cons (pe_callB call_len_seq (by rfl) T.len PySem.boot_len (pa_cons (pv 1) pa_nil)) (pa_cons (pe_callTy call_tuple_of (by rfl) T.tuple (by decide +kernel) (pa_cons (pv 1) pa_nil)) pa_nil)))))))), ?_⟩
      obtain ⟨n0, ps⟩ := d
      rw [Doc.enc] at hd
      rw [Doc.deep] at hn
      rw [Doc.size] at hz
      have hlen := encs_len ps
      have hls := len_le_sizes ps
      dsimp only [tSeq, tAsg]
      refine tLc_iTup ?_
      refine ⟨_, rfl, 1, rfl, ?_⟩
      dsimp only [tNoPart]
      refine sl1D hT hd fun p us H1 g1 hp hus => ?_
      have hus' := hus.length
      refine lcT (K := K) (F := F) (b := b) (e := 0) (g := gName 2) (vs := [2]) (R := fun _ i y H => ∃ e, ps[i]? = some e ∧ Dt K H y e.key) (.inl (.inl hp)) g1.r (by omega) (fun D i H H' y _ t h => by
        obtain ⟨e, h1, h2⟩ := h
        exact ⟨e, h1, Dt.ts t _ _ h2⟩) (fun L i x H2 hL hI hx Pq hPq => ?_) fun L ys H2 hL g2 hl2 hly hall => ?_
      · obtain ⟨e, he, hx2⟩ := hus.get hx
        rw [encs_map, List.getElem?_map] at he
        cases hpi : ps[i]? with
        | none => rw [hpi] at he; cases he
        | some di =>
          rw [hpi] at he
          cases he
          have hm := List.mem_of_getElem? hpi
          have gI := hI.go
          have hdeep := (deeps_le (n := deeps ps) ps).mp (Nat.le_refl _) _ hm
          have hsz := size_le_sizes hm
          refine ⟨rfl, _, rfl, F, b, x, di, rfl, gI.r, gI.dt hx2, by omega, by omega, fun H3 u g3 hu _ => hPq _ _ g3 ⟨di, hpi, hu⟩⟩
      · have g2' : Go F b H1 b H2 := g2
        have hyps : ys.length = ps.length := by omega
        have nL : ¬ F.N L := g2'.nn hL
        dsimp only [gName, tRet, tTup, tCons, tOp, L2.tC, tCB]
        refine tLc_iList ?_
        refine ⟨_, rfl, ?_⟩
        refine lcL (K := K) (F := F) (b := b) (e := 0) (g := gName 3) (vs := [3]) (R := fun _ i y H => ∃ e, ps[i]? = some e ∧ y = .int (e.size : Nat)) hl2 nL g2'.r (by omega) (fun D i H H' y _ t h => h) (fun D i x H3 hD hI hx Pq hPq => ?_) fun L2 zs H3 hL2 g3 hl3 hlz hallz => ?_
        · obtain ⟨e, he, hd'⟩ := hall i x hx
          have hd2 := hI.go.dt hd'
          obtain ⟨m0, ms⟩ := e
          rw [Doc.key] at hd2
          obtain ⟨a, xs, rfl, hs, ha⟩ := hd2.inv
          obtain ⟨v0, r0, rfl, h3, _⟩ := ha.inv
          have h4 := h3.inv_int
          subst h4
          exact ⟨rfl, _, rfl, a, _, 0, _, rfl, rfl, hs, atI_nat (j := 0) rfl, hPq _ _ (Go.refl hI.go.r) ⟨_, he, rfl⟩⟩
        · have g3' : Go F b H2 b H3 := g3
          have g13 := g1.trans (g2'.trans g3')
          have ezs := int_list (f := fun e : Doc => ((e.size : Nat) : Int)) (by omega : zs.length = ps.length) hallz
          have hl3' := g3'.keep nL hl2
          have hkeys : DtAll K H3 ys (keys ps) := dtAll_idx (by rw [keys_len]; exact hyps) fun i v d h1 h2 => by
            obtain ⟨e, he, hd'⟩ := hall i v h1
            rw [keys_map, List.getElem?_map, he] at h2
            cases h2
            exact g3'.dt hd'
          obtain ⟨a0, us0, rfl, hs0, ha0⟩ := hd.inv
          obtain ⟨u0, r0, rfl, hu0, hr0⟩ := ha0.inv
          have hu0' := hu0.inv_str
          subst hu0'
          dsimp only [tNil]
          refine ⟨L2, _, rfl, .inl (.inl (by rw [← ezs]; exact hl3)), _, _, rfl, rfl, _, rfl, a0, _, 0, _, rfl, rfl, g13.sqT hs0, atI_nat (j := 0) rfl, _, rfl, L, ys, rfl, .inl (.inl (.inl hl3')), _, rfl, L, ys, rfl, .inl ⟨.inl (.inl hl3'), fun p5 n5 => ⟨by show 4 ≤ sizeLine; decide, fun p6 n6 => ?_⟩⟩⟩
          have g5 := g13.add (o := .tup ys) n5
          refine q _ _ (g5.add n6) ?_
          rw [Doc.key]
          refine dt_new n6 (.cons ?_ (.cons (.str _) (.cons ?_ (.cons (dt_new n5 hkeys) .nil))))
          · rw [sizes_int]
            have e1 : (1 : Int) + ((sizes ps : Nat) : Int) = ((1 + sizes ps : Nat) : Int) := by omega
            show Dt K _ (.int ((1 : Int) + ((sizes ps : Nat) : Int))) _
            rw [e1]
            exact .int _
          · rw [hyps]
            exact .int _
end
end K00

set_option Elab.async false
set_option linter.all false
set_option maxRecDepth 100000
set_option maxHeartbeats 4000000
/-! K0g: documents of shapes. -/
namespace K00
open PySem PySem.Spec PyProof.Rows L2 Lf
open PySem.W (alike alikeAll dataLt)
abbrev s__law_document : Stmt := topS 36
abbrev N__law_document : List Str := ["state", "shape_so", "firsts_so", "kind", "deep", "name", "parts", "part"]
theorem sc__law_document : FnScope N__law_document ["state", "shape_so", "firsts_so", "kind", "deep"] (defScope s__law_document) := ⟨rfl, rfl, rfl, by decide +kernel, rfl, by decide +kernel, by decide +kernel⟩
abbrev s__law_firsts : Stmt := topS 33
abbrev N__law_firsts : List Str := ["shape_so", "found", "turn", "best", "kind", "ways", "name", "parts", "part", "here"]
theorem sc__law_firsts : FnScope N__law_firsts ["shape_so"] (defScope s__law_firsts) := ⟨rfl, rfl, rfl, by decide +kernel, rfl, by decide +kernel, by decide +kernel⟩
abbrev s__law_reached : Stmt := topS 34
abbrev N__law_reached : List Str := ["shape_so", "found", "at", "name", "parts", "part"]
theorem sc__law_reached : FnScope N__law_reached ["shape_so"] (defScope s__law_reached) := ⟨rfl, rfl, rfl, by decide +kernel, rfl, by decide +kernel, by decide +kernel⟩
section
variable {P : Program} {w : World} {K : PySem.W.Frag} {mg : Str → Option Value} {base : Heap}
theorem docs_of {H : Hp} {p : Doc → Prop} : ∀ {ys : List V}, (∀ (i : Nat) (y : V), ys[i]? = some y → ∃ d : Doc, Dt K H y d.enc ∧ p d) → ∃ ds : List Doc, DtAll K H ys (encs ds) ∧ ds.length = ys.length ∧ ∀ d ∈ ds, p d
  | [], _ => ⟨[], .nil, rfl, fun _ h => by cases h⟩
  | y :: r, h => by
    obtain ⟨d, h1, h2⟩ := h 0 y rfl
    obtain ⟨ds, h3, h4, h5⟩ := docs_of (ys := r) fun i x e => h (i + 1) x (by simpa using e)
    refine ⟨d :: ds, .cons h1 h3, by simp [h4], fun e he => ?_⟩
    rcases List.mem_cons.mp he with q | q
    · rw [q]; exact h2
    · exact h5 e q
def cDoc : Nat → Nat
  | 0 => 0
  | n + 1 => 1 + 3 * cDoc n
def zDoc (z : Nat) : Nat → Nat
  | 0 => z
  | n + 1 => 1 + 3 * zDoc z n
def spDoc (K : PySem.W.Frag) (n : Nat) : Sp := fun vs H Q _ => ∃ (F : Fr) (b : Nat) (st : Addr) (sv : V) (fA : Addr) (kd : Nat) (s : Shp) (us : List V) (ds : List Doc) (e z : Nat), vs = [.ref st, sv, .ref fA, .int (kd : Nat), .int (n : Nat)] ∧ F.T b H ∧ HasSt F st ∧ b + cDoc n ≤ 1000000 ∧
  Dt K H sv (encShp s) ∧ Good s ∧ H fA = some (.lst us) ∧ ¬ F.N fA ∧ DtAll K H us (encs ds) ∧ ds.length = s.length ∧ (∀ d ∈ ds, d.fine = true ∧ d.deep ≤ e ∧ d.size ≤ z) ∧ kd < s.length ∧
  ∀ H' u (d : Doc), Go F b H (b + cDoc n) H' → Dt K H' u d.enc → d.fine = true → d.deep ≤ n + e → d.size ≤ zDoc z n → Q u H'
theorem fn__law_document {f : Addr} {fd : FuncData} {k j : Nat} (T : Txt mg) (D : Def K mg "_law_document" ["state", "shape_so", "firsts_so", "kind", "deep"] s__law_document f fd) (G_of : Pr P w K mg base j "_law_of" ["state", "some"] (spOf K)) (hj : j ≤ k) :
    ∀ n, FnG P w K mg base (k + n + 1) f fd ["state", "shape_so", "firsts_so", "kind", "deep"] (spDoc K n)
  | 0 => by
    have G__law_of := G_of.mono (show j ≤ k + 0 by omega)
    have G__law_document : Pr P w K mg base (k + 0) "_law_document" ["state", "shape_so", "firsts_so", "kind", "deep"] (fun _ _ _ _ => False) := Pr.never D fun vs H Q E h => h
    refine fn_ofC D.fn sc__law_document (fun vs H Q E h => ?_) fun cdv A outer s H vs Q E hcd hG hr h => ?_
    · obtain ⟨_, _, _, _, _, _, _, _, _, _, _, rfl, _⟩ := h
      rfl
    · obtain ⟨F, b, st, sv, fA, kd, s, us, ds, e, z, rfl, hT, hS, hb, hs, hg, hf, hn, hd, hl, hp, hk, q⟩ := h
      refine ⟨_, (pss_cons (ps_if (pt_cmpR op_eq (pv 4) pe_int (nomark _)) (
    (pss_one (ps_ret (pe_ix ix_list (pv 2) (pv 3) (fun _ _ => rfl))))) (pss_nil))
  (pss_cons (ps_asg (pcall hG G__law_of hr (pa_cons (pv 0) (pa_cons (pe_ix ix_tup (pv 1) (pv 3) (fun _ _ => rfl)) pa_nil))) (pg_tup rfl (pgs_cons (pg_name (i := 5) sc__law_document.nd rfl (Or.inl rfl)) (pgs_cons (pg_name (i := 6) sc__law_document.nd rfl (Or.inl rfl)) pgs_nil))))
  (pss_one (ps_ret (pe_op op_catA (pe_tup (pa_cons (pv 5) pa_nil)) (pe_callTy call_tuple_of (by rfl) T.tuple (by decide +kernel) (pa_cons (pe_lc (own := [("part", 7)]) rfl sc__law_document.nd (pi_tup (pv 6)) (blkOk_by (own := [("part", 7)]) (N := N__law_document) (sc := defScope s__law_document) (by decide +kernel)) (fun _ _ _ _ _ => (pg_name (i := 7) sc__law_document.nd rfl (Or.inl rfl))) (fun _ _ _ _ _ => pts_nil) (fun _ _ _ _ _ => (pcall hG G__law_document hr (pa_cons (pv 0) (pa_cons (pv 1) (pa_cons (pv 2) (pa_cons (pv 7) (pa_cons (pe_op op_sub (pv 4) pe_int) pa_nil)))))))) pa_nil))))))), ?_⟩
      have hdk : (encs ds)[kd]? = some (ds[kd]'(by omega)).enc := by
        rw [encs_map, List.getElem?_map, List.getElem?_eq_getElem (by omega)]
        rfl
      obtain ⟨v, hv, hdv⟩ := hd.getD hdk
      obtain ⟨h1, h2, h3⟩ := hp _ (List.getElem_mem (by omega : kd < ds.length))
      refine ⟨_, rfl, rfl, _, rfl, ?_⟩
      rw [decide_eq_true (show V.int ((0 : Nat) : Int) = V.int 0 from rfl)]
      refine iteT ⟨_, rfl, _, rfl, fA, us, _, v, rfl, rfl, .inl (.inl hf), atI_nat hv, ?_⟩
      exact q H v _ (Go.refl hT) hdv h1 (by omega) h3
  | n + 1 => by
    have G__law_of := G_of.mono (show j ≤ k + (n + 1) by omega)
    have G__law_document : Pr P w K mg base (k + n + 1) "_law_document" ["state", "shape_so", "firsts_so", "kind", "deep"] (spDoc K n) := ⟨f, fd, D.mg, D.fn.kp, fn__law_document (k := k) T D G_of hj n, D.bd⟩
    refine fn_ofC D.fn sc__law_document (fun vs H Q E h => ?_) fun cdv A outer s H vs Q E hcd hG hr h => ?_
    · obtain ⟨_, _, _, _, _, _, _, _, _, _, _, rfl, _⟩ := h
      rfl
    · obtain ⟨F, b, st, sv, fA, kd, s, us, ds, e, z, rfl, hT, hS, hb, hs, hg, hf, hn, hd, hl, hp, hk, q⟩ := h
      refine ⟨_, (pss_cons (ps_if (pt_cmpR op_eq (pv 4) pe_int (nomark _)) (
    (pss_one (ps_ret (pe_ix ix_list (pv 2) (pv 3) (fun _ _ => rfl))))) (pss_nil))
  (pss_cons (ps_asg (pcall hG G__law_of hr (pa_cons (pv 0) (pa_cons (pe_ix ix_tup (pv 1) (pv 3) (fun _ _ => rfl)) pa_nil))) (pg_tup rfl (pgs_cons (pg_name (i := 5) sc__law_document.nd rfl (Or.inl rfl)) (pgs_cons (pg_name (i := 6) sc__law_document.nd rfl (Or.inl rfl)) pgs_nil))))
  (pss_one (ps_ret (pe_op op_catA (pe_tup (pa_cons (pv 5) pa_nil)) (pe_callTy call_tuple_of (by rfl) T.tuple (by decide +kernel) (pa_cons (pe_lc (own := [("part", 7)]) rfl sc__law_document.nd (pi_tup (pv 6)) (blkOk_by (own := [("part", 7)]) (N := N__law_document) (sc := defScope s__law_document) (by decide +kernel)) (fun _ _ _ _ _ => (pg_name (i := 7) sc__law_document.nd rfl (Or.inl rfl))) (fun _ _ _ _ _ => pts_nil) (fun _ _ _ _ _ => (pcall hG G__law_document hr (pa_cons (pv 0) (pa_cons (pv 1) (pa_cons (pv 2) (pa_cons (pv 7) (pa_cons (pe_op op_sub (pv 4) pe_int) pa_nil)))))))) pa_nil))))))), ?_⟩
      rw [cDoc] at hb q
      rw [zDoc] at q
      refine ⟨_, rfl, rfl, _, rfl, ?_⟩
      rw [decide_eq_false (show ¬ V.int ((n + 1 : Nat) : Int) = V.int 0 from fun h => by injection h with h; omega)]
      refine iteF ?_
      have hsk : s[kd]? = some s[kd] := List.getElem?_eq_getElem hk
      have hsk' : (s.map encKind)[kd]? = some (encKind s[kd]) := by rw [List.getElem?_map, hsk]; rfl
      obtain ⟨g1, g2, g3⟩ := hg.kinds _ (List.getElem_mem hk)
      refine ⟨_, rfl, _, rfl, _, rfl, ?_⟩
      refine ixT (i := kd) hs hsk' fun kv hkv => ?_
      obtain ⟨ka, kx, rfl, hks, hka⟩ := hkv.inv
      have hkl : kx.length = s[kd].length := by rw [hka.length, List.length_map]
      refine ⟨F, b, st, ka, kx, rfl, hT, hS, .inr hks, by omega, by omega, by omega, fun i x H1 hx gg _ => ?_⟩
      obtain ⟨wd, hwd, hxd⟩ := hka.get hx
      rw [List.getElem?_map] at hwd
      cases hwi : s[kd][i]? with
      | none => rw [hwi] at hwd; cases hwd
      | some wy =>
        rw [hwi] at hwd
        cases hwd
        obtain ⟨nm, pp⟩ := wy
        obtain ⟨g4, g5, g6⟩ := g3 _ (List.mem_of_getElem? hwi)
        obtain ⟨a, xs, rfl, hsq, ha⟩ := (gg.dt hxd).inv
        obtain ⟨w1, r1, rfl, hw1, hr1⟩ := ha.inv
        obtain ⟨w2, r2, rfl, hw2, hr2⟩ := hr1.inv
        cases hr2
        obtain ⟨pa, px, rfl, hps, hpa⟩ := hw2.inv
        have hpl : px.length = pp.length := by rw [hpa.length, List.length_map]
        have g4' : isNameS nm = true := g4
        have g5' : pp.length ≤ 3 := g5
        refine ⟨a, _, rfl, hsq, rfl, _, _, rfl, _, _, rfl, rfl, ?_⟩
        refine ⟨_, rfl, by show 1 ≤ sizeLine; decide, fun p1 n1 => ?_⟩
        have gA := gg.add (o := .tup [w1]) n1
        have hTA := gA.r
        dsimp only [tCB, tCons, tNil]
        refine tLc_iTup ?_
        refine ⟨_, rfl, ?_⟩
        have hps1 := (Go.new (o := .tup [w1]) gg.r n1).sqT hps
        refine lcT (K := K) (F := F) (b := b + 1) (e := cDoc n) (R := fun _ i y H => ∃ d : Doc, Dt K H y d.enc ∧ (d.fine = true ∧ d.deep ≤ n + e ∧ d.size ≤ zDoc z n)) hps1 gA.r (by omega) (fun D i H H' y _ t h => by
          obtain ⟨d, h1, h2⟩ := h
          exact ⟨d, Dt.ts t _ _ h1, h2⟩) (fun L i x H2 hL hI hx Pq hPq => ?_) fun L ys H2 hL gB hl2 hly hall => ?_
        · obtain ⟨dd, hdd, hxd2⟩ := hpa.get hx
          rw [List.getElem?_map] at hdd
          cases hpi : pp[i]? with
          | none => rw [hpi] at hdd; cases hdd
          | some pi =>
            rw [hpi] at hdd
            cases hdd
            have hv := hxd2.inv_int
            subst hv
            have gI := hI.go
            have g02 := gA.trans gI
            have hpi3 : pi < s.length := g6 pi (List.mem_of_getElem? hpi)
            have hi3 : i < 3 := by
              have := (List.getElem?_eq_some_iff.mp hpi).1
              omega
            have hbi : b + 1 + i * cDoc n + cDoc n ≤ 1000000 := by
              have : i * cDoc n ≤ 2 * cDoc n := Nat.mul_le_mul_right _ (by omega)
              omega
            have hf2 := g02.keep hn hf
            refine ⟨rfl, _, rfl, _, rfl, _, rfl, _, rfl, _, rfl, _, _, rfl, rfl, F, b + 1 + i * cDoc n, st, sv, fA, pi, s, us, ds, e, z, ?_, gI.r, hS, hbi, g02.dt hs, hg, hf2, hn, g02.dta hd, hl, hp, hpi3, fun H3 u d g3' hu f1 f2 f3 _ => ?_⟩
            · show [V.ref st, sv, V.ref fA, V.int (pi : Nat), V.int (((n + 1 : Nat) : Int) - 1)] = _
              rw [show ((n + 1 : Nat) : Int) - 1 = ((n : Nat) : Int) by omega]
            · refine hPq u H3 ?_ ⟨d, hu, f1, f2, f3⟩
              rw [Nat.succ_mul, ← Nat.add_assoc]
              exact g3'
        · obtain ⟨es, he1, he2, he3⟩ := docs_of hall
          have hle : es.length ≤ 3 := by omega
          refine ⟨L, ys, rfl, .inl ⟨.inl (.inl hl2), fun p2 n2 => ?_⟩⟩
          have gC := gB.add (o := .tup ys) n2
          have hname : Dt K (upd H2 p2 (.tup ys)) (.ref p1) (.tuple [.str nm]) := gC.dt (dt_new n1 (.cons hw1 .nil))
          refine catA (F := F) (b := _) gC.r hname (dt_new n2 he1) (by rw [encs_len]; simp only [List.length_cons, List.length_nil]; omega) fun zz H3 gD hz => ?_
          have hmul : px.length * cDoc n ≤ 3 * cDoc n := Nat.mul_le_mul_right _ (by omega)
          have gE : Go F b H (b + (1 + 3 * cDoc n)) H3 := (gA.trans (gC.trans gD)).le (by omega)
          have hfin : (Doc.nd nm es).fine = true := by
            rw [Doc.fine, g4', (fines_all es).mpr fun d hd => (he3 d hd).1]
            simp
            omega
          have hdp : deeps es ≤ n + e := (deeps_le es).mpr fun d hd => (he3 d hd).2.1
          have hsz := sizes_le (n := zDoc z n) (ps := es) fun d hd => (he3 d hd).2.2
          have hsz3 : es.length * zDoc z n ≤ 3 * zDoc z n := Nat.mul_le_mul_right _ hle
          refine q H3 zz (.nd nm es) gE ?_ hfin (by rw [Doc.deep]; omega) (by rw [Doc.size]; omega)
          rw [Doc.enc]
          exact hz
/-! ### _law_reached -/
def spReach (K : PySem.W.Frag) : Sp := fun vs H Q _ => ∃ (F : Fr) (b : Nat) (rA : Addr) (rv : List V) (rows : Shp), vs = [.ref rA] ∧ F.T b H ∧ H rA = some (.lst rv) ∧ ¬ F.N rA ∧ DtAll K H rv (rows.map encKind) ∧ Good rows ∧
  ∀ H' L (ord : List Nat), Go F b H b H' → H L = none → H' L = some (.lst (nI ord)) → Reach rows ord → Q (.ref L) H'
theorem pr__law_document {f : Addr} {fd : FuncData} {k j : Nat} (T : Txt mg) (D : Def K mg "_law_document" ["state", "shape_so", "firsts_so", "kind", "deep"] s__law_document f fd) (G_of : Pr P w K mg base j "_law_of" ["state", "some"] (spOf K)) (hj : j ≤ k) (n : Nat) :
    Pr P w K mg base (k + n + 1) "_law_document" ["state", "shape_so", "firsts_so", "kind", "deep"] (spDoc K n) := ⟨f, fd, D.mg, D.fn.kp, fn__law_document T D G_of hj n, D.bd⟩
/-- to any depth up to m -/
theorem pr__law_documents {f : Addr} {fd : FuncData} {k j m : Nat} (T : Txt mg) (D : Def K mg "_law_document" ["state", "shape_so", "firsts_so", "kind", "deep"] s__law_document f fd) (G_of : Pr P w K mg base j "_law_of" ["state", "some"] (spOf K)) (hj : j ≤ k) :
    Pr P w K mg base (k + m + 1) "_law_document" ["state", "shape_so", "firsts_so", "kind", "deep"] (fun vs H Q E => ∃ n, n ≤ m ∧ spDoc K n vs H Q E) :=
  ⟨f, fd, D.mg, D.fn.kp, ⟨fun vs H Q E ⟨n, _, h⟩ => (fn__law_document T D G_of hj n).len vs H Q E h, fun A outer s H args us vs Q E hG hr e0 hb r ⟨n, hn, h⟩ => (fn__law_document (k := k) T D G_of hj n).run A outer s H args us vs Q E hG (hr.mono (by omega)) e0 hb r h⟩, D.bd⟩
structure RI (F : Fr) (b : Nat) (H : Hp) (rA L : Addr) (rows : Shp) (i : Nat) (X : List Nat → Prop) (σ : L2.St) (H' : Hp) : Prop where
  ex : ∃ (ord : List Nat) (y2 y3 y4 y5 : Option V), σ = [some (.ref rA), some (.ref L), y2, y3, y4, y5] ∧ Go F b H b H' ∧ H' L = some (.lst (nI ord)) ∧ ROk rows ord i ∧ X ord
structure RI5 (F : Fr) (b : Nat) (H : Hp) (rA L : Addr) (rows : Shp) (i : Nat) (a5 : Addr) (X : List Nat → Prop) (σ : L2.St) (H' : Hp) : Prop where
  ex : ∃ (ord : List Nat) (y2 y3 y5 : Option V), σ = [some (.ref rA), some (.ref L), y2, y3, some (.ref a5), y5] ∧ Go F b H b H' ∧ H' L = some (.lst (nI ord)) ∧ ROk rows ord i ∧ X ord
theorem pr__law_reached {f : Addr} {fd : FuncData} {k : Nat} (T : Txt mg) (D : Def K mg "_law_reached" ["shape_so"] s__law_reached f fd) : Pr P w K mg base (k + 1) "_law_reached" ["shape_so"] (spReach K) := by
  refine Pr.of' D sc__law_reached (fun vs H Q E h => ?_) fun cdv A outer s H vs Q E hcd hG hr h => ?_
  · obtain ⟨_, _, _, _, _, rfl, _⟩ := h
    rfl
  · obtain ⟨F, b, rA, rv, rows, rfl, hT, hA, hn, hrv, hg, q⟩ := h
    refine ⟨_, (pss_cons (ps_set (i := 1) sc__law_reached.nd rfl (Or.inl rfl) (pe_lst (pa_cons pe_int pa_nil)))
  (pss_cons (ps_for (passes_of rfl) rfl (pi_range1 (by rfl) T.range (pa_cons (pe_callB call_len_seq (by rfl) T.len PySem.boot_len (pa_cons (pv 0) pa_nil)) pa_nil)) (pg_name (i := 2) sc__law_reached.nd rfl (Or.inl rfl)) (
    (pss_one (ps_for (passes_of rfl) rfl (pi_tup (pe_ifExp (pt_cmpR op_lt (pv 2) (pe_callB call_len_seq (by rfl) T.len PySem.boot_len (pa_cons (pv 1) pa_nil)) (nomark _)) (pe_ix ix_list (pv 0) (pe_ix ix_list (pv 1) (pv 2) (fun _ _ => rfl)) (fun _ _ => rfl)) (pe_tup pa_nil))) (pg_tup rfl (pgs_cons (pg_name (i := 3) sc__law_reached.nd rfl (Or.inl rfl)) (pgs_cons (pg_name (i := 4) sc__law_reached.nd rfl (Or.inl rfl)) pgs_nil))) (
      (pss_one (ps_for (passes_of rfl) rfl (pi_tup (pv 4)) (pg_name (i := 5) sc__law_reached.nd rfl (Or.inl rfl)) (
        (pss_one (ps_if (pt_cmpR op_notIn_seq (pv 5) (pv 1) rfl) (
          (pss_one (ps_expr (pe_bm PySem.F.plainAttrs_list PySem.F.slot_list_append PySem.F.type_list_append mt_append (pv 1) (pa_cons (pv 5) pa_nil))))) (pss_nil)))))))))))
  (pss_one (ps_ret (pv 1))))), ?_⟩
    have hrl : rv.length = rows.length := by rw [hrv.length, List.length_map]
    have hg10 := hg.len
    refine ⟨by show 1 ≤ sizeLine; decide, fun L nL => ?_⟩
    have g0 := Go.new (o := .lst [.int 0]) hT nL
    refine ⟨_, rfl, rA, rv, rfl, .inl (.inl (.inl (g0.keep hn hA))), _, rfl, by omega, by omega, for_range (lo := 0) (n := rv.length) (fun i σ' H' => RI F b H rA L rows i (fun _ => True) σ' H') ⟨[0], _, _, _, _, rfl, g0, upd_same, ⟨rfl, by simp, fun k hk => ?_, fun j hj => absurd hj (Nat.not_lt_zero _)⟩, trivial⟩ (fun i σ' H' hi hI => ?_) fun σ' H' hI => ?_⟩
    · rcases List.mem_singleton.mp hk with rfl
      exact hg.pos
    · obtain ⟨ord, y2, y3, y4, y5, rfl, gi, hL, hR, _⟩ := hI.ex
      refine ⟨_, rfl, _, rfl, L, _, rfl, .inl (.inl (.inl hL)), _, _, rfl, rfl, _, rfl, ?_⟩
      by_cases hio : (0 : Int) + (i : Nat) < (((nI ord).length : Nat) : Int)
      · rw [decide_eq_true hio]
        have hio' : i < ord.length := by
          rw [List.length_map] at hio
          omega
        have hok : ord[i]? = some (ord[i]'hio') := List.getElem?_eq_getElem hio'
        have hov : (nI ord)[i]? = some (.int ((ord[i]'hio' : Nat) : Int)) := by rw [List.getElem?_map, hok]; rfl
        generalize ord[i]'hio' = kk at *
        have hkr := hR.lt kk (List.mem_of_getElem? hok)
        have hrk : rows[kk]? = some rows[kk] := List.getElem?_eq_getElem hkr
        obtain ⟨kv, hkv, hkd⟩ := (gi.dta hrv).getD (i := kk) (d := encKind rows[kk]) (by rw [List.getElem?_map, hrk]; rfl)
        obtain ⟨ka, kx, rfl, hks, hka⟩ := hkd.inv
        have hkl : kx.length = rows[kk].length := by rw [hka.length, List.length_map]
        obtain ⟨_, _, hways⟩ := hg.kinds _ (List.getElem_mem hkr)
        have hA' := gi.keep hn hA
        refine iteT ⟨_, rfl, _, rfl, _, rfl, L, _, _, _, rfl, rfl, .inl (.inl hL), (by rw [Int.zero_add]; exact atI_nat hov), rA, rv, _, _, rfl, rfl, .inl (.inl hA'), atI_nat hkv, ka, rfl, ⟨kx, hks⟩, ?_⟩
        generalize rows[kk] = ws at *
        refine for_tup (xs := kx) (fun j σ' H2 => RI F b H rA L rows i (fun ord => ord[i]? = some kk ∧ ∀ w ∈ ws.take j, ∀ p ∈ w.2, p ∈ ord) σ' H2 ∧ Ts H' H2) ⟨⟨ord, _, _, _, _, rfl, gi, hL, hR, hok, by simp⟩, Ts.refl⟩ (fun j σ' H2 hj hI2 => sqT_ts hI2.2 hks) (fun j x σ' H2 hx hI2 => ?_) fun σ' H2 hI2 => ?_
        · obtain ⟨hI2, t2⟩ := hI2
          obtain ⟨ord2, y2, y3, y4, y5, rfl, gi2, hL2, hR2, hok2, hc2⟩ := hI2.ex
          obtain ⟨wd, hwd, hxd⟩ := (DtAll.ts t2 _ _ hka).get hx
          rw [List.getElem?_map] at hwd
          cases hwi : ws[j]? with
          | none => rw [hwi] at hwd; cases hwd
          | some wy =>
            rw [hwi] at hwd
            cases hwd
            obtain ⟨nm, pp⟩ := wy
            obtain ⟨g4, g5, g6⟩ := hways _ (List.mem_of_getElem? hwi)
            obtain ⟨a, xs, rfl, hsq, ha⟩ := hxd.inv
            obtain ⟨w1, r1, rfl, hw1, hr1⟩ := ha.inv
            obtain ⟨w2, r2, rfl, hw2, hr2⟩ := hr1.inv
            cases hr2
            obtain ⟨pa, px, rfl, hps, hpa⟩ := hw2.inv
            refine ⟨a, _, rfl, hsq, rfl, _, _, rfl, _, _, rfl, rfl, ?_⟩
            have epx : px = nI pp := by
              refine List.ext_getElem? fun m => ?_
              rw [List.getElem?_map]
              cases hpm : px[m]? with
              | none =>
                have : pp[m]? = none := by
                  have hpl : px.length = pp.length := by rw [hpa.length, List.length_map]
                  rw [List.getElem?_eq_none_iff] at hpm ⊢
                  omega
                rw [this]
                rfl
              | some v =>
                obtain ⟨d, hd, hvd⟩ := hpa.get hpm
                rw [List.getElem?_map] at hd
                cases hpp : pp[m]? with
                | none => rw [hpp] at hd; cases hd
                | some p =>
                  rw [hpp] at hd
                  cases hd
                  rw [hvd.inv_int]
                  rfl
            subst epx
            refine ⟨_, rfl, pa, rfl, ⟨_, hps⟩, ?_⟩
            refine for_tup (xs := nI pp) (fun m σ' H3 => RI5 F b H rA L rows i pa (fun ord => ord[i]? = some kk ∧ (∀ w ∈ ws.take j, ∀ p ∈ w.2, p ∈ ord) ∧ ∀ p ∈ pp.take m, p ∈ ord) σ' H3 ∧ Ts H2 H3) ⟨⟨ord2, _, _, _, rfl, gi2, hL2, hR2, hok2, hc2, by simp⟩, Ts.refl⟩ (fun m σ' H3 hm hI3 => sqT_ts hI3.2 hps) (fun m x σ' H3 hx hI3 => ?_) fun σ' H3 hI3 => ?_
            · obtain ⟨hI3, t3⟩ := hI3
              obtain ⟨ord3, y2, y3, y5, rfl, gi3, hL3, hR3, hok3, hc3, hd3⟩ := hI3.ex
              rw [List.getElem?_map] at hx
              cases hpm : pp[m]? with
              | none => rw [hpm] at hx; cases hx
              | some p =>
                rw [hpm] at hx
                cases hx
                have hpr := g6 p (List.mem_of_getElem? hpm)
                have htk : pp.take (m + 1) = pp.take m ++ [p] := by rw [List.take_add_one, hpm]; rfl
                have hl3 := nodup_len _ _ hR3.nd hR3.lt
                have hi3 := (List.getElem?_eq_some_iff.mp hok3).1
                refine ⟨_, rfl, _, rfl, L, nI ord3, rfl, .inl (.inl (.inl hL3)), rfl, flat_ints ord3, _, rfl, ?_⟩
                show if (!inV (V.int (p : Nat)) (ord3.map fun n : Nat => V.int (n : Nat))) = true then _ else _
                rw [inV_ints]
                by_cases hin : p ∈ ord3
                · rw [decide_eq_true hin]
                  refine iteF ⟨⟨ord3, _, _, _, rfl, gi3, hL3, hR3, hok3, hc3, fun p' hp' => ?_⟩, t3⟩
                  rw [htk] at hp'
                  rcases List.mem_append.mp hp' with z | z
                  · exact hd3 p' z
                  · rcases List.mem_singleton.mp z with rfl
                    exact hin
                · rw [decide_eq_false hin]
                  refine iteT ⟨_, rfl, isL hL3, _, rfl, L, _, _, rfl, rfl, hL3, sz6' (by rw [List.length_map]; omega), ⟨⟨ord3 ++ [p], _, _, _, rfl, gi3.put nL, ?_, hR3.app hi3 hin hpr, ?_, fun w hw p' hp' => List.mem_append_left _ (hc3 w hw p' hp'), fun p' hp' => ?_⟩, t3.trans (ts_lst hL3)⟩⟩
                  · rw [upd_same]
                    show _ = some (HO.lst ((ord3 ++ [p]).map fun n : Nat => V.int (n : Nat)))
                    rw [List.map_append]
                    rfl
                  · rw [List.getElem?_append_left hi3]
                    exact hok3
                  · rw [htk] at hp'
                    rcases List.mem_append.mp hp' with z | z
                    · exact List.mem_append_left _ (hd3 p' z)
                    · exact List.mem_append_right _ z
            · obtain ⟨hI3, t3⟩ := hI3
              obtain ⟨ord3, y2, y3, y5, rfl, gi3, hL3, hR3, hok3, hc3, hd3⟩ := hI3.ex
              refine ⟨⟨ord3, _, _, _, _, rfl, gi3, hL3, hR3, hok3, fun w hw p hp => ?_⟩, t2.trans t3⟩
              rw [List.take_add_one, hwi] at hw
              rcases List.mem_append.mp hw with z | z
              · exact hc3 w z p hp
              · have e : w = (nm, pp) := by simpa using z
                subst e
                refine hd3 p ?_
                rw [List.length_map, List.take_length]
                exact hp
        · obtain ⟨hI2, t2⟩ := hI2
          obtain ⟨ord2, y2, y3, y4, y5, rfl, gi2, hL2, hR2, hok2, hc2⟩ := hI2.ex
          refine ⟨ord2, _, _, _, _, rfl, gi2, hL2, hR2.step hok2 fun ws' e w hw p hp => ?_, trivial⟩
          rw [hrk] at e
          cases e
          rw [hkl, List.take_length] at hc2
          exact hc2 w hw p hp
      · rw [decide_eq_false hio]
        have hio' : ord.length ≤ i := by
          rw [List.length_map] at hio
          omega
        refine iteF ⟨Nat.zero_le _, fun p0 np0 => ⟨p0, rfl, ⟨[], .inl (.inl upd_same)⟩, ?_⟩⟩
        have gp := gi.add (o := .tup []) np0
        refine for_tup (xs := []) (fun j σ' H2 => RI F b H rA L rows (i + 1) (fun _ => True) σ' H2 ∧ H2 p0 = some (.tup [])) ⟨⟨ord, _, _, _, _, rfl, gp, (upd_ne (ne_of_none hL np0)).trans hL, hR.skip hio', trivial⟩, upd_same⟩ (fun j σ' H2 hj hI2 => .inl (.inl hI2.2)) (fun j x σ' H2 hx hI2 => by simp at hx) fun σ' H2 hI2 => hI2.1
    · obtain ⟨ord, y2, y3, y4, y5, rfl, gi, hL, hR, _⟩ := hI.ex
      rw [hrl] at hR
      exact ⟨_, rfl, q H' L ord gi nL hL hR.done⟩
end
end K00

set_option Elab.async false
set_option linter.all false
set_option maxRecDepth 100000
set_option maxHeartbeats 4000000
/-! K0h: the first documents of a shape. -/
namespace K00
open PySem PySem.Spec PyProof.Rows L2 Lf
open PySem.W (alike alikeAll dataLt)
section
variable {P : Program} {w : World} {K : PySem.W.Frag} {mg : Str → Option Value} {base : Heap}
theorem flat_rep (v : V) (n : Nat) : (List.replicate n [v]).flatten = List.replicate n v := by
  induction n with
  | zero => rfl
  | succ n ih => rw [List.replicate_succ, List.flatten_cons, ih]; rfl
theorem dta_rep {H : Hp} (n : Nat) : DtAll K H (List.replicate n V.non) ((List.replicate n (none : Option Doc)).map encO) := by
  induction n with
  | zero => exact .nil
  | succ n ih => exact .cons .non ih
theorem dta_set {H : Hp} {v : V} {d : PyData} : ∀ {us : List V} {ds : List PyData} (i : Nat), DtAll K H us ds → Dt K H v d → DtAll K H (us.set i v) (ds.set i d)
  | _, _, _, .nil, _ => .nil
  | _, _, 0, .cons _ h2, h => .cons h h2
  | _, _, i + 1, .cons h1 h2, h => .cons h1 (dta_set i h2 h)
theorem encO_dt {H : Hp} {v : V} {o : Option Doc} (h : Dt K H v (encO o)) : decide (v = .non) = decide (o = none) := by
  cases o with
  | none =>
    cases h
    rfl
  | some d =>
    obtain ⟨n, ps⟩ := d
    rw [encO, Doc.enc] at h
    obtain ⟨a, xs, rfl, _⟩ := h.inv
    rfl
structure Known (os : List (Option Doc)) (n t : Nat) : Prop where
  len : os.length = n
  few : nones os ≤ n - t
  docs : ∀ d, some d ∈ os → d.fine = true ∧ d.deep ≤ t ∧ d.size ≤ szOf t
theorem Known.next {os : List (Option Doc)} {n t : Nat} (h : Known os n t) (h0 : nones os = 0) : Known os n (t + 1) := ⟨h.len, by omega, fun d hd => by
  obtain ⟨h1, h2, h3⟩ := h.docs d hd
  exact ⟨h1, by omega, Nat.le_trans h3 (szOf_mono t)⟩⟩
theorem Known.put {os : List (Option Doc)} {n t kd : Nat} {d : Doc} (h : Known os n t) (hk : os[kd]? = some none) (h1 : d.fine = true) (h2 : d.deep ≤ t + 1) (h3 : d.size ≤ szOf (t + 1)) : Known (os.set kd (some d)) n (t + 1) := by
  refine ⟨by rw [List.length_set]; exact h.len, ?_, fun e he => ?_⟩
  · have := nones_set (d := d) hk
    have := h.few
    omega
  · rcases List.mem_or_eq_of_mem_set he with q | q
    · obtain ⟨a1, a2, a3⟩ := h.docs e q
      exact ⟨a1, by omega, Nat.le_trans a3 (szOf_mono t)⟩
    · cases q
      exact ⟨h1, h2, h3⟩
structure Best (K : PySem.W.Frag) (os : List (Option Doc)) (t : Nat) (H : Hp) (bv : V) : Prop where
  ok : bv = .non ∨ ∃ (d : Doc) (kd : Nat), Dt K H bv (.tuple [d.enc, .int (kd : Nat)]) ∧ os[kd]? = some none ∧ d.fine = true ∧ d.deep ≤ t + 1 ∧ d.size ≤ szOf (t + 1)
theorem Best.go {F : Fr} {b c : Nat} {H H' : Hp} {os : List (Option Doc)} {t : Nat} {bv : V} (g : Go F b H c H') (h : Best K os t H bv) : Best K os t H' bv := by
  rcases h.ok with e | ⟨d, kd, h1, h2⟩
  · exact ⟨.inl e⟩
  · exact ⟨.inr ⟨d, kd, g.dt h1, h2⟩⟩
structure FI (K : PySem.W.Frag) (F : Fr) (b : Nat) (H : Hp) (sv : V) (L : Addr) (n t : Nat) (σ : L2.St) (H' : Hp) : Prop where
  ex : ∃ (us : List V) (os : List (Option Doc)) (y2 y3 y4 y5 y6 y7 y8 y9 : Option V), σ = [some sv, some (.ref L), y2, y3, y4, y5, y6, y7, y8, y9] ∧ Go F b H b H' ∧ H' L = some (.lst us) ∧ DtAll K H' us (os.map encO) ∧ Known os n t
structure FI2 (K : PySem.W.Frag) (F : Fr) (b : Nat) (Ht : Hp) (sv : V) (L : Addr) (s : Shp) (os : List (Option Doc)) (t k : Nat) (σ : L2.St) (H' : Hp) : Prop where
  ex : ∃ (bv : V) (y2 y4 y5 y6 y7 y8 y9 : Option V), σ = [some sv, some (.ref L), y2, some bv, y4, y5, y6, y7, y8, y9] ∧ Go F b Ht b H' ∧ Best K os t H' bv ∧ (bv = .non → ∀ i < k, ∀ ws, s[i]? = some ws → ∀ w ∈ ws, ¬ Cand os i w)
structure FI3 (K : PySem.W.Frag) (F : Fr) (b : Nat) (Ht : Hp) (sv : V) (L : Addr) (s : Shp) (os : List (Option Doc)) (t k : Nat) (ka : Addr) (ws : List Way) (j : Nat) (σ : L2.St) (H' : Hp) : Prop where
  ex : ∃ (bv : V) (y2 y6 y7 y8 y9 : Option V), σ = [some sv, some (.ref L), y2, some bv, some (.int (k : Nat)), some (.ref ka), y6, y7, y8, y9] ∧ Go F b Ht b H' ∧ Best K os t H' bv ∧ (bv = .non → (∀ i < k, ∀ ws, s[i]? = some ws → ∀ w ∈ ws, ¬ Cand os i w) ∧ ∀ w ∈ ws.take j, ¬ Cand os k w)
def spFirsts (K : PySem.W.Frag) : Sp := fun vs H Q _ => ∃ (F : Fr) (b : Nat) (sv : V) (s : Shp), vs = [sv] ∧ F.T b H ∧ Dt K H sv (encShp s) ∧ Good s ∧ Ranked s ∧ s.length ≤ 6 ∧
  ∀ H' L us (ds : List Doc), Go F b H b H' → H L = none → H' L = some (.lst us) → DtAll K H' us (encs ds) → ds.length = s.length → (∀ d ∈ ds, d.fine = true ∧ d.deep ≤ s.length ∧ d.size ≤ szOf s.length) → Q (.ref L) H'
theorem szOf6 {t : Nat} (h : t ≤ 6) : szOf t ≤ 364 := by
  have : ∀ t : Fin 7, szOf t.val ≤ 364 := by decide
  exact this ⟨t, by omega⟩
set_option maxHeartbeats 8000000 in
theorem pr__law_firsts {f : Addr} {fd : FuncData} {k : Nat} (T : Txt mg) (D : Def K mg "_law_firsts" ["shape_so"] s__law_firsts f fd) (G__law_key : Pr P w K mg base k "_law_key" ["document"] (spKey0 K 7)) : Pr P w K mg base (k + 1) "_law_firsts" ["shape_so"] (spFirsts K) := by
  refine Pr.of' D sc__law_firsts (fun vs H Q E h => ?_) fun cdv A outer s0 H vs Q E hcd hG hr h => ?_
  · obtain ⟨_, _, _, _, rfl, _⟩ := h
    rfl
  · obtain ⟨F, b, sv, s, rfl, hT, hs, hg, hrk, hn6, q⟩ := h
    refine ⟨_, (pss_cons (ps_set (i := 1) sc__law_firsts.nd rfl (Or.inr rfl) (pe_op op_rep (pe_lst (pa_cons pe_non pa_nil)) (pe_callB call_len_seq (by rfl) T.len PySem.boot_len (pa_cons (pv 0) pa_nil))))
  (pss_cons (ps_for (passes_of rfl) rfl (pi_tup (pv 0)) (pg_name (i := 2) sc__law_firsts.nd rfl (Or.inl rfl)) (
    (pss_cons (ps_set (i := 3) sc__law_firsts.nd rfl (Or.inl rfl) pe_non)
    (pss_cons (ps_for (passes_of rfl) rfl (LfE.pi_enumT (by rfl) T.enumerate (pa_cons (pv 0) pa_nil)) (pg_tup rfl (pgs_cons (pg_name (i := 4) sc__law_firsts.nd rfl (Or.inl rfl)) (pgs_cons (pg_name (i := 5) sc__law_firsts.nd rfl (Or.inl rfl)) pgs_nil))) (
      (pss_one (ps_for (passes_of rfl) rfl (pi_tup (pv 5)) (pg_tup rfl (pgs_cons (pg_name (i := 6) sc__law_firsts.nd rfl (Or.inl rfl)) (pgs_cons (pg_name (i := 7) sc__law_firsts.nd rfl (Or.inl rfl)) pgs_nil))) (
        (pss_one (ps_if (PW.pt (pw_and (pt_cmpR op_isN (pe_ix ix_list (pv 1) (pv 4) (fun _ _ => rfl)) pe_non (nomark _)) (pw_and1 (pt_cmpR (op_eqL0 (hu0 hr)) (pe_lc (own := [("part", 8)]) rfl sc__law_firsts.nd (pi_tup (pv 7)) (blkOk_by (own := [("part", 8)]) (N := N__law_firsts) (sc := defScope s__law_firsts) (by decide +kernel)) (fun _ _ _ _ _ => (pg_name (i := 8) sc__law_firsts.nd rfl (Or.inl rfl))) (fun _ _ _ _ _ => (pts_one (pt_cmpR op_isN (pe_ix (show IxR _ (rIxL K) from ix_list) (pv 1) (pv 8) (fun _ _ => rfl)) pe_non (nomark _)))) (fun _ _ _ _ _ => (pv 8))) (pe_lst pa_nil) (nomark _))))) (
          (pss_cons (ps_set (i := 9) sc__law_firsts.nd rfl (Or.inl rfl) (pe_op op_catA (pe_tup (pa_cons (pv 6) pa_nil)) (pe_callTy call_tuple_of (by rfl) T.tuple (by decide +kernel) (pa_cons (pe_lc (own := [("part", 8)]) rfl sc__law_firsts.nd (pi_tup (pv 7)) (blkOk_by (own := [("part", 8)]) (N := N__law_firsts) (sc := defScope s__law_firsts) (by decide +kernel)) (fun _ _ _ _ _ => (pg_name (i := 8) sc__law_firsts.nd rfl (Or.inl rfl))) (fun _ _ _ _ _ => pts_nil) (fun _ _ _ _ _ => (pe_ix (show IxR _ (rIxL K) from ix_list) (pv 1) (pv 8) (fun _ _ => rfl)))) pa_nil))))
          (pss_one (ps_if (PW.pt (pw_or (pt_cmpR op_isN (pv 3) pe_non (nomark _)) (pw_or1 (pt_cmpR op_ltX (pcall hG G__law_key hr (pa_cons (pv 9) pa_nil)) (pcall hG G__law_key hr (pa_cons (pe_ix ix_tup (pv 3) pe_int (fun _ _ => rfl)) pa_nil)) (nomark _))))) (
            (pss_one (ps_set (i := 3) sc__law_firsts.nd rfl (Or.inl rfl) (pe_tup (pa_cons (pv 9) (pa_cons (pv 4) pa_nil)))))) (pss_nil))))) (pss_nil))))))))
    (pss_one (ps_if (pt_cmpR op_notN (pv 3) pe_non (nomark _)) (
      (pss_one (ps_asg (pe_ix ix_tup (pv 3) pe_int (fun _ _ => rfl)) (pg_sub (pv 1) (pe_ix ix_tup (pv 3) pe_int (fun _ _ => rfl)) set_list)))) (pss_nil)))))))
  (pss_one (ps_ret (pv 1))))), ?_⟩
    obtain ⟨sa, sx, rfl, hsq, hsx⟩ := hs.inv
    have hsl : sx.length = s.length := by rw [hsx.length, List.length_map]
    -- found = [None] * len(shape_so)
    refine ⟨by show 1 ≤ sizeLine; decide, fun l0 n0 => ?_⟩
    have g0 := Go.new (o := .lst [.non]) hT n0
    refine ⟨_, rfl, sa, sx, rfl, .inr (g0.sqT hsq), l0, _, [.non], rfl, rfl, upd_same, by omega, by omega, sz6 (by show 1 * sx.length ≤ 1000000; omega), fun L nL => ?_⟩
    have g1 := g0.add (o := .lst (List.replicate ((sx.length : Nat) : Int).toNat [V.non]).flatten) nL
    have nL0 := g0.was nL
    have hL1 : (upd (upd H l0 (.lst [.non])) L (.lst (List.replicate ((sx.length : Nat) : Int).toNat [V.non]).flatten)) L = some (.lst (List.replicate sx.length V.non)) := by
      rw [upd_same, flat_rep]
      rfl
    generalize upd (upd H l0 (.lst [.non])) L (.lst (List.replicate ((sx.length : Nat) : Int).toNat [V.non]).flatten) = H1 at *
    refine ⟨_, rfl, sa, rfl, ⟨sx, g1.sqT hsq⟩, for_tup (xs := sx) (FI K F b H (.ref sa) L s.length) ?_ (fun i σ' H' hi hI => ?_) (fun t x σ' H' hx hI => ?_) fun σ' H' hI => ?_⟩
    · refine ⟨_, List.replicate s.length none, _, _, _, _, _, _, _, _, rfl, g1, hL1, by rw [hsl]; exact dta_rep _, by simp, by rw [nones_rep]; omega, fun d hd => ?_⟩
      have := List.eq_of_mem_replicate hd
      cases this
    · obtain ⟨us, os, y2, y3, y4, y5, y6, y7, y8, y9, rfl, gi, _⟩ := hI.ex
      exact gi.sqT hsq
    · obtain ⟨us, os, y2, y3, y4, y5, y6, y7, y8, y9, rfl, gi, hL, hus, hkn⟩ := hI.ex
      have ht : t < s.length := by
        have := (List.getElem?_eq_some_iff.mp hx).1
        omega
      have hol := hkn.len
      have hus' : us.length = os.length := by rw [hus.length, List.length_map]
      have hsz := szOf6 (show t + 1 ≤ 6 by omega)
      have hsq' := gi.sqT hsq
      have hsx' := gi.dta hsx
      have nN := gi.nn nL0
      have hind : ∀ i : Nat, i < os.length → ∃ v o, us[i]? = some v ∧ os[i]? = some o ∧ Dt K H' v (encO o) := fun i hi => by
        have e : os[i]? = some os[i] := List.getElem?_eq_getElem hi
        obtain ⟨v, hv, hd⟩ := hus.getD (i := i) (d := encO os[i]) (by rw [List.getElem?_map, e]; rfl)
        exact ⟨v, _, hv, e, hd⟩
      refine ⟨_, rfl, sa, sx, rfl, hsq', for_enumT (K := K) (xs := sx) (FI2 K F b H' (.ref sa) L s os t) ⟨.non, _, _, _, _, _, _, _, rfl, Go.refl gi.r, ⟨.inl rfl⟩, fun _ i hi => absurd hi (Nat.not_lt_zero _)⟩ (fun i σ2 H2 hi hI2 => ?_) (fun kk x2 T2 σ2 H2 hx2 hI2 nT => ?_) fun σ2 H2 hI2 => ?_⟩
      · obtain ⟨bv, y2, y4, y5, y6, y7, y8, y9, rfl, g2, _⟩ := hI2.ex
        exact g2.sqT hsq'
      · obtain ⟨bv, y2, y4, y5, y6, y7, y8, y9, rfl, g2, hbest, hcand⟩ := hI2.ex
        have gT := g2.add (o := .tup [.int (kk : Nat), x2]) nT
        obtain ⟨wd, hwd, hxd⟩ := hsx'.get hx2
        rw [List.getElem?_map] at hwd
        cases hsk : s[kk]? with
        | none => rw [hsk] at hwd; cases hwd
        | some ws =>
          rw [hsk] at hwd
          cases hwd
          obtain ⟨ka, kx, rfl, hks, hka⟩ := hxd.inv
          have hkl : kx.length = ws.length := by rw [hka.length, List.length_map]
          obtain ⟨_, _, hways⟩ := hg.kinds _ (List.mem_of_getElem? hsk)
          have hkk : kk < os.length := by
            have := (List.getElem?_eq_some_iff.mp hsk).1
            omega
          obtain ⟨vk, ok, hvk, hok, hdk⟩ := hind kk hkk
          refine ⟨T2, _, rfl, .inl (.inl upd_same), rfl, _, _, rfl, _, _, rfl, rfl, ?_⟩
          refine ⟨_, rfl, ka, rfl, ⟨kx, gT.sqT hks⟩, for_tup (xs := kx) (FI3 K F b H' (.ref sa) L s os t kk ka ws) ⟨bv, _, _, _, _, _, rfl, gT, hbest.go (Go.new (o := .tup [.int (kk : Nat), .ref ka]) g2.r nT), fun e => ⟨hcand e, by simp⟩⟩ (fun j σ3 H3 hj hI3 => ?_) (fun j x3 σ3 H3 hx3 hI3 => ?_) fun σ3 H3 hI3 => ?_⟩
          · obtain ⟨bv, y2, y6, y7, y8, y9, rfl, g3, _⟩ := hI3.ex
            exact g3.sqT hks
          · obtain ⟨bv, y2, y6, y7, y8, y9, rfl, g3, hbest3, hcand3⟩ := hI3.ex
            obtain ⟨wd, hwd, hxd⟩ := (g3.dta hka).get hx3
            rw [List.getElem?_map] at hwd
            cases hwi : ws[j]? with
            | none => rw [hwi] at hwd; cases hwd
            | some wy =>
              rw [hwi] at hwd
              cases hwd
              obtain ⟨nm, pp⟩ := wy
              obtain ⟨g4, g5, g6⟩ := hways _ (List.mem_of_getElem? hwi)
              have g4' : isNameS nm = true := g4
              have g5' : pp.length ≤ 3 := g5
              have g6' : ∀ p ∈ pp, p < s.length := g6
              obtain ⟨a, xs, rfl, hsqa, ha⟩ := hxd.inv
              obtain ⟨w1, r1, rfl, hw1, hr1⟩ := ha.inv
              obtain ⟨w2, r2, rfl, hw2, hr2⟩ := hr1.inv
              cases hr2
              obtain ⟨pa, px, rfl, hps, hpa⟩ := hw2.inv
              have hpl : px.length = pp.length := by rw [hpa.length, List.length_map]
              have hL3 := g3.keep nN hL
              have htk : ws.take (j + 1) = ws.take j ++ [(nm, pp)] := by rw [List.take_add_one, hwi]; rfl
              have hpv : ∀ (i : Nat) (v : V), px[i]? = some v → ∃ p, pp[i]? = some p ∧ v = .int (p : Nat) ∧ p < s.length := fun i v hv => by
                obtain ⟨d, hd, hvd⟩ := hpa.get hv
                rw [List.getElem?_map] at hd
                cases hpp : pp[i]? with
                | none => rw [hpp] at hd; cases hd
                | some p =>
                  rw [hpp] at hd
                  cases hd
                  exact ⟨p, rfl, hvd.inv_int, g6' p (List.mem_of_getElem? hpp)⟩
              -- nothing comes of this way
              have skip : ∀ (H5 : Hp) (z6 z7 z8 z9 : Option V), Go F b H3 b H5 → (bv = .non → ¬ Cand os kk (nm, pp)) → FI3 K F b H' (.ref sa) L s os t kk ka ws (j + 1) [some (.ref sa), some (.ref L), y2, some bv, some (.int (kk : Nat)), some (.ref ka), z6, z7, z8, z9] H5 := fun H5 z6 z7 z8 z9 g35 hc =>
                ⟨bv, _, _, _, _, _, rfl, g3.trans g35, hbest3.go g35, fun e => ⟨(hcand3 e).1, fun w hw => by
                  rw [htk] at hw
                  rcases List.mem_append.mp hw with z | z
                  · exact (hcand3 e).2 w z
                  · rcases List.mem_singleton.mp z with rfl
                    exact hc e⟩⟩
              refine ⟨a, _, rfl, hsqa, rfl, _, _, rfl, _, _, rfl, rfl, ?_⟩
              refine ⟨_, rfl, _, rfl, L, us, _, vk, rfl, rfl, .inl (.inl hL3), atI_nat hvk, rfl, _, rfl, ?_⟩
              rw [encO_dt hdk]
              cases ok with
              | some d0 =>
                refine iteF (iteF (skip _ _ _ _ _ (Go.refl g3.r) fun _ hc => ?_))
                rw [hc.1] at hok
                cases hok
              | none =>
                refine iteT ?_
                have dec : ∀ i : Nat, Decidable (∃ p, pp[i]? = some p ∧ os[p]? = some none) := fun i => Classical.propDecidable _
                dsimp only [tTest, tOp]
                refine tLc_iTup ?_
                refine ⟨_, rfl, ?_⟩
                refine lcTf (K := K) (F := F) (b := b) (f := fun i => decide (∃ p, pp[i]? = some p ∧ os[p]? = some none)) hps g3.r (by omega) (fun D0 i x H4 hD gg hx4 Pq Pn hP hPn => ?_) fun D0 ys H4 nD gg hD4 hiff => ?_
                · obtain ⟨p, hp1, rfl, hp3⟩ := hpv i x hx4
                  obtain ⟨v, o, hv, ho, hd⟩ := hind p (by omega)
                  have hL4 := gg.keep nN hL3
                  refine ⟨rfl, _, rfl, _, rfl, L, us, _, v, rfl, rfl, .inl (.inl hL4), atI_nat hv, rfl, _, rfl, ?_⟩
                  rw [encO_dt hd]
                  cases o with
                  | none => exact iteT ⟨_, rfl, hP (decide_eq_true ⟨p, hp1, ho⟩) _ _ (Go.refl gg.r)⟩
                  | some d0 =>
                    refine iteF (hPn (decide_eq_false ?_) _ (Go.refl gg.r))
                    rintro ⟨p', h1, h2⟩
                    rw [hp1] at h1
                    cases h1
                    rw [ho] at h2
                    cases h2
                · refine ⟨Nat.zero_le _, fun e ne => ⟨D0, e, ys, rfl, rfl, .inl (.inl ((upd_ne (ne_of_none hD4 ne)).trans hD4)), .inl (.inl upd_same), _, rfl, ?_⟩⟩
                  have g35 := gg.add (o := .lst []) ne
                  cases hys : ys.isEmpty with
                  | false =>
                    refine iteF (skip _ _ _ _ _ g35 fun _ hc => ?_)
                    have : ys.isEmpty = true := hiff.mpr fun i hi => decide_eq_false (by
                      rintro ⟨p, h1, h2⟩
                      obtain ⟨d, hd⟩ := hc.2 p (List.mem_of_getElem? h1)
                      rw [hd] at h2
                      cases h2)
                    rw [hys] at this
                    cases this
                  | true =>
                    refine iteT ?_
                    have hall := hiff.mp hys
                    have hfound : ∀ (i p : Nat), pp[i]? = some p → ∃ v d, us[p]? = some v ∧ os[p]? = some (some d) ∧ Dt K H' v d.enc := fun i p hp => by
                      have hil := (List.getElem?_eq_some_iff.mp hp).1
                      obtain ⟨v, o, hv, ho, hd⟩ := hind p (by have := g6' p (List.mem_of_getElem? hp); omega)
                      cases o with
                      | none => exact absurd ⟨p, hp, ho⟩ (of_decide_eq_false (hall i (by omega)))
                      | some d => exact ⟨v, d, hv, ho, hd⟩
                    have g05 := g3.trans g35
                    have hps5 := g35.sqT hps
                    refine ⟨_, rfl, by show 1 ≤ sizeLine; decide, fun p1 n1 => ?_⟩
                    have g06 := g05.add (o := .tup [w1]) n1
                    have g36 := g35.add (o := .tup [w1]) n1
                    dsimp only [tCB, tCons, tNil]
                    refine tLc_iTup ?_
                    refine ⟨_, rfl, ?_⟩
                    refine lcT (K := K) (F := F) (b := b) (e := 0) (R := fun _ i y H => ∃ d : Doc, Dt K H y d.enc ∧ (d.fine = true ∧ d.deep ≤ t ∧ d.size ≤ szOf t)) (g36.sqT hps) g36.r (by omega) (fun D i H H' y _ tt h => by
                      obtain ⟨d, h1, h2⟩ := h
                      exact ⟨d, Dt.ts tt _ _ h1, h2⟩) (fun D1 i x H6 hD1 hI6 hx6 Pq hPq => ?_) fun D1 zs H6 nD1 g7 hD6 hlz hallz => ?_
                    · obtain ⟨p, hp1, rfl, hp3⟩ := hpv i x hx6
                      obtain ⟨v, d, hv, ho, hd⟩ := hfound i p hp1
                      have hgo := g06.trans hI6.go
                      exact ⟨rfl, _, rfl, _, rfl, L, us, _, v, rfl, rfl, .inl (.inl (hgo.keep nN hL)), atI_nat hv, hPq _ _ (Go.refl hI6.go.r) ⟨d, hgo.dt hd, hkn.docs d (List.mem_of_getElem? ho)⟩⟩
                    · obtain ⟨es, he1, he2, he3⟩ := docs_of hallz
                      have hle : es.length ≤ 3 := by omega
                      have g7' : Go F b (upd (upd H4 e (.lst [])) p1 (.tup [w1])) b H6 := g7
                      refine ⟨D1, zs, rfl, .inl ⟨.inl (.inl hD6), fun p2 n2 => ?_⟩⟩
                      have g8 := g7'.add (o := .tup zs) n2
                      have hname : Dt K (upd H6 p2 (.tup zs)) (.ref p1) (.tuple [.str nm]) := g8.dt (dt_new n1 (.cons (g35.dt hw1) .nil))
                      refine catA (F := F) (b := b) g8.r hname (dt_new n2 he1) (by rw [encs_len]; simp only [List.length_cons, List.length_nil]; omega) fun hv H7 g9 hh => ?_
                      have g39 := g36.trans (g8.trans g9)
                      have g09 := g3.trans g39
                      have hfin : (Doc.nd nm es).fine = true := by
                        rw [Doc.fine, g4', (fines_all es).mpr fun d hd => (he3 d hd).1]
                        simp
                        omega
                      have hdp : deeps es ≤ t := (deeps_le es).mpr fun d hd => (he3 d hd).2.1
                      have hsz1 := sizes_le (n := szOf t) (ps := es) fun d hd => (he3 d hd).2.2
                      have hsz3 : es.length * szOf t ≤ 3 * szOf t := Nat.mul_le_mul_right _ hle
                      have hdeep : (Doc.nd nm es).deep ≤ t + 1 := by rw [Doc.deep]; omega
                      have hsize : (Doc.nd nm es).size ≤ szOf (t + 1) := by rw [Doc.size, szOf]; omega
                      have hhere : Dt K H7 hv (Doc.nd nm es).enc := by
                        rw [Doc.enc]
                        exact hh
                      -- this one is the best
                      have take : ∀ (H8 : Hp) (z6 z7 z8 z9 : Option V), Go F b H7 b H8 → ∀ p, H8 p = none → FI3 K F b H' (.ref sa) L s os t kk ka ws (j + 1) [some (.ref sa), some (.ref L), y2, some (.ref p), some (.int (kk : Nat)), some (.ref ka), z6, z7, z8, z9] (upd H8 p (.tup [hv, .int (kk : Nat)])) := fun H8 z6 z7 z8 z9 g78 p np =>
                        ⟨.ref p, _, _, _, _, _, rfl, (g09.trans g78).add np, ⟨.inr ⟨_, kk, dt_new np (.cons (g78.dt hhere) (.cons (.int _) .nil)), hok, hfin, hdeep, hsize⟩⟩, fun e => by cases e⟩
                      have hbest7 := hbest3.go g39
                      refine ⟨_, rfl, rfl, _, rfl, ?_⟩
                      rcases hbest7.ok with rfl | ⟨d, kd, hbd, hbk, hb1, hb2, hb3⟩
                      · rw [decide_eq_true rfl]
                        exact iteT (iteT ⟨_, rfl, _, rfl, by show 2 ≤ sizeLine; decide, fun p np => take _ _ _ _ _ (Go.refl g9.r) p np⟩)
                      · obtain ⟨ba, bx, rfl, hbs, hba⟩ := hbd.inv
                        obtain ⟨v1, r1, rfl, hv1, hr1⟩ := hba.inv
                        rw [decide_eq_false (show ¬ V.ref ba = V.non from fun z => by cases z)]
                        refine iteF ?_
                        refine ⟨_, rfl, F, b, hv, .nd nm es, rfl, g9.r, hhere, by omega, by omega, fun H8 k1 g10 hk1 _ => ?_⟩
                        refine ⟨_, rfl, ba, _, 0, v1, rfl, rfl, g10.sqT hbs, atI_nat (j := 0) rfl, F, b, v1, d, rfl, g10.r, g10.dt hv1, by omega, by omega, fun H9 k2 g11 hk2 _ => ?_⟩
                        have hroom : (A.deeper (envOfC "_law_firsts" (defScope s__law_firsts) s0.heap.objs.size f cdv)).units + min (Doc.nd nm es).key.depth d.key.depth < cLine := by
                          have h1 := hr.un
                          have h2 : min (Doc.nd nm es).key.depth d.key.depth ≤ (Doc.nd nm es).key.depth := Nat.min_le_left _ _
                          have h3 := depth_key (Doc.nd nm es)
                          omega
                        refine ⟨_, _, (g11.dt hk1).dp, hk2.dp, alike_key _ _, (by rw [Doc.key]; intro z; cases z), hroom, _, rfl, ?_⟩
                        have g79 := g10.trans g11
                        cases dataLt (Doc.nd nm es).key d.key with
                        | true => exact iteT ⟨_, rfl, _, rfl, by show 2 ≤ sizeLine; decide, fun p np => take _ _ _ _ _ g79 p np⟩
                        | false => exact iteF (skip _ _ _ _ _ (g39.trans g79) fun z => by cases z)
          · obtain ⟨bv, y2, y6, y7, y8, y9, rfl, g3, hbest3, hcand3⟩ := hI3.ex
            refine ⟨bv, _, _, _, _, _, _, _, rfl, g3, hbest3, fun e i hi ws' hws' w hw => ?_⟩
            by_cases hik : i < kk
            · exact (hcand3 e).1 i hik ws' hws' w hw
            · have eik : i = kk := by omega
              subst eik
              rw [hsk] at hws'
              cases hws'
              have := (hcand3 e).2
              rw [hkl, List.take_length] at this
              exact this w hw
      · obtain ⟨bv, y2, y4, y5, y6, y7, y8, y9, rfl, g2, hbest, hcand⟩ := hI2.ex
        refine ⟨_, rfl, rfl, _, rfl, ?_⟩
        have hL2 := g2.keep nN hL
        rcases hbest.ok with rfl | ⟨d, kd, hbd, hbk, hb1, hb2, hb3⟩
        · rw [decide_eq_true rfl]
          refine iteF ⟨us, os, _, _, _, _, _, _, _, _, rfl, gi.trans g2, hL2, g2.dta hus, hkn.next ?_⟩
          refine no_cand hg hrk hol fun i ws w h1 h2 => hcand rfl i ?_ ws h1 w h2
          have := (List.getElem?_eq_some_iff.mp h1).1
          omega
        · obtain ⟨ba, bx, rfl, hbs, hba⟩ := hbd.inv
          obtain ⟨v1, r1, rfl, hv1, hr1⟩ := hba.inv
          obtain ⟨v2, r2, rfl, hv2, hr2⟩ := hr1.inv
          have hv2' := hv2.inv_int
          subst hv2'
          rw [decide_eq_false (show ¬ V.ref ba = V.non from fun z => by cases z)]
          have hkd := (List.getElem?_eq_some_iff.mp hbk).1
          refine iteT ⟨_, rfl, ba, _, 0, v1, rfl, rfl, hbs, atI_nat (j := 0) rfl, _, rfl, _, rfl, ba, _, 1, _, rfl, rfl, hbs, atI_nat (j := 1) rfl, L, us, _, kd, rfl, rfl, hL2, ixN_nat' (by omega), ?_⟩
          refine ⟨us.set kd v1, os.set kd (some d), _, _, _, _, _, _, _, _, rfl, (gi.trans g2).put nL0, upd_same, ?_, hkn.put hbk hb1 hb2 hb3⟩
          have := dta_set kd (DtAll.ts (ts_lst (ws := us.set kd v1) hL2) _ _ (g2.dta hus)) (Dt.ts (ts_lst (ws := us.set kd v1) hL2) _ _ hv1)
          rw [List.map_set]
          exact this
    · obtain ⟨us, os, y2, y3, y4, y5, y6, y7, y8, y9, rfl, gi, hL, hus, hkn⟩ := hI.ex
      have h0 : nones os = 0 := by
        have := hkn.few
        rw [hsl] at this
        omega
      obtain ⟨ds, rfl⟩ := nones_all h0
      have hlen := hkn.len
      rw [List.length_map] at hlen
      refine ⟨_, rfl, q H' L us ds gi nL0 hL ?_ hlen fun d hd => ?_⟩
      · rw [encs_map]
        rw [List.map_map] at hus
        exact hus
      · have := hkn.docs d (List.mem_map.mpr ⟨d, hd, rfl⟩)
        rw [hsl] at this
        exact this
end
end K00

set_option Elab.async false
set_option linter.all false
set_option maxRecDepth 100000
set_option maxHeartbeats 4000000
/-! K0l: the drawn shape. -/
namespace K00
open PySem PySem.Spec PyProof.Rows L2 Lf
open PySem.W (alike alikeAll dataLt)
abbrev s__law_shape : Stmt := topS 35
abbrev N__law_shape : List Str := ["state", "most", "wide", "size", "raw", "kind", "ways", "turn", "sign", "spot", "rows", "order", "found", "part", "name", "parts"]
theorem sc__law_shape : FnScope N__law_shape ["state", "most", "wide"] (defScope s__law_shape) := ⟨rfl, rfl, rfl, by decide +kernel, rfl, by decide +kernel, by decide +kernel⟩
section
variable {P : Program} {w : World} {K : PySem.W.Frag} {mg : Str → Option Value} {base : Heap}
abbrev kOf (nm : Str) (c : Int) : List Key := [.inr nm, .inl c]
def KL (F : Fr) (rA : Addr) (H H' : Hp) : Prop := ∀ l us, l ≠ rA → ¬ F.N l → H l = some (.lst us) → H' l = some (.lst us)
theorem KL.go {F : Fr} {b c : Nat} {H H' : Hp} {rA : Addr} (g : Go F b H c H') : KL F rA H H' := fun l us _ n h => g.keep n h
theorem KL.dict {F : Fr} {H : Hp} {rA x : Addr} {kvs : List (List Key × V)} {o : HO} (hx : H x = some (.dT kvs)) : KL F rA H (upd H x o) := fun l us _ _ h => (upd_ne (ne_of h hx (by intro z; cases z))).trans h
theorem KL.raw {F : Fr} {H : Hp} {rA : Addr} {o : HO} : KL F rA H (upd H rA o) := fun l us n _ h => (upd_ne n).trans h
theorem KL.trans {F : Fr} {rA : Addr} {H1 H2 H3 : Hp} (a : KL F rA H1 H2) (b : KL F rA H2 H3) : KL F rA H1 H3 := fun l us n n' h => b l us n n' (a l us n n' h)
def Ent (F : Fr) (n : Nat) (rA : Addr) (H : Hp) (k : List Key) (v : V) : Prop := ∃ (nm : Str) (c : Int) (l : Addr) (ps : List Nat), k = kOf nm c ∧ isNameS nm = true ∧ v = .ref l ∧ ¬ F.N l ∧ l ≠ rA ∧ H l = some (.lst (nI ps)) ∧ ps.length ≤ 3 ∧ ∀ p ∈ ps, p < n
theorem Ent.keep {F : Fr} {n : Nat} {rA : Addr} {H H' : Hp} {k : List Key} {v : V} (kl : KL F rA H H') (h : Ent F n rA H k v) : Ent F n rA H' k v := by
  obtain ⟨nm, c, l, ps, h1, h2, h3, h4, h5, h6, h7⟩ := h
  exact ⟨nm, c, l, ps, h1, h2, h3, h4, h5, kl l _ h5 h4 h6, h7⟩
def DOk (F : Fr) (n : Nat) (rA : Addr) (H : Hp) (kvs : List (List Key × V)) : Prop := ∀ k v, valV kvs k = some v → Ent F n rA H k v
theorem DOk.keep {F : Fr} {n : Nat} {rA : Addr} {H H' : Hp} {kvs : List (List Key × V)} (kl : KL F rA H H') (h : DOk F n rA H kvs) : DOk F n rA H' kvs := fun k v e => (h k v e).keep kl
theorem DOk.put {F : Fr} {n : Nat} {rA : Addr} {H : Hp} {kvs : List (List Key × V)} {k : List Key} {v : V} (h : DOk F n rA H kvs) (he : Ent F n rA H k v) : DOk F n rA H (putK kvs k v) := fun j u e => by
  rw [valV_put] at e
  by_cases q : j = k
  · rw [if_pos q] at e
    cases e
    rw [q]
    exact he
  · rw [if_neg q] at e
    exact h j u e
def Down (F : Fr) (rA : Addr) (H : Hp) (kvs : List (List Key × V)) (i : Nat) : Prop := ∃ (k : List Key) (l : Addr) (ps : List Nat), valV kvs k = some (.ref l) ∧ ¬ F.N l ∧ l ≠ rA ∧ H l = some (.lst (nI ps)) ∧ (∀ p ∈ ps, p < i) ∧ ps.length ≤ 1
theorem Down.keep {F : Fr} {rA : Addr} {H H' : Hp} {kvs : List (List Key × V)} {i : Nat} (kl : KL F rA H H') (h : Down F rA H kvs i) : Down F rA H' kvs i := by
  obtain ⟨k, l, ps, h1, h2, h3, h4, h5⟩ := h
  exact ⟨k, l, ps, h1, h2, h3, kl l _ h3 h2 h4, h5⟩
def RawOk (F : Fr) (n : Nat) (rA : Addr) (H : Hp) (i : Nat) (d : Addr) : Prop := ∃ kvs, H d = some (.dT kvs) ∧ ¬ F.N d ∧ DOk F n rA H kvs ∧ kvs.length ≤ 6 ∧ Down F rA H kvs i
theorem RawOk.keep {F : Fr} {n : Nat} {rA : Addr} {H H' : Hp} {i : Nat} {d : Addr} (kl : KL F rA H H') (kd : ∀ kvs, H d = some (.dT kvs) → ¬ F.N d → H' d = some (.dT kvs)) (h : RawOk F n rA H i d) : RawOk F n rA H' i d := by
  obtain ⟨kvs, h1, h2, h3, h4, h5⟩ := h
  exact ⟨kvs, kd kvs h1 h2, h2, h3.keep kl, h4, h5.keep kl⟩
theorem valV_mem {κ : Type} [DecidableEq κ] {kvs : List (κ × V)} {k : κ} {v : V} (h : valV kvs k = some v) : k ∈ kvs.map (·.1) := by
  unfold valV at h
  cases e : kvs.find? fun kv => decide (kv.1 = k) with
  | none => rw [e] at h; cases h
  | some p =>
    have h1 := List.find?_some e
    have h2 := List.mem_of_find?_eq_some e
    exact List.mem_map.mpr ⟨p, h2, of_decide_eq_true h1⟩
theorem mem_valV {κ : Type} [DecidableEq κ] {kvs : List (κ × V)} {k : κ} (h : k ∈ kvs.map (·.1)) : ∃ v, valV kvs k = some v := by
  obtain ⟨p, hp, rfl⟩ := List.mem_map.mp h
  have q := valV_any p.1 kvs
  have : (kvs.any fun kv => decide (kv.1 = p.1)) = true := List.any_eq_true.mpr ⟨p, hp, by simp⟩
  rw [this] at q
  exact Option.isSome_iff_exists.mp q.symm
theorem nI_inj : ∀ {a b : List Nat}, nI a = nI b → a = b
  | [], [], _ => rfl
  | [], _ :: _, h => by cases h
  | _ :: _, [], h => by cases h
  | x :: a, y :: b, h => by
    have h1 : V.int (x : Nat) :: nI a = V.int (y : Nat) :: nI b := h
    injection h1 with h2 h3
    injection h2 with h4
    have h5 : x = y := by omega
    rw [h5, nI_inj h3]
/-! ### written signs -/
def tSigns : List (Str × Int) → TA
  | [] => tNil
  | (a, c) :: r => tCons (tTup (tCons (L2.tC (.str a)) (tCons (L2.tC (.int c)) tNil))) (tSigns r)
theorem signs_read {F : Fr} {b : Nat} {σ : L2.St} : ∀ (r : List (Str × Int)) {H : Hp} {P : List V → Hp → Prop}, F.T b H →
    (∀ vs H', Go F b H b H' → vs.length = r.length → (∀ (i : Nat) (v : V), vs[i]? = some v → ∃ (p : Addr) (nm : Str) (c : Int), r[i]? = some (nm, c) ∧ v = .ref p ∧ H' p = some (.tup [.str nm, .int c])) → P vs H') → tSigns r σ H P
  | [], H, P, hT, q => q [] H (Go.refl hT) rfl fun i v h => by simp at h
  | (a, c) :: r, H, P, hT, q => by
    refine ⟨by show 2 ≤ sizeLine; decide, fun p np => ?_⟩
    have g := Go.new (o := .tup [.str a, .int c]) hT np
    refine signs_read r g.r fun vs H' g' hl he => ?_
    refine q (.ref p :: vs) H' (g.trans g') (by simp [hl]) fun i v hv => ?_
    cases i with
    | zero =>
      cases hv
      exact ⟨p, a, c, rfl, rfl, g'.tup upd_same⟩
    | succ i => exact he i v (by simpa using hv)
theorem cons_signs {F : Fr} {b : Nat} {σ : L2.St} {H : Hp} {P : List V → Hp → Prop} (r : List (Str × Int)) (hT : F.T b H) (hr : r.length ≤ 100)
    (q : ∀ l vs H', Go F b H b H' → H l = none → H' l = some (.lst vs) → vs.length = r.length → (∀ (i : Nat) (v : V), vs[i]? = some v → ∃ (p : Addr) (nm : Str) (c : Int), r[i]? = some (nm, c) ∧ v = .ref p ∧ H' p = some (.tup [.str nm, .int c])) → P [.ref l] H') : tCons (tLst (tSigns r)) tNil σ H P := by
  refine signs_read r hT fun vs H' g hl he => ⟨sz6 (by omega), fun l nl => ?_⟩
  exact q l vs _ (g.add nl) (g.was nl) upd_same hl fun i v hv => by
    obtain ⟨p, nm, c, h1, h2, h3⟩ := he i v hv
    exact ⟨p, nm, c, h1, h2, (upd_ne (ne_of_none h3 nl)).trans h3⟩
theorem dput_lc {wi : L2.TI} {g : TG} {tt : TT} {te td ty : TE} {vs : List Nat} {D : Ends} {σ : L2.St} {H : Hp} (h : tLc wi g tt te vs σ H fun v H1 => td σ H1 fun x H2 => ty σ H2 fun y H3 => ∃ a H4, x = .ref a ∧ DPut H3 a y v H4 ∧ D.nx σ H4) : sDPut td ty (tLc wi g tt te vs) D σ H := h
theorem dput_cat {wi : L2.TI} {g : TG} {tt : TT} {te td ty tb : TE} {r : R2} {vs : List Nat} {D : Ends} {σ : L2.St} {H : Hp} (h : tLc wi g tt te vs σ H fun x0 H0 => tb σ H0 fun y0 H1 => r x0 y0 H1 fun v H1 => td σ H1 fun x H2 => ty σ H2 fun y H3 => ∃ a H4, x = .ref a ∧ DPut H3 a y v H4 ∧ D.nx σ H4) : sDPut td ty (tOp r (tLc wi g tt te vs) tb) D σ H := h
theorem nats_of {n : Nat} : ∀ {ys : List V}, (∀ (i : Nat) (y : V), ys[i]? = some y → ∃ p : Nat, y = .int (p : Nat) ∧ p < n) → ∃ ps : List Nat, ys = nI ps ∧ ∀ p ∈ ps, p < n
  | [], _ => ⟨[], rfl, fun _ h => by cases h⟩
  | y :: r, h => by
    obtain ⟨p, rfl, hp⟩ := h 0 y rfl
    obtain ⟨ps, rfl, h2⟩ := nats_of (ys := r) fun i x e => h (i + 1) x (by simpa using e)
    refine ⟨p :: ps, rfl, fun q hq => ?_⟩
    rcases List.mem_cons.mp hq with e | e
    · rw [e]; exact hp
    · exact h2 q e
/-! ### numbered anew -/
def Ren (ord : List Nat) (w w' : Way) : Prop := w'.1 = w.1 ∧ w'.2.length = w.2.length ∧ ∀ (m j : Nat), w'.2[m]? = some j → ∃ p, w.2[m]? = some p ∧ ord[j]? = some p
def RenK (ord : List Nat) (ws ws' : List Way) : Prop := ws'.length = ws.length ∧ ∀ (m : Nat) (w' : Way), ws'[m]? = some w' → ∃ w, ws[m]? = some w ∧ Ren ord w w'
theorem good_ren {rows s : Shp} {ord : List Nat} (hg : Good rows) (hr : Ranked rows) (hR : Reach rows ord) (hl : s.length = ord.length) (h : ∀ (j : Nat) (ws' : List Way), s[j]? = some ws' → ∃ k ws, ord[j]? = some k ∧ rows[k]? = some ws ∧ RenK ord ws ws') : Good s ∧ Ranked s := by
  have hol := nodup_len _ _ hR.nd hR.lt
  have h0 := (List.getElem?_eq_some_iff.mp hR.zero).1
  refine ⟨⟨by omega, by have := hg.len; omega, fun ws' hws => ?_⟩, ?_⟩
  · obtain ⟨j, hj⟩ := List.mem_iff_getElem?.mp hws
    obtain ⟨k, ws, h1, h2, h3, h4⟩ := h j ws' hj
    obtain ⟨g1, g2, g3⟩ := hg.kinds ws (List.mem_of_getElem? h2)
    refine ⟨by omega, by omega, fun w' hw' => ?_⟩
    obtain ⟨m, hm⟩ := List.mem_iff_getElem?.mp hw'
    obtain ⟨w, hw, hn, hln, hp⟩ := h4 m w' hm
    obtain ⟨g4, g5, g6⟩ := g3 w (List.mem_of_getElem? hw)
    refine ⟨by rw [hn]; exact g4, by omega, fun p hpm => ?_⟩
    obtain ⟨m', hm'⟩ := List.mem_iff_getElem?.mp hpm
    obtain ⟨p0, _, h6⟩ := hp m' p hm'
    have := (List.getElem?_eq_some_iff.mp h6).1
    omega
  · obtain ⟨rk, hrk⟩ := hr
    refine ⟨fun j => rk (ord.getD j 0), fun j ws' hj => ?_⟩
    obtain ⟨k, ws, h1, h2, h3, h4⟩ := h j ws' hj
    obtain ⟨w, hw, hdn, hd1⟩ := hrk k ws h2
    obtain ⟨m, hm⟩ := List.mem_iff_getElem?.mp hw
    have hml := (List.getElem?_eq_some_iff.mp hm).1
    have hm' : ws'[m]? = some (ws'[m]'(by omega)) := List.getElem?_eq_getElem _
    obtain ⟨w2, hw2, hn, hln, hp⟩ := h4 m _ hm'
    rw [hm] at hw2
    cases hw2
    refine ⟨_, List.mem_of_getElem? hm', fun p hpm => ?_, by omega⟩
    obtain ⟨m2, hm2⟩ := List.mem_iff_getElem?.mp hpm
    obtain ⟨p0, h5, h6⟩ := hp m2 p hm2
    have := hdn p0 (List.mem_of_getElem? h5)
    show rk (ord.getD p 0) < rk (ord.getD j 0)
    rw [List.getD_eq_getElem?_getD, List.getD_eq_getElem?_getD, h1, h6]
    exact this
structure WOk (n i : Nat) (ws : List Way) : Prop where
  pos : 0 < ws.length
  len : ws.length ≤ 6
  ways : ∀ w ∈ ws, isNameS w.1 = true ∧ w.2.length ≤ 3 ∧ ∀ p ∈ w.2, p < n
  down : ∃ w ∈ ws, (∀ p ∈ w.2, p < i) ∧ w.2.length ≤ 1
theorem ways_of {H : Hp} {R : Nat → Way → Prop} : ∀ {ys : List V}, (∀ (i : Nat) (y : V), ys[i]? = some y → ∃ w : Way, Dt K H y (encWay w) ∧ R i w) → ∃ ws : List Way, DtAll K H ys (ws.map encWay) ∧ ws.length = ys.length ∧ ∀ (i : Nat) (w : Way), ws[i]? = some w → R i w := by
  intro ys
  induction ys generalizing R with
  | nil => exact fun _ => ⟨[], .nil, rfl, fun i w h => by simp at h⟩
  | cons y r ih =>
    intro h
    obtain ⟨w, h1, h2⟩ := h 0 y rfl
    obtain ⟨ws, h3, h4, h5⟩ := ih (R := fun i w => R (i + 1) w) fun i x e => h (i + 1) x (by simpa using e)
    refine ⟨w :: ws, .cons h1 h3, by simp [h4], fun i w' e => ?_⟩
    cases i with
    | zero =>
      cases e
      exact h2
    | succ i => exact h5 i w' (by simpa using e)
def spShape (K : PySem.W.Frag) : Sp := fun vs H Q _ => ∃ (F : Fr) (b : Nat) (st : Addr) (m : Nat), vs = [.ref st, .int (m : Nat), .int 3] ∧ F.T b H ∧ HasSt F st ∧ 1 ≤ m ∧ m ≤ 5 ∧ b + 300 ≤ 1000000 ∧
  ∀ H' u (s : Shp), Go F b H (b + 300) H' → Dt K H' u (encShp s) → Good s → Ranked s → s.length ≤ m → Q u H'
end
end K00

set_option Elab.async false
set_option linter.all false
set_option maxRecDepth 100000
set_option maxHeartbeats 4000000
set_option pp.maxSteps 600
set_option pp.proofs false
/-! K0m: the drawn shape, walked. -/
namespace K00
open PySem PySem.Spec PyProof.Rows L2 Lf
open PySem.W (alike alikeAll dataLt)
section
variable {P : Program} {w : World} {K : PySem.W.Frag} {mg : Str → Option Value} {base : Heap}
theorem nodup_idx : ∀ {l : List Nat} {i j p : Nat}, l.Nodup → l[i]? = some p → l[j]? = some p → i = j
  | [], _, _, _, _, h, _ => by simp at h
  | a :: r, 0, 0, _, _, _, _ => rfl
  | a :: r, 0, j + 1, p, hd, h1, h2 => by
    cases h1
    exact absurd (List.mem_of_getElem? (by simpa using h2)) (List.nodup_cons.mp hd).1
  | a :: r, i + 1, 0, p, hd, h1, h2 => by
    cases h2
    exact absurd (List.mem_of_getElem? (by simpa using h1)) (List.nodup_cons.mp hd).1
  | a :: r, i + 1, j + 1, p, hd, h1, h2 => by
    have := nodup_idx (List.nodup_cons.mp hd).2 (by simpa using h1) (by simpa using h2)
    omega
theorem signs8 : ∀ e ∈ ([("f", 1), ("g", 2), ("h", 3), ("f", 2), ("k", 1), ("a", 0), ("b", 0), ("c", 0)] : List (Str × Int)), isNameS e.1 = true ∧ 0 ≤ e.2 ∧ e.2 ≤ 3 := by decide +kernel
theorem signs3 : ∀ e ∈ ([("g", 2), ("k", 1), ("m", 1)] : List (Str × Int)), isNameS e.1 = true ∧ 1 ≤ e.2 ∧ e.2 ≤ 3 := by decide +kernel
theorem name_f : isNameS "f" = true := by decide +kernel
theorem names_abc : ∀ x ∈ ([.str "a", .str "b", .str "c"] : List V), ∃ nm : Str, x = .str nm ∧ isNameS nm = true := by
  intro x hx
  rcases List.mem_cons.mp hx with e | hx
  · exact ⟨_, e, by decide +kernel⟩
  rcases List.mem_cons.mp hx with e | hx
  · exact ⟨_, e, by decide +kernel⟩
  rcases List.mem_cons.mp hx with e | hx
  · exact ⟨_, e, by decide +kernel⟩
  · cases hx
/-- between two kinds -/
structure KI (F : Fr) (b : Nat) (H : Hp) (st rA : Addr) (m dm : Nat) (i : Nat) (σ : L2.St) (H' : Hp) : Prop where
  ex : ∃ (ds : List Addr) (y5 y6 y7 y8 y9 y10 y11 y12 y13 y14 y15 : Option V), σ = [some (.ref st), some (.int (m : Nat)), some (.int 3), some (.int (1 + ((dm : Nat) : Int))), some (.ref rA), y5, y6, y7, y8, y9, y10, y11, y12, y13, y14, y15] ∧
    Go F b H (b + 1 + 30 * i) H' ∧ H' rA = some (.lst (ds.map V.ref)) ∧ ds.length = i ∧ ∀ j d, ds[j]? = some d → RawOk F (dm + 1) rA H' j d
/-- within one kind -/
structure WI (F : Fr) (b1 : Nat) (Hs : Hp) (st rA wA : Addr) (m dm i b2 c : Nat) (X : List (List Key × V) → Hp → Prop) (σ : L2.St) (H' : Hp) : Prop where
  ex : ∃ (kvs : List (List Key × V)) (y7 y8 y9 y10 y11 y12 y13 y14 y15 : Option V), σ = [some (.ref st), some (.int (m : Nat)), some (.int 3), some (.int (1 + ((dm : Nat) : Int))), some (.ref rA), some (.int (0 + ((i : Nat) : Int))), some (.ref wA), y7, y8, y9, y10, y11, y12, y13, y14, y15] ∧
    Go F b1 Hs b2 H' ∧ H' wA = some (.dT kvs) ∧ DOk F (dm + 1) rA H' kvs ∧ kvs.length ≤ c ∧ X kvs H'
/-- one way more is put -/
theorem WI.put {F : Fr} {b1 : Nat} {Hs : Hp} {st rA wA : Addr} {m dm i b2 b3 c : Nat} {H' H6 : Hp} {kvs : List (List Key × V)} {nm : Str} {k : Int} {L : Addr} {ps : List Nat} {y7 y8 y9 y10 y11 y12 y13 y14 y15 : Option V} {us : List V} {X : List (List Key × V) → Hp → Prop}
    (nwA : Hs wA = none) (hrs : Hs rA = some (.lst us)) (nr : ¬ F.N rA) (g0 : Go F b1 Hs b2 H') (hw : H' wA = some (.dT kvs)) (hd : DOk F (dm + 1) rA H' kvs) (hc : kvs.length ≤ c) (g : Go F b2 H' b3 H6) (hn : isNameS nm = true) (nL : Hs L = none) (hL : H6 L = some (.lst (nI ps))) (hl : ps.length ≤ 3) (hp : ∀ p ∈ ps, p < dm + 1)
    (hX : X (putK kvs (kOf nm k) (.ref L)) (upd H6 wA (.dT (putK kvs (kOf nm k) (.ref L))))) :
    WI F b1 Hs st rA wA m dm i b3 (c + 1) X [some (.ref st), some (.int (m : Nat)), some (.int 3), some (.int (1 + ((dm : Nat) : Int))), some (.ref rA), some (.int (0 + ((i : Nat) : Int))), some (.ref wA), y7, y8, y9, y10, y11, y12, y13, y14, y15] (upd H6 wA (.dT (putK kvs (kOf nm k) (.ref L)))) := by
  have hw6 := g.keep (g0.nn nwA) hw
  have hne : L ≠ rA := fun z => by
    rw [z, hrs] at nL
    cases nL
  have nnL : ¬ F.N L := g0.nn nL
  refine ⟨putK kvs (kOf nm k) (.ref L), _, _, _, _, _, _, _, _, _, rfl, (g0.trans g).put nwA, upd_same, ?_, Nat.le_trans (length_putK _ _ _) (by omega), hX⟩
  exact (((hd.keep (KL.go g)).keep (KL.dict hw6)).put ⟨nm, k, L, ps, rfl, hn, rfl, nnL, hne, KL.dict (rA := rA) hw6 L _ hne nnL hL, hl, hp⟩)
theorem WI.putD {F : Fr} {b1 : Nat} {Hs : Hp} {st rA wA : Addr} {m dm i b2 b3 c : Nat} {H' H6 : Hp} {kvs : List (List Key × V)} {nm : Str} {k : Int} {L : Addr} {ps : List Nat} {y7 y8 y9 y10 y11 y12 y13 y14 y15 : Option V} {us : List V}
    (nwA : Hs wA = none) (hrs : Hs rA = some (.lst us)) (nr : ¬ F.N rA) (g0 : Go F b1 Hs b2 H') (hw : H' wA = some (.dT kvs)) (hd : DOk F (dm + 1) rA H' kvs) (hc : kvs.length ≤ c) (g : Go F b2 H' b3 H6) (hn : isNameS nm = true) (nL : Hs L = none) (hL : H6 L = some (.lst (nI ps))) (hl : ps.length ≤ 1) (hp : ∀ p ∈ ps, p < dm + 1) (hi : ∀ p ∈ ps, p < i) :
    WI F b1 Hs st rA wA m dm i b3 (c + 1) (fun kvs H => Down F rA H kvs i) [some (.ref st), some (.int (m : Nat)), some (.int 3), some (.int (1 + ((dm : Nat) : Int))), some (.ref rA), some (.int (0 + ((i : Nat) : Int))), some (.ref wA), y7, y8, y9, y10, y11, y12, y13, y14, y15] (upd H6 wA (.dT (putK kvs (kOf nm k) (.ref L)))) := by
  have hw6 := g.keep (g0.nn nwA) hw
  have hne : L ≠ rA := fun z => by
    rw [z, hrs] at nL
    cases nL
  refine WI.put nwA hrs nr g0 hw hd hc g hn nL hL (by omega) hp ⟨kOf nm k, L, ps, by rw [valV_put, if_pos rfl], g0.nn nL, hne, KL.dict (F := F) (rA := rA) hw6 L _ hne (g0.nn nL) hL, hi, hl⟩
structure RowI (K : PySem.W.Frag) (F : Fr) (bE : Nat) (Hr : Hp) (st rA xA : Addr) (m dm : Nat) (j : Nat) (σ : L2.St) (H' : Hp) : Prop where
  ex : ∃ (vs : List V) (wss : Shp) (y5 y6 y7 y8 y9 y11 y12 y13 y14 y15 : Option V), σ = [some (.ref st), some (.int (m : Nat)), some (.int 3), some (.int (1 + ((dm : Nat) : Int))), some (.ref rA), y5, y6, y7, y8, y9, some (.ref xA), y11, y12, y13, y14, y15] ∧
    Go F bE Hr bE H' ∧ H' xA = some (.lst vs) ∧ DtAll K H' vs (wss.map encKind) ∧ wss.length = j ∧ ∀ i ws, wss[i]? = some ws → WOk (dm + 1) i ws
structure FndI (K : PySem.W.Frag) (F : Fr) (bE : Nat) (Hr : Hp) (st rA xA L fA : Addr) (m dm : Nat) (ord : List Nat) (wss : Shp) (j : Nat) (σ : L2.St) (H' : Hp) : Prop where
  ex : ∃ (fs : List V) (ss : Shp) (y5 y6 y7 y8 y9 y13 y14 y15 : Option V), σ = [some (.ref st), some (.int (m : Nat)), some (.int 3), some (.int (1 + ((dm : Nat) : Int))), some (.ref rA), y5, y6, y7, y8, y9, some (.ref xA), some (.ref L), some (.ref fA), y13, y14, y15] ∧
    Go F bE Hr bE H' ∧ H' fA = some (.lst fs) ∧ DtAll K H' fs (ss.map encKind) ∧ ss.length = j ∧ ∀ (i : Nat) (ws' : List Way), ss[i]? = some ws' → ∃ k ws, ord[i]? = some k ∧ wss[k]? = some ws ∧ RenK ord ws ws'
set_option maxHeartbeats 16000000 in
theorem pr__law_shape {f : Addr} {fd : FuncData} {k : Nat} (T : Txt mg) (D : Def K mg "_law_shape" ["state", "most", "wide"] s__law_shape f fd) (G__law_draw : Pr P w K mg base k "_law_draw" ["state", "limit"] spDraw)
    (G__law_of : Pr P w K mg base k "_law_of" ["state", "some"] (spOf K)) (G__law_reached : Pr P w K mg base k "_law_reached" ["shape_so"] (spReach K)) : Pr P w K mg base (k + 1) "_law_shape" ["state", "most", "wide"] (spShape K) := by
  refine Pr.of' D sc__law_shape (fun vs H Q E h => ?_) fun cdv A outer s0 H vs Q E hcd hG hr h => ?_
  · obtain ⟨_, _, _, _, rfl, _⟩ := h
    rfl
  · obtain ⟨F, b, st, m, rfl, hT, hS, hm1, hm5, hb, q⟩ := h
    refine ⟨_, (pss_cons (ps_set (i := 3) sc__law_shape.nd rfl (Or.inr rfl) (pe_op op_add pe_int (pcall hG G__law_draw hr (pa_cons (pv 0) (pa_cons (pv 1) pa_nil)))))
  (pss_cons (ps_set (i := 4) sc__law_shape.nd rfl (Or.inl rfl) (pe_lst pa_nil))
  (pss_cons (ps_for (passes_of rfl) rfl (pi_range1 (by rfl) T.range (pa_cons (pv 3) pa_nil)) (pg_name (i := 5) sc__law_shape.nd rfl (Or.inl rfl)) (
    (pss_cons (ps_set (i := 6) sc__law_shape.nd rfl (Or.inr rfl) (pe_dnewT))
    (pss_cons (ps_for (passes_of rfl) rfl (pi_range1 (by rfl) T.range (pa_cons (pcall hG G__law_draw hr (pa_cons (pv 0) (pa_cons (pe_op op_add (pv 2) pe_int) pa_nil))) pa_nil)) (pg_name (i := 7) sc__law_shape.nd rfl (Or.inl rfl)) (
      (pss_cons (ps_set (i := 8) sc__law_shape.nd rfl (Or.inl rfl) (pcall hG G__law_of hr (pa_cons (pv 0) (pa_cons (pe_lst (pa_cons (pe_tup (pa_cons pe_str (pa_cons pe_int pa_nil))) (pa_cons (pe_tup (pa_cons pe_str (pa_cons pe_int pa_nil))) (pa_cons (pe_tup (pa_cons pe_str (pa_cons pe_int pa_nil))) (pa_cons (pe_tup (pa_cons pe_str (pa_cons pe_int pa_nil))) (pa_cons (pe_tup (pa_cons pe_str (pa_cons pe_int pa_nil))) (pa_cons (pe_tup (pa_cons pe_str (pa_cons pe_int pa_nil))) (pa_cons (pe_tup (pa_cons pe_str (pa_cons pe_int pa_nil))) (pa_cons (pe_tup (pa_cons pe_str (pa_cons pe_int pa_nil))) pa_nil))))))))) pa_nil))))
      (pss_one (ps_dput (hu_of hr) (pv 6) (pv 8) (pe_lc (own := [("spot", 9)]) rfl sc__law_shape.nd (pi_range1 (by rfl) T.range (pa_cons (pe_ix ix_tup (pv 8) pe_int (fun _ _ => rfl)) pa_nil)) (blkOk_by (own := [("spot", 9)]) (N := N__law_shape) (sc := defScope s__law_shape) (by decide +kernel)) (fun _ _ _ _ _ => (pg_name (i := 9) sc__law_shape.nd rfl (Or.inl rfl))) (fun _ _ _ _ _ => pts_nil) (fun _ _ _ _ _ => (pcall hG G__law_draw hr (pa_cons (pv 0) (pa_cons (pv 3) pa_nil))))) rfl)))))
    (Evl.pss_cut (ps_if (PW.pt (pw_or (pt_cmpR op_lt (pe_op op_add (pv 5) pe_int) (pv 3) (nomark _)) (pw_or1 (pt_cmpR (LfQ.op_eqDict0 (hu0 hr)) (pv 6) (pe_dnewT) (nomark _))))) (
      (pss_cons (ps_set (i := 8) sc__law_shape.nd rfl (Or.inl rfl) (pcall hG G__law_of hr (pa_cons (pv 0) (pa_cons (pe_lst (pa_cons (pe_tup (pa_cons pe_str (pa_cons pe_int pa_nil))) (pa_cons (pe_tup (pa_cons pe_str (pa_cons pe_int pa_nil))) (pa_cons (pe_tup (pa_cons pe_str (pa_cons pe_int pa_nil))) pa_nil)))) pa_nil))))
      (pss_one (ps_dput (hu_of hr) (pv 6) (pv 8) (pe_op op_cat (pe_lc (own := [("spot", 9)]) rfl sc__law_shape.nd (pi_range1 (by rfl) T.range (pa_cons (pe_op op_sub (pe_ix ix_tup (pv 8) pe_int (fun _ _ => rfl)) pe_int) pa_nil)) (blkOk_by (own := [("spot", 9)]) (N := N__law_shape) (sc := defScope s__law_shape) (by decide +kernel)) (fun _ _ _ _ _ => (pg_name (i := 9) sc__law_shape.nd rfl (Or.inl rfl))) (fun _ _ _ _ _ => pts_nil) (fun _ _ _ _ _ => (pcall hG G__law_draw hr (pa_cons (pv 0) (pa_cons (pv 3) pa_nil))))) (pe_lst (pa_cons (pe_op op_modN (pe_callTy call_int1 (by rfl) T.int (by decide +kernel) (pa_cons (pe_op op_add (pv 5) pe_int) pa_nil)) (pv 3)) pa_nil))) rfl)))) (pss_nil))
    (Evl.pss_cut (ps_if (PW.pt (pw_and (pt_cmpR op_gt (pv 5) pe_int (nomark _)) (pw_and1 (pt_cmpR op_eq (pcall hG G__law_draw hr (pa_cons (pv 0) (pa_cons pe_int pa_nil))) pe_int (nomark _))))) (
      (pss_one (ps_dput (hu_of hr) (pv 6) (pe_tup (pa_cons pe_str (pa_cons pe_int pa_nil))) (pe_lst (pa_cons (pcall hG G__law_draw hr (pa_cons (pv 0) (pa_cons (pv 5) pa_nil))) pa_nil)) rfl))) (
      (pss_one (ps_dput (hu_of hr) (pv 6) (pe_tup (pa_cons (pcall hG G__law_of hr (pa_cons (pv 0) (pa_cons (pe_lst (pa_cons pe_str (pa_cons pe_str (pa_cons pe_str pa_nil)))) pa_nil))) (pa_cons pe_int pa_nil))) (pe_lst pa_nil) rfl))))
    (pss_one (ps_expr (pe_bm PySem.F.plainAttrs_list PySem.F.slot_list_append PySem.F.type_list_append mt_append (pv 4) (pa_cons (pv 6) pa_nil))))))))))
  (pss_cons (ps_set (i := 10) sc__law_shape.nd rfl (Or.inl rfl) (pe_lst pa_nil))
  (pss_cons (ps_for (passes_of rfl) rfl (pi_list (pv 4)) (pg_name (i := 6) sc__law_shape.nd rfl (Or.inr rfl)) (
    (pss_one (ps_expr (pe_bm PySem.F.plainAttrs_list PySem.F.slot_list_append PySem.F.type_list_append mt_append (pv 10) (pa_cons (pe_callTy call_tuple_of (by rfl) T.tuple (by decide +kernel) (pa_cons (pe_lc (own := [("sign", 8)]) rfl sc__law_shape.nd (pi_list (pe_callB (LfS.call_sortedT rfl (hu16 hr)) (by rfl) T.sorted (by decide +kernel) (pa_cons (pv 6) pa_nil))) (blkOk_by (own := [("sign", 8)]) (N := N__law_shape) (sc := defScope s__law_shape) (by decide +kernel)) (fun _ _ _ _ _ => (pg_name (i := 8) sc__law_shape.nd rfl (Or.inl rfl))) (fun _ _ _ _ _ => pts_nil) (fun _ _ _ _ _ => (pe_tup (pa_cons (pe_ix (show IxR _ (rIxT K) from ix_tup) (pv 8) pe_int (fun _ _ => rfl)) (pa_cons (pe_callTy (show CallR _ (.type "tuple") (rTupK K) from call_tuple_of) (by rfl) T.tuple (by decide +kernel) (pa_cons (pe_dget (hu_of hr) (pv 6) (pv 8) (fun _ _ => rfl)) pa_nil)) pa_nil))))) pa_nil)) pa_nil))))))
  (pss_cons (ps_set (i := 11) sc__law_shape.nd rfl (Or.inr rfl) (pcall hG G__law_reached hr (pa_cons (pv 10) pa_nil)))
  (pss_cons (ps_set (i := 12) sc__law_shape.nd rfl (Or.inl rfl) (pe_lst pa_nil))
  (pss_cons (ps_for (passes_of rfl) rfl (pi_list (pv 11)) (pg_name (i := 5) sc__law_shape.nd rfl (Or.inl rfl)) (
    (pss_one (ps_expr (pe_bm PySem.F.plainAttrs_list PySem.F.slot_list_append PySem.F.type_list_append mt_append (pv 12) (pa_cons (pe_callTy call_tuple_of (by rfl) T.tuple (by decide +kernel) (pa_cons (pe_lc (own := [("name", 14), ("parts", 15)]) rfl sc__law_shape.nd (pi_tup (pe_ix ix_list (pv 10) (pv 5) (fun _ _ => rfl))) (blkOk_by (own := [("name", 14), ("parts", 15)]) (N := N__law_shape) (sc := defScope s__law_shape) (by decide +kernel)) (fun _ _ _ _ _ => (show PG _ _ (gTup K 2 _) from pg_tup rfl (pgs_cons (pg_name (i := 14) sc__law_shape.nd rfl (Or.inl rfl)) (pgs_cons (pg_name (i := 15) sc__law_shape.nd rfl (Or.inl rfl)) pgs_nil)))) (fun _ _ _ _ _ => pts_nil) (fun _ _ _ _ _ => (pe_tup (pa_cons (pv 14) (pa_cons (pe_callTy (show CallR _ (.type "tuple") (rTupK K) from call_tuple_of) (by rfl) T.tuple (by decide +kernel) (pa_cons (pe_lc (own := [("part", 13)]) rfl sc__law_shape.nd (show PI _ _ _ (iTup K _) from pi_tup (pv 15)) (blkOk_by (own := [("part", 13)]) (N := N__law_shape) (sc := ({ kind := PySem.ScopeKind.function, names := [ (PySem.Str.ofString ".0", PySem.NameKind.local), (PySem.Str.ofString "name", PySem.NameKind.local), (PySem.Str.ofString "parts", PySem.NameKind.local), (PySem.Str.ofString "tuple", PySem.NameKind.globalImplicit), (PySem.Str.ofString "order", PySem.NameKind.cell)], isGenerator := false, isCoroutine := false, more := [] : PySem.Scope })) (by decide +kernel)) (fun _ _ _ _ _ => (pg_name (i := 13) sc__law_shape.nd rfl (Or.inl rfl))) (fun _ _ _ _ _ => pts_nil) (fun _ _ _ _ _ => (show PE _ _ (tBM K "list" _ _ _) from (pe_bm PySem.F.plainAttrs_list PySem.F.slot_list_index PySem.F.type_list_index (show MtR _ "list.index" (rIndex K) from mt_index) (pv 11) (pa_cons (pv 13) pa_nil))))) pa_nil)) pa_nil))))) pa_nil)) pa_nil))))))
  (pss_one (ps_ret (pe_callTy call_tuple_of (by rfl) T.tuple (by decide +kernel) (pa_cons (pv 12) pa_nil)))))))))))), ?_⟩
    refine ⟨_, rfl, _, rfl, F, b, st, m, rfl, hT, hS, hm1, by omega, by omega, fun dm H1 hdm g1 _ => ⟨_, _, rfl, rfl, ?_⟩⟩
    have en : (1 : Int) + ((dm : Nat) : Int) = ((dm + 1 : Nat) : Int) := by omega
    refine ⟨Nat.zero_le _, fun rA nrA => ?_⟩
    have nrA0 := g1.was nrA
    have g2 := g1.add (o := .lst []) nrA
    refine ⟨_, rfl, _, rfl, by omega, by omega, for_range (lo := 0) (n := (1 + ((dm : Nat) : Int)).toNat) (KI F b H st rA m dm) ⟨[], _, _, _, _, _, _, _, _, _, _, _, rfl, g2, upd_same, rfl, fun j d h => by simp at h⟩ (fun i σ' Hs hi hI => ?_) fun σ' H' hI => ?_⟩
    · obtain ⟨ds, y5, y6, y7, y8, y9, y10, y11, y12, y13, y14, y15, rfl, gi, hraw, hdl, hdr⟩ := hI.ex
      have hi' : i ≤ dm := by omega
      have nr : ¬ F.N rA := gi.nn nrA0
      generalize eb1 : b + 1 + 30 * i = b1 at *
      have hb1 : b1 + 30 ≤ 1000000 := by omega
      refine fun wA nwA => ?_
      have gw := Go.new (o := .dT []) gi.r nwA
      -- the drawn ways
      refine ⟨_, rfl, _, rfl, _, _, rfl, rfl, F, b1, st, 4, rfl, gw.r, hS, by decide, by decide, by omega, fun dt H3 hdt g3 _ => ⟨_, rfl, by omega, by omega, for_range (lo := 0) (n := ((dt : Nat) : Int).toNat) (fun t σ H => WI F b1 Hs st rA wA m dm i (b1 + 1 + 4 * t) t (fun _ _ => True) σ H) ⟨[], _, _, _, _, _, _, _, _, _, rfl, gw.trans g3, g3.keep (gi.nn' nwA) upd_same, fun k v e => (by cases e), Nat.le_refl _, trivial⟩ (fun t σ2 H2 ht hI2 => ?_) fun σ2 H2 hI2 => ?_⟩⟩
      · obtain ⟨kvs, y7, y8, y9, y10, y11, y12, y13, y14, y15, rfl, gb, hwb, hdb, hcb, _⟩ := hI2.ex
        have ht' : t < dt := by omega
        generalize ebb : b1 + 1 + 4 * t = bb at *
        have hbb : bb + 10 ≤ 1000000 := by omega
        refine ⟨_, rfl, ?_⟩
        refine cons_signs (F := F) (b := bb) [("f", 1), ("g", 2), ("h", 3), ("f", 2), ("k", 1), ("a", 0), ("b", 0), ("c", 0)] gb.r (by decide) fun l vs H4 g4 nl hl hvl hve => ?_
        refine ⟨F, bb, st, l, vs, rfl, g4.r, hS, .inl ⟨hl, g4.nn nl⟩, by rw [hvl]; decide, by rw [hvl]; decide, by omega, fun ix x H5 hx g5 _ => ?_⟩
        obtain ⟨p, nm, c, hr1, rfl, hp⟩ := hve ix x hx
        obtain ⟨hs1, hs2, hs3⟩ := signs8 _ (List.mem_of_getElem? hr1)
        have hs2' : 0 ≤ c := hs2
        have hs3' : c ≤ 3 := hs3
        have hp5 := g5.tup hp
        have g45 := g4.trans g5
        dsimp only [gName]
        refine dput_lc ?_
        refine tLc_iRng1 ?_
        refine ⟨_, rfl, p, _, 1, .int c, rfl, rfl, .inl (.inl hp5), atI_nat (j := 1) rfl, ?_⟩
        refine lcR (F := F) (b := bb + 1) (e := 1) (R := fun _ i y H => ∃ p : Nat, y = .int (p : Nat) ∧ p < dm + 1) hs2' (by omega) g5.r (fun D i H H' y _ t h => h) (fun D2 i2 H6 hD2 hI2 hi2 Pq hPq => ?_) fun L ys H6 nL g6 hL hyl hall => ?_
        · refine ⟨rfl, _, rfl, _, rfl, F, bb + 1 + i2 * 1, st, dm + 1, ?_, hI2.go.r, hS, by omega, by omega, by omega, fun q2 H7 hq2 g7 _ => ?_⟩
          · show [V.ref st, V.int (1 + ((dm : Nat) : Int))] = _
            rw [en]
          · refine hPq _ _ ?_ ⟨q2, rfl, hq2⟩
            rw [Nat.succ_mul, ← Nat.add_assoc]
            exact g7
        · obtain ⟨ps, rfl, hps⟩ := nats_of hall
          have hpl : ps.length = c.toNat := by rw [← hyl, List.length_map]
          have g46 := g45.trans g6
          refine ⟨_, rfl, _, rfl, wA, _, rfl, DPut.t (k := kOf nm c) (g46.keep (gb.nn nwA) hwb) (g6.tup hp5) (sz6' (by omega)), ?_⟩
          refine WI.put nwA hraw nr gb hwb hdb hcb (g46.le (by omega)) hs1 (gb.was (g45.was nL)) hL (by omega) hps trivial
      · obtain ⟨kvs, y7, y8, y9, y10, y11, y12, y13, y14, y15, rfl, gb0, hwb, hdb, hcb, _⟩ := hI2.ex
        have gb1 : Go F b1 Hs (b1 + 13) H2 := gb0.le (by omega)
        have hcb3 : kvs.length ≤ 3 := by omega
        clear gb0
        -- a way that goes on
        refine ⟨WI F b1 Hs st rA wA m dm i (b1 + 17) 4 (fun _ _ => True), ?_, fun σ3 H3' hI3 => ?_⟩
        · refine ⟨_, rfl, _, _, rfl, rfl, _, rfl, _, _, rfl, rfl, _, rfl, ?_⟩
          by_cases hk1 : (0 : Int) + ((i : Nat) : Int) + 1 < 1 + ((dm : Nat) : Int)
          · rw [decide_eq_true hk1]
            refine iteT (iteT ?_)
            have gb := gb1
            have hcb := hcb3
            refine ⟨_, rfl, ?_⟩
            refine cons_signs (F := F) (b := b1 + 13) [("g", 2), ("k", 1), ("m", 1)] gb.r (by decide) fun l vs H4 g4 nl hl hvl hve => ?_
            refine ⟨F, b1 + 13, st, l, vs, rfl, g4.r, hS, .inl ⟨hl, g4.nn nl⟩, by rw [hvl]; decide, by rw [hvl]; decide, by omega, fun ix x H5 hx g5 _ => ?_⟩
            obtain ⟨p, nm, c, hr1, rfl, hp⟩ := hve ix x hx
            obtain ⟨hs1, hs2, hs3⟩ := signs3 _ (List.mem_of_getElem? hr1)
            have hs2' : 1 ≤ c := hs2
            have hs3' : c ≤ 3 := hs3
            have hp5 := g5.tup hp
            have g05 := g4.trans g5
            dsimp only [gName]
            refine dput_cat ?_
            refine tLc_iRng1 ?_
            refine ⟨_, rfl, p, _, 1, .int c, rfl, rfl, .inl (.inl hp5), atI_nat (j := 1) rfl, _, _, rfl, rfl, ?_⟩
            refine lcR (F := F) (b := b1 + 13 + 1) (e := 1) (R := fun _ i y H => ∃ p : Nat, y = .int (p : Nat) ∧ p < dm + 1) (n := c - 1) (by omega) (by omega) g05.r (fun D i H H' y _ t h => h) (fun D2 i2 H6 hD2 hI2 hi2 Pq hPq => ?_) fun L ys H6 nL g6 hL hyl hall => ?_
            · refine ⟨rfl, _, rfl, _, rfl, F, b1 + 13 + 1 + i2 * 1, st, dm + 1, ?_, hI2.go.r, hS, by omega, by omega, by omega, fun q2 H7 hq2 g7 _ => ?_⟩
              · show [V.ref st, V.int (1 + ((dm : Nat) : Int))] = _
                rw [en]
              · refine hPq _ _ ?_ ⟨q2, rfl, hq2⟩
                rw [Nat.succ_mul, ← Nat.add_assoc]
                exact g7
            · obtain ⟨ps, rfl, hps⟩ := nats_of hall
              have hpl : ps.length = (c - 1).toNat := by rw [← hyl, List.length_map]
              have hmodlt : (i + 1) % (dm + 1) < dm + 1 := Nat.mod_lt _ (by omega)
              have eval : ((0 : Int) + ((i : Nat) : Int) + 1).fmod (1 + ((dm : Nat) : Int)) = (((i + 1) % (dm + 1) : Nat) : Int) := by
                rw [Int.fmod_eq_emod_of_nonneg _ (by omega), Int.zero_add, en]
                first
                  | exact (Int.natCast_emod (i + 1) (dm + 1)).symm
                  | exact (Int.ofNat_emod (i + 1) (dm + 1)).symm
              refine ⟨_, rfl, _, _, rfl, rfl, .inl ⟨_, rfl, _, rfl, _, _, rfl, rfl, (by show (1 : Int) + ((dm : Nat) : Int) ≠ 0; omega), by show 1 ≤ sizeLine; decide, fun l3 n3 => ?_⟩⟩
              dsimp only at n3 ⊢
              rw [eval]
              refine ⟨L, l3, nI ps, [.int (((i + 1) % (dm + 1) : Nat) : Int)], rfl, rfl, (upd_ne (ne_of_none hL n3)).trans hL, upd_same, sz6 (by rw [List.length_map]; simp only [List.length_cons, List.length_nil]; omega), fun l4 n4 => ?_⟩
              have g6a := g6.add (o := .lst [.int (((i + 1) % (dm + 1) : Nat) : Int)]) n3
              have g8 := g6a.add (o := .lst (nI ps ++ [.int (((i + 1) % (dm + 1) : Nat) : Int)])) n4
              have g08 := g05.trans g8
              have nl4 := (gb.trans (g05.trans g6a)).was n4
              have hl4 : (upd (upd H6 l3 (.lst [.int (((i + 1) % (dm + 1) : Nat) : Int)])) l4 (.lst (nI ps ++ [.int (((i + 1) % (dm + 1) : Nat) : Int)]))) l4 = some (.lst (nI (ps ++ [(i + 1) % (dm + 1)]))) := by
                rw [upd_same]
                show some (HO.lst (nI ps ++ _)) = some (HO.lst ((ps ++ [(i + 1) % (dm + 1)]).map fun n : Nat => V.int (n : Nat)))
                rw [List.map_append]
                rfl
              refine ⟨_, rfl, _, rfl, wA, _, rfl, DPut.t (k := kOf nm c) (g08.keep (gb.nn nwA) hwb) (g8.tup hp5) (sz6' (by omega)), ?_⟩
              refine WI.put nwA hraw nr gb hwb hdb hcb (g08.le (by omega)) hs1 nl4 hl4 (by rw [List.length_append]; simp only [List.length_cons, List.length_nil]; omega) (fun p' hp' => ?_) trivial
              rcases List.mem_append.mp hp' with z | z
              · exact hps p' z
              · rcases List.mem_singleton.mp z with rfl
                exact hmodlt
          · rw [decide_eq_false hk1]
            refine iteF ⟨_, rfl, fun e ne => ⟨wA, e, kvs, rfl, rfl, (upd_ne (ne_of_none hwb ne)).trans hwb, upd_same, _, rfl, ?_⟩⟩
            have gb := gb1.add (o := .dT []) ne
            have hwb' : (upd H2 e (.dT [])) wA = some (.dT kvs) := (upd_ne (ne_of_none hwb ne)).trans hwb
            have hdb' : DOk F (dm + 1) rA (upd H2 e (.dT [])) kvs := hdb.keep (KL.go (Go.new (o := .dT []) gb1.r ne))
            cases hem : kvs.isEmpty with
            | false => exact iteF ⟨kvs, _, _, _, _, _, _, _, _, _, rfl, gb.le (by omega), hwb', hdb', by omega, trivial⟩
            | true =>
              refine iteT ?_
              have hwb := hwb'
              have hdb := hdb'
              have hcb := hcb3
              refine ⟨_, rfl, ?_⟩
              refine cons_signs (F := F) (b := b1 + 13) [("g", 2), ("k", 1), ("m", 1)] gb.r (by decide) fun l vs H4 g4 nl hl hvl hve => ?_
              refine ⟨F, b1 + 13, st, l, vs, rfl, g4.r, hS, .inl ⟨hl, g4.nn nl⟩, by rw [hvl]; decide, by rw [hvl]; decide, by omega, fun ix x H5 hx g5 _ => ?_⟩
              obtain ⟨p, nm, c, hr1, rfl, hp⟩ := hve ix x hx
              obtain ⟨hs1, hs2, hs3⟩ := signs3 _ (List.mem_of_getElem? hr1)
              have hs2' : 1 ≤ c := hs2
              have hs3' : c ≤ 3 := hs3
              have hp5 := g5.tup hp
              have g05 := g4.trans g5
              dsimp only [gName]
              refine dput_cat ?_
              refine tLc_iRng1 ?_
              refine ⟨_, rfl, p, _, 1, .int c, rfl, rfl, .inl (.inl hp5), atI_nat (j := 1) rfl, _, _, rfl, rfl, ?_⟩
              refine lcR (F := F) (b := b1 + 13 + 1) (e := 1) (R := fun _ i y H => ∃ p : Nat, y = .int (p : Nat) ∧ p < dm + 1) (n := c - 1) (by omega) (by omega) g05.r (fun D i H H' y _ t h => h) (fun D2 i2 H6 hD2 hI2 hi2 Pq hPq => ?_) fun L ys H6 nL g6 hL hyl hall => ?_
              · refine ⟨rfl, _, rfl, _, rfl, F, b1 + 13 + 1 + i2 * 1, st, dm + 1, ?_, hI2.go.r, hS, by omega, by omega, by omega, fun q2 H7 hq2 g7 _ => ?_⟩
                · show [V.ref st, V.int (1 + ((dm : Nat) : Int))] = _
                  rw [en]
                · refine hPq _ _ ?_ ⟨q2, rfl, hq2⟩
                  rw [Nat.succ_mul, ← Nat.add_assoc]
                  exact g7
              · obtain ⟨ps, rfl, hps⟩ := nats_of hall
                have hpl : ps.length = (c - 1).toNat := by rw [← hyl, List.length_map]
                have hmodlt : (i + 1) % (dm + 1) < dm + 1 := Nat.mod_lt _ (by omega)
                have eval : ((0 : Int) + ((i : Nat) : Int) + 1).fmod (1 + ((dm : Nat) : Int)) = (((i + 1) % (dm + 1) : Nat) : Int) := by
                  rw [Int.fmod_eq_emod_of_nonneg _ (by omega), Int.zero_add, en]
                  first
                    | exact (Int.natCast_emod (i + 1) (dm + 1)).symm
                    | exact (Int.ofNat_emod (i + 1) (dm + 1)).symm
                refine ⟨_, rfl, _, _, rfl, rfl, .inl ⟨_, rfl, _, rfl, _, _, rfl, rfl, (by show (1 : Int) + ((dm : Nat) : Int) ≠ 0; omega), by show 1 ≤ sizeLine; decide, fun l3 n3 => ?_⟩⟩
                dsimp only at n3 ⊢
                rw [eval]
                refine ⟨L, l3, nI ps, [.int (((i + 1) % (dm + 1) : Nat) : Int)], rfl, rfl, (upd_ne (ne_of_none hL n3)).trans hL, upd_same, sz6 (by rw [List.length_map]; simp only [List.length_cons, List.length_nil]; omega), fun l4 n4 => ?_⟩
                have g6a := g6.add (o := .lst [.int (((i + 1) % (dm + 1) : Nat) : Int)]) n3
                have g8 := g6a.add (o := .lst (nI ps ++ [.int (((i + 1) % (dm + 1) : Nat) : Int)])) n4
                have g08 := g05.trans g8
                have nl4 := (gb.trans (g05.trans g6a)).was n4
                have hl4 : (upd (upd H6 l3 (.lst [.int (((i + 1) % (dm + 1) : Nat) : Int)])) l4 (.lst (nI ps ++ [.int (((i + 1) % (dm + 1) : Nat) : Int)]))) l4 = some (.lst (nI (ps ++ [(i + 1) % (dm + 1)]))) := by
                  rw [upd_same]
                  show some (HO.lst (nI ps ++ _)) = some (HO.lst ((ps ++ [(i + 1) % (dm + 1)]).map fun n : Nat => V.int (n : Nat)))
                  rw [List.map_append]
                  rfl
                refine ⟨_, rfl, _, rfl, wA, _, rfl, DPut.t (k := kOf nm c) (g08.keep (gb.nn nwA) hwb) (g8.tup hp5) (sz6' (by omega)), ?_⟩
                refine WI.put nwA hraw nr gb hwb hdb hcb (g08.le (by omega)) hs1 nl4 hl4 (by rw [List.length_append]; simp only [List.length_cons, List.length_nil]; omega) (fun p' hp' => ?_) trivial
                rcases List.mem_append.mp hp' with z | z
                · exact hps p' z
                · rcases List.mem_singleton.mp z with rfl
                  exact hmodlt
        · obtain ⟨kvs, y7, y8, y9, y10, y11, y12, y13, y14, y15, rfl, gb, hwb, hdb, hcb, _⟩ := hI3.ex
          -- a way that goes downward
          refine ⟨WI F b1 Hs st rA wA m dm i (b1 + 22) 5 (fun kvs H => Down F rA H kvs i), ?_, fun σ4 H4 hI4 => ?_⟩
          · refine ⟨_, rfl, _, _, rfl, rfl, _, rfl, ?_⟩
            by_cases hk0 : (0 : Int) < 0 + ((i : Nat) : Int)
            · rw [decide_eq_true hk0]
              refine iteT ⟨_, rfl, F, b1 + 17, st, 3, rfl, gb.r, hS, by decide, by decide, by omega, fun q0 H4 hq0 gE _ => ⟨rfl, _, rfl, ?_⟩⟩
              by_cases hq1 : q0 = 0
              · rw [decide_eq_true (show V.int ((q0 : Nat) : Int) = V.int 0 by rw [hq1]; rfl)]
                refine iteT ⟨_, rfl, _, rfl, F, b1 + 18, st, i, ?_, gE.r, hS, by omega, by omega, by omega, fun q2 H5 hq2 g5 _ => ⟨by show 1 ≤ sizeLine; decide, fun l nl => ⟨_, rfl, by show 2 ≤ sizeLine; decide, fun p np => ?_⟩⟩⟩
                · show [V.ref st, V.int (0 + ((i : Nat) : Int))] = _
                  rw [Int.zero_add]
                · have g6 := ((gE.trans g5).add (o := .lst [.int (q2 : Nat)]) nl).add (o := .tup [.str "f", .int 1]) np
                  have hl6 : (upd (upd H5 l (.lst [.int (q2 : Nat)])) p (.tup [.str "f", .int 1])) l = some (.lst (nI [q2])) := (upd_ne (ne_of_none (o := .lst [.int (q2 : Nat)]) upd_same np)).trans upd_same
                  refine ⟨wA, _, rfl, DPut.t (k := kOf "f" 1) (g6.keep (gb.nn nwA) hwb) upd_same (sz6' (by omega)), ?_⟩
                  exact WI.putD nwA hraw nr gb hwb hdb hcb (g6.le (by omega)) name_f ((gb.trans (gE.trans g5)).was nl) hl6 (by show 1 ≤ 1; decide) (fun p' hp' => by rcases List.mem_singleton.mp hp' with rfl; omega) (fun p' hp' => by rcases List.mem_singleton.mp hp' with rfl; exact hq2)
              · rw [decide_eq_false (show ¬ V.int ((q0 : Nat) : Int) = V.int 0 from fun z => by injection z with z; omega)]
                refine iteF ?_
                refine ⟨Nat.zero_le _, fun l nl => ⟨_, rfl, _, rfl, by show 3 ≤ sizeLine; decide, fun l2 n2 => ?_⟩⟩
                have gl := gE.add (o := .lst []) nl
                have gl2 := gl.add (o := .lst [.str "a", .str "b", .str "c"]) n2
                refine ⟨F, b1 + 18, st, l2, [.str "a", .str "b", .str "c"], rfl, gl2.r, hS, .inl ⟨upd_same, gl.nn' n2⟩, by decide, by decide, by omega, fun ix x H5 hx g5 _ => ?_⟩
                obtain ⟨nm, rfl, hnm⟩ := names_abc x (List.mem_of_getElem? hx)
                refine ⟨by show 2 ≤ sizeLine; decide, fun p np => ?_⟩
                have g6 := (gl2.trans g5).add (o := .tup [.str nm, .int 0]) np
                have gl0 := (gb.trans gE).was nl
                have hl5 : (upd H5 p (.tup [.str nm, .int 0])) l = some (.lst (nI [])) :=
                  ((g5.add (o := .tup [.str nm, .int 0]) np)).keep (gE.nn' nl) ((upd_ne (ne_of_none (o := .lst []) upd_same n2)).trans upd_same)
                refine ⟨wA, _, rfl, DPut.t (k := kOf nm 0) (g6.keep (gb.nn nwA) hwb) upd_same (sz6' (by omega)), ?_⟩
                exact WI.putD nwA hraw nr gb hwb hdb hcb (g6.le (by omega)) hnm gl0 hl5 (Nat.zero_le _) (fun _ h => by cases h) (fun _ h => by cases h)
            · rw [decide_eq_false hk0]
              refine iteF (iteF ?_)
              have gE : Go F (b1 + 17) H3' (b1 + 18) H3' := (Go.refl gb.r).le (by omega)
              refine ⟨Nat.zero_le _, fun l nl => ⟨_, rfl, _, rfl, by show 3 ≤ sizeLine; decide, fun l2 n2 => ?_⟩⟩
              have gl := gE.add (o := .lst []) nl
              have gl2 := gl.add (o := .lst [.str "a", .str "b", .str "c"]) n2
              refine ⟨F, b1 + 18, st, l2, [.str "a", .str "b", .str "c"], rfl, gl2.r, hS, .inl ⟨upd_same, gl.nn' n2⟩, by decide, by decide, by omega, fun ix x H5 hx g5 _ => ?_⟩
              obtain ⟨nm, rfl, hnm⟩ := names_abc x (List.mem_of_getElem? hx)
              refine ⟨by show 2 ≤ sizeLine; decide, fun p np => ?_⟩
              have g6 := (gl2.trans g5).add (o := .tup [.str nm, .int 0]) np
              have gl0 := (gb.trans gE).was nl
              have hl5 : (upd H5 p (.tup [.str nm, .int 0])) l = some (.lst (nI [])) :=
                ((g5.add (o := .tup [.str nm, .int 0]) np)).keep (gE.nn' nl) ((upd_ne (ne_of_none (o := .lst []) upd_same n2)).trans upd_same)
              refine ⟨wA, _, rfl, DPut.t (k := kOf nm 0) (g6.keep (gb.nn nwA) hwb) upd_same (sz6' (by omega)), ?_⟩
              exact WI.putD nwA hraw nr gb hwb hdb hcb (g6.le (by omega)) hnm gl0 hl5 (Nat.zero_le _) (fun _ h => by cases h) (fun _ h => by cases h)
          · obtain ⟨kvs, y7, y8, y9, y10, y11, y12, y13, y14, y15, rfl, g4, hw4, hd4, hc4, hdn⟩ := hI4.ex
            have hraw4 := g4.keep nr hraw
            have hwr : wA ≠ rA := ne_of hw4 hraw4 (by intro z; cases z)
            refine ⟨_, rfl, isL hraw4, _, rfl, rA, _, _, rfl, rfl, hraw4, sz6' (by rw [List.length_map]; omega), ?_⟩
            refine ⟨ds ++ [wA], _, _, _, _, _, _, _, _, _, _, _, rfl, ((gi.trans g4).put nrA0).le (by omega), ?_, by simp [hdl], fun j d hj => ?_⟩
            · rw [upd_same, List.map_append]
              rfl
            · by_cases hjl : j < ds.length
              · rw [List.getElem?_append_left hjl] at hj
                refine (hdr j d hj).keep ((KL.go g4).trans KL.raw) fun kv h1 h2 => ?_
                have h3 := g4.keep h2 h1
                exact (upd_ne (ne_of h3 hraw4 (by intro z; cases z))).trans h3
              · rw [List.getElem?_append_right (by omega)] at hj
                have ej : j = i := by
                  have := (List.getElem?_eq_some_iff.mp hj).1
                  simp at this
                  omega
                subst ej
                rw [hdl, Nat.sub_self] at hj
                cases hj
                exact ⟨kvs, (upd_ne hwr).trans hw4, g4.nn nwA, hd4.keep KL.raw, by omega, hdn.keep KL.raw⟩
    · obtain ⟨ds, y5, y6, y7, y8, y9, y10, y11, y12, y13, y14, y15, rfl, gi, hraw, hdl, hdr⟩ := hI.ex
      have hn1 : (1 + ((dm : Nat) : Int)).toNat = dm + 1 := by omega
      rw [hn1] at gi hdl
      have nr : ¬ F.N rA := gi.nn nrA0
      generalize ebE : b + 1 + 30 * (dm + 1) = bE at *
      have hbE : bE ≤ b + 151 := by omega
      refine ⟨Nat.zero_le _, fun xA nxA => ?_⟩
      have gx := Go.new (o := .lst []) gi.r nxA
      refine ⟨_, rfl, rA, rfl, ⟨_, .inl (.inl (gx.keep nr hraw))⟩, for_list (xs := ds.map V.ref) (RowI K F bE H' st rA xA m dm) ⟨[], [], _, _, _, _, _, _, _, _, _, _, rfl, gx, upd_same, .nil, rfl, fun i ws h => by simp at h⟩ (fun j σ2 H2 hj hI2 => ?_) (fun j x σ2 H2 hx hI2 => ?_) fun σ2 H2 hI2 => ?_⟩
      · obtain ⟨vs, wss, y5, y6, y7, y8, y9, y11, y12, y13, y14, y15, rfl, g2h, _⟩ := hI2.ex
        exact .inl (.inl (g2h.keep nr hraw))
      · obtain ⟨vs, wss, y5, y6, y7, y8, y9, y11, y12, y13, y14, y15, rfl, g2h, hxs, hvd, hwl, hwk⟩ := hI2.ex
        rw [List.getElem?_map] at hx
        cases hdj : ds[j]? with
        | none => rw [hdj] at hx; cases hx
        | some d =>
          rw [hdj] at hx
          cases hx
          obtain ⟨kvs, hd0, hdn, hok, hk6, hdown⟩ := (hdr j d hdj).keep (KL.go g2h) fun kv h1 h2 => g2h.keep h2 h1
          have hjl := (List.getElem?_eq_some_iff.mp hdj).1
          refine ⟨_, rfl, isL hxs, ?_⟩
          dsimp only [tCons, tCB, tNil]
          refine tLc_iList ?_
          refine ⟨_, rfl, d, kvs, rfl, hd0, fun p hp => ?_, fun p hp q' hq' => ?_, fun psL l hperm hpsd nl => ?_⟩
          · obtain ⟨v, hv⟩ := mem_valV (kvs := kvs) (List.mem_map.mpr ⟨p, hp, rfl⟩)
            obtain ⟨nm, c, _, _, e, _⟩ := hok _ _ hv
            rw [e]
            simp
          · obtain ⟨v, hv⟩ := mem_valV (kvs := kvs) (List.mem_map.mpr ⟨p, hp, rfl⟩)
            obtain ⟨nm, c, _, _, e, _⟩ := hok _ _ hv
            obtain ⟨v', hv'⟩ := mem_valV (kvs := kvs) (List.mem_map.mpr ⟨q', hq', rfl⟩)
            obtain ⟨nm', c', _, _, e', _⟩ := hok _ _ hv'
            rw [e, e']
            rfl
          · have gl := Go.new (o := .lst (psL.map fun b => V.ref b.2)) g2h.r nl
            have hpl : psL.length = kvs.length := by
              have := hperm.length_eq
              rw [List.length_map, List.length_map] at this
              exact this
            have hlt : (upd H2 l (.lst (psL.map fun b => V.ref b.2))) l = some (.lst (psL.map fun b => V.ref b.2)) := upd_same
            refine lcL (K := K) (F := F) (b := bE) (e := 0) (R := fun _ i y H => ∃ w : Way, Dt K H y (encWay w) ∧ ∃ b l', psL[i]? = some b ∧ valV kvs b.1 = some (.ref l') ∧ (∃ c, b.1 = kOf w.1 c) ∧ H2 l' = some (.lst (nI w.2))) hlt (g2h.nn' nl) gl.r (by rw [List.length_map]; omega) (fun D i H H' y _ tt h => by
              obtain ⟨w, h1, h2⟩ := h
              exact ⟨w, Dt.ts tt _ _ h1, h2⟩) (fun D i x H5 hD hI5 hx5 Pq hPq => ?_) fun D ys H5 nD g5 hD5 hyl hall => ?_
            · rw [List.getElem?_map] at hx5
              cases hbi : psL[i]? with
              | none => rw [hbi] at hx5; cases hx5
              | some bb =>
                rw [hbi] at hx5
                cases hx5
                have hbm := List.mem_of_getElem? hbi
                have hbt := hpsd bb hbm
                obtain ⟨v, hv⟩ := mem_valV (kvs := kvs) (hperm.mem_iff.mp (List.mem_map.mpr ⟨bb, hbm, rfl⟩))
                obtain ⟨nm, c, l', ps, e1, e2, e3, e4, e5, e6, e7, e8⟩ := hok _ _ hv
                have g05 := gl.trans hI5.go
                have hbt5 := g05.tup hbt
                have hd5 := g05.keep hdn hd0
                have hl5 := g05.keep e4 e6
                have hdg : DGet H5 d (.ref bb.2) (some v) := by
                  rw [← hv]
                  exact DGet.t hd5 hbt5
                rw [e1] at hbt5
                subst e3
                refine ⟨rfl, _, rfl, bb.2, _, 0, .str nm, rfl, rfl, .inl (.inl hbt5), atI_nat (j := 0) rfl, _, rfl, _, rfl, d, _, rfl, hdg, l', nI ps, rfl, .inl ⟨.inl (.inl hl5), fun p1 n1 => ⟨by show 2 ≤ sizeLine; decide, fun p2 n2 => ?_⟩⟩⟩
                have g7 := (Go.new (o := .tup (nI ps)) hI5.go.r n1).add (o := .tup [.str nm, .ref p1]) n2
                refine hPq _ _ g7 ⟨(nm, ps), dt_new n2 (.cons (.str nm) (.cons (dt_new n1 ?_) .nil)), bb, l', hbi, hv, ⟨c, e1⟩, e6⟩
                refine dtAll_idx (by rw [List.length_map, List.length_map]) fun i v d h1 h2 => ?_
                rw [List.getElem?_map] at h1 h2
                cases hpi : ps[i]? with
                | none => rw [hpi] at h1; cases h1
                | some p0 =>
                  rw [hpi] at h1 h2
                  cases h1
                  cases h2
                  exact .int _
            · obtain ⟨ws, hws1, hws2, hws3⟩ := ways_of hall
              have g5' : Go F bE (upd H2 l (.lst (psL.map fun b => V.ref b.2))) bE H5 := g5
              have g25 := gl.trans g5'
              have hxs5 := g25.keep (gi.nn' nxA) hxs
              have hyl' : ys.length = psL.length := by rw [hyl, List.length_map]
              refine ⟨D, ys, rfl, .inl ⟨.inl (.inl hD5), fun p6 n6 => ?_⟩⟩
              have g6 := g25.add (o := .tup ys) n6
              have hxs6 := g6.keep (gi.nn' nxA) hxs
              have hvl := hvd.length
              rw [List.length_map] at hvl
              refine ⟨xA, vs, _, rfl, rfl, hxs6, sz6' (by omega), vs ++ [.ref p6], wss ++ [ws], _, _, _, _, _, _, _, _, _, _, rfl, (g2h.trans g6).put nxA, upd_same, ?_, by simp [hwl], fun i2 ws2 h2 => ?_⟩
              · rw [List.map_append]
                exact DtAll.ts (ts_lst hxs6) _ _ ((g6.dta hvd).snoc (dt_new n6 hws1))
              · by_cases hil : i2 < wss.length
                · rw [List.getElem?_append_left hil] at h2
                  exact hwk i2 ws2 h2
                · rw [List.getElem?_append_right (by omega)] at h2
                  have ei : i2 = j := by
                    have := (List.getElem?_eq_some_iff.mp h2).1
                    simp at this
                    omega
                  subst ei
                  rw [hwl, Nat.sub_self] at h2
                  cases h2
                  obtain ⟨kD, lD, psD, v1, v2, v3, v4, v5⟩ := hdown
                  obtain ⟨bD, hbD, ebD⟩ := List.mem_map.mp (hperm.mem_iff.mpr (valV_mem v1))
                  obtain ⟨iD, hiD⟩ := List.mem_iff_getElem?.mp hbD
                  have hiDl := (List.getElem?_eq_some_iff.mp hiD).1
                  have hwD : ws[iD]? = some (ws[iD]'(by omega)) := List.getElem?_eq_getElem _
                  refine ⟨by omega, by omega, fun w hw => ?_, ws[iD]'(by omega), List.getElem_mem _, ?_⟩
                  · obtain ⟨iw, hiw⟩ := List.mem_iff_getElem?.mp hw
                    obtain ⟨bb, l', h4, h5, ⟨c, h6⟩, h7⟩ := hws3 iw w hiw
                    obtain ⟨nm, c', l2, ps, e1, e2, e3, e4, e5, e6, e7, e8⟩ := hok _ _ h5
                    cases e3
                    rw [h7] at e6
                    have eps : w.2 = ps := nI_inj (by injection e6 with e6; injection e6)
                    rw [h6] at e1
                    have enm : w.1 = nm := by
                      injection e1 with e1 _
                      injection e1
                    rw [enm, eps]
                    exact ⟨e2, e7, e8⟩
                  · obtain ⟨bb, l', h4, h5, ⟨c, h6⟩, h7⟩ := hws3 iD _ hwD
                    rw [hiD] at h4
                    cases h4
                    rw [ebD, v1] at h5
                    cases h5
                    rw [h7] at v4
                    have eps : (ws[iD]'(by omega)).2 = psD := nI_inj (by injection v4 with v4; injection v4)
                    exact ⟨fun p hp => v5.1 p (eps ▸ hp), by rw [eps]; exact v5.2⟩
      · obtain ⟨vs, wss, y5, y6, y7, y8, y9, y11, y12, y13, y14, y15, rfl, g2h, hxs, hvd, hwl, hwk⟩ := hI2.ex
        rw [List.length_map, hdl] at hwl
        have hgood : Good wss := ⟨by omega, by omega, fun ws hws => by
          obtain ⟨i, hi⟩ := List.mem_iff_getElem?.mp hws
          have h := hwk i ws hi
          exact ⟨h.pos, Nat.le_trans h.len (by decide), fun w hw => by
            obtain ⟨a1, a2, a3⟩ := h.ways w hw
            exact ⟨a1, a2, fun p hp => by have := a3 p hp; omega⟩⟩⟩
        have hranked : Ranked wss := ⟨id, fun i ws hi => (hwk i ws hi).down⟩
        have nnx : ¬ F.N xA := gi.nn' nxA
        refine ⟨_, rfl, F, bE, xA, vs, wss, rfl, g2h.r, hxs, nnx, hvd, hgood, fun H3 L ord g3 nL hL hR _ => ?_⟩
        have hol := nodup_len _ _ hR.nd hR.lt
        refine ⟨Nat.zero_le _, fun fA nfA => ?_⟩
        have gf := Go.new (o := .lst []) g3.r nfA
        have nnL : ¬ F.N L := g3.nn nL
        have hx3 := g3.keep nnx hxs
        refine ⟨_, rfl, L, rfl, ⟨_, .inl (.inl (gf.keep nnL hL))⟩, for_list (xs := nI ord) (FndI K F bE H3 st rA xA L fA m dm ord wss) ⟨[], [], _, _, _, _, _, _, _, _, rfl, gf, upd_same, .nil, rfl, fun i ws h => by simp at h⟩ (fun j σ4 H4 hj hI4 => ?_) (fun j x σ4 H4 hx hI4 => ?_) fun σ4 H4 hI4 => ?_⟩
        · obtain ⟨fs, ss, y5, y6, y7, y8, y9, y13, y14, y15, rfl, g4, _⟩ := hI4.ex
          exact .inl (.inl (g4.keep nnL hL))
        · obtain ⟨fs, ss, y5, y6, y7, y8, y9, y13, y14, y15, rfl, g4, hf4, hfd, hsl, hsk⟩ := hI4.ex
          rw [List.getElem?_map] at hx
          cases hoj : ord[j]? with
          | none => rw [hoj] at hx; cases hx
          | some kk =>
            rw [hoj] at hx
            cases hx
            have hkk := hR.lt kk (List.mem_of_getElem? hoj)
            have hjo := (List.getElem?_eq_some_iff.mp hoj).1
            have hwk2 : wss[kk]? = some wss[kk] := List.getElem?_eq_getElem hkk
            have hL4 := g4.keep nnL hL
            have hx4 := g4.keep nnx hx3
            obtain ⟨kv, hkv, hkd⟩ := ((g3.trans g4).dta hvd).getD (i := kk) (d := encKind wss[kk]) (by rw [List.getElem?_map, hwk2]; rfl)
            obtain ⟨ka, kx, rfl, hks, hka⟩ := hkd.inv
            have hkl : kx.length = wss[kk].length := by rw [hka.length, List.length_map]
            obtain ⟨_, hw10, hwy⟩ := hgood.kinds _ (List.getElem_mem hkk)
            have hcl := hR.cl kk (List.mem_of_getElem? hoj) _ hwk2
            generalize wss[kk] = ws at *
            refine ⟨_, rfl, isL hf4, ?_⟩
            dsimp only [tCons, tCB, tNil]
            refine tLc_iTup ?_
            refine ⟨_, rfl, _, rfl, xA, vs, _, .ref ka, rfl, rfl, .inl (.inl hx4), atI_nat hkv, ?_⟩
            refine lcT (K := K) (F := F) (b := bE) (e := 0) (R := fun _ i y H => ∃ w' : Way, Dt K H y (encWay w') ∧ ∃ w, ws[i]? = some w ∧ Ren ord w w') hks g4.r (by omega) (fun D i H H' y _ tt h => by
              obtain ⟨w, h1, h2⟩ := h
              exact ⟨w, Dt.ts tt _ _ h1, h2⟩) (fun D i x H5 hD hI5 hx5 Pq hPq => ?_) fun D ys H5 nD g5 hD5 hyl hall => ?_
            · obtain ⟨wd, hwd, hxd⟩ := (hI5.go.dta hka).get hx5
              rw [List.getElem?_map] at hwd
              cases hwi : ws[i]? with
              | none => rw [hwi] at hwd; cases hwd
              | some wy =>
                rw [hwi] at hwd
                cases hwd
                obtain ⟨nm, pp⟩ := wy
                obtain ⟨g41, g51, g61⟩ := hwy _ (List.mem_of_getElem? hwi)
                have g51' : pp.length ≤ 3 := g51
                have hcl' : ∀ p ∈ pp, p ∈ ord := hcl _ (List.mem_of_getElem? hwi)
                obtain ⟨a, xs, rfl, hsqa, ha⟩ := hxd.inv
                obtain ⟨w1, r1, rfl, hw1, hr1⟩ := ha.inv
                obtain ⟨w2, r2, rfl, hw2, hr2⟩ := hr1.inv
                cases hr2
                obtain ⟨pa, px, rfl, hps, hpa⟩ := hw2.inv
                have hpl : px.length = pp.length := by rw [hpa.length, List.length_map]
                refine ⟨a, _, rfl, hsqa, rfl, _, _, rfl, _, _, rfl, rfl, rfl, ?_⟩
                refine ⟨_, rfl, ?_⟩
                dsimp only [tCons, tCB, tNil]
                refine tLc_iTup ?_
                refine ⟨_, rfl, ?_⟩
                refine lcT (K := K) (F := F) (b := bE) (e := 0) (R := fun _ i y H => ∃ (jj : Nat) (p : Nat), y = .int (jj : Nat) ∧ pp[i]? = some p ∧ ord[jj]? = some p) hps hI5.go.r (by omega) (fun D i H H' y _ tt h => h) (fun D2 i2 x2 H6 hD2 hI6 hx6 Pq2 hPq2 => ?_) fun D2 zs H6 nD2 g6 hD6 hzl hallz => ?_
                · obtain ⟨dd, hdd, hxd2⟩ := hpa.get hx6
                  rw [List.getElem?_map] at hdd
                  cases hpi : pp[i2]? with
                  | none => rw [hpi] at hdd; cases hdd
                  | some p =>
                    rw [hpi] at hdd
                    cases hdd
                    have hv := hxd2.inv_int
                    subst hv
                    obtain ⟨jj, hjj⟩ := List.mem_iff_getElem?.mp (hcl' p (List.mem_of_getElem? hpi))
                    have hL6 := (hI5.go.trans hI6.go).keep nnL hL4
                    refine ⟨rfl, _, rfl, isL hL6, _, rfl, L, nI ord, .int (p : Nat), jj, .int (p : Nat), rfl, rfl, .inl (.inl hL6), rfl, flat_ints ord, by rw [List.getElem?_map, hjj]; rfl, by show (((p : Nat) : Int) == ((p : Nat) : Int)) = true; simp, fun m2 z' hm2 hz' => ?_, hPq2 _ _ (Go.refl hI6.go.r) ⟨jj, p, rfl, hpi, hjj⟩⟩
                    rw [List.getElem?_map] at hz'
                    cases hom : ord[m2]? with
                    | none => rw [hom] at hz'; cases hz'
                    | some o2 =>
                      rw [hom] at hz'
                      cases hz'
                      have hne : o2 ≠ p := fun e => by
                        subst e
                        have := nodup_idx hR.nd hom hjj
                        omega
                      show (((o2 : Nat) : Int) == ((p : Nat) : Int)) = false
                      have : ¬ ((o2 : Nat) : Int) = ((p : Nat) : Int) := by omega
                      simp [this]
                · obtain ⟨js, rfl, _⟩ := nats_of (n := ord.length) (ys := zs) fun i y hy => by
                    obtain ⟨jj, p, h1, h2, h3⟩ := hallz i y hy
                    exact ⟨jj, h1, (List.getElem?_eq_some_iff.mp h3).1⟩
                  have g6' : Go F bE H5 bE H6 := g6
                  have hjl : js.length = pp.length := by
                    rw [List.length_map] at hzl
                    omega
                  refine ⟨D2, nI js, rfl, .inl ⟨.inl (.inl hD6), fun p1 n1 => ⟨by show 2 ≤ sizeLine; decide, fun p2 n2 => ?_⟩⟩⟩
                  have g8 := (g6'.add (o := .tup (nI js)) n1).add (o := .tup [w1, .ref p1]) n2
                  refine hPq _ _ g8 ⟨(nm, js), dt_new n2 (.cons ((g6'.add (o := .tup (nI js)) n1).dt hw1) (.cons (dt_new n1 ?_) .nil)), (nm, pp), hwi, rfl, hjl, fun m2 jj hm2 => ?_⟩
                  · refine dtAll_idx (by rw [List.length_map, List.length_map]) fun i v d h1 h2 => ?_
                    rw [List.getElem?_map] at h1 h2
                    cases hpi : js[i]? with
                    | none => rw [hpi] at h1; cases h1
                    | some p0 =>
                      rw [hpi] at h1 h2
                      cases h1
                      cases h2
                      exact .int _
                  · obtain ⟨jj2, p, h1, h2, h3⟩ := hallz m2 (.int (jj : Nat)) (by rw [List.getElem?_map, show js[m2]? = some jj from hm2]; rfl)
                    have e : jj = jj2 := by
                      injection h1 with h1
                      omega
                    rw [e]
                    exact ⟨p, h2, h3⟩
            · obtain ⟨ws', hws1, hws2, hws3⟩ := ways_of hall
              have g5' : Go F bE H4 bE H5 := g5
              refine ⟨D, ys, rfl, .inl ⟨.inl (.inl hD5), fun p6 n6 => ?_⟩⟩
              have g6 := g5'.add (o := .tup ys) n6
              have hf6 := g6.keep (g3.nn' nfA) hf4
              have hfl := hfd.length
              rw [List.length_map] at hfl
              refine ⟨fA, fs, _, rfl, rfl, hf6, sz6' (by omega), fs ++ [.ref p6], ss ++ [ws'], _, _, _, _, _, _, _, _, rfl, (g4.trans g6).put nfA, upd_same, ?_, by simp [hsl], fun i2 w2 h2 => ?_⟩
              · rw [List.map_append]
                exact DtAll.ts (ts_lst hf6) _ _ ((g6.dta hfd).snoc (dt_new n6 hws1))
              · by_cases hil : i2 < ss.length
                · rw [List.getElem?_append_left hil] at h2
                  exact hsk i2 w2 h2
                · rw [List.getElem?_append_right (by omega)] at h2
                  have ei : i2 = j := by
                    have := (List.getElem?_eq_some_iff.mp h2).1
                    simp at this
                    omega
                  subst ei
                  rw [hsl, Nat.sub_self] at h2
                  cases h2
                  exact ⟨kk, ws, hoj, hwk2, by omega, hws3⟩
        · obtain ⟨fs, ss, y5, y6, y7, y8, y9, y13, y14, y15, rfl, g4, hf4, hfd, hsl, hsk⟩ := hI4.ex
          rw [List.length_map] at hsl
          obtain ⟨hG', hR'⟩ := good_ren hgood hranked hR hsl hsk
          refine ⟨_, rfl, fA, fs, rfl, .inl ⟨.inl (.inl hf4), fun p np => ?_⟩⟩
          have gE := ((gi.trans g2h).trans (g3.trans g4)).add (o := .tup fs) np
          exact q _ _ ss (gE.le (by omega)) (dt_new np hfd) hG' hR' (by omega)
end
end K00

set_option Elab.async false
set_option linter.all false
set_option maxRecDepth 100000
set_option maxHeartbeats 4000000
/-! D0e: what is raised, told. -/
namespace K00
open PySem PySem.Spec PyProof.Rows L2 Lf Df
open GxR (TabB TabG Tabbed GenS)
abbrev s__law_caught : Stmt := topS 40
abbrev N__law_caught : List Str := ["call", "told", "error"]
theorem sc__law_caught : FnScope N__law_caught ["call"] (defScope s__law_caught) := ⟨rfl, rfl, rfl, by decide +kernel, rfl, by decide +kernel, by decide +kernel⟩
def spCaught : LSp := fun τ b Q R => τ b (fun d b' => flat d = true ∧ Q (.list [.str "told", d]) b') (fun ed b' => (∃ v, ed = (("BadDocument" : Str), [(("place" : Str), v)]) ∧ Q (.list [.str "document", v, .bool true]) b') ∨ ∃ v, ed = (("BadPlace" : Str), [(("value" : Str), v)]) ∧ Q (.list [.str "place", v, .bool true]) b')
section
variable {P : Program} {w : World} {K : PySem.W.Frag} {mg : Str → Option Value} {base : Heap} {PT : List (Addr × Option Str)}
theorem pr__law_caught {f C fI C2 fI2 : Addr} {fd : FuncData} {k : Nat} (T : Txt mg) (D : Def K mg "_law_caught" ["call"] s__law_caught f fd) (TS_BadDocument : LfX.SupTxt P K mg "BadDocument" C fI "place") (TS_BadPlace : LfX.SupTxt P K mg "BadPlace" C2 fI2 "value")
    (TI_BadDocument : IsTxt K mg "BadDocument" "LeafError" true) (TI_BadPlace : IsTxt K mg "BadPlace" "LeafError" true) (X1 : ExM K mg "BadDocument" "BadDocument" true) (X2 : ExM K mg "BadPlace" "BadDocument" false) (X3 : ExM K mg "BadPlace" "BadPlace" true) : LamPr P w K mg base PT k "_law_caught" "call" spCaught := by
  refine ⟨s__law_caught, f, fd, N__law_caught, D, sc__law_caught, rfl, .inl rfl, fun v => rfl, fun A outer s H E f c q σo ρo F τ hG hr hF act => ?_⟩
  refine ⟨_, (dss_cons (ds_set (i := 1) sc__law_caught.nd rfl (Or.inl rfl) de_non)
  (dss_cons (ds_try (i := 1) rfl rfl (takes_of rfl rfl rfl rfl) sc__law_caught.nd rfl (Or.inl rfl) (fun W pn xe tk => (DF.de (df_lst (dl_cons de_str (dl_cons (act _ _ _ _ _ tk) dl_nil))))) (ClsD.cons (o := (some 2)) rfl (by decide) ⟨_, TS_BadDocument.gC⟩ ⟨_, rfl, sc__law_caught.nd, rfl, rfl⟩ (fun a y oe cls pn hz hf => 
    (dss_one (ds_set (i := 1) sc__law_caught.nd rfl (Or.inl rfl) (DF.de (df_lst (dl_cons de_str (dl_cons (de_errF (i := 2) TS_BadDocument hz hf rfl (.inl rfl)) (dl_cons (de_errI (i := 2) TI_BadDocument hz hf rfl (.inl rfl) T.isinstance) dl_nil)))))))) (ClsD.cons (o := (some 2)) rfl (by decide) ⟨_, TS_BadPlace.gC⟩ ⟨_, rfl, sc__law_caught.nd, rfl, rfl⟩ (fun a y oe cls pn hz hf => 
    (dss_one (ds_set (i := 1) sc__law_caught.nd rfl (Or.inl rfl) (DF.de (df_lst (dl_cons de_str (dl_cons (de_errF (i := 2) TS_BadPlace hz hf rfl (.inl rfl)) (dl_cons (de_errI (i := 2) TI_BadPlace hz hf rfl (.inl rfl) T.isinstance) dl_nil)))))))) ClsD.nil)))
  (dss_one (ds_ret (dvb 1))))), fun b Q R h => ?_⟩
  simp only [sCons_, sIf_, sRet_, sNil_, sSet_, sOwn_, sAppend_, sExtend_, onSq_l, onSq_t, sPop_, sPar_, sAsg_, sAug_, sRetN_, sDrop_, sRaise_, sFreeze_, sSetI_, sBreak_, sCont_, sTry_, dAct, dLam, dGet2, dDisp, rdReprX_l, rdReprX_t, onDict_, onKey_i, onKey_s, toOV, ofOV, dOr, dAnd, dNot, dB, dIsi, dVar_0, dVar_s, dVarB_0, dVarB_l, dVarB_s, dChain, dC, dCall, aCons, aNil, aVar, allIm_0, allIm_1, allIm_2, d2, dAllIn, startD, svOf, gN, gsC_, gsN, dTup, dCons, dNil, dLst, dAddL, dMulL, dF, dIf, dAndV, dOrV, dNotV, dNeg, dIter, dRng1, dRng2, dRng3, dEnum, dZip, dYes, dSl, dNo, dSo, dFn, wipeR, onB_, onI_, onIt_l, onIt_t, onIt_s, kRng1_, kRng2_, kRng3_, kEnum_l, kEnum_t, kZip_l, kZip_t, cutQ_t, cutQ_l, cutQ_s, rdI_, rdI0_, rdB0_, rdAdd_i, rdAdd_s, rdAdd_t, rdAdd_l, rdMul_i, rdMul_l, rdMul_t, rdEq_i, rdEq_s, rdEq0_l, rdEq0_ln, rdEq0_t, rdOrd_i, rdIsN_, rdIsN_n, rdIx_t, rdIx_l, rdIx_s, rdLen_l, rdLen_t, rdLen_s, rdTup_l, rdTup_t, rdList_l, rdList_t, rdInt_, rdSum_, rdMax_l, rdMax_i, rdMin_i, gT_, List.map_cons, List.map_nil, List.getElem?_cons_zero, List.getElem?_cons_succ, List.set_cons_zero, List.set_cons_succ, List.length_cons, List.length_nil, List.replicate, List.cons_append, List.nil_append, Option.map_some, Option.map_none, if_true, cond_true, cond_false, Bool.not_true, Bool.not_false, Nat.add_sub_cancel, Nat.sub_self, Nat.zero_add, Nat.reduceAdd, Nat.reduceSub, true_and, and_true]
  refine ⟨rfl, _, _, h, fun d b' z => z, fun ed b' z => ?_⟩
  rcases z with ⟨v, rfl, z⟩ | ⟨v, rfl, z⟩
  · refine ⟨true, X1, fun _ a y cls hm => ?_, fun z => by cases z⟩
    simp only [clRunD, goneD, dErrF, dErrI, sCons_, sIf_, sRet_, sNil_, sSet_, sOwn_, sAppend_, sExtend_, onSq_l, onSq_t, sPop_, sPar_, sAsg_, sAug_, sRetN_, sDrop_, sRaise_, sFreeze_, sSetI_, sBreak_, sCont_, sTry_, dAct, dLam, dGet2, dDisp, rdReprX_l, rdReprX_t, onDict_, onKey_i, onKey_s, toOV, ofOV, dOr, dAnd, dNot, dB, dIsi, dVar_0, dVar_s, dVarB_0, dVarB_l, dVarB_s, dChain, dC, dCall, aCons, aNil, aVar, allIm_0, allIm_1, allIm_2, d2, dAllIn, startD, svOf, gN, gsC_, gsN, dTup, dCons, dNil, dLst, dAddL, dMulL, dF, dIf, dAndV, dOrV, dNotV, dNeg, dIter, dRng1, dRng2, dRng3, dEnum, dZip, dYes, dSl, dNo, dSo, dFn, wipeR, onB_, onI_, onIt_l, onIt_t, onIt_s, kRng1_, kRng2_, kRng3_, kEnum_l, kEnum_t, kZip_l, kZip_t, cutQ_t, cutQ_l, cutQ_s, rdI_, rdI0_, rdB0_, rdAdd_i, rdAdd_s, rdAdd_t, rdAdd_l, rdMul_i, rdMul_l, rdMul_t, rdEq_i, rdEq_s, rdEq0_l, rdEq0_ln, rdEq0_t, rdOrd_i, rdIsN_, rdIsN_n, rdIx_t, rdIx_l, rdIx_s, rdLen_l, rdLen_t, rdLen_s, rdTup_l, rdTup_t, rdList_l, rdList_t, rdInt_, rdSum_, rdMax_l, rdMax_i, rdMin_i, gT_, List.map_cons, List.map_nil, List.getElem?_cons_zero, List.getElem?_cons_succ, List.set_cons_zero, List.set_cons_succ, List.length_cons, List.length_nil, List.replicate, List.cons_append, List.nil_append, Option.map_some, Option.map_none, if_true, cond_true, cond_false, Bool.not_true, Bool.not_false, Nat.add_sub_cancel, Nat.sub_self, Nat.zero_add, Nat.reduceAdd, Nat.reduceSub, true_and, and_true]
    exact ⟨hm, v, rfl, hm, z⟩
  · refine ⟨false, X2, (fun z => by cases z), fun _ => ⟨true, X3, fun _ a y cls hm => ?_, fun z => by cases z⟩⟩
    simp only [clRunD, goneD, dErrF, dErrI, sCons_, sIf_, sRet_, sNil_, sSet_, sOwn_, sAppend_, sExtend_, onSq_l, onSq_t, sPop_, sPar_, sAsg_, sAug_, sRetN_, sDrop_, sRaise_, sFreeze_, sSetI_, sBreak_, sCont_, sTry_, dAct, dLam, dGet2, dDisp, rdReprX_l, rdReprX_t, onDict_, onKey_i, onKey_s, toOV, ofOV, dOr, dAnd, dNot, dB, dIsi, dVar_0, dVar_s, dVarB_0, dVarB_l, dVarB_s, dChain, dC, dCall, aCons, aNil, aVar, allIm_0, allIm_1, allIm_2, d2, dAllIn, startD, svOf, gN, gsC_, gsN, dTup, dCons, dNil, dLst, dAddL, dMulL, dF, dIf, dAndV, dOrV, dNotV, dNeg, dIter, dRng1, dRng2, dRng3, dEnum, dZip, dYes, dSl, dNo, dSo, dFn, wipeR, onB_, onI_, onIt_l, onIt_t, onIt_s, kRng1_, kRng2_, kRng3_, kEnum_l, kEnum_t, kZip_l, kZip_t, cutQ_t, cutQ_l, cutQ_s, rdI_, rdI0_, rdB0_, rdAdd_i, rdAdd_s, rdAdd_t, rdAdd_l, rdMul_i, rdMul_l, rdMul_t, rdEq_i, rdEq_s, rdEq0_l, rdEq0_ln, rdEq0_t, rdOrd_i, rdIsN_, rdIsN_n, rdIx_t, rdIx_l, rdIx_s, rdLen_l, rdLen_t, rdLen_s, rdTup_l, rdTup_t, rdList_l, rdList_t, rdInt_, rdSum_, rdMax_l, rdMax_i, rdMin_i, gT_, List.map_cons, List.map_nil, List.getElem?_cons_zero, List.getElem?_cons_succ, List.set_cons_zero, List.set_cons_succ, List.length_cons, List.length_nil, List.replicate, List.cons_append, List.nil_append, Option.map_some, Option.map_none, if_true, cond_true, cond_false, Bool.not_true, Bool.not_false, Nat.add_sub_cancel, Nat.sub_self, Nat.zero_add, Nat.reduceAdd, Nat.reduceSub, true_and, and_true]
    exact ⟨hm, v, rfl, hm, z⟩
end
end K00

set_option Elab.async false
set_option linter.all false
set_option maxRecDepth 100000
set_option maxHeartbeats 4000000
/-! D0f: the law's own words about documents. -/
namespace K00
open PySem PySem.Spec PyProof.Rows L2 Lf Df
open GxR (TabB TabG Tabbed GenS)
abbrev s__law_like : Stmt := topS 39
abbrev N__law_like : List Str := ["got", "due"]
theorem sc__law_like : FnScope N__law_like ["got", "due"] (defScope s__law_like) := ⟨rfl, rfl, rfl, by decide +kernel, rfl, by decide +kernel, by decide +kernel⟩
abbrev s__law_there : Stmt := topS 43
abbrev N__law_there : List Str := ["output", "place", "spot"]
theorem sc__law_there : FnScope N__law_there ["output", "place"] (defScope s__law_there) := ⟨rfl, rfl, rfl, by decide +kernel, rfl, by decide +kernel, by decide +kernel⟩
section
variable {P : Program} {w : World} {K : PySem.W.Frag} {mg : Str → Option Value} {base : Heap} {PT : List (Addr × Option Str)}
/-! ### _law_like -/
def spLike : DSp := fun as b Q _ => ∃ d : PyData, as = [.im d, .im d] ∧ (isLst d || isTup d) = true ∧ d.showable = true ∧ d.shown.length ≤ 1000000 ∧ d.depth ≤ 150 ∧ Q (.bool true) b
theorem pr__law_like {f : Addr} {fd : FuncData} {k : Nat} (T : Txt mg) (hS : (K.lookup sysModules).isSome = true) (D : Def K mg "_law_like" ["got", "due"] s__law_like f fd) : PrD P w K mg base PT (k + 1) "_law_like" ["got", "due"] spLike := by
  refine PrD.of D sc__law_like (fun as b Q R h => by obtain ⟨_, rfl, _⟩ := h; rfl) (by decide) fun cdv A outer s H E F hcd hG hr hF => ?_
  refine ⟨_, (dss_one (ds_ret (DE.db (de_cmp op_eqP (opd_eq hr) (DE.db (de_call (fun _ h => pe_callB (call_reprX hG hS) (by rfl) T.repr (by decide +kernel) h) (cd_reprX hr) (da_cons (dvb 0) da_nil))) (DE.db (de_call (fun _ h => pe_callB (call_reprX hG hS) (by rfl) T.repr (by decide +kernel) h) (cd_reprX hr) (da_cons (dvb 1) da_nil))) (nomark _))))), fun as b Q R h => ?_⟩
  obtain ⟨d, rfl, h0, h1, h2, h3, q⟩ := h
  cases d with
  | list ds =>
    simp only [sCons_, sIf_, sRet_, sNil_, sSet_, sOwn_, sAppend_, sExtend_, onSq_l, onSq_t, sPop_, sPar_, sAsg_, sAug_, sRetN_, sDrop_, sRaise_, sFreeze_, sSetI_, sBreak_, sCont_, sTry_, dAct, dLam, dGet2, dDisp, rdReprX_l, rdReprX_t, onDict_, onKey_i, onKey_s, toOV, ofOV, dOr, dAnd, dNot, dB, dIsi, dVar_0, dVar_s, dVarB_0, dVarB_l, dVarB_s, dChain, dC, dCall, aCons, aNil, aVar, allIm_0, allIm_1, allIm_2, d2, dAllIn, startD, svOf, gN, gsC_, gsN, dTup, dCons, dNil, dLst, dAddL, dMulL, dF, dIf, dAndV, dOrV, dNotV, dNeg, dIter, dRng1, dRng2, dRng3, dEnum, dZip, dYes, dSl, dNo, dSo, dFn, wipeR, onB_, onI_, onIt_l, onIt_t, onIt_s, kRng1_, kRng2_, kRng3_, kEnum_l, kEnum_t, kZip_l, kZip_t, cutQ_t, cutQ_l, cutQ_s, rdI_, rdI0_, rdB0_, rdAdd_i, rdAdd_s, rdAdd_t, rdAdd_l, rdMul_i, rdMul_l, rdMul_t, rdEq_i, rdEq_s, rdEq0_l, rdEq0_ln, rdEq0_t, rdOrd_i, rdIsN_, rdIsN_n, rdIx_t, rdIx_l, rdIx_s, rdLen_l, rdLen_t, rdLen_s, rdTup_l, rdTup_t, rdList_l, rdList_t, rdInt_, rdSum_, rdMax_l, rdMax_i, rdMin_i, gT_, List.map_cons, List.map_nil, List.getElem?_cons_zero, List.getElem?_cons_succ, List.set_cons_zero, List.set_cons_succ, List.length_cons, List.length_nil, List.replicate, List.cons_append, List.nil_append, Option.map_some, Option.map_none, if_true, cond_true, cond_false, Bool.not_true, Bool.not_false, Nat.add_sub_cancel, Nat.sub_self, Nat.zero_add, Nat.reduceAdd, Nat.reduceSub, true_and, and_true]
    refine ⟨h1, h2, h3, h1, h2, h3, ?_⟩
    rw [show ((PyData.list ds).shown == (PyData.list ds).shown) = true from by simp]
    exact q
  | tuple ds =>
    simp only [sCons_, sIf_, sRet_, sNil_, sSet_, sOwn_, sAppend_, sExtend_, onSq_l, onSq_t, sPop_, sPar_, sAsg_, sAug_, sRetN_, sDrop_, sRaise_, sFreeze_, sSetI_, sBreak_, sCont_, sTry_, dAct, dLam, dGet2, dDisp, rdReprX_l, rdReprX_t, onDict_, onKey_i, onKey_s, toOV, ofOV, dOr, dAnd, dNot, dB, dIsi, dVar_0, dVar_s, dVarB_0, dVarB_l, dVarB_s, dChain, dC, dCall, aCons, aNil, aVar, allIm_0, allIm_1, allIm_2, d2, dAllIn, startD, svOf, gN, gsC_, gsN, dTup, dCons, dNil, dLst, dAddL, dMulL, dF, dIf, dAndV, dOrV, dNotV, dNeg, dIter, dRng1, dRng2, dRng3, dEnum, dZip, dYes, dSl, dNo, dSo, dFn, wipeR, onB_, onI_, onIt_l, onIt_t, onIt_s, kRng1_, kRng2_, kRng3_, kEnum_l, kEnum_t, kZip_l, kZip_t, cutQ_t, cutQ_l, cutQ_s, rdI_, rdI0_, rdB0_, rdAdd_i, rdAdd_s, rdAdd_t, rdAdd_l, rdMul_i, rdMul_l, rdMul_t, rdEq_i, rdEq_s, rdEq0_l, rdEq0_ln, rdEq0_t, rdOrd_i, rdIsN_, rdIsN_n, rdIx_t, rdIx_l, rdIx_s, rdLen_l, rdLen_t, rdLen_s, rdTup_l, rdTup_t, rdList_l, rdList_t, rdInt_, rdSum_, rdMax_l, rdMax_i, rdMin_i, gT_, List.map_cons, List.map_nil, List.getElem?_cons_zero, List.getElem?_cons_succ, List.set_cons_zero, List.set_cons_succ, List.length_cons, List.length_nil, List.replicate, List.cons_append, List.nil_append, Option.map_some, Option.map_none, if_true, cond_true, cond_false, Bool.not_true, Bool.not_false, Nat.add_sub_cancel, Nat.sub_self, Nat.zero_add, Nat.reduceAdd, Nat.reduceSub, true_and, and_true]
    refine ⟨h1, h2, h3, h1, h2, h3, ?_⟩
    rw [show ((PyData.tuple ds).shown == (PyData.tuple ds).shown) = true from by simp]
    exact q
  | _ => cases h0
/-! ### _law_there -/
theorem pr__law_there {f : Addr} {fd : FuncData} {k : Nat} (T : Txt mg) (D : Def K mg "_law_there" ["output", "place"] s__law_there f fd) : PrD P w K mg base PT (k + 1) "_law_there" ["output", "place"] spThere := by
  refine PrD.of D sc__law_there (fun as b Q R h => by obtain ⟨_, _, _, rfl, _⟩ := h; rfl) (by decide) fun cdv A outer s H E F hcd hG hr hF => ?_
  refine ⟨_, (dss_cons (ds_for (passes_of rfl) rfl (DI.two (di_any (dv 1))) (dg_name (i := 2) sc__law_there.nd rfl (Or.inl rfl)) (
    (dss_one (ds_set (i := 0) sc__law_there.nd rfl (Or.inl rfl) (de_ix ix_seq opd_ix (dvb 0) (DE.db (de_op op_addAll opd_add (dvb 2) (DE.db de_int))) (fun _ _ => rfl))))))
  (dss_one (ds_ret (dvb 0)))), fun as b Q R h => ?_⟩
  obtain ⟨e, pl, z, rfl, hz, q⟩ := h
  simp only [sCons_, sIf_, sRet_, sNil_, sSet_, sOwn_, sAppend_, sExtend_, onSq_l, onSq_t, sPop_, sPar_, sAsg_, sAug_, sRetN_, sDrop_, sRaise_, sFreeze_, sSetI_, sBreak_, sCont_, sTry_, dAct, dLam, dGet2, dDisp, rdReprX_l, rdReprX_t, onDict_, onKey_i, onKey_s, toOV, ofOV, dOr, dAnd, dNot, dB, dIsi, dVar_0, dVar_s, dVarB_0, dVarB_l, dVarB_s, dChain, dC, dCall, aCons, aNil, aVar, allIm_0, allIm_1, allIm_2, d2, dAllIn, startD, svOf, gN, gsC_, gsN, dTup, dCons, dNil, dLst, dAddL, dMulL, dF, dIf, dAndV, dOrV, dNotV, dNeg, dIter, dRng1, dRng2, dRng3, dEnum, dZip, dYes, dSl, dNo, dSo, dFn, wipeR, onB_, onI_, onIt_l, onIt_t, onIt_s, kRng1_, kRng2_, kRng3_, kEnum_l, kEnum_t, kZip_l, kZip_t, cutQ_t, cutQ_l, cutQ_s, rdI_, rdI0_, rdB0_, rdAdd_i, rdAdd_s, rdAdd_t, rdAdd_l, rdMul_i, rdMul_l, rdMul_t, rdEq_i, rdEq_s, rdEq0_l, rdEq0_ln, rdEq0_t, rdOrd_i, rdIsN_, rdIsN_n, rdIx_t, rdIx_l, rdIx_s, rdLen_l, rdLen_t, rdLen_s, rdTup_l, rdTup_t, rdList_l, rdList_t, rdInt_, rdSum_, rdMax_l, rdMax_i, rdMin_i, gT_, List.map_cons, List.map_nil, List.getElem?_cons_zero, List.getElem?_cons_succ, List.set_cons_zero, List.set_cons_succ, List.length_cons, List.length_nil, List.replicate, List.cons_append, List.nil_append, Option.map_some, Option.map_none, if_true, cond_true, cond_false, Bool.not_true, Bool.not_false, Nat.add_sub_cancel, Nat.sub_self, Nat.zero_add, Nat.reduceAdd, Nat.reduceSub, true_and, and_true]
  unfold sFor
  simp only [encPl, sCons_, sIf_, sRet_, sNil_, sSet_, sOwn_, sAppend_, sExtend_, onSq_l, onSq_t, sPop_, sPar_, sAsg_, sAug_, sRetN_, sDrop_, sRaise_, sFreeze_, sSetI_, sBreak_, sCont_, sTry_, dAct, dLam, dGet2, dDisp, rdReprX_l, rdReprX_t, onDict_, onKey_i, onKey_s, toOV, ofOV, dOr, dAnd, dNot, dB, dIsi, dVar_0, dVar_s, dVarB_0, dVarB_l, dVarB_s, dChain, dC, dCall, aCons, aNil, aVar, allIm_0, allIm_1, allIm_2, d2, dAllIn, startD, svOf, gN, gsC_, gsN, dTup, dCons, dNil, dLst, dAddL, dMulL, dF, dIf, dAndV, dOrV, dNotV, dNeg, dIter, dRng1, dRng2, dRng3, dEnum, dZip, dYes, dSl, dNo, dSo, dFn, wipeR, onB_, onI_, onIt_l, onIt_t, onIt_s, kRng1_, kRng2_, kRng3_, kEnum_l, kEnum_t, kZip_l, kZip_t, cutQ_t, cutQ_l, cutQ_s, rdI_, rdI0_, rdB0_, rdAdd_i, rdAdd_s, rdAdd_t, rdAdd_l, rdMul_i, rdMul_l, rdMul_t, rdEq_i, rdEq_s, rdEq0_l, rdEq0_ln, rdEq0_t, rdOrd_i, rdIsN_, rdIsN_n, rdIx_t, rdIx_l, rdIx_s, rdLen_l, rdLen_t, rdLen_s, rdTup_l, rdTup_t, rdList_l, rdList_t, rdInt_, rdSum_, rdMax_l, rdMax_i, rdMin_i, gT_, List.map_cons, List.map_nil, List.getElem?_cons_zero, List.getElem?_cons_succ, List.set_cons_zero, List.set_cons_succ, List.length_cons, List.length_nil, List.replicate, List.cons_append, List.nil_append, Option.map_some, Option.map_none, if_true, cond_true, cond_false, Bool.not_true, Bool.not_false, Nat.add_sub_cancel, Nat.sub_self, Nat.zero_add, Nat.reduceAdd, Nat.reduceSub, true_and, and_true]
  refine ⟨fun i ρ b2 => ∃ (y : Doc) (s3 : SV), ρ = [.im y.enc, .im (encPl pl), s3] ∧ b2 = b ∧ y.part (pl.drop i) = some z, ⟨e, .no, rfl, rfl, hz⟩, fun i x ρ b2 hx hi => ?_, fun ρ b2 hi => ?_⟩
  · obtain ⟨y, s3, rfl, rfl, hp⟩ := hi
    rw [List.getElem?_map] at hx
    obtain ⟨j, hj, rfl⟩ : ∃ j, pl[i]? = some j ∧ PyData.int (j : Nat) = x := by
      cases h : pl[i]? with
      | none => rw [h] at hx; cases hx
      | some e => rw [h] at hx; cases hx; exact ⟨e, rfl, rfl⟩
    have hd := List.drop_eq_getElem?_toList_append (l := pl) (i := i)
    rw [hj] at hd
    rw [hd] at hp
    obtain ⟨n, ps⟩ := y
    obtain ⟨d, h1, h2⟩ := part_cons hp
    simp only [enc_nd, sCons_, sIf_, sRet_, sNil_, sSet_, sOwn_, sAppend_, sExtend_, onSq_l, onSq_t, sPop_, sPar_, sAsg_, sAug_, sRetN_, sDrop_, sRaise_, sFreeze_, sSetI_, sBreak_, sCont_, sTry_, dAct, dLam, dGet2, dDisp, rdReprX_l, rdReprX_t, onDict_, onKey_i, onKey_s, toOV, ofOV, dOr, dAnd, dNot, dB, dIsi, dVar_0, dVar_s, dVarB_0, dVarB_l, dVarB_s, dChain, dC, dCall, aCons, aNil, aVar, allIm_0, allIm_1, allIm_2, d2, dAllIn, startD, svOf, gN, gsC_, gsN, dTup, dCons, dNil, dLst, dAddL, dMulL, dF, dIf, dAndV, dOrV, dNotV, dNeg, dIter, dRng1, dRng2, dRng3, dEnum, dZip, dYes, dSl, dNo, dSo, dFn, wipeR, onB_, onI_, onIt_l, onIt_t, onIt_s, kRng1_, kRng2_, kRng3_, kEnum_l, kEnum_t, kZip_l, kZip_t, cutQ_t, cutQ_l, cutQ_s, rdI_, rdI0_, rdB0_, rdAdd_i, rdAdd_s, rdAdd_t, rdAdd_l, rdMul_i, rdMul_l, rdMul_t, rdEq_i, rdEq_s, rdEq0_l, rdEq0_ln, rdEq0_t, rdOrd_i, rdIsN_, rdIsN_n, rdIx_t, rdIx_l, rdIx_s, rdLen_l, rdLen_t, rdLen_s, rdTup_l, rdTup_t, rdList_l, rdList_t, rdInt_, rdSum_, rdMax_l, rdMax_i, rdMin_i, gT_, List.map_cons, List.map_nil, List.getElem?_cons_zero, List.getElem?_cons_succ, List.set_cons_zero, List.set_cons_succ, List.length_cons, List.length_nil, List.replicate, List.cons_append, List.nil_append, Option.map_some, Option.map_none, if_true, cond_true, cond_false, Bool.not_true, Bool.not_false, Nat.add_sub_cancel, Nat.sub_self, Nat.zero_add, Nat.reduceAdd, Nat.reduceSub, true_and, and_true]
    exact ⟨d.enc, ixD_nat (n := j + 1) (by omega) (by rw [List.getElem?_cons_succ, encs_map, List.getElem?_map, h1]; rfl), d, _, rfl, h2⟩
  · obtain ⟨y, s3, rfl, rfl, hp⟩ := hi
    rw [List.length_map, List.drop_length] at hp
    have e0 : y = z := by
      cases y
      rw [Doc.part] at hp
      exact Option.some.inj hp
    rw [e0]
    exact q
/-! ### _law_with -/
def spLWith (n : Nat) : DSp := fun as b Q _ => ∃ (e : Doc) (pl : List Nat) (z : Doc) (x : PyData), as = [.im e.enc, .im (encPl pl), .im x] ∧ e.size ≤ 2000 ∧ e.part pl = some z ∧ pl.length + 1 ≤ n ∧ Q (putD e pl x) b
theorem pr__law_with {f : Addr} {fd : FuncData} {k : Nat} (T : Txt mg) (D : Def K mg "_law_with" ["output", "place", "part"] s__law_with f fd) : ∀ n, PrD P w K mg base PT (k + n) "_law_with" ["output", "place", "part"] (spLWith n)
  | 0 => ⟨f, fd, D.mg, D.fn.kp, ⟨fun vs H Q E h => by obtain ⟨_, _, _, _, _, _, _, _, h, _⟩ := h; obtain ⟨_, _, _, _, _, _, _, hn, _⟩ := h; omega, fun A outer s H args us vs Q E hG hr e0 hb r h => by obtain ⟨_, _, _, _, _, _, _, _, h, _⟩ := h; obtain ⟨_, _, _, _, _, _, _, hn, _⟩ := h; omega⟩, D.bd⟩
  | n + 1 => by
    have G__law_with : PrD P w K mg base PT (k + n) "_law_with" ["output", "place", "part"] (spLWith n) := pr__law_with T D n
    show PrD P w K mg base PT ((k + n) + 1) "_law_with" ["output", "place", "part"] (spLWith (n + 1))
    refine PrD.of D sc__law_with (fun as b Q R h => by obtain ⟨_, _, _, _, rfl, _⟩ := h; rfl) (by decide) fun cdv A outer s H E F hcd hG hr hF => ?_
    refine ⟨_, (dss_cons (ds_if (dt_cmp (op_eq0 hr) (opd_eq0 hr) (dvb 1) (DE.db (de_tup dl_nil)) (nomark _)) (
    (dss_one (ds_ret (dvb 2)))) (dss_nil))
  (dss_cons (ds_set (i := 3) sc__law_with.nd rfl (Or.inl rfl) (de_op op_addAll opd_add (DE.db (de_ix ix_seq opd_ix (dvb 1) (DE.db de_int) (fun _ _ => rfl))) (DE.db de_int)))
  (dss_one (ds_ret (DE.db (de_op op_addAll opd_add (DE.db (de_op op_addAll opd_add (DE.db (de_slice (dvb 0) do_none (do_some (dv 3)))) (DE.db (de_tup (dl_cons (de_fn hG (G__law_with.mono (by omega)) hF hr (das_cons (de_ix ix_seq opd_ix (dvb 0) (dvb 3) (fun _ _ => rfl)) (das_cons (de_slice (dvb 1) (do_some de_int) do_none) (das_cons (dv 2) das_nil)))) dl_nil))))) (DE.db (de_slice (dvb 0) (do_some (de_op op_addAll opd_add (dvb 3) (DE.db de_int))) do_none)))))))), fun as b Q R h => ?_⟩
    obtain ⟨e, pl, z, x, rfl, hz, hp, hn, q⟩ := h
    simp only [encPl, sCons_, sIf_, sRet_, sNil_, sSet_, sOwn_, sAppend_, sExtend_, onSq_l, onSq_t, sPop_, sPar_, sAsg_, sAug_, sRetN_, sDrop_, sRaise_, sFreeze_, sSetI_, sBreak_, sCont_, sTry_, dAct, dLam, dGet2, dDisp, rdReprX_l, rdReprX_t, onDict_, onKey_i, onKey_s, toOV, ofOV, dOr, dAnd, dNot, dB, dIsi, dVar_0, dVar_s, dVarB_0, dVarB_l, dVarB_s, dChain, dC, dCall, aCons, aNil, aVar, allIm_0, allIm_1, allIm_2, d2, dAllIn, startD, svOf, gN, gsC_, gsN, dTup, dCons, dNil, dLst, dAddL, dMulL, dF, dIf, dAndV, dOrV, dNotV, dNeg, dIter, dRng1, dRng2, dRng3, dEnum, dZip, dYes, dSl, dNo, dSo, dFn, wipeR, onB_, onI_, onIt_l, onIt_t, onIt_s, kRng1_, kRng2_, kRng3_, kEnum_l, kEnum_t, kZip_l, kZip_t, cutQ_t, cutQ_l, cutQ_s, rdI_, rdI0_, rdB0_, rdAdd_i, rdAdd_s, rdAdd_t, rdAdd_l, rdMul_i, rdMul_l, rdMul_t, rdEq_i, rdEq_s, rdEq0_l, rdEq0_ln, rdEq0_t, rdOrd_i, rdIsN_, rdIsN_n, rdIx_t, rdIx_l, rdIx_s, rdLen_l, rdLen_t, rdLen_s, rdTup_l, rdTup_t, rdList_l, rdList_t, rdInt_, rdSum_, rdMax_l, rdMax_i, rdMin_i, gT_, List.map_cons, List.map_nil, List.getElem?_cons_zero, List.getElem?_cons_succ, List.set_cons_zero, List.set_cons_succ, List.length_cons, List.length_nil, List.replicate, List.cons_append, List.nil_append, Option.map_some, Option.map_none, if_true, cond_true, cond_false, Bool.not_true, Bool.not_false, Nat.add_sub_cancel, Nat.sub_self, Nat.zero_add, Nat.reduceAdd, Nat.reduceSub, true_and, and_true]
    cases pl with
    | nil =>
      simp only [sCons_, sIf_, sRet_, sNil_, sSet_, sOwn_, sAppend_, sExtend_, onSq_l, onSq_t, sPop_, sPar_, sAsg_, sAug_, sRetN_, sDrop_, sRaise_, sFreeze_, sSetI_, sBreak_, sCont_, sTry_, dAct, dLam, dGet2, dDisp, rdReprX_l, rdReprX_t, onDict_, onKey_i, onKey_s, toOV, ofOV, dOr, dAnd, dNot, dB, dIsi, dVar_0, dVar_s, dVarB_0, dVarB_l, dVarB_s, dChain, dC, dCall, aCons, aNil, aVar, allIm_0, allIm_1, allIm_2, d2, dAllIn, startD, svOf, gN, gsC_, gsN, dTup, dCons, dNil, dLst, dAddL, dMulL, dF, dIf, dAndV, dOrV, dNotV, dNeg, dIter, dRng1, dRng2, dRng3, dEnum, dZip, dYes, dSl, dNo, dSo, dFn, wipeR, onB_, onI_, onIt_l, onIt_t, onIt_s, kRng1_, kRng2_, kRng3_, kEnum_l, kEnum_t, kZip_l, kZip_t, cutQ_t, cutQ_l, cutQ_s, rdI_, rdI0_, rdB0_, rdAdd_i, rdAdd_s, rdAdd_t, rdAdd_l, rdMul_i, rdMul_l, rdMul_t, rdEq_i, rdEq_s, rdEq0_l, rdEq0_ln, rdEq0_t, rdOrd_i, rdIsN_, rdIsN_n, rdIx_t, rdIx_l, rdIx_s, rdLen_l, rdLen_t, rdLen_s, rdTup_l, rdTup_t, rdList_l, rdList_t, rdInt_, rdSum_, rdMax_l, rdMax_i, rdMin_i, gT_, List.map_cons, List.map_nil, List.getElem?_cons_zero, List.getElem?_cons_succ, List.set_cons_zero, List.set_cons_succ, List.length_cons, List.length_nil, List.replicate, List.cons_append, List.nil_append, Option.map_some, Option.map_none, if_true, cond_true, cond_false, Bool.not_true, Bool.not_false, Nat.add_sub_cancel, Nat.sub_self, Nat.zero_add, Nat.reduceAdd, Nat.reduceSub, true_and, and_true]
      cases e
      rw [putD] at q
      exact q
    | cons i r =>
      obtain ⟨m, ps⟩ := e
      obtain ⟨d, h1, h2⟩ := part_cons hp
      rw [putD_cons h1] at q
      have hs := sizes_enc ps
      have hz2 := hz
      rw [Doc.size] at hz2
      simp only [enc_nd, List.isEmpty_cons, sCons_, sIf_, sRet_, sNil_, sSet_, sOwn_, sAppend_, sExtend_, onSq_l, onSq_t, sPop_, sPar_, sAsg_, sAug_, sRetN_, sDrop_, sRaise_, sFreeze_, sSetI_, sBreak_, sCont_, sTry_, dAct, dLam, dGet2, dDisp, rdReprX_l, rdReprX_t, onDict_, onKey_i, onKey_s, toOV, ofOV, dOr, dAnd, dNot, dB, dIsi, dVar_0, dVar_s, dVarB_0, dVarB_l, dVarB_s, dChain, dC, dCall, aCons, aNil, aVar, allIm_0, allIm_1, allIm_2, d2, dAllIn, startD, svOf, gN, gsC_, gsN, dTup, dCons, dNil, dLst, dAddL, dMulL, dF, dIf, dAndV, dOrV, dNotV, dNeg, dIter, dRng1, dRng2, dRng3, dEnum, dZip, dYes, dSl, dNo, dSo, dFn, wipeR, onB_, onI_, onIt_l, onIt_t, onIt_s, kRng1_, kRng2_, kRng3_, kEnum_l, kEnum_t, kZip_l, kZip_t, cutQ_t, cutQ_l, cutQ_s, rdI_, rdI0_, rdB0_, rdAdd_i, rdAdd_s, rdAdd_t, rdAdd_l, rdMul_i, rdMul_l, rdMul_t, rdEq_i, rdEq_s, rdEq0_l, rdEq0_ln, rdEq0_t, rdOrd_i, rdIsN_, rdIsN_n, rdIx_t, rdIx_l, rdIx_s, rdLen_l, rdLen_t, rdLen_s, rdTup_l, rdTup_t, rdList_l, rdList_t, rdInt_, rdSum_, rdMax_l, rdMax_i, rdMin_i, gT_, List.map_cons, List.map_nil, List.getElem?_cons_zero, List.getElem?_cons_succ, List.set_cons_zero, List.set_cons_succ, List.length_cons, List.length_nil, List.replicate, List.cons_append, List.nil_append, Option.map_some, Option.map_none, if_true, cond_true, cond_false, Bool.not_true, Bool.not_false, Nat.add_sub_cancel, Nat.sub_self, Nat.zero_add, Nat.reduceAdd, Nat.reduceSub, true_and, and_true]
      refine ⟨_, rfl, ?_⟩
      simp only [sCons_, sIf_, sRet_, sNil_, sSet_, sOwn_, sAppend_, sExtend_, onSq_l, onSq_t, sPop_, sPar_, sAsg_, sAug_, sRetN_, sDrop_, sRaise_, sFreeze_, sSetI_, sBreak_, sCont_, sTry_, dAct, dLam, dGet2, dDisp, rdReprX_l, rdReprX_t, onDict_, onKey_i, onKey_s, toOV, ofOV, dOr, dAnd, dNot, dB, dIsi, dVar_0, dVar_s, dVarB_0, dVarB_l, dVarB_s, dChain, dC, dCall, aCons, aNil, aVar, allIm_0, allIm_1, allIm_2, d2, dAllIn, startD, svOf, gN, gsC_, gsN, dTup, dCons, dNil, dLst, dAddL, dMulL, dF, dIf, dAndV, dOrV, dNotV, dNeg, dIter, dRng1, dRng2, dRng3, dEnum, dZip, dYes, dSl, dNo, dSo, dFn, wipeR, onB_, onI_, onIt_l, onIt_t, onIt_s, kRng1_, kRng2_, kRng3_, kEnum_l, kEnum_t, kZip_l, kZip_t, cutQ_t, cutQ_l, cutQ_s, rdI_, rdI0_, rdB0_, rdAdd_i, rdAdd_s, rdAdd_t, rdAdd_l, rdMul_i, rdMul_l, rdMul_t, rdEq_i, rdEq_s, rdEq0_l, rdEq0_ln, rdEq0_t, rdOrd_i, rdIsN_, rdIsN_n, rdIx_t, rdIx_l, rdIx_s, rdLen_l, rdLen_t, rdLen_s, rdTup_l, rdTup_t, rdList_l, rdList_t, rdInt_, rdSum_, rdMax_l, rdMax_i, rdMin_i, gT_, List.map_cons, List.map_nil, List.getElem?_cons_zero, List.getElem?_cons_succ, List.set_cons_zero, List.set_cons_succ, List.length_cons, List.length_nil, List.replicate, List.cons_append, List.nil_append, Option.map_some, Option.map_none, if_true, cond_true, cond_false, Bool.not_true, Bool.not_false, Nat.add_sub_cancel, Nat.sub_self, Nat.zero_add, Nat.reduceAdd, Nat.reduceSub, true_and, and_true]
      have e1 : ((i : Nat) : Int) + 1 = ((i + 1 : Nat) : Int) := by omega
      have e2 : ((i : Nat) : Int) + 1 + 1 = ((i + 1 + 1 : Nat) : Int) := by omega
      refine ⟨d.enc, ixD_nat (n := i + 1) e1 (by rw [List.getElem?_cons_succ, encs_map, List.getElem?_map, h1]; rfl), ?_⟩
      refine ⟨d, r, z, x, ?_, by have := size_le_sizes (List.mem_of_getElem? h1); omega, h2, by simp at hn; omega, ?_⟩
      · rw [cut1]
        rfl
      · rw [cutTo _ _ _ i e1, cutFrom _ _ _ (i + 1) e2]
        simp only [sCons_, sIf_, sRet_, sNil_, sSet_, sOwn_, sAppend_, sExtend_, onSq_l, onSq_t, sPop_, sPar_, sAsg_, sAug_, sRetN_, sDrop_, sRaise_, sFreeze_, sSetI_, sBreak_, sCont_, sTry_, dAct, dLam, dGet2, dDisp, rdReprX_l, rdReprX_t, onDict_, onKey_i, onKey_s, toOV, ofOV, dOr, dAnd, dNot, dB, dIsi, dVar_0, dVar_s, dVarB_0, dVarB_l, dVarB_s, dChain, dC, dCall, aCons, aNil, aVar, allIm_0, allIm_1, allIm_2, d2, dAllIn, startD, svOf, gN, gsC_, gsN, dTup, dCons, dNil, dLst, dAddL, dMulL, dF, dIf, dAndV, dOrV, dNotV, dNeg, dIter, dRng1, dRng2, dRng3, dEnum, dZip, dYes, dSl, dNo, dSo, dFn, wipeR, onB_, onI_, onIt_l, onIt_t, onIt_s, kRng1_, kRng2_, kRng3_, kEnum_l, kEnum_t, kZip_l, kZip_t, cutQ_t, cutQ_l, cutQ_s, rdI_, rdI0_, rdB0_, rdAdd_i, rdAdd_s, rdAdd_t, rdAdd_l, rdMul_i, rdMul_l, rdMul_t, rdEq_i, rdEq_s, rdEq0_l, rdEq0_ln, rdEq0_t, rdOrd_i, rdIsN_, rdIsN_n, rdIx_t, rdIx_l, rdIx_s, rdLen_l, rdLen_t, rdLen_s, rdTup_l, rdTup_t, rdList_l, rdList_t, rdInt_, rdSum_, rdMax_l, rdMax_i, rdMin_i, gT_, List.map_cons, List.map_nil, List.getElem?_cons_zero, List.getElem?_cons_succ, List.set_cons_zero, List.set_cons_succ, List.length_cons, List.length_nil, List.replicate, List.cons_append, List.nil_append, Option.map_some, Option.map_none, if_true, cond_true, cond_false, Bool.not_true, Bool.not_false, Nat.add_sub_cancel, Nat.sub_self, Nat.zero_add, Nat.reduceAdd, Nat.reduceSub, true_and, and_true]
        refine ⟨?_, ?_, ?_⟩
        · simp only [List.length_cons, List.length_nil, List.length_take]
          omega
        · simp only [List.length_append, List.length_cons, List.length_nil, List.length_take, List.length_drop]
          omega
        · simpa using q
end
end K00

set_option Elab.async false
set_option linter.all false
set_option maxRecDepth 100000
set_option maxHeartbeats 4000000
/-! D0g: the law's draws, shapes, documents, by data. -/
namespace K00
open PySem PySem.Spec PyProof.Rows L2 Lf Df
open GxR (TabB TabG Tabbed GenS)
mutual
theorem flat_enc : ∀ d : Doc, flat d.enc = true
  | .nd n ps => by
    rw [Doc.enc, Df.flat, flats, flat_encs ps]
    rfl
theorem flat_encs : ∀ ps : List Doc, flats (encs ps) = true
  | [] => rfl
  | d :: r => by rw [encs, flats, flat_enc d, flat_encs r]; rfl
end
theorem flats_ints (ns : List Nat) : flats (ns.map fun i : Nat => .int (i : Int)) = true := by
  induction ns with
  | nil => rfl
  | cons n r ih => rw [List.map_cons, flats, ih]; rfl
theorem flat_pl (pl : List Nat) : flat (encPl pl) = true := by
  unfold encPl
  rw [Df.flat]
  exact flats_ints pl
theorem flats_ways (ws : List Way) : flats (ws.map encWay) = true := by
  induction ws with
  | nil => rfl
  | cons n r ih =>
    rw [List.map_cons, flats, ih]
    unfold encWay
    rw [Df.flat, flats, flats, flat_pl]
    rfl
theorem flat_shp (s : Shp) : flat (encShp s) = true := by
  unfold encShp
  rw [Df.flat]
  induction s with
  | nil => rfl
  | cons n r ih =>
    rw [List.map_cons, flats, ih]
    unfold encKind
    rw [Df.flat, flats_ways]
    rfl
section
variable {P : Program} {w : World} {K : PySem.W.Frag} {mg : Str → Option Value} {base : Heap} {PT : List (Addr × Option Str)} {k : Nat} {F : Fr} {H : Hp} {vs : List V}
theorem avs_st {a : AV} {as : List AV} (h : AVs K F Z0 H vs (.st :: as)) : ∃ st r, vs = .ref st :: r ∧ HasSt F st ∧ AVs K F Z0 H r as := by
  cases h with
  | cons h1 h2 =>
    obtain ⟨st, rfl, hs⟩ := h1
    exact ⟨st, _, rfl, hs, h2⟩
theorem avs_im {d : PyData} {as : List AV} (h : AVs K F Z0 H vs (.im d :: as)) : ∃ v r, vs = v :: r ∧ Dx K F.N H v d ∧ AVs K F Z0 H r as := by
  cases h with
  | cons h1 h2 => exact ⟨_, _, rfl, Bw.n h1, h2⟩
theorem avs_nil (h : AVs K F Z0 H vs []) : vs = [] := by
  cases h
  rfl
def dDraw : DSp := fun as b Q _ => ∃ l : Nat, as = [.st, .im (.int (l : Nat))] ∧ 0 < l ∧ l ≤ 1000000 ∧ b ≤ 1000000 ∧ ∀ m : Nat, m < l → Q (.int (m : Nat)) (b + 1)
theorem draw_d (G : Pr P w K mg base k "_law_draw" ["state", "limit"] spDraw) : PrD P w K mg base PT k "_law_draw" ["state", "limit"] dDraw := G.imp fun vs H Q E h => by
  obtain ⟨F, b, as, Qd, Rd, hF, hT, ha, ⟨l, rfl, h0, h1, h2, hQ⟩, hq, he⟩ := h
  obtain ⟨st, r, rfl, hs, ha⟩ := avs_st (a := .st) ha
  obtain ⟨v, r, rfl, hv, ha⟩ := avs_im ha
  obtain rfl := avs_nil ha
  have := hv.inv_int
  subst this
  exact ⟨F, b, st, l, rfl, hT, hs, h0, h1, h2, fun m H' hm g => hq _ _ H' _ g (.int _) (hQ m hm)⟩
def isSeq (d : PyData) (ds : List PyData) : Prop := d = .list ds ∨ d = .tuple ds
def dOf : DSp := fun as b Q _ => ∃ d ds, as = [.st, .im d] ∧ isSeq d ds ∧ 0 < ds.length ∧ ds.length ≤ 1000000 ∧ b ≤ 1000000 ∧ ∀ (i : Nat) x, ds[i]? = some x → Q x (b + 1)
theorem of_d (G : Pr P w K mg base k "_law_of" ["state", "some"] (spOf K)) : PrD P w K mg base PT k "_law_of" ["state", "some"] dOf := G.imp fun vs H Q E h => by
  obtain ⟨F, b, as, Qd, Rd, hF, hT, ha, ⟨d, ds, rfl, hd, h0, h1, h2, hQ⟩, hq, he⟩ := h
  obtain ⟨st, r, rfl, hs, ha⟩ := avs_st (a := .st) ha
  obtain ⟨v, r, rfl, hv, ha⟩ := avs_im ha
  obtain rfl := avs_nil ha
  have key : ∀ a xs, v = .ref a → Row K F H a xs → DxAll K F.N H xs ds → spOf K [.ref st, v] H Q E := fun a xs e hr hx => by
    subst e
    have hl := hx.length
    refine ⟨F, b, st, a, xs, rfl, hT, hs, hr, by omega, by omega, h2, fun i x H' hi g => ?_⟩
    obtain ⟨y, hy, x2⟩ := hx.get hi
    exact hq _ _ H' _ g (Dx.kz (Df.Go.kz g) _ _ x2) (hQ i y hy)
  rcases hd with rfl | rfl
  · obtain ⟨a, xs, e, n, hl, hx⟩ := hv.invL
    exact key a xs e (.inl ⟨hl, n⟩) hx
  · obtain ⟨a, xs, e, hl, hx⟩ := hv.inv
    exact key a xs e (.inr hl) hx
def dSize (n : Nat) : DSp := fun as b Q _ => ∃ e : Doc, as = [.im e.enc] ∧ e.deep ≤ n ∧ e.size ≤ 1000000 ∧ Q (.int (e.size : Nat)) b
theorem size_d {n : Nat} (G : Pr P w K mg base k "_law_size" ["document"] (spSize K n)) : PrD P w K mg base PT k "_law_size" ["document"] (dSize n) := G.imp fun vs H Q E h => by
  obtain ⟨F, b, as, Qd, Rd, hF, hT, ha, ⟨e, rfl, h1, h2, hQ⟩, hq, he⟩ := h
  obtain ⟨v, r, rfl, hv, ha⟩ := avs_im ha
  obtain rfl := avs_nil ha
  exact ⟨F, b, v, e, rfl, hT, Dx.dt _ _ (flat_enc e) hv, h1, h2, fun H' g => hq _ _ H' _ g (.int _) hQ⟩
def dShape : DSp := fun as b Q _ => ∃ m : Nat, as = [.st, .im (.int (m : Nat)), .im (.int 3)] ∧ 1 ≤ m ∧ m ≤ 5 ∧ b + 300 ≤ 1000000 ∧ ∀ s : Shp, Good s → Ranked s → s.length ≤ m → Q (encShp s) (b + 300)
theorem shape_d (G : Pr P w K mg base k "_law_shape" ["state", "most", "wide"] (spShape K)) : PrD P w K mg base PT k "_law_shape" ["state", "most", "wide"] dShape := G.imp fun vs H Q E h => by
  obtain ⟨F, b, as, Qd, Rd, hF, hT, ha, ⟨m, rfl, h1, h2, h3, hQ⟩, hq, he⟩ := h
  obtain ⟨st, r, rfl, hs, ha⟩ := avs_st (a := .st) ha
  obtain ⟨v, r, rfl, hv, ha⟩ := avs_im ha
  obtain ⟨u, r, rfl, hu, ha⟩ := avs_im ha
  obtain rfl := avs_nil ha
  have := hv.inv_int
  subst this
  have := hu.inv_int
  subst this
  exact ⟨F, b, st, m, rfl, hT, hs, h1, h2, h3, fun H' u s g hd h4 h5 h6 => hq _ _ H' _ g (Dt.dx _ _ hd) (hQ s h4 h5 h6)⟩
def dFirsts : DSp := fun as b Q _ => ∃ s : Shp, as = [.im (encShp s)] ∧ Good s ∧ Ranked s ∧ s.length ≤ 6 ∧ ∀ ds : List Doc, ds.length = s.length → (∀ d ∈ ds, d.fine = true ∧ d.deep ≤ s.length ∧ d.size ≤ szOf s.length) → Q (.list (encs ds)) b
theorem firsts_d (G : Pr P w K mg base k "_law_firsts" ["shape_so"] (spFirsts K)) : PrD P w K mg base PT k "_law_firsts" ["shape_so"] dFirsts := G.imp fun vs H Q E h => by
  obtain ⟨F, b, as, Qd, Rd, hF, hT, ha, ⟨s, rfl, h1, h2, h3, hQ⟩, hq, he⟩ := h
  obtain ⟨v, r, rfl, hv, ha⟩ := avs_im ha
  obtain rfl := avs_nil ha
  exact ⟨F, b, v, s, rfl, hT, Dx.dt _ _ (flat_shp s) hv, h1, h2, h3, fun H' L us ds g nL hL hd h4 h5 => hq _ _ H' _ g (.lst (F.fresh hT nL) hL (DtAll.dx _ _ hd)) (hQ ds h4 h5)⟩
def dDoc (n : Nat) : DSp := fun as b Q _ => ∃ (s : Shp) (ds : List Doc) (kd e z : Nat), as = [.st, .im (encShp s), .im (.list (encs ds)), .im (.int (kd : Nat)), .im (.int (n : Nat))] ∧ b + cDoc n ≤ 1000000 ∧ Good s ∧ ds.length = s.length ∧ (∀ d ∈ ds, d.fine = true ∧ d.deep ≤ e ∧ d.size ≤ z) ∧ kd < s.length ∧
  ∀ d : Doc, d.fine = true → d.deep ≤ n + e → d.size ≤ zDoc z n → Q d.enc (b + cDoc n)
theorem doc_d {n : Nat} (G : Pr P w K mg base k "_law_document" ["state", "shape_so", "firsts_so", "kind", "deep"] (spDoc K n)) : PrD P w K mg base PT k "_law_document" ["state", "shape_so", "firsts_so", "kind", "deep"] (dDoc n) := G.imp fun vs H Q E h => by
  obtain ⟨F, b, as, Qd, Rd, hF, hT, ha, ⟨s, ds, kd, e, z, rfl, h1, h2, h3, h4, h5, hQ⟩, hq, he⟩ := h
  obtain ⟨st, r, rfl, hs, ha⟩ := avs_st (a := .st) ha
  obtain ⟨v, r, rfl, hv, ha⟩ := avs_im ha
  obtain ⟨u, r, rfl, hu, ha⟩ := avs_im ha
  obtain ⟨x, r, rfl, hx, ha⟩ := avs_im ha
  obtain ⟨y, r, rfl, hy, ha⟩ := avs_im ha
  obtain rfl := avs_nil ha
  have := hx.inv_int
  subst this
  have := hy.inv_int
  subst this
  obtain ⟨fA, us, rfl, nf, hl, hus⟩ := hu.invL
  exact ⟨F, b, st, v, fA, kd, s, us, ds, e, z, rfl, hT, hs, h1, Dx.dt _ _ (flat_shp s) hv, h2, hl, nf, DxAll.dt _ _ (flat_encs ds) hus, h3, h4, h5, fun H' u d g hd h6 h7 h8 => hq _ _ H' _ g (Dt.dx _ _ hd) (hQ d h6 h7 h8)⟩
end
end K00

set_option Elab.async false
set_option linter.all false
set_option maxRecDepth 100000
set_option maxHeartbeats 4000000
/-! D0h: depths, places, as the law counts them. -/
namespace K00
open PySem PySem.Spec PyProof.Rows L2 Lf Df
open GxR (TabB TabG Tabbed GenS)
abbrev s__law_depth : Stmt := topS 42
abbrev N__law_depth : List Str := ["document", "part"]
theorem sc__law_depth : FnScope N__law_depth ["document"] (defScope s__law_depth) := ⟨rfl, rfl, rfl, by decide +kernel, rfl, by decide +kernel, by decide +kernel⟩
abbrev s__law_places : Stmt := topS 41
abbrev N__law_places : List Str := ["document", "place", "found", "spot", "part"]
theorem sc__law_places : FnScope N__law_places ["document", "place"] (defScope s__law_places) := ⟨rfl, rfl, rfl, by decide +kernel, rfl, by decide +kernel, by decide +kernel⟩
theorem maxI_deeps : ∀ ps : List Doc, maxI (0 :: ps.map fun e => ((e.deep : Nat) : Int)) = ((deeps ps : Nat) : Int)
  | [] => by simp [maxI, deeps]
  | d :: r => by
    have ih := maxI_deeps r
    have h1 := deep_pos d
    cases r with
    | nil =>
      simp only [List.map_cons, List.map_nil, maxI, deeps]
      omega
    | cons e r =>
      simp only [List.map_cons, maxI, deeps] at ih ⊢
      omega
theorem intsOf_app {xs ys : List PyData} {ns ms : List Int} (h : intsOf xs = some ns) (h' : intsOf ys = some ms) : intsOf (xs ++ ys) = some (ns ++ ms) := by
  induction xs generalizing ns with
  | nil => cases h; exact h'
  | cons x r ih =>
    cases x with
    | int i =>
      simp only [intsOf, Option.map_eq_some_iff] at h
      obtain ⟨ms', h1, rfl⟩ := h
      simp only [List.cons_append, intsOf, ih h1, Option.map_some]
    | _ => cases h
section
variable {P : Program} {w : World} {K : PySem.W.Frag} {mg : Str → Option Value} {base : Heap} {PT : List (Addr × Option Str)}
def dDepth (n : Nat) : DSp := fun as b Q _ => ∃ e : Doc, as = [.im e.enc] ∧ e.deep ≤ n ∧ e.size ≤ 2000 ∧ Q (.int (e.deep : Nat)) b
theorem pr__law_depth {f : Addr} {fd : FuncData} {k : Nat} (T : Txt mg) (D : Def K mg "_law_depth" ["document"] s__law_depth f fd) : ∀ n, PrD P w K mg base PT (k + n) "_law_depth" ["document"] (dDepth n)
  | 0 => ⟨f, fd, D.mg, D.fn.kp, ⟨fun vs H Q E h => by obtain ⟨_, _, _, _, _, _, _, _, h, _⟩ := h; obtain ⟨e, _, hn, _⟩ := h; have := deep_pos e; omega, fun A outer s H args us vs Q E hG hr e0 hb r h => by obtain ⟨_, _, _, _, _, _, _, _, h, _⟩ := h; obtain ⟨e, _, hn, _⟩ := h; have := deep_pos e; omega⟩, D.bd⟩
  | n + 1 => by
    have G__law_depth : PrD P w K mg base PT (k + n) "_law_depth" ["document"] (dDepth n) := pr__law_depth T D n
    show PrD P w K mg base PT ((k + n) + 1) "_law_depth" ["document"] (dDepth (n + 1))
    refine PrD.of D sc__law_depth (fun as b Q R h => by obtain ⟨_, rfl, _⟩ := h; rfl) (by decide) fun cdv A outer s H E F hcd hG hr hF => ?_
    refine ⟨_, (dss_one (ds_ret (DE.db (de_op op_addAll opd_add (DE.db de_int) (DE.db (de_call (fun _ h => pe_callB (call_maxA rfl) (by rfl) T.max (by decide +kernel) h) cd_max (da_cons (DE.db (de_op op_addAll opd_add (DE.db (DF.de (df_lst (dl_cons de_int dl_nil)))) (DE.db (DF.de (df_lc (own := [("part", 1)]) rfl sc__law_depth.nd (DI.two (di_any (de_slice (dvb 0) (do_some de_int) do_none))) (blkOk_by (own := [("part", 1)]) (N := N__law_depth) (sc := defScope s__law_depth) (by decide +kernel)) (by decide) (fun _ _ _ _ _ => (dg_name (i := 1) sc__law_depth.nd rfl (Or.inl rfl))) (fun _ _ _ _ _ => dts_nil) (fun _ _ _ _ _ => (de_fn hG (G__law_depth.mono (by omega)) hF hr (das_cons (dv 1) das_nil)))))))) da_nil))))))), fun as b Q R h => ?_⟩
    obtain ⟨⟨m, ps⟩, rfl, hn, hz, q⟩ := h
    rw [Doc.deep] at hn
    rw [Doc.size] at hz
    have hls := len_le_sizes ps
    simp only [enc_nd, dLc, sCons_, sIf_, sRet_, sNil_, sSet_, sOwn_, sAppend_, sExtend_, onSq_l, onSq_t, sPop_, sPar_, sAsg_, sAug_, sRetN_, sDrop_, sRaise_, sFreeze_, sSetI_, sBreak_, sCont_, sTry_, dAct, dLam, dGet2, dDisp, rdReprX_l, rdReprX_t, onDict_, onKey_i, onKey_s, toOV, ofOV, dOr, dAnd, dNot, dB, dIsi, dVar_0, dVar_s, dVarB_0, dVarB_l, dVarB_s, dChain, dC, dCall, aCons, aNil, aVar, allIm_0, allIm_1, allIm_2, d2, dAllIn, startD, svOf, gN, gsC_, gsN, dTup, dCons, dNil, dLst, dAddL, dMulL, dF, dIf, dAndV, dOrV, dNotV, dNeg, dIter, dRng1, dRng2, dRng3, dEnum, dZip, dYes, dSl, dNo, dSo, dFn, wipeR, onB_, onI_, onIt_l, onIt_t, onIt_s, kRng1_, kRng2_, kRng3_, kEnum_l, kEnum_t, kZip_l, kZip_t, cutQ_t, cutQ_l, cutQ_s, rdI_, rdI0_, rdB0_, rdAdd_i, rdAdd_s, rdAdd_t, rdAdd_l, rdMul_i, rdMul_l, rdMul_t, rdEq_i, rdEq_s, rdEq0_l, rdEq0_ln, rdEq0_t, rdOrd_i, rdIsN_, rdIsN_n, rdIx_t, rdIx_l, rdIx_s, rdLen_l, rdLen_t, rdLen_s, rdTup_l, rdTup_t, rdList_l, rdList_t, rdInt_, rdSum_, rdMax_l, rdMax_i, rdMin_i, gT_, List.map_cons, List.map_nil, List.getElem?_cons_zero, List.getElem?_cons_succ, List.set_cons_zero, List.set_cons_succ, List.length_cons, List.length_nil, List.replicate, List.cons_append, List.nil_append, Option.map_some, Option.map_none, if_true, cond_true, cond_false, Bool.not_true, Bool.not_false, Nat.add_sub_cancel, Nat.sub_self, Nat.zero_add, Nat.reduceAdd, Nat.reduceSub, true_and, and_true]
    rw [cut1]
    refine ⟨fun i acc b2 => acc = (ps.take i).map (fun e => .int (e.deep : Nat)) ∧ b2 = b, ⟨rfl, rfl⟩, fun i x acc b2 hx hi => ?_, fun acc b2 hi => ?_⟩
    · obtain ⟨rfl, rfl⟩ := hi
      rw [encs_map, List.getElem?_map] at hx
      obtain ⟨e, he, rfl⟩ : ∃ e, ps[i]? = some e ∧ e.enc = x := by
        cases h : ps[i]? with
        | none => rw [h] at hx; cases hx
        | some e => rw [h] at hx; cases hx; exact ⟨e, rfl, rfl⟩
      have hil := (List.getElem?_eq_some_iff.mp he).1
      have h1 := (deeps_le (n := deeps ps) ps).mp (Nat.le_refl _) e (List.mem_of_getElem? he)
      have h2 := size_le_sizes (List.mem_of_getElem? he)
      simp only [sCons_, sIf_, sRet_, sNil_, sSet_, sOwn_, sAppend_, sExtend_, onSq_l, onSq_t, sPop_, sPar_, sAsg_, sAug_, sRetN_, sDrop_, sRaise_, sFreeze_, sSetI_, sBreak_, sCont_, sTry_, dAct, dLam, dGet2, dDisp, rdReprX_l, rdReprX_t, onDict_, onKey_i, onKey_s, toOV, ofOV, dOr, dAnd, dNot, dB, dIsi, dVar_0, dVar_s, dVarB_0, dVarB_l, dVarB_s, dChain, dC, dCall, aCons, aNil, aVar, allIm_0, allIm_1, allIm_2, d2, dAllIn, startD, svOf, gN, gsC_, gsN, dTup, dCons, dNil, dLst, dAddL, dMulL, dF, dIf, dAndV, dOrV, dNotV, dNeg, dIter, dRng1, dRng2, dRng3, dEnum, dZip, dYes, dSl, dNo, dSo, dFn, wipeR, onB_, onI_, onIt_l, onIt_t, onIt_s, kRng1_, kRng2_, kRng3_, kEnum_l, kEnum_t, kZip_l, kZip_t, cutQ_t, cutQ_l, cutQ_s, rdI_, rdI0_, rdB0_, rdAdd_i, rdAdd_s, rdAdd_t, rdAdd_l, rdMul_i, rdMul_l, rdMul_t, rdEq_i, rdEq_s, rdEq0_l, rdEq0_ln, rdEq0_t, rdOrd_i, rdIsN_, rdIsN_n, rdIx_t, rdIx_l, rdIx_s, rdLen_l, rdLen_t, rdLen_s, rdTup_l, rdTup_t, rdList_l, rdList_t, rdInt_, rdSum_, rdMax_l, rdMax_i, rdMin_i, gT_, List.map_cons, List.map_nil, List.getElem?_cons_zero, List.getElem?_cons_succ, List.set_cons_zero, List.set_cons_succ, List.length_cons, List.length_nil, List.replicate, List.cons_append, List.nil_append, Option.map_some, Option.map_none, if_true, cond_true, cond_false, Bool.not_true, Bool.not_false, Nat.add_sub_cancel, Nat.sub_self, Nat.zero_add, Nat.reduceAdd, Nat.reduceSub, true_and, and_true]
      refine ⟨e, rfl, by omega, by omega, by rw [List.length_map, List.length_take]; omega, ?_, rfl⟩
      rw [List.take_add_one, he, List.map_append]
      rfl
    · obtain ⟨rfl, rfl⟩ := hi
      rw [encs_len, List.take_length]
      refine ⟨by rw [List.length_map]; omega, ?_⟩
      have e1 : intsOf (PyData.int 0 :: ps.map fun e => .int (e.deep : Nat)) = some (0 :: ps.map fun e => ((e.deep : Nat) : Int)) := by
        have := intsOf_map (0 :: ps.map fun e => ((e.deep : Nat) : Int))
        rw [List.map_cons, List.map_map] at this
        exact this
      refine ⟨_, e1, by simp, ?_⟩
      rw [maxI_deeps]
      have e2 : (1 : Int) + ((deeps ps : Nat) : Int) = (((Doc.nd m ps).deep : Nat) : Int) := by rw [Doc.deep]; omega
      rw [e2]
      exact q
def dPlaces (n : Nat) : DSp := fun as b Q _ => ∃ (e : Doc) (pl : List Nat), as = [.im e.enc, .im (encPl pl)] ∧ e.deep ≤ n ∧ e.size ≤ 2000 ∧ pl.length + e.deep ≤ 1000 ∧ Q (.list ((places e pl).map encPl)) b
theorem pr__law_places {f : Addr} {fd : FuncData} {k : Nat} (T : Txt mg) (D : Def K mg "_law_places" ["document", "place"] s__law_places f fd) : ∀ n, PrD P w K mg base PT (k + n) "_law_places" ["document", "place"] (dPlaces n)
  | 0 => ⟨f, fd, D.mg, D.fn.kp, ⟨fun vs H Q E h => by obtain ⟨_, _, _, _, _, _, _, _, h, _⟩ := h; obtain ⟨e, _, _, hn, _⟩ := h; have := deep_pos e; omega, fun A outer s H args us vs Q E hG hr e0 hb r h => by obtain ⟨_, _, _, _, _, _, _, _, h, _⟩ := h; obtain ⟨e, _, _, hn, _⟩ := h; have := deep_pos e; omega⟩, D.bd⟩
  | n + 1 => by
    have G__law_places : PrD P w K mg base PT (k + n) "_law_places" ["document", "place"] (dPlaces n) := pr__law_places T D n
    show PrD P w K mg base PT ((k + n) + 1) "_law_places" ["document", "place"] (dPlaces (n + 1))
    refine PrD.of D sc__law_places (fun as b Q R h => by obtain ⟨_, _, rfl, _⟩ := h; rfl) (by decide) fun cdv A outer s H E F hcd hG hr hF => ?_
    refine ⟨_, (dss_cons (ds_set (i := 2) sc__law_places.nd rfl (Or.inl rfl) (DF.de (df_lst (dl_cons (dv 1) dl_nil))))
  (dss_cons (ds_for (passes_of rfl) rfl (DI.two (di_enum (by rfl) T.enumerate (dl_cons (de_slice (dvb 0) (do_some de_int) do_none) dl_nil))) (dg_tup (n := 2) rfl (dgs_cons (dg_name (i := 3) sc__law_places.nd rfl (Or.inl rfl)) (dgs_cons (dg_name (i := 4) sc__law_places.nd rfl (Or.inl rfl)) dgs_nil))) (
    (dss_one (ds_set (i := 2) sc__law_places.nd rfl (Or.inl rfl) (de_op op_addAll opd_add (dvb 2) (DE.db (de_fn hG (G__law_places.mono (by omega)) hF hr (das_cons (dv 4) (das_cons (de_op op_addAll opd_add (dvb 1) (DE.db (de_tup (dl_cons (dv 3) dl_nil)))) das_nil)))))))))
  (dss_one (ds_ret (dvb 2))))), fun as b Q R h => ?_⟩
    obtain ⟨⟨m, ps⟩, pl, rfl, hn, hz, hpl, q⟩ := h
    rw [Doc.deep] at hn hpl
    rw [Doc.size] at hz
    simp only [enc_nd, sCons_, sIf_, sRet_, sNil_, sSet_, sOwn_, sAppend_, sExtend_, onSq_l, onSq_t, sPop_, sPar_, sAsg_, sAug_, sRetN_, sDrop_, sRaise_, sFreeze_, sSetI_, sBreak_, sCont_, sTry_, dAct, dLam, dGet2, dDisp, rdReprX_l, rdReprX_t, onDict_, onKey_i, onKey_s, toOV, ofOV, dOr, dAnd, dNot, dB, dIsi, dVar_0, dVar_s, dVarB_0, dVarB_l, dVarB_s, dChain, dC, dCall, aCons, aNil, aVar, allIm_0, allIm_1, allIm_2, d2, dAllIn, startD, svOf, gN, gsC_, gsN, dTup, dCons, dNil, dLst, dAddL, dMulL, dF, dIf, dAndV, dOrV, dNotV, dNeg, dIter, dRng1, dRng2, dRng3, dEnum, dZip, dYes, dSl, dNo, dSo, dFn, wipeR, onB_, onI_, onIt_l, onIt_t, onIt_s, kRng1_, kRng2_, kRng3_, kEnum_l, kEnum_t, kZip_l, kZip_t, cutQ_t, cutQ_l, cutQ_s, rdI_, rdI0_, rdB0_, rdAdd_i, rdAdd_s, rdAdd_t, rdAdd_l, rdMul_i, rdMul_l, rdMul_t, rdEq_i, rdEq_s, rdEq0_l, rdEq0_ln, rdEq0_t, rdOrd_i, rdIsN_, rdIsN_n, rdIx_t, rdIx_l, rdIx_s, rdLen_l, rdLen_t, rdLen_s, rdTup_l, rdTup_t, rdList_l, rdList_t, rdInt_, rdSum_, rdMax_l, rdMax_i, rdMin_i, gT_, List.map_cons, List.map_nil, List.getElem?_cons_zero, List.getElem?_cons_succ, List.set_cons_zero, List.set_cons_succ, List.length_cons, List.length_nil, List.replicate, List.cons_append, List.nil_append, Option.map_some, Option.map_none, if_true, cond_true, cond_false, Bool.not_true, Bool.not_false, Nat.add_sub_cancel, Nat.sub_self, Nat.zero_add, Nat.reduceAdd, Nat.reduceSub, true_and, and_true]
    unfold sFor
    simp only [sCons_, sIf_, sRet_, sNil_, sSet_, sOwn_, sAppend_, sExtend_, onSq_l, onSq_t, sPop_, sPar_, sAsg_, sAug_, sRetN_, sDrop_, sRaise_, sFreeze_, sSetI_, sBreak_, sCont_, sTry_, dAct, dLam, dGet2, dDisp, rdReprX_l, rdReprX_t, onDict_, onKey_i, onKey_s, toOV, ofOV, dOr, dAnd, dNot, dB, dIsi, dVar_0, dVar_s, dVarB_0, dVarB_l, dVarB_s, dChain, dC, dCall, aCons, aNil, aVar, allIm_0, allIm_1, allIm_2, d2, dAllIn, startD, svOf, gN, gsC_, gsN, dTup, dCons, dNil, dLst, dAddL, dMulL, dF, dIf, dAndV, dOrV, dNotV, dNeg, dIter, dRng1, dRng2, dRng3, dEnum, dZip, dYes, dSl, dNo, dSo, dFn, wipeR, onB_, onI_, onIt_l, onIt_t, onIt_s, kRng1_, kRng2_, kRng3_, kEnum_l, kEnum_t, kZip_l, kZip_t, cutQ_t, cutQ_l, cutQ_s, rdI_, rdI0_, rdB0_, rdAdd_i, rdAdd_s, rdAdd_t, rdAdd_l, rdMul_i, rdMul_l, rdMul_t, rdEq_i, rdEq_s, rdEq0_l, rdEq0_ln, rdEq0_t, rdOrd_i, rdIsN_, rdIsN_n, rdIx_t, rdIx_l, rdIx_s, rdLen_l, rdLen_t, rdLen_s, rdTup_l, rdTup_t, rdList_l, rdList_t, rdInt_, rdSum_, rdMax_l, rdMax_i, rdMin_i, gT_, List.map_cons, List.map_nil, List.getElem?_cons_zero, List.getElem?_cons_succ, List.set_cons_zero, List.set_cons_succ, List.length_cons, List.length_nil, List.replicate, List.cons_append, List.nil_append, Option.map_some, Option.map_none, if_true, cond_true, cond_false, Bool.not_true, Bool.not_false, Nat.add_sub_cancel, Nat.sub_self, Nat.zero_add, Nat.reduceAdd, Nat.reduceSub, true_and, and_true]
    rw [cut1]
    have hpre : ∀ i, placess ps 0 pl = placess (ps.take i) 0 pl ++ placess (ps.drop i) (min i ps.length) pl := by
      have gen : ∀ (qs : List Doc) (j i : Nat), placess qs j pl = placess (qs.take i) j pl ++ placess (qs.drop i) (j + min i qs.length) pl := by
        intro qs
        induction qs with
        | nil => intro j i; simp [placess]
        | cons d r ih =>
          intro j i
          cases i with
          | zero => simp [placess]
          | succ i =>
            rw [List.take_succ_cons, List.drop_succ_cons, placess, placess, ih (j + 1) i, List.append_assoc]
            have : j + 1 + min i r.length = j + min (i + 1) (d :: r).length := by rw [List.length_cons]; omega
            rw [this]
      intro i
      have := gen ps 0 i
      rw [Nat.zero_add] at this
      exact this
    have hle : ∀ i, (placess (ps.take i) 0 pl).length ≤ sizes ps := fun i => by
      have h1 := placess_len ps 0 pl
      rw [hpre i, List.length_append] at h1
      omega
    refine ⟨fun i ρ b2 => ∃ s3 s4, ρ = [.im (.tuple (.str m :: encs ps)), .im (encPl pl), .im (.list ((pl :: placess (ps.take i) 0 pl).map encPl)), s3, s4] ∧ b2 = b, ⟨.no, .no, by simp [placess], rfl⟩, fun i x ρ b2 hx hi => ?_, fun ρ b2 hi => ?_⟩
    · obtain ⟨s3, s4, rfl, rfl⟩ := hi
      obtain ⟨y, hy, rfl⟩ := enumD_get hx
      rw [encs_map, List.getElem?_map] at hy
      obtain ⟨e, he, rfl⟩ : ∃ e, ps[i]? = some e ∧ e.enc = y := by
        cases h : ps[i]? with
        | none => rw [h] at hy; cases hy
        | some e => rw [h] at hy; cases hy; exact ⟨e, rfl, rfl⟩
      have hil := (List.getElem?_eq_some_iff.mp he).1
      have h1 := (deeps_le (n := deeps ps) ps).mp (Nat.le_refl _) e (List.mem_of_getElem? he)
      have h2 := size_le_sizes (List.mem_of_getElem? he)
      have h3 := hle i
      simp only [encPl, List.length_map, sCons_, sIf_, sRet_, sNil_, sSet_, sOwn_, sAppend_, sExtend_, onSq_l, onSq_t, sPop_, sPar_, sAsg_, sAug_, sRetN_, sDrop_, sRaise_, sFreeze_, sSetI_, sBreak_, sCont_, sTry_, dAct, dLam, dGet2, dDisp, rdReprX_l, rdReprX_t, onDict_, onKey_i, onKey_s, toOV, ofOV, dOr, dAnd, dNot, dB, dIsi, dVar_0, dVar_s, dVarB_0, dVarB_l, dVarB_s, dChain, dC, dCall, aCons, aNil, aVar, allIm_0, allIm_1, allIm_2, d2, dAllIn, startD, svOf, gN, gsC_, gsN, dTup, dCons, dNil, dLst, dAddL, dMulL, dF, dIf, dAndV, dOrV, dNotV, dNeg, dIter, dRng1, dRng2, dRng3, dEnum, dZip, dYes, dSl, dNo, dSo, dFn, wipeR, onB_, onI_, onIt_l, onIt_t, onIt_s, kRng1_, kRng2_, kRng3_, kEnum_l, kEnum_t, kZip_l, kZip_t, cutQ_t, cutQ_l, cutQ_s, rdI_, rdI0_, rdB0_, rdAdd_i, rdAdd_s, rdAdd_t, rdAdd_l, rdMul_i, rdMul_l, rdMul_t, rdEq_i, rdEq_s, rdEq0_l, rdEq0_ln, rdEq0_t, rdOrd_i, rdIsN_, rdIsN_n, rdIx_t, rdIx_l, rdIx_s, rdLen_l, rdLen_t, rdLen_s, rdTup_l, rdTup_t, rdList_l, rdList_t, rdInt_, rdSum_, rdMax_l, rdMax_i, rdMin_i, gT_, List.map_cons, List.map_nil, List.getElem?_cons_zero, List.getElem?_cons_succ, List.set_cons_zero, List.set_cons_succ, List.length_cons, List.length_nil, List.replicate, List.cons_append, List.nil_append, Option.map_some, Option.map_none, if_true, cond_true, cond_false, Bool.not_true, Bool.not_false, Nat.add_sub_cancel, Nat.sub_self, Nat.zero_add, Nat.reduceAdd, Nat.reduceSub, true_and, and_true]
      refine ⟨by omega, e, pl ++ [i], by simp [encPl], by omega, by omega, by rw [List.length_append, List.length_singleton]; omega, ?_, .im (.int (i : Nat)), .im e.enc, ?_⟩
      · simp only [List.length_cons, List.length_map, places_len]
        omega
      · rw [List.take_add_one, he]
        have e5 : placess (ps.take i ++ [e]) 0 pl = placess (ps.take i) 0 pl ++ places e (pl ++ [i]) := by
          have gen : ∀ (qs : List Doc) (j : Nat), placess (qs ++ [e]) j pl = placess qs j pl ++ places e (pl ++ [j + qs.length]) := by
            intro qs
            induction qs with
            | nil => intro j; simp [placess]
            | cons d r ih =>
              intro j
              rw [List.cons_append, placess, placess, ih (j + 1), List.append_assoc, List.length_cons]
              have : j + 1 + r.length = j + (r.length + 1) := by omega
              rw [this]
          have := gen (ps.take i) 0
          rw [List.length_take, Nat.min_eq_left (by omega), Nat.zero_add] at this
          exact this
        rw [show (some e).toList = [e] from rfl, e5]
        simp [encPl]
    · obtain ⟨s3, s4, rfl, rfl⟩ := hi
      rw [enumD_len, encs_len, List.take_length]
      exact q
end
end K00

set_option Elab.async false
set_option linter.all false
set_option maxRecDepth 100000
set_option maxHeartbeats 4000000
/-! D0i: what must be right. -/
namespace K00
open PySem PySem.Spec PyProof.Rows L2 Lf Df
open GxR (TabB TabG Tabbed GenS)

/-- the name of a def's lambda -/
def lamQ (x : Str) : Str := (x ++ ".<locals>.") ++ "<lambda>"
theorem str_short {n : Str} (h : isNameS n = true) : (n.cps.toList.all fun c => decide (c < 16 ^ 8)) = true := by
  have := name_strOk h
  unfold PyData.strOk at this
  rw [← Array.all_toList, List.all_eq_true] at this
  rw [List.all_eq_true]
  intro c hc
  have h1 := of_decide_eq_true (this c hc)
  exact decide_eq_true (Nat.lt_trans h1 (by decide))
mutual
theorem rp_doc : ∀ d : Doc, d.fine = true → Rp (10 * d.size - 1) d.deep d.enc
  | .nd n ps, h => by
    rw [Doc.fine, Bool.and_eq_true, Bool.and_eq_true] at h
    have h1 := name_len h.1.1
    have h2 := rp_docs ps h.2
    rw [Doc.enc, Doc.size, Doc.deep, Nat.add_comm 1 (deeps ps)]
    exact rp_tuple ((rps_cons (rp_str (str_short h.1.1)) h2).mono (by have : n.cps.size = n.length := rfl; omega) (Nat.le_refl _))
theorem rp_docs : ∀ ps : List Doc, fines ps = true → Rps (10 * sizes ps) (deeps ps) (encs ps)
  | [], _ => rps_nil
  | d :: r, h => by
    rw [fines, Bool.and_eq_true] at h
    have h1 := rp_doc d h.1
    have h2 := rp_docs r h.2
    have h3 := size_pos d
    rw [encs, sizes, deeps]
    exact (rps_cons (h1.mono (Nat.le_refl _) (Nat.le_max_left _ _)) (h2.mono (Nat.le_refl _) (Nat.le_max_right _ _))).mono (by omega) (Nat.le_refl _)
end
theorem part_idx : ∀ (pl : List Nat) (e z : Doc), e.part pl = some z → ∀ i ∈ pl, i < e.size
  | [], _, _, _, i, hi => by cases hi
  | j :: r, .nd n ps, z, h, i, hi => by
    obtain ⟨d, h1, h2⟩ := part_cons h
    have h3 := (List.getElem?_eq_some_iff.mp h1).1
    have h4 := len_le_sizes ps
    have h5 := size_le_sizes (List.mem_of_getElem? h1)
    rw [Doc.size]
    rcases List.mem_cons.mp hi with e | hi
    · omega
    · have := part_idx r d z h2 i hi
      omega
mutual
theorem places_mem : ∀ (e : Doc) (pl p : List Nat), p ∈ places e pl → ∃ q z, p = pl ++ q ∧ e.part q = some z
  | .nd n ps, pl, p, h => by
    rw [places] at h
    rcases List.mem_cons.mp h with e | h
    · exact ⟨[], .nd n ps, by rw [e]; simp, by rw [Doc.part]⟩
    · obtain ⟨i, d, q, z, h1, h2, h3⟩ := placess_mem ps 0 pl p h
      refine ⟨i :: q, z, by rw [h2]; simp, ?_⟩
      rw [Doc.part]
      exact parts_of h1 h3
theorem placess_mem : ∀ (ps : List Doc) (j : Nat) (pl p : List Nat), p ∈ placess ps j pl → ∃ i d q z, ps[i]? = some d ∧ p = pl ++ (j + i) :: q ∧ d.part q = some z
  | [], _, _, _, h => by cases h
  | d :: r, j, pl, p, h => by
    rw [placess] at h
    rcases List.mem_append.mp h with h | h
    · obtain ⟨q, z, h1, h2⟩ := places_mem d (pl ++ [j]) p h
      exact ⟨0, d, q, z, rfl, by rw [h1]; simp, h2⟩
    · obtain ⟨i, e, q, z, h1, h2, h3⟩ := placess_mem r (j + 1) pl p h
      exact ⟨i + 1, e, q, z, h1, by rw [h2]; simp; omega, h3⟩
end
theorem rp_pl {pl : List Nat} {n : Nat} (h : ∀ i ∈ pl, i ≤ 100000) (hl : pl.length ≤ n) : Rp n 1 (encPl pl) := by
  unfold encPl
  refine rp_tuple ((rps_all (n := 0) fun d hd => ?_).mono (by simpa using hl) (Nat.le_refl 0))
  obtain ⟨i, hi, rfl⟩ := List.mem_map.mp hd
  have := h i hi
  exact rp_int (by omega) (by omega)
theorem places_ok {e : Doc} {p : List Nat} (h : p ∈ places e []) : ∃ z, e.part p = some z := by
  obtain ⟨q, z, rfl, h2⟩ := places_mem e [] p h
  exact ⟨z, by simpa using h2⟩
theorem rps_places {e : Doc} {n : Nat} (hd : e.deep ≤ n) (hs : e.size ≤ 2000) : Rps (e.size * (n + 1)) 1 ((places e []).map encPl) := by
  have hl := places_len e []
  refine (rps_all (n := n) fun d h => ?_).mono (by rw [List.length_map, hl]; exact Nat.le_refl _) (Nat.le_refl _)
  obtain ⟨p, hp, rfl⟩ := List.mem_map.mp h
  obtain ⟨z, hz⟩ := places_ok hp
  have h1 := part_idx p e z hz
  have h2 := part_len p e z hz
  exact rp_pl (fun i hi => by have := h1 i hi; omega) (by omega)
theorem isPl_of : ∀ (pl : List Nat) (e z : Doc), e.part pl = some z → isPl e (pl.map fun i : Nat => .int (i : Int)) = true
  | [], e, z, h => by cases e; rfl
  | i :: r, .nd n ps, z, h => by
    obtain ⟨d, h1, h2⟩ := part_cons h
    have h3 := (List.getElem?_eq_some_iff.mp h1).1
    rw [List.map_cons, isPl, if_pos ⟨by omega, by omega⟩]
    have : (((i : Nat) : Int)).toNat = i := by omega
    rw [this, h1]
    exact isPl_of r d z h2
theorem place0 (e : Doc) : [] ∈ places e [] := by
  cases e
  rw [places]
  exact List.mem_cons_self
end K00

set_option Elab.async false
set_option linter.all false
set_option maxRecDepth 100000
set_option maxHeartbeats 4000000
/-! D0j: what must be right. -/
namespace K00
open PySem PySem.Spec PyProof.Rows L2 Lf Df
open GxR (TabB TabG Tabbed GenS)
abbrev s__law_right : Stmt := topS 44
abbrev N__law_right : List Str := ["state", "document", "other", "places_so", "got", "place", "wrong"]
theorem sc__law_right : FnScope N__law_right ["state", "document", "other"] (defScope s__law_right) := ⟨rfl, rfl, rfl, by decide +kernel, rfl, by decide +kernel, by decide +kernel⟩
theorem part_fine : ∀ (pl : List Nat) (e z : Doc), e.fine = true → e.part pl = some z → z.fine = true
  | [], e, z, hf, h => by
    cases e
    rw [Doc.part] at h
    cases h
    exact hf
  | i :: r, .nd n ps, z, hf, h => by
    obtain ⟨d, h1, h2⟩ := part_cons h
    rw [Doc.fine, Bool.and_eq_true, Bool.and_eq_true] at hf
    exact part_fine r d z ((fines_all ps).mp hf.2 d (List.mem_of_getElem? h1)) h2
theorem part_deep : ∀ (pl : List Nat) (e z : Doc), e.part pl = some z → z.deep ≤ e.deep
  | [], e, z, h => by
    cases e
    rw [Doc.part] at h
    cases h
    exact Nat.le_refl _
  | i :: r, .nd n ps, z, h => by
    obtain ⟨d, h1, h2⟩ := part_cons h
    have h3 := part_deep r d z h2
    have h4 := (deeps_le (n := deeps ps) ps).mp (Nat.le_refl _) d (List.mem_of_getElem? h1)
    rw [Doc.deep]
    omega
theorem tup_enc (e : Doc) : (isLst e.enc || isTup e.enc) = true := by
  cases e
  rw [Doc.enc]
  rfl
/-- behind a place, what is no whole number of it -/
theorem isPl_end : ∀ (pl : List Nat) (e z : Doc) (w : PyData), e.part pl = some z → isPl z [w] = false → isPl e (pl.map (fun i : Nat => .int (i : Int)) ++ [w]) = false
  | [], e, z, w, h, hw => by
    cases e
    rw [Doc.part] at h
    cases h
    exact hw
  | i :: r, .nd n ps, z, w, h, hw => by
    obtain ⟨d, h1, h2⟩ := part_cons h
    have h3 := (List.getElem?_eq_some_iff.mp h1).1
    rw [List.map_cons, List.cons_append, isPl, if_pos ⟨by omega, by omega⟩]
    have : (((i : Nat) : Int)).toNat = i := by omega
    rw [this, h1]
    exact isPl_end r d z w h2 hw
theorem isPl_int {e : Doc} {i : Int} (n : Str) (ps : List Doc) (he : e = .nd n ps) (h : ¬ (0 ≤ i ∧ i < (ps.length : Nat))) : isPl e [.int i] = false := by
  subst he
  rw [isPl, if_neg h]
theorem fine_len {n : Str} {ps : List Doc} (h : (Doc.nd n ps).fine = true) : ps.length ≤ 3 := by
  rw [Doc.fine, Bool.and_eq_true, Bool.and_eq_true, decide_eq_true_eq] at h
  exact h.1.2
section
variable {P : Program} {w : World} {K : PySem.W.Frag} {mg : Str → Option Value} {base : Heap} {PT : List (Addr × Option Str)}
def dRight : DSp := fun as b Q _ => ∃ x y : Doc, as = [.st, .im x.enc, .im y.enc] ∧ x.fine = true ∧ y.fine = true ∧ x.deep ≤ 10 ∧ y.deep ≤ 10 ∧ x.size ≤ 400 ∧ y.size ≤ 400 ∧ b + 2 ≤ 1000000 ∧ Q (.bool true) (b + 2)
theorem pr__law_right {f c P1 : Addr} {fd : FuncData} {k : Nat} (T : Txt mg) (D : Def K mg "_law_right" ["state", "document", "other"] s__law_right f fd) (hc : fd.code = .ref c) (TBl : LamX.TabB base mg c P1) (hPl : (P1, some (lamQ "_law_right")) ∈ PT)
    (G_need_document : PrD P w K mg base PT k "need_document" ["document"] spNeed) (G_size_of : PrD P w K mg base PT k "size_of" ["document"] (spChecked fun e => .int (e.size : Nat))) (G_depth_of : PrD P w K mg base PT k "depth_of" ["document"] (spChecked fun e => .int (e.deep : Nat))) (G_places_of : PrD P w K mg base PT k "places_of" ["document"] (spChecked fun e => .tuple ((places e []).map encPl)))
    (G_part_at : PrD P w K mg base PT k "part_at" ["document", "place"] spAt) (G_put_at : PrD P w K mg base PT k "put_at" ["document", "place", "part"] spPut) (G__law_places : PrD P w K mg base PT k "_law_places" ["document", "place"] (dPlaces 10)) (G__law_size : PrD P w K mg base PT k "_law_size" ["document"] (dSize 10)) (G__law_depth : PrD P w K mg base PT k "_law_depth" ["document"] (dDepth 10))
    (G__law_like : PrD P w K mg base PT k "_law_like" ["got", "due"] spLike) (G__law_there : PrD P w K mg base PT k "_law_there" ["output", "place"] spThere) (G__law_with : PrD P w K mg base PT k "_law_with" ["output", "place", "part"] (spLWith 10)) (G__law_of : PrD P w K mg base PT k "_law_of" ["state", "some"] dOf) (G__law_caught : LamPr P w K mg base PT k "_law_caught" "call" spCaught) :
    PrD P w K mg base PT (k + 3) "_law_right" ["state", "document", "other"] dRight := by
  refine PrD.of D sc__law_right (fun as b Q R h => by obtain ⟨_, _, rfl, _⟩ := h; rfl) (by decide) fun cdv A outer s H E F hcd hG hr hF => ?_
  have ecd : cdv = .ref c := hcd.symm.trans hc
  subst ecd
  refine ⟨_, (dss_cons (ds_set (i := 3) sc__law_right.nd rfl (Or.inl rfl) (de_fn hG (G__law_places.mono (by omega)) hF hr (das_cons (dv 1) (das_cons (de_tup dl_nil) das_nil))))
  (dss_cons (ds_set (i := 4) sc__law_right.nd rfl (Or.inl rfl) (DF.de (df_lst (dl_cons (de_fnX hG (G_need_document.mono (by omega)) hF hr (takes_of rfl rfl rfl rfl) (das_cons (dv 1) das_nil)) (dl_cons (de_fnX hG (G_size_of.mono (by omega)) hF hr (takes_of rfl rfl rfl rfl) (das_cons (dv 1) das_nil)) (dl_cons (de_fnX hG (G_depth_of.mono (by omega)) hF hr (takes_of rfl rfl rfl rfl) (das_cons (dv 1) das_nil)) (dl_cons (de_fnX hG (G_places_of.mono (by omega)) hF hr (takes_of rfl rfl rfl rfl) (das_cons (dv 1) das_nil)) dl_nil)))))))
  (dss_cons (ds_if (dt_not (dt_val (DE.db (de_fn hG (G__law_like.mono (by omega)) hF hr (das_cons (dv 4) (das_cons (DF.de (df_lst (dl_cons (dv 1) (dl_cons (de_fn hG (G__law_size.mono (by omega)) hF hr (das_cons (dv 1) das_nil)) (dl_cons (de_fn hG (G__law_depth.mono (by omega)) hF hr (das_cons (dv 1) das_nil)) (dl_cons (de_call (fun _ h => pe_callTy call_tuple_of (by rfl) T.tuple (by decide +kernel) h) cd_tuple (da_cons (dvb 3) da_nil)) dl_nil)))))) das_nil)))))) (
    (dss_one (ds_ret (DE.db de_bl)))) (dss_nil))
  (dss_cons (ds_for (passes_of rfl) rfl (DI.two (di_any (dv 3))) (dg_name (i := 5) sc__law_right.nd rfl (Or.inl rfl)) (
    (dss_one (ds_if (dt_not (dt_val (DE.db (de_fn hG (G__law_like.mono (by omega)) hF hr (das_cons (de_fnX hG (G_part_at.mono (by omega)) hF hr (takes_of rfl rfl rfl rfl) (das_cons (dv 1) (das_cons (dv 5) das_nil))) (das_cons (de_fn hG (G__law_there.mono (by omega)) hF hr (das_cons (dv 1) (das_cons (dv 5) das_nil))) das_nil)))))) (
      (dss_one (ds_ret (DE.db de_bl)))) (dss_nil)))))
  (dss_cons (ds_set (i := 5) sc__law_right.nd rfl (Or.inl rfl) (de_fn hG (G__law_of.mono (by omega)) hF hr (dasv 0 (das_cons (dv 3) das_nil))))
  (dss_cons (ds_set (i := 4) sc__law_right.nd rfl (Or.inl rfl) (DF.de (df_lst (dl_cons (de_fnX hG (G_put_at.mono (by omega)) hF hr (takes_of rfl rfl rfl rfl) (das_cons (dv 1) (das_cons (dv 5) (das_cons (dv 2) das_nil)))) (dl_cons (de_fnX hG (G_put_at.mono (by omega)) hF hr (takes_of rfl rfl rfl rfl) (das_cons (dv 2) (das_cons (de_tup dl_nil) (das_cons (dv 1) das_nil)))) dl_nil)))))
  (dss_cons (ds_if (dt_not (dt_val (DE.db (de_fn hG (G__law_like.mono (by omega)) hF hr (das_cons (dv 4) (das_cons (DF.de (df_lst (dl_cons (de_fn hG (G__law_with.mono (by omega)) hF hr (das_cons (dv 1) (das_cons (dv 5) (das_cons (dv 2) das_nil)))) (dl_cons (dv 1) dl_nil)))) das_nil)))))) (
    (dss_one (ds_ret (DE.db de_bl)))) (dss_nil))
  (dss_cons (ds_set (i := 6) sc__law_right.nd rfl (Or.inr rfl) (de_fn hG (G__law_of.mono (by omega)) hF hr (dasv 0 (das_cons (DF.de (df_lst (dl_cons de_non (dl_cons de_int (dl_cons (DF.de (df_lst dl_nil)) (dl_cons (de_op op_addAll opd_add (dvb 5) (DE.db (de_tup (dl_cons de_int dl_nil)))) (dl_cons (de_op op_addAll opd_add (dvb 5) (DE.db (de_tup (dl_cons (de_neg de_int) dl_nil)))) (dl_cons (de_tup (dl_cons de_bl dl_nil)) (dl_cons (de_tup (dl_cons de_str dl_nil)) (dl_cons (de_tup (dl_cons (de_tup dl_nil) dl_nil)) (dl_cons (de_tup (dl_cons (de_call (fun _ h => pe_callB call_lenA (by rfl) T.len PySem.boot_len h) cd_len (da_cons (dvb 1) da_nil)) dl_nil)) (dl_cons de_dict0 dl_nil)))))))))))) das_nil))))
  (dss_cons (ds_set (i := 4) sc__law_right.nd rfl (Or.inl rfl) (DF.de (df_lst (dl_cons (de_lam G__law_caught hG hr (takes_of rfl rfl rfl rfl) hF TBl rfl rfl hPl (lamSc_by (N := N__law_right) (sc := defScope s__law_right) (by decide +kernel)) (vs := []) ⟨rfl, .inl ⟨rfl, rfl⟩⟩ (lamBd0 (fun _ _ _ _ _ _ => rfl) (fun _ _ _ _ _ _ _ => ⟨_, rfl, rfl⟩)) rfl (fun n h => by cases h) (fun A outer s H E f c' F hF hr hG => (de_fnX hG (G_part_at.mono (by omega)) hF hr (takes_of rfl rfl rfl rfl) (das_cons (dv 1) (das_cons (dv 6) das_nil))))) (dl_cons (de_lam G__law_caught hG hr (takes_of rfl rfl rfl rfl) hF TBl rfl rfl hPl (lamSc_by (N := N__law_right) (sc := defScope s__law_right) (by decide +kernel)) (vs := [.int 0]) ⟨rfl, .inr ⟨_, _, rfl, rfl, pe_int⟩⟩ (lamBd1 (fun _ _ _ _ _ _ _ _ => ⟨_, rfl, rfl⟩)) rfl (fun n h => by rcases List.mem_singleton.mp h with rfl; rfl) (fun A outer s H E f c' F hF hr hG => (de_fnX hG (G_put_at.mono (by omega)) hF hr (takes_of rfl rfl rfl rfl) (das_cons (dv 1) (das_cons (dv 6) (das_cons de_non das_nil)))))) dl_nil)))))
  (dss_one (ds_ret (DE.db (de_fn hG (G__law_like.mono (by omega)) hF hr (das_cons (dv 4) (das_cons (de_op op_mulAll opd_mul (DE.db (DF.de (df_lst (dl_cons (DF.de (df_lst (dl_cons de_str (dl_cons (dv 6) (dl_cons de_bl dl_nil))))) dl_nil)))) (DE.db de_int)) das_nil))))))))))))))), fun as b Q R h => ?_⟩
  obtain ⟨x, y, rfl, hx1, hy1, hx2, hy2, hx3, hy3, hb, q⟩ := h
  simp only [sCons_, sIf_, sRet_, sNil_, sSet_, sOwn_, sAppend_, sExtend_, onSq_l, onSq_t, sPop_, sPar_, sAsg_, sAug_, sRetN_, sDrop_, sRaise_, sFreeze_, sSetI_, sBreak_, sCont_, sTry_, dAct, dLam, dGet2, dDisp, rdReprX_l, rdReprX_t, onDict_, onKey_i, onKey_s, toOV, ofOV, dOr, dAnd, dNot, dB, dIsi, dVar_0, dVar_s, dVarB_0, dVarB_l, dVarB_s, dChain, dC, dCall, aCons, aNil, aVar, allIm_0, allIm_1, allIm_2, d2, dAllIn, startD, svOf, gN, gsC_, gsN, dTup, dCons, dNil, dLst, dAddL, dMulL, dF, dIf, dAndV, dOrV, dNotV, dNeg, dIter, dRng1, dRng2, dRng3, dEnum, dZip, dYes, dSl, dNo, dSo, dFn, wipeR, onB_, onI_, onIt_l, onIt_t, onIt_s, kRng1_, kRng2_, kRng3_, kEnum_l, kEnum_t, kZip_l, kZip_t, cutQ_t, cutQ_l, cutQ_s, rdI_, rdI0_, rdB0_, rdAdd_i, rdAdd_s, rdAdd_t, rdAdd_l, rdMul_i, rdMul_l, rdMul_t, rdEq_i, rdEq_s, rdEq0_l, rdEq0_ln, rdEq0_t, rdOrd_i, rdIsN_, rdIsN_n, rdIx_t, rdIx_l, rdIx_s, rdLen_l, rdLen_t, rdLen_s, rdTup_l, rdTup_t, rdList_l, rdList_t, rdInt_, rdSum_, rdMax_l, rdMax_i, rdMin_i, gT_, List.map_cons, List.map_nil, List.getElem?_cons_zero, List.getElem?_cons_succ, List.set_cons_zero, List.set_cons_succ, List.length_cons, List.length_nil, List.replicate, List.cons_append, List.nil_append, Option.map_some, Option.map_none, if_true, cond_true, cond_false, Bool.not_true, Bool.not_false, Nat.add_sub_cancel, Nat.sub_self, Nat.zero_add, Nat.reduceAdd, Nat.reduceSub, true_and, and_true]
  have cx := chk_doc hx1 (by omega) (by omega)
  have cy := chk_doc hy1 (by omega) (by omega)
  have sx := sh_enc x hx1
  have sy := sh_enc y hy1
  have hpos := size_pos x
  have hpl := places_len x []
  have hRx := rp_doc x hx1
  have hRp := rps_places (n := 10) hx2 (by omega)
  refine ⟨x, [], rfl, by omega, by omega, by simp; omega, ?_⟩
  refine ⟨_, _, none, rfl, sx, cx, ?_⟩
  refine ⟨_, _, none, rfl, sx, cx, x, rfl, by omega, ?_⟩
  refine ⟨_, _, none, rfl, sx, cx, x, rfl, by omega, ?_⟩
  refine ⟨_, _, none, rfl, sx, cx, x, rfl, by omega, ?_⟩
  refine ⟨x, rfl, by omega, by omega, ?_⟩
  refine ⟨x, rfl, by omega, by omega, ?_⟩
  have hdeepsz := deep_size x
  have hgot : Rp 9000 13 (.list [x.enc, .int (x.size : Nat), .int (x.deep : Nat), .tuple ((places x []).map encPl)]) :=
    rp_list ((rps_cons (hRx.mono (Nat.le_refl _) (show x.deep ≤ 12 by omega)) (rps_cons (rp_int (by omega) (by omega)) (rps_cons (rp_int (by omega) (by omega)) (rps_cons ((rp_tuple hRp).mono (Nat.le_refl _) (by omega)) rps_nil)))).mono (by omega) (Nat.le_refl _))
  refine ⟨_, rfl, rfl, hgot.sh, hgot.len (by omega), Nat.le_trans hgot.dp (by omega), ?_⟩
  simp only [sCons_, sIf_, sRet_, sNil_, sSet_, sOwn_, sAppend_, sExtend_, onSq_l, onSq_t, sPop_, sPar_, sAsg_, sAug_, sRetN_, sDrop_, sRaise_, sFreeze_, sSetI_, sBreak_, sCont_, sTry_, dAct, dLam, dGet2, dDisp, rdReprX_l, rdReprX_t, onDict_, onKey_i, onKey_s, toOV, ofOV, dOr, dAnd, dNot, dB, dIsi, dVar_0, dVar_s, dVarB_0, dVarB_l, dVarB_s, dChain, dC, dCall, aCons, aNil, aVar, allIm_0, allIm_1, allIm_2, d2, dAllIn, startD, svOf, gN, gsC_, gsN, dTup, dCons, dNil, dLst, dAddL, dMulL, dF, dIf, dAndV, dOrV, dNotV, dNeg, dIter, dRng1, dRng2, dRng3, dEnum, dZip, dYes, dSl, dNo, dSo, dFn, wipeR, onB_, onI_, onIt_l, onIt_t, onIt_s, kRng1_, kRng2_, kRng3_, kEnum_l, kEnum_t, kZip_l, kZip_t, cutQ_t, cutQ_l, cutQ_s, rdI_, rdI0_, rdB0_, rdAdd_i, rdAdd_s, rdAdd_t, rdAdd_l, rdMul_i, rdMul_l, rdMul_t, rdEq_i, rdEq_s, rdEq0_l, rdEq0_ln, rdEq0_t, rdOrd_i, rdIsN_, rdIsN_n, rdIx_t, rdIx_l, rdIx_s, rdLen_l, rdLen_t, rdLen_s, rdTup_l, rdTup_t, rdList_l, rdList_t, rdInt_, rdSum_, rdMax_l, rdMax_i, rdMin_i, gT_, List.map_cons, List.map_nil, List.getElem?_cons_zero, List.getElem?_cons_succ, List.set_cons_zero, List.set_cons_succ, List.length_cons, List.length_nil, List.replicate, List.cons_append, List.nil_append, Option.map_some, Option.map_none, if_true, cond_true, cond_false, Bool.not_true, Bool.not_false, Nat.add_sub_cancel, Nat.sub_self, Nat.zero_add, Nat.reduceAdd, Nat.reduceSub, true_and, and_true]
  unfold sFor
  simp only [sCons_, sIf_, sRet_, sNil_, sSet_, sOwn_, sAppend_, sExtend_, onSq_l, onSq_t, sPop_, sPar_, sAsg_, sAug_, sRetN_, sDrop_, sRaise_, sFreeze_, sSetI_, sBreak_, sCont_, sTry_, dAct, dLam, dGet2, dDisp, rdReprX_l, rdReprX_t, onDict_, onKey_i, onKey_s, toOV, ofOV, dOr, dAnd, dNot, dB, dIsi, dVar_0, dVar_s, dVarB_0, dVarB_l, dVarB_s, dChain, dC, dCall, aCons, aNil, aVar, allIm_0, allIm_1, allIm_2, d2, dAllIn, startD, svOf, gN, gsC_, gsN, dTup, dCons, dNil, dLst, dAddL, dMulL, dF, dIf, dAndV, dOrV, dNotV, dNeg, dIter, dRng1, dRng2, dRng3, dEnum, dZip, dYes, dSl, dNo, dSo, dFn, wipeR, onB_, onI_, onIt_l, onIt_t, onIt_s, kRng1_, kRng2_, kRng3_, kEnum_l, kEnum_t, kZip_l, kZip_t, cutQ_t, cutQ_l, cutQ_s, rdI_, rdI0_, rdB0_, rdAdd_i, rdAdd_s, rdAdd_t, rdAdd_l, rdMul_i, rdMul_l, rdMul_t, rdEq_i, rdEq_s, rdEq0_l, rdEq0_ln, rdEq0_t, rdOrd_i, rdIsN_, rdIsN_n, rdIx_t, rdIx_l, rdIx_s, rdLen_l, rdLen_t, rdLen_s, rdTup_l, rdTup_t, rdList_l, rdList_t, rdInt_, rdSum_, rdMax_l, rdMax_i, rdMin_i, gT_, List.map_cons, List.map_nil, List.getElem?_cons_zero, List.getElem?_cons_succ, List.set_cons_zero, List.set_cons_succ, List.length_cons, List.length_nil, List.replicate, List.cons_append, List.nil_append, Option.map_some, Option.map_none, if_true, cond_true, cond_false, Bool.not_true, Bool.not_false, Nat.add_sub_cancel, Nat.sub_self, Nat.zero_add, Nat.reduceAdd, Nat.reduceSub, true_and, and_true]
  refine ⟨fun i ρ b2 => ∃ s5, ρ = [.st, .im x.enc, .im y.enc, .im (.list ((places x []).map encPl)), .im (.list [x.enc, .int (x.size : Nat), .int (x.deep : Nat), .tuple ((places x []).map encPl)]), s5, .no] ∧ b2 = b, ⟨.no, rfl, rfl⟩, fun i v ρ b2 hv hi => ?_, fun ρ b2 hi => ?_⟩
  · obtain ⟨s5, rfl, rfl⟩ := hi
    obtain ⟨p, hp, rfl⟩ := List.mem_map.mp (List.mem_of_getElem? hv)
    obtain ⟨z, hz⟩ := places_ok hp
    have hzR := (rp_doc z (part_fine p x z hx1 hz)).len (by have := part_size p x z hz; omega)
    have hzD := (rp_doc z (part_fine p x z hx1 hz)).dp
    have hzd := part_deep p x z hz
    simp only [sCons_, sIf_, sRet_, sNil_, sSet_, sOwn_, sAppend_, sExtend_, onSq_l, onSq_t, sPop_, sPar_, sAsg_, sAug_, sRetN_, sDrop_, sRaise_, sFreeze_, sSetI_, sBreak_, sCont_, sTry_, dAct, dLam, dGet2, dDisp, rdReprX_l, rdReprX_t, onDict_, onKey_i, onKey_s, toOV, ofOV, dOr, dAnd, dNot, dB, dIsi, dVar_0, dVar_s, dVarB_0, dVarB_l, dVarB_s, dChain, dC, dCall, aCons, aNil, aVar, allIm_0, allIm_1, allIm_2, d2, dAllIn, startD, svOf, gN, gsC_, gsN, dTup, dCons, dNil, dLst, dAddL, dMulL, dF, dIf, dAndV, dOrV, dNotV, dNeg, dIter, dRng1, dRng2, dRng3, dEnum, dZip, dYes, dSl, dNo, dSo, dFn, wipeR, onB_, onI_, onIt_l, onIt_t, onIt_s, kRng1_, kRng2_, kRng3_, kEnum_l, kEnum_t, kZip_l, kZip_t, cutQ_t, cutQ_l, cutQ_s, rdI_, rdI0_, rdB0_, rdAdd_i, rdAdd_s, rdAdd_t, rdAdd_l, rdMul_i, rdMul_l, rdMul_t, rdEq_i, rdEq_s, rdEq0_l, rdEq0_ln, rdEq0_t, rdOrd_i, rdIsN_, rdIsN_n, rdIx_t, rdIx_l, rdIx_s, rdLen_l, rdLen_t, rdLen_s, rdTup_l, rdTup_t, rdList_l, rdList_t, rdInt_, rdSum_, rdMax_l, rdMax_i, rdMin_i, gT_, List.map_cons, List.map_nil, List.getElem?_cons_zero, List.getElem?_cons_succ, List.set_cons_zero, List.set_cons_succ, List.length_cons, List.length_nil, List.replicate, List.cons_append, List.nil_append, Option.map_some, Option.map_none, if_true, cond_true, cond_false, Bool.not_true, Bool.not_false, Nat.add_sub_cancel, Nat.sub_self, Nat.zero_add, Nat.reduceAdd, Nat.reduceSub, true_and, and_true]
    refine ⟨_, _, _, none, rfl, sx, cx, x, rfl, .inr ⟨p, z, rfl, hz, isPl_of p x z hz, ?_⟩⟩
    refine ⟨x, p, z, rfl, hz, ?_⟩
    refine ⟨_, rfl, tup_enc z, (rp_doc z (part_fine p x z hx1 hz)).sh, hzR, Nat.le_trans hzD (by omega), ?_⟩
    simp only [sCons_, sIf_, sRet_, sNil_, sSet_, sOwn_, sAppend_, sExtend_, onSq_l, onSq_t, sPop_, sPar_, sAsg_, sAug_, sRetN_, sDrop_, sRaise_, sFreeze_, sSetI_, sBreak_, sCont_, sTry_, dAct, dLam, dGet2, dDisp, rdReprX_l, rdReprX_t, onDict_, onKey_i, onKey_s, toOV, ofOV, dOr, dAnd, dNot, dB, dIsi, dVar_0, dVar_s, dVarB_0, dVarB_l, dVarB_s, dChain, dC, dCall, aCons, aNil, aVar, allIm_0, allIm_1, allIm_2, d2, dAllIn, startD, svOf, gN, gsC_, gsN, dTup, dCons, dNil, dLst, dAddL, dMulL, dF, dIf, dAndV, dOrV, dNotV, dNeg, dIter, dRng1, dRng2, dRng3, dEnum, dZip, dYes, dSl, dNo, dSo, dFn, wipeR, onB_, onI_, onIt_l, onIt_t, onIt_s, kRng1_, kRng2_, kRng3_, kEnum_l, kEnum_t, kZip_l, kZip_t, cutQ_t, cutQ_l, cutQ_s, rdI_, rdI0_, rdB0_, rdAdd_i, rdAdd_s, rdAdd_t, rdAdd_l, rdMul_i, rdMul_l, rdMul_t, rdEq_i, rdEq_s, rdEq0_l, rdEq0_ln, rdEq0_t, rdOrd_i, rdIsN_, rdIsN_n, rdIx_t, rdIx_l, rdIx_s, rdLen_l, rdLen_t, rdLen_s, rdTup_l, rdTup_t, rdList_l, rdList_t, rdInt_, rdSum_, rdMax_l, rdMax_i, rdMin_i, gT_, List.map_cons, List.map_nil, List.getElem?_cons_zero, List.getElem?_cons_succ, List.set_cons_zero, List.set_cons_succ, List.length_cons, List.length_nil, List.replicate, List.cons_append, List.nil_append, Option.map_some, Option.map_none, if_true, cond_true, cond_false, Bool.not_true, Bool.not_false, Nat.add_sub_cancel, Nat.sub_self, Nat.zero_add, Nat.reduceAdd, Nat.reduceSub, true_and, and_true]
    exact ⟨.im (encPl p), rfl⟩
  · obtain ⟨s5, rfl, rfl⟩ := hi
    simp only [sCons_, sIf_, sRet_, sNil_, sSet_, sOwn_, sAppend_, sExtend_, onSq_l, onSq_t, sPop_, sPar_, sAsg_, sAug_, sRetN_, sDrop_, sRaise_, sFreeze_, sSetI_, sBreak_, sCont_, sTry_, dAct, dLam, dGet2, dDisp, rdReprX_l, rdReprX_t, onDict_, onKey_i, onKey_s, toOV, ofOV, dOr, dAnd, dNot, dB, dIsi, dVar_0, dVar_s, dVarB_0, dVarB_l, dVarB_s, dChain, dC, dCall, aCons, aNil, aVar, allIm_0, allIm_1, allIm_2, d2, dAllIn, startD, svOf, gN, gsC_, gsN, dTup, dCons, dNil, dLst, dAddL, dMulL, dF, dIf, dAndV, dOrV, dNotV, dNeg, dIter, dRng1, dRng2, dRng3, dEnum, dZip, dYes, dSl, dNo, dSo, dFn, wipeR, onB_, onI_, onIt_l, onIt_t, onIt_s, kRng1_, kRng2_, kRng3_, kEnum_l, kEnum_t, kZip_l, kZip_t, cutQ_t, cutQ_l, cutQ_s, rdI_, rdI0_, rdB0_, rdAdd_i, rdAdd_s, rdAdd_t, rdAdd_l, rdMul_i, rdMul_l, rdMul_t, rdEq_i, rdEq_s, rdEq0_l, rdEq0_ln, rdEq0_t, rdOrd_i, rdIsN_, rdIsN_n, rdIx_t, rdIx_l, rdIx_s, rdLen_l, rdLen_t, rdLen_s, rdTup_l, rdTup_t, rdList_l, rdList_t, rdInt_, rdSum_, rdMax_l, rdMax_i, rdMin_i, gT_, List.map_cons, List.map_nil, List.getElem?_cons_zero, List.getElem?_cons_succ, List.set_cons_zero, List.set_cons_succ, List.length_cons, List.length_nil, List.replicate, List.cons_append, List.nil_append, Option.map_some, Option.map_none, if_true, cond_true, cond_false, Bool.not_true, Bool.not_false, Nat.add_sub_cancel, Nat.sub_self, Nat.zero_add, Nat.reduceAdd, Nat.reduceSub, true_and, and_true]
    refine ⟨_, _, rfl, .inl rfl, by rw [List.length_map]; omega, by rw [List.length_map]; omega, by omega, fun i v hv => ?_⟩
    obtain ⟨p, hp, rfl⟩ := List.mem_map.mp (List.mem_of_getElem? hv)
    obtain ⟨z, hz⟩ := places_ok hp
    have hp1 := part_len p x z hz
    have hp2 := part_idx p x z hz
    refine ⟨_, _, _, _, none, rfl, sx, cx, x, rfl, by omega, .inr ⟨p, z, rfl, hz, isPl_of p x z hz, _, none, sy, cy, ?_⟩⟩
    refine ⟨_, _, _, _, none, rfl, sy, cy, y, rfl, by omega, .inr ⟨[], y, rfl, by cases y; rw [Doc.part], by cases y; rfl, _, none, sx, cx, ?_⟩⟩
    refine ⟨x, p, z, y.enc, rfl, by omega, hz, by omega, ?_⟩
    have e0 : putD y [] x.enc = x.enc := by cases y; rw [putD]
    rw [e0]
    have hput := putD_enc p x z y hz
    have hpf := put_fine x p y hx1 hy1
    have hpd := put_deep x p y
    have hps := put_size x p y
    have hg2 : Rp 13000 22 (.list [putD x p y.enc, x.enc]) := by
      rw [← hput]
      exact rp_list ((rps_cons ((rp_doc _ hpf).mono (Nat.le_refl _) (show _ ≤ 21 by omega)) (rps_cons (hRx.mono (Nat.le_refl _) (by omega)) rps_nil)).mono (by omega) (Nat.le_refl _))
    refine ⟨_, rfl, rfl, hg2.sh, hg2.len (by omega), Nat.le_trans hg2.dp (by omega), ?_⟩
    simp only [encPl, sCons_, sIf_, sRet_, sNil_, sSet_, sOwn_, sAppend_, sExtend_, onSq_l, onSq_t, sPop_, sPar_, sAsg_, sAug_, sRetN_, sDrop_, sRaise_, sFreeze_, sSetI_, sBreak_, sCont_, sTry_, dAct, dLam, dGet2, dDisp, rdReprX_l, rdReprX_t, onDict_, onKey_i, onKey_s, toOV, ofOV, dOr, dAnd, dNot, dB, dIsi, dVar_0, dVar_s, dVarB_0, dVarB_l, dVarB_s, dChain, dC, dCall, aCons, aNil, aVar, allIm_0, allIm_1, allIm_2, d2, dAllIn, startD, svOf, gN, gsC_, gsN, dTup, dCons, dNil, dLst, dAddL, dMulL, dF, dIf, dAndV, dOrV, dNotV, dNeg, dIter, dRng1, dRng2, dRng3, dEnum, dZip, dYes, dSl, dNo, dSo, dFn, wipeR, onB_, onI_, onIt_l, onIt_t, onIt_s, kRng1_, kRng2_, kRng3_, kEnum_l, kEnum_t, kZip_l, kZip_t, cutQ_t, cutQ_l, cutQ_s, rdI_, rdI0_, rdB0_, rdAdd_i, rdAdd_s, rdAdd_t, rdAdd_l, rdMul_i, rdMul_l, rdMul_t, rdEq_i, rdEq_s, rdEq0_l, rdEq0_ln, rdEq0_t, rdOrd_i, rdIsN_, rdIsN_n, rdIx_t, rdIx_l, rdIx_s, rdLen_l, rdLen_t, rdLen_s, rdTup_l, rdTup_t, rdList_l, rdList_t, rdInt_, rdSum_, rdMax_l, rdMax_i, rdMin_i, gT_, List.map_cons, List.map_nil, List.getElem?_cons_zero, List.getElem?_cons_succ, List.set_cons_zero, List.set_cons_succ, List.length_cons, List.length_nil, List.replicate, List.cons_append, List.nil_append, Option.map_some, Option.map_none, if_true, cond_true, cond_false, Bool.not_true, Bool.not_false, Nat.add_sub_cancel, Nat.sub_self, Nat.zero_add, Nat.reduceAdd, Nat.reduceSub, true_and, and_true]
    obtain ⟨L, hL, hL2, hL3⟩ : ∃ L : Nat, (∀ Q, rdLen [x.enc] Q = Q (.int (L : Nat))) ∧ isPl x [.int (L : Nat)] = false ∧ L ≤ 10 := by
      obtain ⟨nm, ps⟩ := x
      have := fine_len hx1
      refine ⟨ps.length + 1, fun Q => ?_, isPl_int nm ps rfl (by omega), by omega⟩
      rw [enc_nd]
      show Q (.int ((PyData.str nm :: encs ps).length : Nat)) = _
      rw [List.length_cons, encs_len]
    rw [hL]
    have hints : Rps 10 0 (p.map fun i : Nat => .int (i : Int)) := (rps_all (n := 0) fun d hd => by
      obtain ⟨i, hi, rfl⟩ := List.mem_map.mp hd
      have := hp2 i hi
      exact rp_int (by omega) (by omega)).mono (by rw [List.length_map]; omega) (Nat.le_refl _)
    obtain ⟨zn, zps⟩ := z
    have hzf := fine_len (part_fine p x _ hx1 hz)
    have hall : ∀ w ∈ [PyData.none, .int 0, .list [], .tuple (p.map (fun i : Nat => .int (i : Int)) ++ [.int 3]), .tuple (p.map (fun i : Nat => .int (i : Int)) ++ [.int (-1)]), .tuple [.bool true], .tuple [.str "0"], .tuple [.tuple []], .tuple [.int (L : Nat)], .dict []],
        isPlD x w = false ∧ Rp 20 3 w := by
      intro w hw
      simp only [List.mem_cons, List.not_mem_nil, or_false] at hw
      have i1 : isPl x [.bool true] = false := by cases x; rfl
      have i2 : isPl x [.str "0"] = false := by cases x; rfl
      have i3 : isPl x [.tuple []] = false := by cases x; rfl
      rcases hw with rfl | rfl | rfl | rfl | rfl | rfl | rfl | rfl | rfl | rfl
      · exact ⟨rfl, rp_none.mono (Nat.zero_le _) (Nat.le_refl _)⟩
      · exact ⟨rfl, (rp_int (by omega) (by omega)).mono (Nat.zero_le _) (Nat.le_refl _)⟩
      · exact ⟨rfl, (rp_list (rps_nil (m := 0))).mono (Nat.zero_le _) (by omega)⟩
      · exact ⟨isPl_end p x _ _ hz (isPl_int zn zps rfl (by omega)), (rp_tuple (rps_app hints (rps_cons (rp_int (by omega) (by omega)) rps_nil))).mono (by omega) (by omega)⟩
      · exact ⟨isPl_end p x _ _ hz (isPl_int zn zps rfl (by omega)), (rp_tuple (rps_app hints (rps_cons (rp_int (by omega) (by omega)) rps_nil))).mono (by omega) (by omega)⟩
      · exact ⟨i1, (rp_tuple (rps_cons (m := 0) rp_bool rps_nil)).mono (by omega) (by omega)⟩
      · exact ⟨i2, (rp_tuple (rps_cons (m := 0) (rp_str (by decide)) rps_nil)).mono (by decide) (by omega)⟩
      · exact ⟨i3, (rp_tuple (rps_cons (rp_tuple (rps_nil (m := 0))) rps_nil)).mono (by omega) (by omega)⟩
      · exact ⟨hL2, (rp_tuple (rps_cons (m := 0) (rp_int (by omega) (by omega)) rps_nil)).mono (by omega) (by omega)⟩
      · exact ⟨rfl, (rp_dict0 (m := 0)).mono (Nat.zero_le _) (by omega)⟩
    refine ⟨by rw [List.length_map]; omega, by rw [List.length_map]; omega, _, _, rfl, .inl rfl, by simp, by simp, by omega, fun i w hw => ?_⟩
    obtain ⟨hw1, hw2⟩ := hall w (List.mem_of_getElem? hw)
    have hfin : Rp 200 6 (.list [.list [.str "place", w, .bool true], .list [.str "place", w, .bool true]]) := by
      have h1 : Rp 40 4 (.list [.str "place", w, .bool true]) := (rp_list (rps_cons (m := 3) (rp_str (by decide)) (rps_cons hw2 (rps_cons rp_bool rps_nil)))).mono (by decide) (Nat.le_refl _)
      exact (rp_list (rps_cons h1 (rps_cons h1 rps_nil))).mono (by omega) (by omega)
    refine ⟨_, _, _, none, rfl, sx, cx, x, rfl, .inl ⟨hw1, .inr ⟨_, rfl, ?_⟩⟩⟩
    refine ⟨_, _, _, _, none, rfl, sx, cx, x, rfl, by omega, .inl ⟨hw1, .inr ⟨_, rfl, ?_⟩⟩⟩
    exact ⟨by decide, by decide, by decide, _, rfl, rfl, hfin.sh, hfin.len (by omega), Nat.le_trans hfin.dp (by omega), q⟩
end
end K00

set_option Elab.async false
set_option linter.all false
set_option maxRecDepth 100000
set_option maxHeartbeats 4000000
/-! D0k: bent documents. -/
namespace K00
open PySem PySem.Spec PyProof.Rows L2 Lf Df
open GxR (TabB TabG Tabbed GenS)
abbrev s__law_bent : Stmt := topS 45
abbrev N__law_bent : List Str := ["state", "document", "place", "part", "lot", "pick", "inner"]
theorem sc__law_bent : FnScope N__law_bent ["state", "document"] (defScope s__law_bent) := ⟨rfl, rfl, rfl, by decide +kernel, rfl, by decide +kernel, by decide +kernel⟩
/-! ### plainly -/
def SL (L : List (Doc × List Nat)) : Nat := sizes (L.map (·.1))
theorem SL_app (A B : List (Doc × List Nat)) : SL (A ++ B) = SL A + SL B := by unfold SL; rw [List.map_append, sizes_app]
abbrev encE (e : Doc × List Nat) : PyData × List Nat := (e.1.enc, e.2)
theorem kids_enc (n : Str) (ps : List Doc) (pl : List Nat) : kids (Doc.nd n ps).enc pl = (kidsD ps pl).map encE := by
  rw [enc_nd]
  refine List.ext_getElem? fun i => ?_
  rw [kids_at, List.getElem?_map, kidsD_get, encs_map, List.getElem?_map]
  cases ps[i]? <;> rfl
/-- fine documents are passed -/
theorem chk_run : ∀ (n : Nat) (L : List (Doc × List Nat)) (rest : List (PyData × List Nat)) (c : Nat), (∀ e ∈ L, e.1.fine = true ∧ e.2.length + e.1.deep ≤ 100) → c + SL L ≤ 2000 → SL L ≤ n →
    chk n (L.map encE ++ rest) c = chk (n - SL L) rest (c + SL L)
  | n, [], rest, c, _, _, _ => by simp [SL, sizes]
  | 0, (d, pl) :: L, rest, c, _, _, h => by
    have := size_pos d
    simp [SL, sizes] at h
    omega
  | n + 1, (.nd m ps, pl) :: L, rest, c, hg, hs, hn => by
    obtain ⟨hf, hd⟩ := hg _ List.mem_cons_self
    have e0 : SL ((Doc.nd m ps, pl) :: L) = 1 + sizes ps + SL L := by simp [SL, sizes, Doc.size]
    rw [e0] at hs hn ⊢
    have hd' : pl.length + (1 + deeps ps) ≤ 100 := by simpa [Doc.deep] using hd
    have e1 : (badOne (Doc.nd m ps).enc || decide (c + 1 > 2000) || decide (pl.length ≥ 100)) = false := by
      rw [name_badOne hf]
      have a : ¬ c + 1 > 2000 := by omega
      have b : ¬ pl.length ≥ 100 := by omega
      simp [a, b]
    rw [List.map_cons, List.cons_append, chk, if_neg (by rw [e1]; exact Bool.false_ne_true), kids_enc, ← List.append_assoc, ← List.map_append]
    have e2 : SL (kidsD ps pl ++ L) = sizes ps + SL L := by rw [SL_app]; congr 1; exact kidsD_sizes ps pl
    rw [chk_run n (kidsD ps pl ++ L) rest (c + 1) (fun e he => ?_) (by omega) (by omega), e2]
    · congr 1 <;> omega
    · rcases List.mem_append.mp he with q | q
      · obtain ⟨i, hi⟩ := List.mem_iff_getElem?.mp q
        rw [kidsD_get] at hi
        cases hp : ps[i]? with
        | none => rw [hp] at hi; cases hi
        | some d =>
          rw [hp] at hi
          cases hi
          rw [Doc.fine, Bool.and_eq_true, Bool.and_eq_true] at hf
          have hm := List.mem_of_getElem? hp
          refine ⟨(fines_all ps).mp hf.2 _ hm, ?_⟩
          have := (deeps_le (n := deeps ps) ps).mp (Nat.le_refl _) _ hm
          show (pl ++ [i]).length + d.deep ≤ 100
          rw [List.length_append, List.length_singleton]
          omega
      · exact hg e (List.mem_cons_of_mem _ q)
/-- d is no document: the check comes upon it at r -/
def Wr (N C Lp : Nat) (d : PyData) (r : List Nat) : Prop := ∀ n pl c st, N ≤ n → c ≤ C → pl.length ≤ Lp → chk n ((d, pl) :: st) c = some (some (pl ++ r))
theorem wr_bad {d : PyData} (h : badOne d = true) : Wr 1 1900 90 d [] := fun n pl c st hn hc hl => by
  obtain ⟨m, rfl⟩ : ∃ m, n = m + 1 := ⟨n - 1, by omega⟩
  rw [chk, if_pos (by simp [h]), List.append_nil]
theorem Wr.mono {N C Lp N' C' Lp' : Nat} {d : PyData} {r : List Nat} (h : Wr N C Lp d r) (h1 : N ≤ N') (h2 : C' ≤ C) (h3 : Lp' ≤ Lp) : Wr N' C' Lp' d r := fun n pl c st a b c' => h n pl c st (by omega) (by omega) (by omega)
theorem wr_kid {m : Str} {A : List Doc} {d : PyData} {B : List PyData} {r : List Nat} {N C Lp C' Lp' : Nat} (hm : isNameS m = true) (hA : ∀ e ∈ A, e.fine = true ∧ e.deep ≤ 9) (hl : A.length + B.length ≤ 2) (h : Wr N C Lp d r) (hC : C ≤ 1900) (hL : Lp ≤ 90) (hC' : C' + 1 + sizes A ≤ C) (hL' : Lp' + 1 ≤ Lp) :
    Wr (N + 1 + sizes A) C' Lp' (.tuple (.str m :: (encs A ++ d :: B))) (A.length :: r) := fun n pl c st hn hc hpl => by
  obtain ⟨k, rfl⟩ : ∃ k, n = k + 1 := ⟨n - 1, by omega⟩
  have e1 : (badOne (.tuple (.str m :: (encs A ++ d :: B))) || decide (c + 1 > 2000) || decide (pl.length ≥ 100)) = false := by
    have e2 : badOne (.tuple (.str m :: (encs A ++ d :: B))) = false := by
      show (decide ((encs A ++ d :: B).length > 3) || !isNameS m) = false
      rw [hm]
      have : ¬ (encs A ++ d :: B).length > 3 := by
        rw [List.length_append, encs_len, List.length_cons]
        omega
      rw [decide_eq_false this]
      rfl
    rw [e2]
    have a : ¬ c + 1 > 2000 := by omega
    have b : ¬ pl.length ≥ 100 := by omega
    simp [a, b]
  rw [chk, if_neg (by rw [e1]; exact Bool.false_ne_true)]
  have ek : kids (.tuple (.str m :: (encs A ++ d :: B))) pl = (kidsD A pl).map encE ++ (d, pl ++ [A.length]) :: (B.zipIdx (A.length + 1)).map fun p => (p.1, pl ++ [p.2]) := by
    show ((encs A ++ d :: B).zipIdx.map fun p => (p.1, pl ++ [p.2])) = _
    rw [List.zipIdx_append, List.zipIdx_cons, List.map_append, List.map_cons]
    congr 1
    · unfold kidsD
      rw [encs_map, List.map_map]
      refine List.ext_getElem? fun i => ?_
      simp only [List.getElem?_map, List.getElem?_zipIdx]
      cases A[i]? <;> simp
    · simp [encs_len]
  have hSL : SL (kidsD A pl) = sizes A := kidsD_sizes A pl
  rw [ek, List.append_assoc, chk_run k (kidsD A pl) _ (c + 1) (fun e he => ?_) (by omega) (by omega), hSL, List.cons_append, h _ _ _ _ (by omega) (by omega) (by rw [List.length_append, List.length_singleton]; omega)]
  · simp
  · obtain ⟨i, hi⟩ := List.mem_iff_getElem?.mp he
    rw [kidsD_get] at hi
    cases hp : A[i]? with
    | none => rw [hp] at hi; cases hi
    | some d =>
      rw [hp] at hi
      cases hi
      obtain ⟨h1, h2⟩ := hA _ (List.mem_of_getElem? hp)
      refine ⟨h1, ?_⟩
      show (pl ++ [i]).length + d.deep ≤ 100
      rw [List.length_append, List.length_singleton]
      omega
theorem encs_take (ps : List Doc) (i : Nat) : encs (ps.take i) = (encs ps).take i := by rw [encs_map, encs_map, List.map_take]
theorem wr_at : ∀ (p : List Nat) (e z : Doc) (d : PyData) (r : List Nat) {N C Lp C' Lp' : Nat}, e.fine = true → e.deep ≤ 10 → e.part p = some z → Wr N C Lp d r → C ≤ 1900 → Lp ≤ 90 → C' + e.size ≤ C → Lp' + p.length ≤ Lp → Wr (N + e.size) C' Lp' (putD e p d) (p ++ r)
  | [], e, z, d, r, N, C, Lp, C', Lp', _, _, h, hw, _, _, h1, h2 => by
    have e0 : putD e [] d = d := by cases e; rw [putD]
    rw [e0]
    exact hw.mono (by omega) (by omega) (by simpa using h2)
  | i :: q, .nd m ps, z, d, r, N, C, Lp, C', Lp', hf, hd, h, hw, hC, hL, h1, h2 => by
    obtain ⟨di, g1, g2⟩ := part_cons h
    have hf' := hf
    rw [Doc.fine, Bool.and_eq_true, Bool.and_eq_true] at hf'
    have hlen := fine_len hf
    rw [Doc.deep] at hd
    have hi := (List.getElem?_eq_some_iff.mp g1).1
    have hm := List.mem_of_getElem? g1
    have hdi := (deeps_le (n := deeps ps) ps).mp (Nat.le_refl _) di hm
    have hst := sizes_take g1
    have hle : sizes (ps.take (i + 1)) ≤ sizes ps := by
      have := sizes_app (ps.take (i + 1)) (ps.drop (i + 1))
      rw [List.take_append_drop] at this
      omega
    rw [Doc.size] at h1 ⊢
    rw [List.length_cons] at h2
    have ih := wr_at q di z d r (N := N) (C := C) (Lp := Lp) (C' := C' + 1 + sizes (ps.take i)) (Lp' := Lp' + 1) ((fines_all ps).mp hf'.2 _ hm) (by omega) g2 hw hC hL (by omega) (by omega)
    have k := wr_kid (m := m) (A := ps.take i) (B := (encs ps).drop (i + 1)) (C' := C') (Lp' := Lp') hf'.1.1 (fun e he => ?_) ?_ ih (by omega) (by omega) (Nat.le_refl _) (Nat.le_refl _)
    · rw [putD_cons g1]
      rw [encs_take, List.length_take, Nat.min_eq_left (by omega)] at k
      exact k.mono (by omega) (Nat.le_refl _) (Nat.le_refl _)
    · have he' := List.mem_of_mem_take he
      have := (deeps_le (n := deeps ps) ps).mp (Nat.le_refl _) e he'
      exact ⟨(fines_all ps).mp hf'.2 _ he', by omega⟩
    · rw [List.length_take, List.length_drop, encs_len]
      omega
theorem shs_app : ∀ (A B : List PyData), shs (A ++ B) = (shs A && shs B)
  | [], B => by simp [shs]
  | a :: A, B => by rw [List.cons_append, shs, shs, shs_app A B, Bool.and_assoc]
theorem shs_of {A : List PyData} (h : ∀ d ∈ A, sh d = true) : shs A = true := by
  induction A with
  | nil => rfl
  | cons a r ih => rw [shs, h a List.mem_cons_self, ih fun d hd => h d (List.mem_cons_of_mem _ hd)]; rfl
theorem sh_put : ∀ (p : List Nat) (e z : Doc) (d : PyData), e.fine = true → e.part p = some z → sh d = true → sh (putD e p d) = true
  | [], e, z, d, _, _, hd => by
    have e0 : putD e [] d = d := by cases e; rw [putD]
    rw [e0]
    exact hd
  | i :: q, .nd m ps, z, d, hf, h, hd => by
    obtain ⟨di, g1, g2⟩ := part_cons h
    have hf' := hf
    rw [Doc.fine, Bool.and_eq_true, Bool.and_eq_true] at hf'
    have h1 := name_len hf'.1.1
    have h2 := shs_encs ps hf'.2
    rw [putD_cons g1, sh, shs, shs_app, shs, sh_put q di z d ((fines_all ps).mp hf'.2 _ (List.mem_of_getElem? g1)) g2 hd, sh, decide_eq_true (by omega : m.length ≤ 1000)]
    have e1 : shs ((encs ps).take i) = true := shs_of fun d hd => shs_all _ h2 d (List.mem_of_mem_take hd)
    have e2 : shs ((encs ps).drop (i + 1)) = true := shs_of fun d hd => shs_all _ h2 d (List.mem_of_mem_drop hd)
    rw [e1, e2]
    rfl
/-- what is put in -/
def lotB (zn : Str) (zps : List Doc) (T : List PyData) : List PyData :=
  [.none, .tuple [], .int 5, .str "a", .list [.str zn], .dict [], .bool true, .tuple [.str zn, .none], .tuple [.str ""], .tuple [.str "A"], .tuple [.str "1a"], .tuple [.str (repS 9 "a")],
   .tuple [.str "a b"], .tuple [.int 1, .int 0], .tuple (.str zn :: (encs zps ++ T)), .tuple [.str "a_"], .tuple [.str "a-"], .tuple [.none], .tuple [.tuple [.str "a"]], .tuple [.str "a", .tuple [.str "a"], .tuple [.str "A"]],
   .tuple [.str "aB"], .tuple [.str "a1Z2"], .tuple [.str "a\n"], .tuple [.str "\na"], .tuple [.str "a "], .tuple [.str " a"], .tuple [.str "a\t"], .tuple [.str "ab_c"], .tuple [.str "z9."]]
def kvB : List (PyData × PyData) := kvD [.inl 7, .inl 19] [.tuple [.int 0], .tuple [.int 1]]
theorem lot_ok {zn : Str} {zps : List Doc} {T : List PyData} (hz : (Doc.nd zn zps).fine = true) (hT : zps.length + T.length = 4) (hTs : shs T = true) : ∀ m : Nat, m < 29 →
    ∃ d r, ixD (lotB zn zps T) (m : Nat) = some d ∧ sh d = true ∧ Wr 20 1800 80 d r ∧ (lookD (.inl (m : Nat)) kvB).getD (.tuple []) = encPl r ∧ r.length ≤ 1 ∧ ∀ i ∈ r, i ≤ 1 := by
  have hf := hz
  rw [Doc.fine, Bool.and_eq_true, Bool.and_eq_true] at hf
  have hl := name_len hf.1.1
  have h7 : Wr 20 1800 80 (.tuple [.str zn, .none]) [0] := (wr_kid (m := zn) (A := []) (d := .none) (B := []) (r := []) (C' := 1899) (Lp' := 89) hf.1.1 (fun e he => by cases he) (by decide) (wr_bad (by decide)) (by decide) (by decide) (by decide) (by decide)).mono (by decide) (by decide) (by decide)
  have h19 : Wr 20 1800 80 (.tuple [.str "a", .tuple [.str "a"], .tuple [.str "A"]]) [1] := (wr_kid (m := "a") (A := [.nd "a" []]) (d := .tuple [.str "A"]) (B := []) (r := []) (C' := 1898) (Lp' := 89) (by decide +kernel) (fun e he => by rcases List.mem_singleton.mp he with rfl; decide +kernel) (by decide) (wr_bad (by decide +kernel)) (by decide) (by decide) (by decide +kernel) (by decide)).mono (by decide +kernel) (by decide) (by decide)
  have h14 : Wr 20 1800 80 (.tuple (.str zn :: (encs zps ++ T))) [] := (wr_bad (by
    show (decide ((encs zps ++ T).length > 3) || _) = true
    rw [decide_eq_true (by rw [List.length_append, encs_len]; omega)]
    rfl)).mono (by decide) (by decide) (by decide)
  have s14 : sh (.tuple (.str zn :: (encs zps ++ T))) = true := by
    rw [sh, shs, shs_app, shs_encs _ hf.2, hTs, sh, decide_eq_true (by omega : zn.length ≤ 1000)]
    rfl
  have s7 : sh (.tuple [.str zn, .none]) = true := by
    rw [sh, shs, sh, decide_eq_true (by omega : zn.length ≤ 1000)]
    rfl
  intro m hm
  repeat (first
    | omega
    | (rcases m with _ | m
       · first
         | exact ⟨_, [], rfl, by decide +kernel, (wr_bad (by decide +kernel)).mono (by decide) (by decide) (by decide), rfl, by decide, by decide⟩
         | exact ⟨_, [], rfl, rfl, (wr_bad rfl).mono (by decide) (by decide) (by decide), rfl, by decide, by decide⟩
         | exact ⟨_, [0], rfl, s7, h7, rfl, by decide, by decide⟩
         | exact ⟨_, [], rfl, s14, h14, rfl, by decide, by decide⟩
         | exact ⟨_, [1], rfl, by decide +kernel, h19, rfl, by decide, by decide⟩))
section
variable {P : Program} {w : World} {K : PySem.W.Frag} {mg : Str → Option Value} {base : Heap} {PT : List (Addr × Option Str)}
def dBent : DSp := fun as b Q _ => ∃ x : Doc, as = [.st, .im x.enc] ∧ x.fine = true ∧ x.deep ≤ 10 ∧ x.size ≤ 400 ∧ b + 2 ≤ 1000000 ∧ ∀ odd r, sh odd = true → Wr 500 1200 60 odd r → r.length ≤ 12 → (∀ i ∈ r, i ≤ 400) → Q (.tuple [odd, encPl r]) (b + 2)
theorem pr__law_bent {f : Addr} {fd : FuncData} {k : Nat} (T : Txt mg) (D : Def K mg "_law_bent" ["state", "document"] s__law_bent f fd)
    (G__law_places : PrD P w K mg base PT k "_law_places" ["document", "place"] (dPlaces 10)) (G__law_there : PrD P w K mg base PT k "_law_there" ["output", "place"] spThere) (G__law_with : PrD P w K mg base PT k "_law_with" ["output", "place", "part"] (spLWith 10)) (G__law_of : PrD P w K mg base PT k "_law_of" ["state", "some"] dOf) (G__law_draw : PrD P w K mg base PT k "_law_draw" ["state", "limit"] dDraw) :
    PrD P w K mg base PT (k + 1) "_law_bent" ["state", "document"] dBent := by
  refine PrD.of D sc__law_bent (fun as b Q R h => by obtain ⟨_, rfl, _⟩ := h; rfl) (by decide) fun cdv A outer s H E F hcd hG hr hF => ?_
  refine ⟨_, (dss_cons (ds_set (i := 2) sc__law_bent.nd rfl (Or.inl rfl) (de_fn hG (G__law_of.mono (by omega)) hF hr (dasv 0 (das_cons (de_fn hG (G__law_places.mono (by omega)) hF hr (das_cons (dv 1) (das_cons (de_tup dl_nil) das_nil))) das_nil))))
  (dss_cons (ds_set (i := 3) sc__law_bent.nd rfl (Or.inl rfl) (de_fn hG (G__law_there.mono (by omega)) hF hr (das_cons (dv 1) (das_cons (dv 2) das_nil))))
  (dss_cons (ds_own (i := 4) sc__law_bent.nd rfl (Or.inl rfl) (df_lst (dl_cons de_non (dl_cons (de_tup dl_nil) (dl_cons de_int (dl_cons de_str (dl_cons (DF.de (df_lst (dl_cons (de_ix ix_seq opd_ix (dvb 3) (DE.db de_int) (fun _ _ => rfl)) dl_nil))) (dl_cons de_dict0 (dl_cons de_bl (dl_cons (de_tup (dl_cons (de_ix ix_seq opd_ix (dvb 3) (DE.db de_int) (fun _ _ => rfl)) (dl_cons de_non dl_nil))) (dl_cons (de_tup (dl_cons de_str dl_nil)) (dl_cons (de_tup (dl_cons de_str dl_nil)) (dl_cons (de_tup (dl_cons de_str dl_nil)) (dl_cons (de_tup (dl_cons (de_op op_repS opd_repS (DE.db de_str) (DE.db de_int)) dl_nil)) dl_nil))))))))))))))
  (dss_cons (ds_own (i := 4) sc__law_bent.nd rfl (Or.inl rfl) (df_add (dvb 4) (DE.db (DF.de (df_lst (dl_cons (de_tup (dl_cons de_str dl_nil)) (dl_cons (de_tup (dl_cons de_int (dl_cons de_int dl_nil))) (dl_cons (de_op op_addAll opd_add (dvb 3) (DE.db (de_op (Df.OpR.or op_once op_mulAll) (Df.OpD.or opd_once opd_mul) (DE.db (de_tup (dl_cons (de_tup (dl_cons de_str dl_nil)) dl_nil))) (DE.db (de_op op_sub opd_i0 (DE.db de_int) (DE.db (de_call (fun _ h => pe_callB call_lenA (by rfl) T.len PySem.boot_len h) cd_len (da_cons (dvb 3) da_nil)))))))) (dl_cons (de_tup (dl_cons de_str dl_nil)) (dl_cons (de_tup (dl_cons de_str dl_nil)) (dl_cons (de_tup (dl_cons de_non dl_nil)) (dl_cons (de_tup (dl_cons (de_tup (dl_cons de_str dl_nil)) dl_nil)) dl_nil))))))))))))
  (dss_cons (ds_append (i := 4) rfl (.inl rfl) (de_tup (dl_cons de_str (dl_cons (de_tup (dl_cons de_str dl_nil)) (dl_cons (de_tup (dl_cons de_str dl_nil)) dl_nil)))))
  (dss_cons (ds_own (i := 4) sc__law_bent.nd rfl (Or.inl rfl) (df_add (dvb 4) (DE.db (DF.de (df_lst (dl_cons (de_tup (dl_cons de_str dl_nil)) (dl_cons (de_tup (dl_cons de_str dl_nil)) (dl_cons (de_tup (dl_cons de_str dl_nil)) (dl_cons (de_tup (dl_cons de_str dl_nil)) (dl_cons (de_tup (dl_cons de_str dl_nil)) (dl_cons (de_tup (dl_cons de_str dl_nil)) (dl_cons (de_tup (dl_cons de_str dl_nil)) (dl_cons (de_tup (dl_cons de_str dl_nil)) (dl_cons (de_tup (dl_cons de_str dl_nil)) dl_nil))))))))))))))
  (dss_cons (ds_set (i := 5) sc__law_bent.nd rfl (Or.inl rfl) (de_fn hG (G__law_draw.mono (by omega)) hF hr (dasv 0 (das_cons (de_call (fun _ h => pe_callB call_lenA (by rfl) T.len PySem.boot_len h) cd_len (da_cons (dvb 4) da_nil)) das_nil))))
  (dss_cons (ds_set (i := 6) sc__law_bent.nd rfl (Or.inl rfl) (de_disp (ppd_cons (k := .inl 7) pe_int (de_tup (dl_cons de_int dl_nil)) (ppd_cons (k := .inl 19) pe_int (de_tup (dl_cons de_int dl_nil)) ppd_nil)) (fun vs h => match vs, h with | [_, _], _ => rfl)))
  (dss_one (ds_ret (DE.db (de_tup (dl_cons (de_fn hG (G__law_with.mono (by omega)) hF hr (das_cons (dv 1) (das_cons (dv 2) (das_cons (de_ix ix_seq opd_ix (dvb 4) (dvb 5) (fun _ _ => rfl)) das_nil)))) (dl_cons (de_op op_addAll opd_add (dvb 2) (DE.db (de_get2 (hu_of hr) (dv 6) (dv 5) (de_tup dl_nil) ⟨rfl, rfl, rfl, rfl⟩))) dl_nil)))))))))))))), fun as b Q R h => ?_⟩
  obtain ⟨x, rfl, hx1, hx2, hx3, hb, q⟩ := h
  simp only [sCons_, sIf_, sRet_, sNil_, sSet_, sOwn_, sAppend_, sExtend_, onSq_l, onSq_t, sPop_, sPar_, sAsg_, sAug_, sRetN_, sDrop_, sRaise_, sFreeze_, sSetI_, sBreak_, sCont_, sTry_, dAct, dLam, dGet2, dDisp, rdReprX_l, rdReprX_t, onDict_, onKey_i, onKey_s, toOV, ofOV, dOr, dAnd, dNot, dB, dIsi, dVar_0, dVar_s, dVarB_0, dVarB_l, dVarB_s, dChain, dC, dCall, aCons, aNil, aVar, allIm_0, allIm_1, allIm_2, d2, dAllIn, startD, svOf, gN, gsC_, gsN, dTup, dCons, dNil, dLst, dAddL, dMulL, dF, dIf, dAndV, dOrV, dNotV, dNeg, dIter, dRng1, dRng2, dRng3, dEnum, dZip, dYes, dSl, dNo, dSo, dFn, wipeR, onB_, onI_, onIt_l, onIt_t, onIt_s, kRng1_, kRng2_, kRng3_, kEnum_l, kEnum_t, kZip_l, kZip_t, cutQ_t, cutQ_l, cutQ_s, rdI_, rdI0_, rdB0_, rdAdd_i, rdAdd_s, rdAdd_t, rdAdd_l, rdMul_i, rdMul_l, rdMul_t, rdEq_i, rdEq_s, rdEq0_l, rdEq0_ln, rdEq0_t, rdOrd_i, rdIsN_, rdIsN_n, rdIx_t, rdIx_l, rdIx_s, rdLen_l, rdLen_t, rdLen_s, rdTup_l, rdTup_t, rdList_l, rdList_t, rdInt_, rdSum_, rdMax_l, rdMax_i, rdMin_i, gT_, List.map_cons, List.map_nil, List.getElem?_cons_zero, List.getElem?_cons_succ, List.set_cons_zero, List.set_cons_succ, List.length_cons, List.length_nil, List.replicate, List.cons_append, List.nil_append, Option.map_some, Option.map_none, if_true, cond_true, cond_false, Bool.not_true, Bool.not_false, Nat.add_sub_cancel, Nat.sub_self, Nat.zero_add, Nat.reduceAdd, Nat.reduceSub, true_and, and_true]
  refine ⟨x, [], rfl, by omega, by omega, by simp; omega, ?_⟩
  have hpos := size_pos x
  have hpl := places_len x []
  refine ⟨_, _, rfl, .inl rfl, by rw [List.length_map]; omega, by rw [List.length_map]; omega, by omega, fun i v hv => ?_⟩
  obtain ⟨p, hp, rfl⟩ := List.mem_map.mp (List.mem_of_getElem? hv)
  obtain ⟨z, hz⟩ := places_ok hp
  have hp1 := part_len p x z hz
  have hp2 := part_idx p x z hz
  have hzf := part_fine p x z hx1 hz
  refine ⟨x, p, z, rfl, hz, ?_⟩
  obtain ⟨zn, zps⟩ := z
  have hzl := fine_len hzf
  simp only [enc_nd, encPl, sCons_, sIf_, sRet_, sNil_, sSet_, sOwn_, sAppend_, sExtend_, onSq_l, onSq_t, sPop_, sPar_, sAsg_, sAug_, sRetN_, sDrop_, sRaise_, sFreeze_, sSetI_, sBreak_, sCont_, sTry_, dAct, dLam, dGet2, dDisp, rdReprX_l, rdReprX_t, onDict_, onKey_i, onKey_s, toOV, ofOV, dOr, dAnd, dNot, dB, dIsi, dVar_0, dVar_s, dVarB_0, dVarB_l, dVarB_s, dChain, dC, dCall, aCons, aNil, aVar, allIm_0, allIm_1, allIm_2, d2, dAllIn, startD, svOf, gN, gsC_, gsN, dTup, dCons, dNil, dLst, dAddL, dMulL, dF, dIf, dAndV, dOrV, dNotV, dNeg, dIter, dRng1, dRng2, dRng3, dEnum, dZip, dYes, dSl, dNo, dSo, dFn, wipeR, onB_, onI_, onIt_l, onIt_t, onIt_s, kRng1_, kRng2_, kRng3_, kEnum_l, kEnum_t, kZip_l, kZip_t, cutQ_t, cutQ_l, cutQ_s, rdI_, rdI0_, rdB0_, rdAdd_i, rdAdd_s, rdAdd_t, rdAdd_l, rdMul_i, rdMul_l, rdMul_t, rdEq_i, rdEq_s, rdEq0_l, rdEq0_ln, rdEq0_t, rdOrd_i, rdIsN_, rdIsN_n, rdIx_t, rdIx_l, rdIx_s, rdLen_l, rdLen_t, rdLen_s, rdTup_l, rdTup_t, rdList_l, rdList_t, rdInt_, rdSum_, rdMax_l, rdMax_i, rdMin_i, gT_, List.map_cons, List.map_nil, List.getElem?_cons_zero, List.getElem?_cons_succ, List.set_cons_zero, List.set_cons_succ, List.length_cons, List.length_nil, List.replicate, List.cons_append, List.nil_append, Option.map_some, Option.map_none, if_true, cond_true, cond_false, Bool.not_true, Bool.not_false, Nat.add_sub_cancel, Nat.sub_self, Nat.zero_add, Nat.reduceAdd, Nat.reduceSub, true_and, and_true]
  refine ⟨_, rfl, _, rfl, _, _, rfl, rfl, by decide, by decide, by decide, by decide, ?_⟩
  have fin : ∀ (T : List PyData), zps.length + T.length = 4 → shs T = true → ∀ m : Nat, m < 29 → ∃ d, ixD (lotB zn zps T) (m : Nat) = some d ∧ ∀ Qk : PyData → PyData → Prop, (∀ odd r, sh odd = true → Wr 500 1200 60 odd r → r.length ≤ 12 → (∀ i ∈ r, i ≤ 400) → Qk odd (encPl r)) →
      ∃ r, (lookD (.inl (m : Nat)) kvB).getD (.tuple []) = encPl r ∧ p.length + r.length ≤ 1000000 ∧ Qk (putD x p d) (encPl (p ++ r)) := fun T hT hTs m hm => by
    obtain ⟨d, r, h1, h2, h3, h4, h5, h6⟩ := lot_ok hzf hT hTs m hm
    refine ⟨d, h1, fun Qk hQ => ⟨r, h4, by omega, hQ _ _ (sh_put p x _ d hx1 hz h2) ((wr_at p x _ d r (C' := 1300) (Lp' := 70) hx1 hx2 hz h3 (by decide) (by decide) (by omega) (by omega)).mono (by omega) (by decide) (by decide)) (by rw [List.length_append]; omega) fun i hi => ?_⟩⟩
    rcases List.mem_append.mp hi with hi | hi
    · have := hp2 i hi
      omega
    · have := h6 i hi
      omega
  by_cases h3 : zps.length = 3
  · refine .inl ⟨_, rfl, by rw [encs_len, h3]; rfl, by rw [encs_len]; omega, by decide, by decide, by decide, 29, rfl, by decide, by decide, by omega, fun m hm => ⟨rfl, ?_⟩⟩
    obtain ⟨d, h1, h2⟩ := fin [.tuple [.str "a"]] (by simp [h3]) (by decide +kernel) m hm
    refine ⟨d, h1, x, p, _, d, rfl, by omega, hz, by omega, ?_⟩
    obtain ⟨r, h4, h5, h6⟩ := h2 (fun a b2 => Q (.tuple [a, b2]) (b + 2)) q
    have e6 : encPl (p ++ r) = .tuple (p.map (fun i : Nat => .int (i : Int)) ++ r.map fun i : Nat => .int (i : Int)) := by unfold encPl; rw [List.map_append]
    rw [e6] at h6
    show rdAdd _ ((lookD (.inl (m : Nat)) kvB).getD (.tuple [])) _
    rw [h4]
    exact ⟨by rw [List.length_map, List.length_map]; exact h5, h6⟩
  · have hz2 : zps.length = 0 ∨ zps.length = 1 ∨ zps.length = 2 := by omega
    have e5 : (5 - (((encs zps).length + 1 : Nat) : Int)).toNat = 4 - zps.length := by rw [encs_len]; omega
    refine .inr ⟨by simp, by rw [encs_len]; omega, by rw [encs_len]; omega, by decide, ?_⟩
    rw [e5]
    have hT : zps.length + (List.replicate (4 - zps.length) [PyData.tuple [PyData.str "a"]]).flatten.length = 4 ∧ shs (List.replicate (4 - zps.length) [PyData.tuple [PyData.str "a"]]).flatten = true := by
      rcases hz2 with h | h | h <;> (rw [h]; exact ⟨rfl, by decide +kernel⟩)
    refine ⟨by rw [encs_len]; omega, by decide, by decide, by decide, 29, rfl, by decide, by decide, by omega, fun m hm => ⟨rfl, ?_⟩⟩
    obtain ⟨d, h1, h2⟩ := fin _ hT.1 hT.2 m hm
    refine ⟨d, h1, x, p, _, d, rfl, by omega, hz, by omega, ?_⟩
    obtain ⟨r, h4, h5, h6⟩ := h2 (fun a b2 => Q (.tuple [a, b2]) (b + 2)) q
    have e6 : encPl (p ++ r) = .tuple (p.map (fun i : Nat => .int (i : Int)) ++ r.map fun i : Nat => .int (i : Int)) := by unfold encPl; rw [List.map_append]
    rw [e6] at h6
    show rdAdd _ ((lookD (.inl (m : Nat)) kvB).getD (.tuple [])) _
    rw [h4]
    exact ⟨by rw [List.length_map, List.length_map]; exact h5, h6⟩
end
end K00

set_option Elab.async false
set_option linter.all false
set_option maxRecDepth 100000
set_option maxHeartbeats 4000000
/-! D0l: what must be refused. -/
namespace K00
open PySem PySem.Spec PyProof.Rows L2 Lf Df
open GxR (TabB TabG Tabbed GenS)
abbrev s__law_refused : Stmt := topS 46
abbrev N__law_refused : List Str := ["state", "document", "good", "odd", "place", "more", "got", "due"]
theorem sc__law_refused : FnScope N__law_refused ["state", "document", "good"] (defScope s__law_refused) := ⟨rfl, rfl, rfl, by decide +kernel, rfl, by decide +kernel, by decide +kernel⟩
section
variable {P : Program} {w : World} {K : PySem.W.Frag} {mg : Str → Option Value} {base : Heap} {PT : List (Addr × Option Str)}
def dRefused : DSp := fun as b Q _ => ∃ x y : Doc, as = [.st, .im x.enc, .im y.enc] ∧ x.fine = true ∧ y.fine = true ∧ x.deep ≤ 10 ∧ y.deep ≤ 10 ∧ x.size ≤ 400 ∧ y.size ≤ 400 ∧ b + 2 ≤ 1000000 ∧ Q (.bool true) (b + 2)
theorem pr__law_refused {f c P1 : Addr} {fd : FuncData} {k : Nat} (T : Txt mg) (D : Def K mg "_law_refused" ["state", "document", "good"] s__law_refused f fd) (hc : fd.code = .ref c) (TBl : LamX.TabB base mg c P1) (hPl : (P1, some (lamQ "_law_refused")) ∈ PT)
    (G_need_document : PrD P w K mg base PT k "need_document" ["document"] spNeed) (G_size_of : PrD P w K mg base PT k "size_of" ["document"] (spChecked fun e => .int (e.size : Nat))) (G_depth_of : PrD P w K mg base PT k "depth_of" ["document"] (spChecked fun e => .int (e.deep : Nat))) (G_places_of : PrD P w K mg base PT k "places_of" ["document"] (spChecked fun e => .tuple ((places e []).map encPl)))
    (G_part_at : PrD P w K mg base PT k "part_at" ["document", "place"] spAt) (G_put_at : PrD P w K mg base PT k "put_at" ["document", "place", "part"] spPut)
    (G__law_like : PrD P w K mg base PT k "_law_like" ["got", "due"] spLike) (G__law_bent : PrD P w K mg base PT k "_law_bent" ["state", "document"] dBent) (G__law_caught : LamPr P w K mg base PT k "_law_caught" "call" spCaught) :
    PrD P w K mg base PT (k + 3) "_law_refused" ["state", "document", "good"] dRefused := by
  refine PrD.of D sc__law_refused (fun as b Q R h => by obtain ⟨_, _, rfl, _⟩ := h; rfl) (by decide) fun cdv A outer s H E F hcd hG hr hF => ?_
  have ecd : cdv = .ref c := hcd.symm.trans hc
  subst ecd
  refine ⟨_, (dss_cons (ds_asg (de_fn hG (G__law_bent.mono (by omega)) hF hr (dasv 0 (das_cons (dv 1) das_nil))) (dg_tup (n := 2) rfl (dgs_cons (dg_name (i := 3) sc__law_refused.nd rfl (Or.inr rfl)) (dgs_cons (dg_name (i := 4) sc__law_refused.nd rfl (Or.inl rfl)) dgs_nil))))
  (dss_cons (ds_set (i := 5) sc__law_refused.nd rfl (Or.inr rfl) (de_tup (dl_cons de_str (dl_cons (dv 3) (dl_cons de_non dl_nil)))))
  (dss_cons (ds_own (i := 6) sc__law_refused.nd rfl (Or.inl rfl) (df_lst (dl_cons (de_lam G__law_caught hG hr (takes_of rfl rfl rfl rfl) hF TBl rfl rfl hPl (lamSc_by (N := N__law_refused) (sc := defScope s__law_refused) (by decide +kernel)) (vs := []) ⟨rfl, .inl ⟨rfl, rfl⟩⟩ (lamBd0 (fun _ _ _ _ _ _ => rfl) (fun _ _ _ _ _ _ _ => ⟨_, rfl, rfl⟩)) rfl (fun n h => by cases h) (fun A outer s H E f c' F hF hr hG => (de_fnX hG (G_need_document.mono (by omega)) hF hr (takes_of rfl rfl rfl rfl) (das_cons (dv 3) das_nil)))) (dl_cons (de_lam G__law_caught hG hr (takes_of rfl rfl rfl rfl) hF TBl rfl rfl hPl (lamSc_by (N := N__law_refused) (sc := defScope s__law_refused) (by decide +kernel)) (vs := [.int 0]) ⟨rfl, .inr ⟨_, _, rfl, rfl, pe_int⟩⟩ (lamBd1 (fun _ _ _ _ _ _ _ _ => ⟨_, rfl, rfl⟩)) rfl (fun n h => by rcases List.mem_singleton.mp h with rfl; rfl) (fun A outer s H E f c' F hF hr hG => (de_fnX hG (G_size_of.mono (by omega)) hF hr (takes_of rfl rfl rfl rfl) (das_cons (dv 3) das_nil)))) dl_nil))))
  (dss_cons (ds_own (i := 6) sc__law_refused.nd rfl (Or.inl rfl) (df_add (dvb 6) (DE.db (DF.de (df_lst (dl_cons (de_lam G__law_caught hG hr (takes_of rfl rfl rfl rfl) hF TBl rfl rfl hPl (lamSc_by (N := N__law_refused) (sc := defScope s__law_refused) (by decide +kernel)) (vs := []) ⟨rfl, .inl ⟨rfl, rfl⟩⟩ (lamBd0 (fun _ _ _ _ _ _ => rfl) (fun _ _ _ _ _ _ _ => ⟨_, rfl, rfl⟩)) rfl (fun n h => by cases h) (fun A outer s H E f c' F hF hr hG => (de_fnX hG (G_depth_of.mono (by omega)) hF hr (takes_of rfl rfl rfl rfl) (das_cons (dv 5) das_nil)))) (dl_cons (de_lam G__law_caught hG hr (takes_of rfl rfl rfl rfl) hF TBl rfl rfl hPl (lamSc_by (N := N__law_refused) (sc := defScope s__law_refused) (by decide +kernel)) (vs := [.int 0]) ⟨rfl, .inr ⟨_, _, rfl, rfl, pe_int⟩⟩ (lamBd1 (fun _ _ _ _ _ _ _ _ => ⟨_, rfl, rfl⟩)) rfl (fun n h => by rcases List.mem_singleton.mp h with rfl; rfl) (fun A outer s H E f c' F hF hr hG => (de_fnX hG (G_places_of.mono (by omega)) hF hr (takes_of rfl rfl rfl rfl) (das_cons (dv 3) das_nil)))) dl_nil)))))))
  (dss_cons (ds_own (i := 6) sc__law_refused.nd rfl (Or.inl rfl) (df_add (dvb 6) (DE.db (DF.de (df_lst (dl_cons (de_lam G__law_caught hG hr (takes_of rfl rfl rfl rfl) hF TBl rfl rfl hPl (lamSc_by (N := N__law_refused) (sc := defScope s__law_refused) (by decide +kernel)) (vs := []) ⟨rfl, .inl ⟨rfl, rfl⟩⟩ (lamBd0 (fun _ _ _ _ _ _ => rfl) (fun _ _ _ _ _ _ _ => ⟨_, rfl, rfl⟩)) rfl (fun n h => by cases h) (fun A outer s H E f c' F hF hr hG => (de_fnX hG (G_part_at.mono (by omega)) hF hr (takes_of rfl rfl rfl rfl) (das_cons (dv 3) (das_cons de_non das_nil))))) (dl_cons (de_lam G__law_caught hG hr (takes_of rfl rfl rfl rfl) hF TBl rfl rfl hPl (lamSc_by (N := N__law_refused) (sc := defScope s__law_refused) (by decide +kernel)) (vs := [.int 0]) ⟨rfl, .inr ⟨_, _, rfl, rfl, pe_int⟩⟩ (lamBd1 (fun _ _ _ _ _ _ _ _ => ⟨_, rfl, rfl⟩)) rfl (fun n h => by rcases List.mem_singleton.mp h with rfl; rfl) (fun A outer s H E f c' F hF hr hG => (de_fnX hG (G_put_at.mono (by omega)) hF hr (takes_of rfl rfl rfl rfl) (das_cons (dv 3) (das_cons de_non (das_cons de_non das_nil)))))) dl_nil)))))))
  (dss_cons (ds_append (i := 6) rfl (.inl rfl) (de_lam G__law_caught hG hr (takes_of rfl rfl rfl rfl) hF TBl rfl rfl hPl (lamSc_by (N := N__law_refused) (sc := defScope s__law_refused) (by decide +kernel)) (vs := []) ⟨rfl, .inl ⟨rfl, rfl⟩⟩ (lamBd0 (fun _ _ _ _ _ _ => rfl) (fun _ _ _ _ _ _ _ => ⟨_, rfl, rfl⟩)) rfl (fun n h => by cases h) (fun A outer s H E f c' F hF hr hG => (de_fnX hG (G_put_at.mono (by omega)) hF hr (takes_of rfl rfl rfl rfl) (das_cons (dv 2) (das_cons (de_tup dl_nil) (das_cons (dv 3) das_nil)))))))
  (dss_cons (ds_set (i := 7) sc__law_refused.nd rfl (Or.inl rfl) (DF.de (df_lst (dl_cons de_str (dl_cons (dv 4) (dl_cons de_bl dl_nil))))))
  (dss_one (ds_ret (db_fn hG (G__law_like.mono (by omega)) hF hr (da_cons (dvb 6) (da_cons (DE.db (DF.de (df_lst (dl_cons (dv 7) (dl_cons (dv 7) (dl_cons (DF.de (df_lst (dl_cons de_str (dl_cons (de_op op_addAll opd_add (DE.db (de_tup (dl_cons de_int dl_nil))) (dvb 4)) (dl_cons de_bl dl_nil))))) (dl_cons (dv 7) (dl_cons (dv 7) (dl_cons (dv 7) (dl_cons (dv 7) dl_nil)))))))))) da_nil)))))))))))), fun as b Q R h => ?_⟩
  obtain ⟨x, y, rfl, hx1, hy1, hx2, hy2, hx3, hy3, hb, q⟩ := h
  simp only [sCons_, sIf_, sRet_, sNil_, sSet_, sOwn_, sAppend_, sExtend_, onSq_l, onSq_t, sPop_, sPar_, sAsg_, sAug_, sRetN_, sDrop_, sRaise_, sFreeze_, sSetI_, sBreak_, sCont_, sTry_, dAct, dLam, dGet2, dDisp, rdReprX_l, rdReprX_t, onDict_, onKey_i, onKey_s, toOV, ofOV, dOr, dAnd, dNot, dB, dIsi, dVar_0, dVar_s, dVarB_0, dVarB_l, dVarB_s, dChain, dC, dCall, aCons, aNil, aVar, allIm_0, allIm_1, allIm_2, d2, dAllIn, startD, svOf, gN, gsC_, gsN, dTup, dCons, dNil, dLst, dAddL, dMulL, dF, dIf, dAndV, dOrV, dNotV, dNeg, dIter, dRng1, dRng2, dRng3, dEnum, dZip, dYes, dSl, dNo, dSo, dFn, wipeR, onB_, onI_, onIt_l, onIt_t, onIt_s, kRng1_, kRng2_, kRng3_, kEnum_l, kEnum_t, kZip_l, kZip_t, cutQ_t, cutQ_l, cutQ_s, rdI_, rdI0_, rdB0_, rdAdd_i, rdAdd_s, rdAdd_t, rdAdd_l, rdMul_i, rdMul_l, rdMul_t, rdEq_i, rdEq_s, rdEq0_l, rdEq0_ln, rdEq0_t, rdOrd_i, rdIsN_, rdIsN_n, rdIx_t, rdIx_l, rdIx_s, rdLen_l, rdLen_t, rdLen_s, rdTup_l, rdTup_t, rdList_l, rdList_t, rdInt_, rdSum_, rdMax_l, rdMax_i, rdMin_i, gT_, List.map_cons, List.map_nil, List.getElem?_cons_zero, List.getElem?_cons_succ, List.set_cons_zero, List.set_cons_succ, List.length_cons, List.length_nil, List.replicate, List.cons_append, List.nil_append, Option.map_some, Option.map_none, if_true, cond_true, cond_false, Bool.not_true, Bool.not_false, Nat.add_sub_cancel, Nat.sub_self, Nat.zero_add, Nat.reduceAdd, Nat.reduceSub, true_and, and_true]
  refine ⟨x, rfl, hx1, hx2, hx3, hb, fun odd r hs hw hl hi => ?_⟩
  have cy := chk_doc hy1 (by omega) (by omega)
  have sy := sh_enc y hy1
  have cw : chk 700 [(odd, [])] 0 = some (some r) := hw 700 [] 0 [] (by decide) (by decide) (by decide)
  have hm : sh (.tuple [.str "h", odd, .none]) = true := by
    rw [sh, shs, shs, shs, hs]
    decide +kernel
  have cm : chk 701 [(.tuple [.str "h", odd, .none], [])] 0 = some (some (0 :: r)) :=
    (wr_kid (m := "h") (A := []) (d := odd) (B := [.none]) (C' := 1100) (Lp' := 50) (by decide +kernel) (fun e he => by cases he) (by decide) hw (by decide) (by decide) (by decide) (by decide)) 701 [] 0 [] (by decide) (by decide) (by decide)
  simp only [sCons_, sIf_, sRet_, sNil_, sSet_, sOwn_, sAppend_, sExtend_, onSq_l, onSq_t, sPop_, sPar_, sAsg_, sAug_, sRetN_, sDrop_, sRaise_, sFreeze_, sSetI_, sBreak_, sCont_, sTry_, dAct, dLam, dGet2, dDisp, rdReprX_l, rdReprX_t, onDict_, onKey_i, onKey_s, toOV, ofOV, dOr, dAnd, dNot, dB, dIsi, dVar_0, dVar_s, dVarB_0, dVarB_l, dVarB_s, dChain, dC, dCall, aCons, aNil, aVar, allIm_0, allIm_1, allIm_2, d2, dAllIn, startD, svOf, gN, gsC_, gsN, dTup, dCons, dNil, dLst, dAddL, dMulL, dF, dIf, dAndV, dOrV, dNotV, dNeg, dIter, dRng1, dRng2, dRng3, dEnum, dZip, dYes, dSl, dNo, dSo, dFn, wipeR, onB_, onI_, onIt_l, onIt_t, onIt_s, kRng1_, kRng2_, kRng3_, kEnum_l, kEnum_t, kZip_l, kZip_t, cutQ_t, cutQ_l, cutQ_s, rdI_, rdI0_, rdB0_, rdAdd_i, rdAdd_s, rdAdd_t, rdAdd_l, rdMul_i, rdMul_l, rdMul_t, rdEq_i, rdEq_s, rdEq0_l, rdEq0_ln, rdEq0_t, rdOrd_i, rdIsN_, rdIsN_n, rdIx_t, rdIx_l, rdIx_s, rdLen_l, rdLen_t, rdLen_s, rdTup_l, rdTup_t, rdList_l, rdList_t, rdInt_, rdSum_, rdMax_l, rdMax_i, rdMin_i, gT_, List.map_cons, List.map_nil, List.getElem?_cons_zero, List.getElem?_cons_succ, List.set_cons_zero, List.set_cons_succ, List.length_cons, List.length_nil, List.replicate, List.cons_append, List.nil_append, Option.map_some, Option.map_none, if_true, cond_true, cond_false, Bool.not_true, Bool.not_false, Nat.add_sub_cancel, Nat.sub_self, Nat.zero_add, Nat.reduceAdd, Nat.reduceSub, true_and, and_true]
  refine ⟨odd, 700, some r, rfl, hs, cw, .inl ⟨_, rfl, ?_⟩⟩
  refine ⟨odd, 700, some r, rfl, hs, cw, .inl ⟨_, rfl, ?_⟩⟩
  refine ⟨_, 701, some (0 :: r), rfl, hm, cm, .inl ⟨_, rfl, ?_⟩⟩
  refine ⟨odd, 700, some r, rfl, hs, cw, .inl ⟨_, rfl, by decide, ?_⟩⟩
  refine ⟨odd, _, 700, some r, rfl, hs, cw, .inl ⟨_, rfl, ?_⟩⟩
  refine ⟨odd, _, _, 700, some r, rfl, hs, cw, .inl ⟨_, rfl, by decide, ?_⟩⟩
  refine ⟨y.enc, _, odd, _, none, rfl, sy, cy, y, rfl, by omega, .inr ⟨[], y, rfl, by cases y; rw [Doc.part], by cases y; rfl, 700, some r, hs, cw, .inl ⟨_, rfl, by decide, ?_⟩⟩⟩
  have h0 : Rp 20 1 (encPl r) := rp_pl (fun i h => by have := hi i h; omega) (by omega)
  have h1 : Rp 20 1 (encPl (0 :: r)) := rp_pl (fun i h => by
    rcases List.mem_cons.mp h with e | h
    · omega
    · have := hi i h
      omega) (by rw [List.length_cons]; omega)
  have row : ∀ d, Rp 20 1 d → Rp 40 2 (.list [.str "document", d, .bool true]) := fun d hd => (rp_list (rps_cons (rp_str (by decide)) (rps_cons hd (rps_cons rp_bool rps_nil)))).mono (by decide) (Nat.le_refl _)
  have hg : Rp 400 3 (.list [.list [.str "document", encPl r, .bool true], .list [.str "document", encPl r, .bool true], .list [.str "document", encPl (0 :: r), .bool true], .list [.str "document", encPl r, .bool true], .list [.str "document", encPl r, .bool true], .list [.str "document", encPl r, .bool true], .list [.str "document", encPl r, .bool true]]) :=
    (rp_list (rps_cons (row _ h0) (rps_cons (row _ h0) (rps_cons (row _ h1) (rps_cons (row _ h0) (rps_cons (row _ h0) (rps_cons (row _ h0) (rps_cons (row _ h0) rps_nil)))))))).mono (by decide) (Nat.le_refl _)
  have e1 : ∀ Qz : PyData → Prop, rdAdd (.tuple [.int 0]) (encPl r) Qz = (1 + (r.map fun i : Nat => PyData.int (i : Int)).length ≤ 1000000 ∧ Qz (encPl (0 :: r))) := fun Qz => rfl
  rw [e1]
  exact ⟨by rw [List.length_map]; omega, _, rfl, rfl, hg.sh, hg.len (by decide), Nat.le_trans hg.dp (by decide), rfl, q⟩
end
end K00

set_option Elab.async false
set_option linter.all false
set_option maxRecDepth 100000
set_option maxHeartbeats 8000000
/-! D0n: least documents of a shape, by data. -/
namespace K00
open PySem PySem.Spec PyProof.Rows L2 Lf Df
open GxR (TabB TabG Tabbed GenS)
open PySem.W (alike alikeAll dataLt)
mutual
theorem key_plain : ∀ d : Doc, d.key.plain = true
  | .nd n ps => by
    rw [Doc.key, PyData.plain]
    simp only [PyData.plainAll, PyData.plain, keys_plain ps, Bool.true_and, Bool.and_true]
theorem keys_plain : ∀ ps : List Doc, PyData.plainAll (keys ps) = true
  | [] => by rw [keys, PyData.plainAll]
  | d :: r => by rw [keys, PyData.plainAll, key_plain d, keys_plain r]; rfl
end
theorem key_tup (d : Doc) : ∃ xs, d.key = .tuple xs := by
  cases d
  exact ⟨_, by rw [Doc.key]⟩
theorem lt_size {d e : Doc} (h : dataLt d.key e.key = true) : d.size ≤ e.size := by
  by_cases q : d.size ≤ e.size
  · exact q
  · have h1 := cmp_key d e
    rw [ahead_size d e (by omega), if_neg (by omega)] at h1
    unfold dcmp at h1
    rw [h] at h1
    split at h1 <;> simp at h1
theorem ge_size {d e : Doc} (h : dataLt d.key e.key = false) : e.size ≤ d.size := by
  by_cases q : e.size ≤ d.size
  · exact q
  · have h1 := cmp_key d e
    rw [ahead_size d e (by omega), if_pos (by omega)] at h1
    unfold dcmp at h1
    rw [h] at h1
    split at h1 <;> simp at h1
def szP (os : List (Option Doc)) (p : Nat) : Nat := match os[p]? with
  | some (some d) => d.size
  | _ => 0
def cSize (os : List (Option Doc)) (w : Way) : Nat := 1 + (w.2.map (szP os)).sum
structure KnS (s : Shp) (os : List (Option Doc)) (t : Nat) : Prop where
  len : os.length = s.length
  non : nones os ≤ s.length - t
  ok : ∀ d, some d ∈ os → d.fine = true ∧ d.deep ≤ t ∧ d.size ≤ t
def encBo : Option (Doc × Nat) → PyData
  | none => .none
  | some (d, kd) => .tuple [d.enc, .int (kd : Nat)]
def BestOk (os : List (Option Doc)) (t : Nat) (C : Nat → Way → Prop) : Option (Doc × Nat) → Prop
  | none => ∀ i w, C i w → ¬ Cand os i w
  | some (d, kd) => d.fine = true ∧ d.deep ≤ t + 1 ∧ d.size ≤ 1000 ∧ os[kd]? = some none ∧ ∀ i w, C i w → Cand os i w → d.size ≤ cSize os w
theorem cand_small {s : Shp} {os : List (Option Doc)} (hg : Good s) (hr : Ranked s) (hl : os.length = s.length) {i0 : Nat} (h0 : os[i0]? = some none) : ∃ i ws w, s[i]? = some ws ∧ w ∈ ws ∧ Cand os i w ∧ w.2.length ≤ 1 := by
  obtain ⟨rk, hrk⟩ := hr
  have key : ∀ n i, rk i ≤ n → os[i]? = some none → ∃ i ws w, s[i]? = some ws ∧ w ∈ ws ∧ Cand os i w ∧ w.2.length ≤ 1 := by
    intro n
    induction n with
    | zero =>
      intro i hi e
      have hil : i < s.length := by rw [← hl]; exact (List.getElem?_eq_some_iff.mp e).1
      have hs : s[i]? = some s[i] := List.getElem?_eq_getElem hil
      obtain ⟨w, hw, hp, h1⟩ := hrk i _ hs
      exact ⟨i, _, w, hs, hw, ⟨e, fun p hpm => by have := hp p hpm; omega⟩, h1⟩
    | succ n ih =>
      intro i hi e
      have hil : i < s.length := by rw [← hl]; exact (List.getElem?_eq_some_iff.mp e).1
      have hs : s[i]? = some s[i] := List.getElem?_eq_getElem hil
      obtain ⟨w, hw, hp, h1⟩ := hrk i _ hs
      by_cases hz : ∃ p ∈ w.2, os[p]? = some none
      · obtain ⟨p, hpm, hpn⟩ := hz
        exact ih p (by have := hp p hpm; omega) hpn
      · refine ⟨i, _, w, hs, hw, ⟨e, fun p hpm => ?_⟩, h1⟩
        have h2 := ((hg.kinds _ (List.mem_of_getElem? hs)).2.2 w hw).2.2 p hpm
        have h3 : os[p]? = some (os[p]'(by omega)) := List.getElem?_eq_getElem (by omega)
        cases q : os[p]'(by omega) with
        | none => exact absurd ⟨p, hpm, by rw [h3, q]⟩ hz
        | some d => exact ⟨d, by rw [h3, q]⟩
  exact key _ i0 (Nat.le_refl _) h0
theorem cSize_small {s : Shp} {os : List (Option Doc)} {t : Nat} (hk : KnS s os t) {w : Way} (h : w.2.length ≤ 1) : cSize os w ≤ t + 1 := by
  unfold cSize
  obtain ⟨n, pp⟩ := w
  match pp, h with
  | [], _ => simp
  | [p], _ =>
    show 1 + (szP os p + 0) ≤ t + 1
    unfold szP
    split
    · rename_i d hd
      have := (hk.ok d (List.mem_of_getElem? hd)).2.2
      omega
    · omega
/-- the parts that were found -/
theorem parts_docs {os : List (Option Doc)} : ∀ {pp : List Nat}, (∀ p ∈ pp, ∃ d, os[p]? = some (some d)) → ∃ es : List Doc, es.length = pp.length ∧ sizes es = (pp.map (szP os)).sum ∧ (pp.map fun p => encO (os.getD p none)) = encs es ∧ ∀ d ∈ es, some d ∈ os
  | [], _ => ⟨[], rfl, rfl, rfl, fun d hd => by cases hd⟩
  | p :: r, h => by
    obtain ⟨d, hd⟩ := h p List.mem_cons_self
    obtain ⟨es, h1, h2, h3, h4⟩ := parts_docs (os := os) (pp := r) fun q hq => h q (List.mem_cons_of_mem _ hq)
    refine ⟨d :: es, by simp [h1], ?_, ?_, fun e he => ?_⟩
    · rw [sizes, h2, List.map_cons, List.sum_cons]
      unfold szP
      rw [hd]
    · rw [List.map_cons, h3, encs, List.getD_eq_getElem?_getD, hd]
      rfl
    · rcases List.mem_cons.mp he with rfl | he
      · exact List.mem_of_getElem? hd
      · exact h4 e he
theorem best_skip {os : List (Option Doc)} {t : Nat} {C C' : Nat → Way → Prop} {bo : Option (Doc × Nat)} (h : BestOk os t C bo) (hC : ∀ i w, C' i w → C i w ∨ ¬ Cand os i w) : BestOk os t C' bo := by
  cases bo with
  | none => exact fun i w hw hc => (hC i w hw).elim (fun z => h i w z hc) fun z => z hc
  | some b =>
    obtain ⟨d, kd⟩ := b
    obtain ⟨h1, h2, h3, h4, h5⟩ := h
    exact ⟨h1, h2, h3, h4, fun i w hw hc => (hC i w hw).elim (fun z => h5 i w z hc) fun z => absurd hc z⟩
theorem ord_key {d e : Doc} {Q : PyData → Prop} (hd : d.deep ≤ 10) (h : Q (.bool (dataLt d.key e.key))) : rdOrd (fun i j => decide (i < j)) (fun d e => dataLt d e) d.key e.key Q := by
  have h1 := key_plain d
  have h2 := key_plain e
  have h3 := alike_key d e
  have h4 := depth_key d
  obtain ⟨xs, hx⟩ := key_tup d
  rw [hx] at h h1 h3 h4 ⊢
  exact ⟨h1, h2, h3, (fun z => by cases z), by omega, h⟩
theorem enc_isN (d : Doc) : isN d.enc = false := by
  cases d
  rw [Doc.enc]
  rfl
theorem deeps_of {n : Nat} {es : List Doc} (h : ∀ d ∈ es, d.deep ≤ n) : deeps es ≤ n := (deeps_le es).mpr h
section
variable {P : Program} {w : World} {K : PySem.W.Frag} {mg : Str → Option Value} {base : Heap} {PT : List (Addr × Option Str)} {k : Nat}
def dKey (n : Nat) : DSp := fun as b Q _ => ∃ e : Doc, as = [.im e.enc] ∧ e.deep ≤ n ∧ e.size ≤ 1000000 ∧ Q e.key b
theorem key_d {n : Nat} (G : Pr P w K mg base k "_law_key" ["document"] (spKey0 K n)) : PrD P w K mg base PT k "_law_key" ["document"] (dKey n) := G.imp fun vs H Q E h => by
  obtain ⟨F, b, as, Qd, Rd, hF, hT, ha, ⟨e, rfl, h1, h2, hQ⟩, hq, he⟩ := h
  obtain ⟨v, r, rfl, hv, ha⟩ := avs_im ha
  obtain rfl := avs_nil ha
  exact ⟨F, b, v, e, rfl, hT, Dx.dt _ _ (flat_enc e) hv, h1, h2, fun H' u g hd => hq _ _ H' _ g (Dt.dx _ _ hd) hQ⟩
def dFirstsS : DSp := fun as b Q _ => ∃ s : Shp, as = [.im (encShp s)] ∧ Good s ∧ Ranked s ∧ s.length ≤ 6 ∧ ∀ ds : List Doc, ds.length = s.length → (∀ d ∈ ds, d.fine = true ∧ d.deep ≤ s.length ∧ d.size ≤ s.length) → Q (.list (encs ds)) b
-- 0:shape_so, 1:found, 2:turn, 3:best, 4:kind, 5:ways, 6:name, 7:parts, 8:part, 9:here
theorem pr__law_firstsS {f : Addr} {fd : FuncData} (T : Txt mg) (D : Def K mg "_law_firsts" ["shape_so"] s__law_firsts f fd) (G__law_key : PrD P w K mg base PT k "_law_key" ["document"] (dKey 7)) : PrD P w K mg base PT (k + 1) "_law_firsts" ["shape_so"] dFirstsS := by
  refine PrD.of D sc__law_firsts (fun as b Q R h => by obtain ⟨_, rfl, _⟩ := h; rfl) (by decide) fun cdv A outer s H E F hcd hG hr hF => ?_
  refine ⟨_, (dss_cons (ds_own (i := 1) sc__law_firsts.nd rfl (Or.inr rfl) (df_mul (DE.db (DF.de (df_lst (dl_cons de_non dl_nil)))) (DE.db (de_call (fun _ h => pe_callB call_lenA (by rfl) T.len PySem.boot_len h) cd_len (da_cons (dvb 0) da_nil)))))
  (dss_cons (ds_for (passes_of rfl) rfl (DI.two (di_any (dv 0))) (dg_name (i := 2) sc__law_firsts.nd rfl (Or.inl rfl)) (
    (dss_cons (ds_set (i := 3) sc__law_firsts.nd rfl (Or.inl rfl) de_non)
    (dss_cons (ds_for (passes_of rfl) rfl (DI.two (di_enum (by rfl) T.enumerate (dl_cons (dv 0) dl_nil))) (dg_tup (n := 2) rfl (dgs_cons (dg_name (i := 4) sc__law_firsts.nd rfl (Or.inl rfl)) (dgs_cons (dg_name (i := 5) sc__law_firsts.nd rfl (Or.inl rfl)) dgs_nil))) (
      (dss_one (ds_for (passes_of rfl) rfl (DI.two (di_any (dv 5))) (dg_tup (n := 2) rfl (dgs_cons (dg_name (i := 6) sc__law_firsts.nd rfl (Or.inl rfl)) (dgs_cons (dg_name (i := 7) sc__law_firsts.nd rfl (Or.inl rfl)) dgs_nil))) (
        (dss_one (ds_if (DW.dt (dw_and (dt_cmp op_isO opd_is (DE.db (de_ix ix_seq opd_ix (dvb 1) (dvb 4) (fun _ _ => rfl))) (DE.db de_non) (nomark _)) (dw_and1 (dt_cmp (op_eq0 hr) (opd_eq0 hr) (DE.db (DF.de (df_lc (own := [("part", 8)]) rfl sc__law_firsts.nd (DI.two (di_any (dv 7))) (blkOk_by (own := [("part", 8)]) (N := N__law_firsts) (sc := defScope s__law_firsts) (by decide +kernel)) (by decide) (fun _ _ _ _ _ => (dg_name (i := 8) sc__law_firsts.nd rfl (Or.inl rfl))) (fun _ _ _ _ _ => (dts_one (dt_cmp op_isO opd_is (DE.db (de_ix ix_seq opd_ix (dvb 1) (dvb 8) (fun _ _ => rfl))) (DE.db de_non) (nomark _)))) (fun _ _ _ _ _ => (dv 8))))) (DE.db (DF.de (df_lst dl_nil))) (nomark _))))) (
          (dss_cons (ds_set (i := 9) sc__law_firsts.nd rfl (Or.inl rfl) (de_op op_addAll opd_add (DE.db (de_tup (dl_cons (dv 6) dl_nil))) (DE.db (de_call (fun _ h => pe_callTy call_tuple_of (by rfl) T.tuple (by decide +kernel) h) cd_tuple (da_cons (DE.db (DF.de (df_lc (own := [("part", 8)]) rfl sc__law_firsts.nd (DI.two (di_any (dv 7))) (blkOk_by (own := [("part", 8)]) (N := N__law_firsts) (sc := defScope s__law_firsts) (by decide +kernel)) (by decide) (fun _ _ _ _ _ => (dg_name (i := 8) sc__law_firsts.nd rfl (Or.inl rfl))) (fun _ _ _ _ _ => dts_nil) (fun _ _ _ _ _ => (de_ix ix_seq opd_ix (dvb 1) (dvb 8) (fun _ _ => rfl)))))) da_nil)))))
          (dss_one (ds_if (DW.dt (dw_or (dt_cmp op_isO opd_is (dvb 3) (DE.db de_non) (nomark _)) (dw_or1 (dt_cmp op_ltO (opd_ord hr) (DE.db (de_fn hG (G__law_key.mono (by omega)) hF hr (das_cons (dv 9) das_nil))) (DE.db (de_fn hG (G__law_key.mono (by omega)) hF hr (das_cons (de_ix ix_seq opd_ix (dvb 3) (DE.db de_int) (fun _ _ => rfl)) das_nil))) (nomark _))))) (
            (dss_one (ds_set (i := 3) sc__law_firsts.nd rfl (Or.inl rfl) (de_tup (dl_cons (dv 9) (dl_cons (dv 4) dl_nil)))))) (dss_nil))))) (dss_nil))))))))
    (dss_one (ds_if (dt_cmp op_isnotO opd_is (dvb 3) (DE.db de_non) (nomark _)) (
      (dss_one (ds_setI (i := 1) rfl (.inr (.inl rfl)) (de_ix ix_seq opd_ix (dvb 3) (DE.db de_int) (fun _ _ => rfl)) (de_ix ix_seq opd_ix (dvb 3) (DE.db de_int) (fun _ _ => rfl))))) (dss_nil)))))))
  (dss_one (ds_ret (dvb 1))))), fun as b Q R h => ?_⟩
  obtain ⟨s, rfl, hg, hrk, hn6, q⟩ := h
  simp only [encShp, dMulL, sCons_, sIf_, sRet_, sNil_, sSet_, sOwn_, sAppend_, sExtend_, onSq_l, onSq_t, sPop_, sPar_, sAsg_, sAug_, sRetN_, sDrop_, sRaise_, sFreeze_, sSetI_, sBreak_, sCont_, sTry_, dAct, dLam, dGet2, dDisp, rdReprX_l, rdReprX_t, onDict_, onKey_i, onKey_s, toOV, ofOV, dOr, dAnd, dNot, dB, dIsi, dVar_0, dVar_s, dVarB_0, dVarB_l, dVarB_s, dChain, dC, dCall, aCons, aNil, aVar, allIm_0, allIm_1, allIm_2, d2, dAllIn, startD, svOf, gN, gsC_, gsN, dTup, dCons, dNil, dLst, dAddL, dMulL, dF, dIf, dAndV, dOrV, dNotV, dNeg, dIter, dRng1, dRng2, dRng3, dEnum, dZip, dYes, dSl, dNo, dSo, dFn, wipeR, onB_, onI_, onIt_l, onIt_t, onIt_s, kRng1_, kRng2_, kRng3_, kEnum_l, kEnum_t, kZip_l, kZip_t, cutQ_t, cutQ_l, cutQ_s, rdI_, rdI0_, rdB0_, rdAdd_i, rdAdd_s, rdAdd_t, rdAdd_l, rdMul_i, rdMul_l, rdMul_t, rdEq_i, rdEq_s, rdEq0_l, rdEq0_ln, rdEq0_t, rdOrd_i, rdIsN_, rdIsN_n, rdIx_t, rdIx_l, rdIx_s, rdLen_l, rdLen_t, rdLen_s, rdTup_l, rdTup_t, rdList_l, rdList_t, rdInt_, rdSum_, rdMax_l, rdMax_i, rdMin_i, gT_, List.map_cons, List.map_nil, List.getElem?_cons_zero, List.getElem?_cons_succ, List.set_cons_zero, List.set_cons_succ, List.length_cons, List.length_nil, List.replicate, List.cons_append, List.nil_append, Option.map_some, Option.map_none, if_true, cond_true, cond_false, Bool.not_true, Bool.not_false, Nat.add_sub_cancel, Nat.sub_self, Nat.zero_add, Nat.reduceAdd, Nat.reduceSub, true_and, and_true]
  have hlen : (s.map encKind).length = s.length := List.length_map ..
  have hpos := hg.pos
  have e0 : (List.replicate (((s.map encKind).length : Nat) : Int).toNat [PyData.none]).flatten = (List.replicate s.length (none : Option Doc)).map encO := by
    rw [hlen, Int.toNat_natCast, List.flatten_replicate_singleton, List.map_replicate]
    rfl
  rw [e0]
  refine ⟨by omega, by omega, by rw [hlen, Int.toNat_natCast]; omega, ?_⟩
  unfold sFor
  simp only [sCons_, sIf_, sRet_, sNil_, sSet_, sOwn_, sAppend_, sExtend_, onSq_l, onSq_t, sPop_, sPar_, sAsg_, sAug_, sRetN_, sDrop_, sRaise_, sFreeze_, sSetI_, sBreak_, sCont_, sTry_, dAct, dLam, dGet2, dDisp, rdReprX_l, rdReprX_t, onDict_, onKey_i, onKey_s, toOV, ofOV, dOr, dAnd, dNot, dB, dIsi, dVar_0, dVar_s, dVarB_0, dVarB_l, dVarB_s, dChain, dC, dCall, aCons, aNil, aVar, allIm_0, allIm_1, allIm_2, d2, dAllIn, startD, svOf, gN, gsC_, gsN, dTup, dCons, dNil, dLst, dAddL, dMulL, dF, dIf, dAndV, dOrV, dNotV, dNeg, dIter, dRng1, dRng2, dRng3, dEnum, dZip, dYes, dSl, dNo, dSo, dFn, wipeR, onB_, onI_, onIt_l, onIt_t, onIt_s, kRng1_, kRng2_, kRng3_, kEnum_l, kEnum_t, kZip_l, kZip_t, cutQ_t, cutQ_l, cutQ_s, rdI_, rdI0_, rdB0_, rdAdd_i, rdAdd_s, rdAdd_t, rdAdd_l, rdMul_i, rdMul_l, rdMul_t, rdEq_i, rdEq_s, rdEq0_l, rdEq0_ln, rdEq0_t, rdOrd_i, rdIsN_, rdIsN_n, rdIx_t, rdIx_l, rdIx_s, rdLen_l, rdLen_t, rdLen_s, rdTup_l, rdTup_t, rdList_l, rdList_t, rdInt_, rdSum_, rdMax_l, rdMax_i, rdMin_i, gT_, List.map_cons, List.map_nil, List.getElem?_cons_zero, List.getElem?_cons_succ, List.set_cons_zero, List.set_cons_succ, List.length_cons, List.length_nil, List.replicate, List.cons_append, List.nil_append, Option.map_some, Option.map_none, if_true, cond_true, cond_false, Bool.not_true, Bool.not_false, Nat.add_sub_cancel, Nat.sub_self, Nat.zero_add, Nat.reduceAdd, Nat.reduceSub, true_and, and_true]
  refine ⟨fun t ρ b2 => ∃ (os : List (Option Doc)) (s2 s3 s4 s5 s6 s7 s8 s9 : SV), ρ = [.im (.tuple (s.map encKind)), .ls (os.map encO), s2, s3, s4, s5, s6, s7, s8, s9] ∧ b2 = b ∧ KnS s os t,
    ⟨_, .no, .no, .no, .no, .no, .no, .no, .no, rfl, rfl, by simp, by rw [nones_rep]; omega, fun d hd => by cases List.eq_of_mem_replicate hd⟩, fun t x ρ b2 hx hi => ?_, fun ρ b2 hi => ?_⟩
  · obtain ⟨os, s2, s3, s4, s5, s6, s7, s8, s9, rfl, rfl, hk⟩ := hi
    have ht : t < s.length := by
      have := (List.getElem?_eq_some_iff.mp hx).1
      omega
    simp only [sCons_, sIf_, sRet_, sNil_, sSet_, sOwn_, sAppend_, sExtend_, onSq_l, onSq_t, sPop_, sPar_, sAsg_, sAug_, sRetN_, sDrop_, sRaise_, sFreeze_, sSetI_, sBreak_, sCont_, sTry_, dAct, dLam, dGet2, dDisp, rdReprX_l, rdReprX_t, onDict_, onKey_i, onKey_s, toOV, ofOV, dOr, dAnd, dNot, dB, dIsi, dVar_0, dVar_s, dVarB_0, dVarB_l, dVarB_s, dChain, dC, dCall, aCons, aNil, aVar, allIm_0, allIm_1, allIm_2, d2, dAllIn, startD, svOf, gN, gsC_, gsN, dTup, dCons, dNil, dLst, dAddL, dMulL, dF, dIf, dAndV, dOrV, dNotV, dNeg, dIter, dRng1, dRng2, dRng3, dEnum, dZip, dYes, dSl, dNo, dSo, dFn, wipeR, onB_, onI_, onIt_l, onIt_t, onIt_s, kRng1_, kRng2_, kRng3_, kEnum_l, kEnum_t, kZip_l, kZip_t, cutQ_t, cutQ_l, cutQ_s, rdI_, rdI0_, rdB0_, rdAdd_i, rdAdd_s, rdAdd_t, rdAdd_l, rdMul_i, rdMul_l, rdMul_t, rdEq_i, rdEq_s, rdEq0_l, rdEq0_ln, rdEq0_t, rdOrd_i, rdIsN_, rdIsN_n, rdIx_t, rdIx_l, rdIx_s, rdLen_l, rdLen_t, rdLen_s, rdTup_l, rdTup_t, rdList_l, rdList_t, rdInt_, rdSum_, rdMax_l, rdMax_i, rdMin_i, gT_, List.map_cons, List.map_nil, List.getElem?_cons_zero, List.getElem?_cons_succ, List.set_cons_zero, List.set_cons_succ, List.length_cons, List.length_nil, List.replicate, List.cons_append, List.nil_append, Option.map_some, Option.map_none, if_true, cond_true, cond_false, Bool.not_true, Bool.not_false, Nat.add_sub_cancel, Nat.sub_self, Nat.zero_add, Nat.reduceAdd, Nat.reduceSub, true_and, and_true]
    refine ⟨fun kk ρ b3 => ∃ (bo : Option (Doc × Nat)) (s4 s5 s6 s7 s8 s9 : SV), ρ = [.im (.tuple (s.map encKind)), .ls (os.map encO), .im x, .im (encBo bo), s4, s5, s6, s7, s8, s9] ∧ b3 = b2 ∧ BestOk os t (fun i w => i < kk ∧ ∃ ws, s[i]? = some ws ∧ w ∈ ws) bo,
      ⟨none, s4, s5, s6, s7, s8, s9, rfl, rfl, fun i w h => absurd h.1 (Nat.not_lt_zero _)⟩, fun kk y ρ b3 hy hi => ?_, fun ρ b3 hi => ?_⟩
    · obtain ⟨bo, s4, s5, s6, s7, s8, s9, rfl, rfl, hb⟩ := hi
      obtain ⟨z, hz, rfl⟩ := enumD_get hy
      rw [List.getElem?_map] at hz
      obtain ⟨ws, hws, rfl⟩ : ∃ ws, s[kk]? = some ws ∧ encKind ws = z := by
        cases h : s[kk]? with
        | none => rw [h] at hz; cases hz
        | some e => rw [h] at hz; cases hz; exact ⟨e, rfl, rfl⟩
      have hkl := (List.getElem?_eq_some_iff.mp hws).1
      obtain ⟨_, _, hways⟩ := hg.kinds _ (List.mem_of_getElem? hws)
      simp only [encKind, sCons_, sIf_, sRet_, sNil_, sSet_, sOwn_, sAppend_, sExtend_, onSq_l, onSq_t, sPop_, sPar_, sAsg_, sAug_, sRetN_, sDrop_, sRaise_, sFreeze_, sSetI_, sBreak_, sCont_, sTry_, dAct, dLam, dGet2, dDisp, rdReprX_l, rdReprX_t, onDict_, onKey_i, onKey_s, toOV, ofOV, dOr, dAnd, dNot, dB, dIsi, dVar_0, dVar_s, dVarB_0, dVarB_l, dVarB_s, dChain, dC, dCall, aCons, aNil, aVar, allIm_0, allIm_1, allIm_2, d2, dAllIn, startD, svOf, gN, gsC_, gsN, dTup, dCons, dNil, dLst, dAddL, dMulL, dF, dIf, dAndV, dOrV, dNotV, dNeg, dIter, dRng1, dRng2, dRng3, dEnum, dZip, dYes, dSl, dNo, dSo, dFn, wipeR, onB_, onI_, onIt_l, onIt_t, onIt_s, kRng1_, kRng2_, kRng3_, kEnum_l, kEnum_t, kZip_l, kZip_t, cutQ_t, cutQ_l, cutQ_s, rdI_, rdI0_, rdB0_, rdAdd_i, rdAdd_s, rdAdd_t, rdAdd_l, rdMul_i, rdMul_l, rdMul_t, rdEq_i, rdEq_s, rdEq0_l, rdEq0_ln, rdEq0_t, rdOrd_i, rdIsN_, rdIsN_n, rdIx_t, rdIx_l, rdIx_s, rdLen_l, rdLen_t, rdLen_s, rdTup_l, rdTup_t, rdList_l, rdList_t, rdInt_, rdSum_, rdMax_l, rdMax_i, rdMin_i, gT_, List.map_cons, List.map_nil, List.getElem?_cons_zero, List.getElem?_cons_succ, List.set_cons_zero, List.set_cons_succ, List.length_cons, List.length_nil, List.replicate, List.cons_append, List.nil_append, Option.map_some, Option.map_none, if_true, cond_true, cond_false, Bool.not_true, Bool.not_false, Nat.add_sub_cancel, Nat.sub_self, Nat.zero_add, Nat.reduceAdd, Nat.reduceSub, true_and, and_true]
      refine ⟨fun j ρ b4 => ∃ (bo : Option (Doc × Nat)) (s6 s7 s8 s9 : SV), ρ = [.im (.tuple (s.map encKind)), .ls (os.map encO), .im x, .im (encBo bo), .im (.int (kk : Nat)), .im (.tuple (ws.map encWay)), s6, s7, s8, s9] ∧ b4 = b3 ∧ BestOk os t (fun i w => (i < kk ∧ ∃ ws, s[i]? = some ws ∧ w ∈ ws) ∨ (i = kk ∧ w ∈ ws.take j)) bo,
        ⟨bo, s6, s7, s8, s9, rfl, rfl, ?_⟩, fun j v ρ b4 hv hi => ?_, fun ρ b4 hi => ?_⟩
      · exact best_skip hb fun i w h => by
          rcases h with h | ⟨_, h⟩
          · exact .inl h
          · simp at h
      · obtain ⟨bo, s6, s7, s8, s9, rfl, rfl, hb⟩ := hi
        rw [List.getElem?_map] at hv
        obtain ⟨wy, hwy, rfl⟩ : ∃ wy, ws[j]? = some wy ∧ encWay wy = v := by
          cases h : ws[j]? with
          | none => rw [h] at hv; cases hv
          | some e => rw [h] at hv; cases hv; exact ⟨e, rfl, rfl⟩
        obtain ⟨nm, pp⟩ := wy
        obtain ⟨hn1, hn2, hn3⟩ := hways _ (List.mem_of_getElem? hwy)
        have hn2 : pp.length ≤ 3 := hn2
        have hC : ∀ i w, ((i < kk ∧ ∃ ws, s[i]? = some ws ∧ w ∈ ws) ∨ (i = kk ∧ w ∈ ws.take (j + 1))) → ((i < kk ∧ ∃ ws, s[i]? = some ws ∧ w ∈ ws) ∨ (i = kk ∧ w ∈ ws.take j)) ∨ (i = kk ∧ w = (nm, pp)) := fun i w h => by
          rcases h with h | ⟨h1, h2⟩
          · exact .inl (.inl h)
          · rw [List.take_add_one, hwy] at h2
            rcases List.mem_append.mp h2 with h2 | h2
            · exact .inl (.inr ⟨h1, h2⟩)
            · exact .inr ⟨h1, by simpa using h2⟩
        have skip : ¬ Cand os kk (nm, pp) → BestOk os t (fun i w => (i < kk ∧ ∃ ws, s[i]? = some ws ∧ w ∈ ws) ∨ (i = kk ∧ w ∈ ws.take (j + 1))) bo := fun hc => best_skip hb fun i w h => (hC i w h).imp id fun z => by
          rw [z.1, z.2]
          exact hc
        have hkl2 : kk < os.length := by have := hk.len; omega
        have hok : os[kk]? = some os[kk] := List.getElem?_eq_getElem hkl2
        simp only [encWay, encPl, dLc, sCons_, sIf_, sRet_, sNil_, sSet_, sOwn_, sAppend_, sExtend_, onSq_l, onSq_t, sPop_, sPar_, sAsg_, sAug_, sRetN_, sDrop_, sRaise_, sFreeze_, sSetI_, sBreak_, sCont_, sTry_, dAct, dLam, dGet2, dDisp, rdReprX_l, rdReprX_t, onDict_, onKey_i, onKey_s, toOV, ofOV, dOr, dAnd, dNot, dB, dIsi, dVar_0, dVar_s, dVarB_0, dVarB_l, dVarB_s, dChain, dC, dCall, aCons, aNil, aVar, allIm_0, allIm_1, allIm_2, d2, dAllIn, startD, svOf, gN, gsC_, gsN, dTup, dCons, dNil, dLst, dAddL, dMulL, dF, dIf, dAndV, dOrV, dNotV, dNeg, dIter, dRng1, dRng2, dRng3, dEnum, dZip, dYes, dSl, dNo, dSo, dFn, wipeR, onB_, onI_, onIt_l, onIt_t, onIt_s, kRng1_, kRng2_, kRng3_, kEnum_l, kEnum_t, kZip_l, kZip_t, cutQ_t, cutQ_l, cutQ_s, rdI_, rdI0_, rdB0_, rdAdd_i, rdAdd_s, rdAdd_t, rdAdd_l, rdMul_i, rdMul_l, rdMul_t, rdEq_i, rdEq_s, rdEq0_l, rdEq0_ln, rdEq0_t, rdOrd_i, rdIsN_, rdIsN_n, rdIx_t, rdIx_l, rdIx_s, rdLen_l, rdLen_t, rdLen_s, rdTup_l, rdTup_t, rdList_l, rdList_t, rdInt_, rdSum_, rdMax_l, rdMax_i, rdMin_i, gT_, List.map_cons, List.map_nil, List.getElem?_cons_zero, List.getElem?_cons_succ, List.set_cons_zero, List.set_cons_succ, List.length_cons, List.length_nil, List.replicate, List.cons_append, List.nil_append, Option.map_some, Option.map_none, if_true, cond_true, cond_false, Bool.not_true, Bool.not_false, Nat.add_sub_cancel, Nat.sub_self, Nat.zero_add, Nat.reduceAdd, Nat.reduceSub, true_and, and_true]
        refine ⟨encO os[kk], ixD_nat rfl (by rw [List.getElem?_map, hok]; rfl), ?_⟩
        cases q1 : os[kk] with
        | some d =>
          rw [show isN (encO (some d)) = false from enc_isN d]
          exact ⟨bo, _, _, _, _, rfl, skip fun c => by have c1 := c.1; rw [hok, q1] at c1; cases c1⟩
        | none =>
          rw [q1] at hok
          refine ⟨fun i acc b5 => b5 = b4 ∧ acc.length ≤ i ∧ (acc.isEmpty = true ↔ ∀ p ∈ pp.take i, ∃ d, os[p]? = some (some d)), ⟨rfl, Nat.le_refl _, by simp⟩, fun i v acc b5 hv hi => ?_, fun acc b5 hi => ?_⟩
          · obtain ⟨rfl, hl, hemp⟩ := hi
            rw [List.getElem?_map] at hv
            obtain ⟨p, hp, rfl⟩ : ∃ p, pp[i]? = some p ∧ PyData.int (p : Nat) = v := by
              cases h : pp[i]? with
              | none => rw [h] at hv; cases hv
              | some e => rw [h] at hv; cases hv; exact ⟨e, rfl, rfl⟩
            have hil := (List.getElem?_eq_some_iff.mp hp).1
            have hpl : p < os.length := by
              have := hn3 p (List.mem_of_getElem? hp)
              have := hk.len
              omega
            have hop : os[p]? = some os[p] := List.getElem?_eq_getElem hpl
            refine ⟨encO os[p], ixD_nat rfl (by rw [List.getElem?_map, hop]; rfl), ?_⟩
            have htk : pp.take (i + 1) = pp.take i ++ [p] := by rw [List.take_add_one, hp]; rfl
            cases q2 : os[p] with
            | none =>
              rw [q2] at hop
              refine ⟨by omega, rfl, by simp; omega, ?_⟩
              rw [htk]
              constructor
              · intro z
                simp at z
              · intro z
                obtain ⟨d, hd⟩ := z p (by simp)
                rw [hop] at hd
                cases hd
            | some d =>
              rw [q2] at hop
              show cond (isN (encO (some d))) _ _
              rw [show isN (encO (some d)) = false from enc_isN d]
              refine ⟨rfl, by omega, ?_⟩
              rw [htk]
              refine hemp.trans ⟨fun z p' hp' => ?_, fun z p' hp' => z p' (List.mem_append_left _ hp')⟩
              rcases List.mem_append.mp hp' with h | h
              · exact z p' h
              · have : p' = p := by simpa using h
                rw [this]
                exact ⟨d, hop⟩
          · obtain ⟨rfl, hl, hemp⟩ := hi
            rw [List.length_map, List.take_length] at hemp
            cases q2 : acc.isEmpty with
            | false =>
              refine ⟨bo, _, _, _, _, rfl, rfl, skip fun c => ?_⟩
              rw [hemp.mpr c.2] at q2
              cases q2
            | true =>
              have hall := hemp.mp q2
              obtain ⟨es, g1, g2, g3, g4⟩ := parts_docs hall
              refine ⟨fun i acc b6 => b6 = b5 ∧ acc = (pp.take i).map (fun p => encO (os.getD p none)), ⟨rfl, rfl⟩, fun i v acc b6 hv hi => ?_, fun acc b6 hi => ?_⟩
              · obtain ⟨rfl, rfl⟩ := hi
                rw [List.getElem?_map] at hv
                obtain ⟨p, hp, rfl⟩ : ∃ p, pp[i]? = some p ∧ PyData.int (p : Nat) = v := by
                  cases h : pp[i]? with
                  | none => rw [h] at hv; cases hv
                  | some e => rw [h] at hv; cases hv; exact ⟨e, rfl, rfl⟩
                have hil := (List.getElem?_eq_some_iff.mp hp).1
                obtain ⟨d, hd⟩ := hall p (List.mem_of_getElem? hp)
                refine ⟨encO (os.getD p none), ixD_nat rfl (by rw [List.getElem?_map, List.getD_eq_getElem?_getD, hd]; rfl), by rw [List.length_map, List.length_take]; omega, rfl, ?_⟩
                rw [List.take_add_one, hp, List.map_append]
                rfl
              · obtain ⟨rfl, rfl⟩ := hi
                rw [show (pp.map fun i : Nat => PyData.int (i : Int)).length = pp.length from List.length_map .., List.take_length, g3]
                have hhere : PyData.tuple (.str nm :: encs es) = (Doc.nd nm es).enc := (enc_nd nm es).symm
                have hes : ∀ d ∈ es, d.fine = true ∧ d.deep ≤ t ∧ d.size ≤ t := fun d hd => hk.ok d (g4 d hd)
                have hfine : (Doc.nd nm es).fine = true := by
                  rw [Doc.fine, show isNameS nm = true from hn1, decide_eq_true (show es.length ≤ 3 by omega), (fines_all es).mpr fun d hd => (hes d hd).1]
                  rfl
                have hdeep : (Doc.nd nm es).deep ≤ t + 1 := by
                  have := deeps_of (n := t) fun d hd => (hes d hd).2.1
                  rw [Doc.deep]
                  omega
                have hsize : (Doc.nd nm es).size = cSize os (nm, pp) := by
                  rw [Doc.size, g2]
                  rfl
                have hszb : (Doc.nd nm es).size ≤ 1000 := by
                  have h1 := sizes_le (n := t) (ps := es) fun d hd => (hes d hd).2.2
                  have h2 : es.length * t ≤ 3 * t := Nat.mul_le_mul_right _ (by omega)
                  rw [Doc.size]
                  omega
                rw [hhere]
                refine ⟨by rw [encs_len]; omega, ?_⟩
                have here : (∀ d kd, bo = some (d, kd) → (Doc.nd nm es).size ≤ d.size) → BestOk os t (fun i w => (i < kk ∧ ∃ ws, s[i]? = some ws ∧ w ∈ ws) ∨ (i = kk ∧ w ∈ ws.take (j + 1))) (some (Doc.nd nm es, kk)) := fun hle =>
                  ⟨hfine, hdeep, hszb, hok, fun i w hw hc => by
                    rcases hC i w hw with z | ⟨z1, z2⟩
                    · cases hbo : bo with
                      | none =>
                        rw [hbo] at hb
                        exact absurd hc (hb i w z)
                      | some b0 =>
                        obtain ⟨d0, kd0⟩ := b0
                        rw [hbo] at hb
                        exact Nat.le_trans (hle d0 kd0 hbo) (hb.2.2.2.2 i w z hc)
                    · rw [z2, hsize]
                      exact Nat.le_refl _⟩
                cases hbo : bo with
                | none => exact ⟨some (Doc.nd nm es, kk), _, _, _, _, rfl, rfl, here fun d kd z => by rw [hbo] at z; cases z⟩
                | some b0 =>
                  obtain ⟨d0, kd0⟩ := b0
                  rw [hbo] at hb
                  obtain ⟨hb1, hb2, hb3, hb4, hb5⟩ := hb
                  refine ⟨Doc.nd nm es, rfl, by omega, by omega, d0.enc, rfl, d0, rfl, by omega, by omega, ord_key (by omega) ?_⟩
                  cases hlt : dataLt (Doc.nd nm es).key d0.key with
                  | true => exact ⟨some (Doc.nd nm es, kk), _, _, _, _, rfl, rfl, here fun d kd z => by rw [hbo] at z; cases z; exact lt_size hlt⟩
                  | false =>
                    refine ⟨some (d0, kd0), _, _, _, _, rfl, rfl, hb1, hb2, hb3, hb4, fun i w hw hc => ?_⟩
                    rcases hC i w hw with z | ⟨z1, z2⟩
                    · exact hb5 i w z hc
                    · rw [z2, ← hsize]
                      exact ge_size hlt
      · obtain ⟨bo, s6, s7, s8, s9, rfl, rfl, hb⟩ := hi
        refine ⟨bo, _, _, _, _, _, _, rfl, rfl, best_skip hb fun i w h => .inl ?_⟩
        obtain ⟨h1, ws', h2, h3⟩ := h
        by_cases h4 : i < kk
        · exact .inl ⟨h4, ws', h2, h3⟩
        · have : i = kk := by omega
          subst this
          rw [hws] at h2
          cases h2
          rw [List.length_map, List.take_length]
          exact .inr ⟨rfl, h3⟩
    · obtain ⟨bo, s4, s5, s6, s7, s8, s9, rfl, rfl, hb⟩ := hi
      rw [enumD_len, hlen] at hb
      simp only [sCons_, sIf_, sRet_, sNil_, sSet_, sOwn_, sAppend_, sExtend_, onSq_l, onSq_t, sPop_, sPar_, sAsg_, sAug_, sRetN_, sDrop_, sRaise_, sFreeze_, sSetI_, sBreak_, sCont_, sTry_, dAct, dLam, dGet2, dDisp, rdReprX_l, rdReprX_t, onDict_, onKey_i, onKey_s, toOV, ofOV, dOr, dAnd, dNot, dB, dIsi, dVar_0, dVar_s, dVarB_0, dVarB_l, dVarB_s, dChain, dC, dCall, aCons, aNil, aVar, allIm_0, allIm_1, allIm_2, d2, dAllIn, startD, svOf, gN, gsC_, gsN, dTup, dCons, dNil, dLst, dAddL, dMulL, dF, dIf, dAndV, dOrV, dNotV, dNeg, dIter, dRng1, dRng2, dRng3, dEnum, dZip, dYes, dSl, dNo, dSo, dFn, wipeR, onB_, onI_, onIt_l, onIt_t, onIt_s, kRng1_, kRng2_, kRng3_, kEnum_l, kEnum_t, kZip_l, kZip_t, cutQ_t, cutQ_l, cutQ_s, rdI_, rdI0_, rdB0_, rdAdd_i, rdAdd_s, rdAdd_t, rdAdd_l, rdMul_i, rdMul_l, rdMul_t, rdEq_i, rdEq_s, rdEq0_l, rdEq0_ln, rdEq0_t, rdOrd_i, rdIsN_, rdIsN_n, rdIx_t, rdIx_l, rdIx_s, rdLen_l, rdLen_t, rdLen_s, rdTup_l, rdTup_t, rdList_l, rdList_t, rdInt_, rdSum_, rdMax_l, rdMax_i, rdMin_i, gT_, List.map_cons, List.map_nil, List.getElem?_cons_zero, List.getElem?_cons_succ, List.set_cons_zero, List.set_cons_succ, List.length_cons, List.length_nil, List.replicate, List.cons_append, List.nil_append, Option.map_some, Option.map_none, if_true, cond_true, cond_false, Bool.not_true, Bool.not_false, Nat.add_sub_cancel, Nat.sub_self, Nat.zero_add, Nat.reduceAdd, Nat.reduceSub, true_and, and_true]
      cases bo with
      | none =>
        have h0 : nones os = 0 := no_cand hg hrk hk.len fun i ws w h1 h2 => hb i w ⟨(List.getElem?_eq_some_iff.mp h1).1, ws, h1, h2⟩
        exact ⟨os, _, _, _, _, _, _, _, _, rfl, hk.len, by omega, fun d hd => by
          obtain ⟨a1, a2, a3⟩ := hk.ok d hd
          exact ⟨a1, by omega, by omega⟩⟩
      | some b0 =>
        obtain ⟨d, kd⟩ := b0
        obtain ⟨hb1, hb2, hb3, hb4, hb5⟩ := hb
        have hkd := (List.getElem?_eq_some_iff.mp hb4).1
        refine ⟨d.enc, rfl, .int (kd : Nat), rfl, kd, ixN_nat' (by rw [List.length_map]; exact hkd), os.set kd (some d), _, _, _, _, _, _, _, _, by rw [List.map_set]; rfl, ?_, ?_, fun e he => ?_⟩
        · rw [List.length_set]
          exact hk.len
        · have h1 := nones_set (d := d) hb4
          have h2 := hk.non
          omega
        · rcases List.mem_or_eq_of_mem_set he with h | h
          · obtain ⟨a1, a2, a3⟩ := hk.ok e h
            exact ⟨a1, by omega, by omega⟩
          · cases h
            obtain ⟨i, ws, w, h1, h2, h3, h4⟩ := cand_small hg hrk hk.len hb4
            have h5 := hb5 i w ⟨(List.getElem?_eq_some_iff.mp h1).1, ws, h1, h2⟩ h3
            have h6 := cSize_small hk h4
            exact ⟨hb1, hb2, by omega⟩
  · obtain ⟨os, s2, s3, s4, s5, s6, s7, s8, s9, rfl, rfl, hk⟩ := hi
    rw [hlen] at hk
    obtain ⟨ds, rfl⟩ := nones_all (os := os) (by have := hk.non; omega)
    have hl := hk.len
    rw [List.length_map] at hl
    have e1 : (ds.map some).map encO = encs ds := by
      rw [List.map_map, encs_map]
      rfl
    simp only [sCons_, sIf_, sRet_, sNil_, sSet_, sOwn_, sAppend_, sExtend_, onSq_l, onSq_t, sPop_, sPar_, sAsg_, sAug_, sRetN_, sDrop_, sRaise_, sFreeze_, sSetI_, sBreak_, sCont_, sTry_, dAct, dLam, dGet2, dDisp, rdReprX_l, rdReprX_t, onDict_, onKey_i, onKey_s, toOV, ofOV, dOr, dAnd, dNot, dB, dIsi, dVar_0, dVar_s, dVarB_0, dVarB_l, dVarB_s, dChain, dC, dCall, aCons, aNil, aVar, allIm_0, allIm_1, allIm_2, d2, dAllIn, startD, svOf, gN, gsC_, gsN, dTup, dCons, dNil, dLst, dAddL, dMulL, dF, dIf, dAndV, dOrV, dNotV, dNeg, dIter, dRng1, dRng2, dRng3, dEnum, dZip, dYes, dSl, dNo, dSo, dFn, wipeR, onB_, onI_, onIt_l, onIt_t, onIt_s, kRng1_, kRng2_, kRng3_, kEnum_l, kEnum_t, kZip_l, kZip_t, cutQ_t, cutQ_l, cutQ_s, rdI_, rdI0_, rdB0_, rdAdd_i, rdAdd_s, rdAdd_t, rdAdd_l, rdMul_i, rdMul_l, rdMul_t, rdEq_i, rdEq_s, rdEq0_l, rdEq0_ln, rdEq0_t, rdOrd_i, rdIsN_, rdIsN_n, rdIx_t, rdIx_l, rdIx_s, rdLen_l, rdLen_t, rdLen_s, rdTup_l, rdTup_t, rdList_l, rdList_t, rdInt_, rdSum_, rdMax_l, rdMax_i, rdMin_i, gT_, List.map_cons, List.map_nil, List.getElem?_cons_zero, List.getElem?_cons_succ, List.set_cons_zero, List.set_cons_succ, List.length_cons, List.length_nil, List.replicate, List.cons_append, List.nil_append, Option.map_some, Option.map_none, if_true, cond_true, cond_false, Bool.not_true, Bool.not_false, Nat.add_sub_cancel, Nat.sub_self, Nat.zero_add, Nat.reduceAdd, Nat.reduceSub, true_and, and_true]
    rw [e1]
    exact q ds hl fun d hd => hk.ok d (List.mem_map_of_mem hd)
end
end K00

set_option Elab.async false
set_option linter.all false
set_option maxRecDepth 100000
set_option maxHeartbeats 8000000
/-! D0o: the law. -/
namespace K00
open PySem PySem.Spec PyProof.Rows L2 Lf Df
open GxR (TabB TabG Tabbed GenS)
abbrev s_law : Stmt := topS 47
abbrev N_law : List Str := ["script", "state", "turn", "shape_so", "firsts_so", "document", "other"]
theorem sc_law : FnScope N_law ["script"] (defScope s_law) := ⟨rfl, rfl, rfl, by decide +kernel, rfl, by decide +kernel, by decide +kernel⟩
section
variable {P : Program} {w : World} {K : PySem.W.Frag} {mg : Str → Option Value} {base : Heap} {PT : List (Addr × Option Str)} {k : Nat}
def dDocs : DSp := fun as b Q R => ∃ n, n ≤ 5 ∧ dDoc n as b Q R
theorem docs_d (G : Pr P w K mg base k "_law_document" ["state", "shape_so", "firsts_so", "kind", "deep"] (fun vs H Q E => ∃ n, n ≤ 5 ∧ spDoc K n vs H Q E)) : PrD P w K mg base PT k "_law_document" ["state", "shape_so", "firsts_so", "kind", "deep"] dDocs := G.imp fun vs H Q E h => by
  obtain ⟨F, b, as, Qd, Rd, hF, hT, ha, ⟨n, hn, s, ds, kd, e, z, rfl, h1, h2, h3, h4, h5, hQ⟩, hq, he⟩ := h
  obtain ⟨st, r, rfl, hs, ha⟩ := avs_st (a := .st) ha
  obtain ⟨v, r, rfl, hv, ha⟩ := avs_im ha
  obtain ⟨u, r, rfl, hu, ha⟩ := avs_im ha
  obtain ⟨x, r, rfl, hx, ha⟩ := avs_im ha
  obtain ⟨y, r, rfl, hy, ha⟩ := avs_im ha
  obtain rfl := avs_nil ha
  have := hx.inv_int
  subst this
  have := hy.inv_int
  subst this
  obtain ⟨fA, us, rfl, nf, hl, hus⟩ := hu.invL
  exact ⟨n, hn, F, b, st, v, fA, kd, s, us, ds, e, z, rfl, hT, hs, h1, Dx.dt _ _ (flat_shp s) hv, h2, hl, nf, DxAll.dt _ _ (flat_encs ds) hus, h3, h4, h5, fun H' u d g hd h6 h7 h8 => hq _ _ H' _ g (Dt.dx _ _ hd) (hQ d h6 h7 h8)⟩
def spLaw (K : PySem.W.Frag) (PT : List (Addr × Option Str)) : Sp := fun vs H Q _ => ∃ (F : Fr) (a : Addr) (ns : List Int), vs = [.ref a] ∧ F.T 0 H ∧ (∀ p ∈ PT, HasT F p) ∧ ¬ F.N a ∧ SqL K H a (ns.map V.int) ∧ ns.length ≤ 63 ∧ ∀ H', Q (.bl true) H'
theorem pr_law {f : Addr} {fd : FuncData} (T : Txt mg) (D : Def K mg "law" ["script"] s_law f fd) (G__law_begin : Pr P w K mg base k "_law_begin" ["script"] (spBegin K)) (G__law_shape : PrD P w K mg base PT k "_law_shape" ["state", "most", "wide"] dShape) (G__law_firsts : PrD P w K mg base PT k "_law_firsts" ["shape_so"] dFirstsS)
    (G__law_document : PrD P w K mg base PT k "_law_document" ["state", "shape_so", "firsts_so", "kind", "deep"] dDocs) (G__law_draw : PrD P w K mg base PT k "_law_draw" ["state", "limit"] dDraw) (G__law_right : PrD P w K mg base PT k "_law_right" ["state", "document", "other"] dRight) (G__law_refused : PrD P w K mg base PT k "_law_refused" ["state", "document", "good"] dRefused)
    (G__law_like : PrD P w K mg base PT k "_law_like" ["got", "due"] spLike) (G_size_of : PrD P w K mg base PT k "size_of" ["document"] (spChecked fun e => .int (e.size : Nat))) (G_depth_of : PrD P w K mg base PT k "depth_of" ["document"] (spChecked fun e => .int (e.deep : Nat))) : Pr P w K mg base (k + 1) "law" ["script"] (spLaw K PT) := by
  refine Pr.of' D sc_law (fun vs H Q E h => ?_) fun cdv A outer s0 H vs Q E hcd hG hr h => ?_
  · obtain ⟨_, _, _, rfl, _⟩ := h
    rfl
  · obtain ⟨F0, a0, ns, rfl, hT0, hF0, hn, hsq, hz, q⟩ := h
    refine ⟨_, pss_cons (ps_set (i := 1) sc_law.nd rfl (Or.inl rfl) (pcall hG G__law_begin hr (pa_cons (pv 0) pa_nil))) (dss_any (PT := PT) (W := fun cls d _ H => E cls d H) fun F hF => (dss_cons (ds_for (passes_of rfl) rfl (DI.two (di_range1 (by rfl) T.range (dl_cons de_int dl_nil))) (dg_name (i := 2) sc_law.nd rfl (Or.inl rfl)) (
    (dss_cons (ds_set (i := 3) sc_law.nd rfl (Or.inl rfl) (de_fn hG (G__law_shape.mono (by omega)) hF hr (dasv 1 (das_cons de_int (das_cons de_int das_nil)))))
    (dss_cons (ds_set (i := 4) sc_law.nd rfl (Or.inl rfl) (de_fn hG (G__law_firsts.mono (by omega)) hF hr (das_cons (dv 3) das_nil)))
    (dss_cons (ds_set (i := 5) sc_law.nd rfl (Or.inl rfl) (de_fn hG (G__law_document.mono (by omega)) hF hr (dasv 1 (das_cons (dv 3) (das_cons (dv 4) (das_cons de_int (das_cons (de_op op_addAll opd_add (DE.db de_int) (DE.db (de_fn hG (G__law_draw.mono (by omega)) hF hr (dasv 1 (das_cons de_int das_nil))))) das_nil)))))))
    (dss_cons (ds_set (i := 6) sc_law.nd rfl (Or.inl rfl) (de_fn hG (G__law_document.mono (by omega)) hF hr (dasv 1 (das_cons (dv 3) (das_cons (dv 4) (das_cons (de_fn hG (G__law_draw.mono (by omega)) hF hr (dasv 1 (das_cons (de_call (fun _ h => pe_callB call_lenA (by rfl) T.len PySem.boot_len h) cd_len (da_cons (dvb 3) da_nil)) das_nil))) (das_cons de_int das_nil)))))))
    (dss_one (ds_if (DW.dt (dw_or (dt_not (dt_val (DE.db (de_fn hG (G__law_right.mono (by omega)) hF hr (dasv 1 (das_cons (dv 5) (das_cons (dv 6) das_nil))))))) (dw_or1 (dt_not (dt_val (DE.db (de_fn hG (G__law_refused.mono (by omega)) hF hr (dasv 1 (das_cons (dv 5) (das_cons (dv 6) das_nil)))))))))) (
      (dss_one (ds_ret (DE.db de_bl)))) (dss_nil)))))))))
  (dss_one (ds_ret (DE.db (de_fn hG (G__law_like.mono (by omega)) hF hr (das_cons (DF.de (df_lst (dl_cons (de_fnX hG (G_size_of.mono (by omega)) hF hr (takes_of rfl rfl rfl rfl) (das_cons (de_tup (dl_cons de_str dl_nil)) das_nil)) (dl_cons (de_fnX hG (G_depth_of.mono (by omega)) hF hr (takes_of rfl rfl rfl rfl) (das_cons (de_tup (dl_cons de_str (dl_cons (de_tup (dl_cons de_str dl_nil)) dl_nil))) das_nil)) dl_nil)))) (das_cons (DF.de (df_lst (dl_cons de_int (dl_cons de_int dl_nil)))) das_nil)))))))), ?_⟩
    refine ⟨_, rfl, F0, 0, a0, ns, rfl, hT0, hn, hsq, hz, fun H1 st cA lA g1 n1 n2 n3 hst _ => ?_⟩
    have hT1 := g1.st n1 n2 n3 hst
    have hS := F0.st_has st cA lA
    have hF := fun p hp => Fr.st_t (F := F0) (st := st) (cA := cA) (lA := lA) (hF0 p hp)
    refine ⟨_, 0, H1, [], [.no, .st, .no, .no, .no, .no, .no], 0, { nx := fun _ _ => False, rt := fun d _ => d = .bool true, er := R0 }, hF, .mk' (Z := Z0) ⟨rfl, fun i sv e => ?_, fun a i z => by cases z⟩ (Go.refl hT1) (fun a i z => by cases z) (fun p h => by cases h), ?_, ⟨fun _ _ _ _ _ h => h.elim, fun _ _ _ _ _ h => h.elim, fun _ _ _ _ _ h => h.elim, fun v d H' b g hx hd => ?_, fun _ _ _ _ _ _ _ _ h => h.elim⟩⟩
    · rcases i with _ | _ | _ | _ | _ | _ | _ | i
      · cases e; exact trivial
      · cases e; exact ⟨st, rfl, hS⟩
      · cases e; exact trivial
      · cases e; exact trivial
      · cases e; exact trivial
      · cases e; exact trivial
      · cases e; exact trivial
      · simp at e
    · simp only [sCons_, sIf_, sRet_, sNil_, sSet_, sOwn_, sAppend_, sExtend_, onSq_l, onSq_t, sPop_, sPar_, sAsg_, sAug_, sRetN_, sDrop_, sRaise_, sFreeze_, sSetI_, sBreak_, sCont_, sTry_, dAct, dLam, dGet2, dDisp, rdReprX_l, rdReprX_t, onDict_, onKey_i, onKey_s, toOV, ofOV, dOr, dAnd, dNot, dB, dIsi, dVar_0, dVar_s, dVarB_0, dVarB_l, dVarB_s, dChain, dC, dCall, aCons, aNil, aVar, allIm_0, allIm_1, allIm_2, d2, dAllIn, startD, svOf, gN, gsC_, gsN, dTup, dCons, dNil, dLst, dAddL, dMulL, dF, dIf, dAndV, dOrV, dNotV, dNeg, dIter, dRng1, dRng2, dRng3, dEnum, dZip, dYes, dSl, dNo, dSo, dFn, wipeR, onB_, onI_, onIt_l, onIt_t, onIt_s, kRng1_, kRng2_, kRng3_, kEnum_l, kEnum_t, kZip_l, kZip_t, cutQ_t, cutQ_l, cutQ_s, rdI_, rdI0_, rdB0_, rdAdd_i, rdAdd_s, rdAdd_t, rdAdd_l, rdMul_i, rdMul_l, rdMul_t, rdEq_i, rdEq_s, rdEq0_l, rdEq0_ln, rdEq0_t, rdOrd_i, rdIsN_, rdIsN_n, rdIx_t, rdIx_l, rdIx_s, rdLen_l, rdLen_t, rdLen_s, rdTup_l, rdTup_t, rdList_l, rdList_t, rdInt_, rdSum_, rdMax_l, rdMax_i, rdMin_i, gT_, List.map_cons, List.map_nil, List.getElem?_cons_zero, List.getElem?_cons_succ, List.set_cons_zero, List.set_cons_succ, List.length_cons, List.length_nil, List.replicate, List.cons_append, List.nil_append, Option.map_some, Option.map_none, if_true, cond_true, cond_false, Bool.not_true, Bool.not_false, Nat.add_sub_cancel, Nat.sub_self, Nat.zero_add, Nat.reduceAdd, Nat.reduceSub, true_and, and_true]
      unfold sFor
      simp only [sCons_, sIf_, sRet_, sNil_, sSet_, sOwn_, sAppend_, sExtend_, onSq_l, onSq_t, sPop_, sPar_, sAsg_, sAug_, sRetN_, sDrop_, sRaise_, sFreeze_, sSetI_, sBreak_, sCont_, sTry_, dAct, dLam, dGet2, dDisp, rdReprX_l, rdReprX_t, onDict_, onKey_i, onKey_s, toOV, ofOV, dOr, dAnd, dNot, dB, dIsi, dVar_0, dVar_s, dVarB_0, dVarB_l, dVarB_s, dChain, dC, dCall, aCons, aNil, aVar, allIm_0, allIm_1, allIm_2, d2, dAllIn, startD, svOf, gN, gsC_, gsN, dTup, dCons, dNil, dLst, dAddL, dMulL, dF, dIf, dAndV, dOrV, dNotV, dNeg, dIter, dRng1, dRng2, dRng3, dEnum, dZip, dYes, dSl, dNo, dSo, dFn, wipeR, onB_, onI_, onIt_l, onIt_t, onIt_s, kRng1_, kRng2_, kRng3_, kEnum_l, kEnum_t, kZip_l, kZip_t, cutQ_t, cutQ_l, cutQ_s, rdI_, rdI0_, rdB0_, rdAdd_i, rdAdd_s, rdAdd_t, rdAdd_l, rdMul_i, rdMul_l, rdMul_t, rdEq_i, rdEq_s, rdEq0_l, rdEq0_ln, rdEq0_t, rdOrd_i, rdIsN_, rdIsN_n, rdIx_t, rdIx_l, rdIx_s, rdLen_l, rdLen_t, rdLen_s, rdTup_l, rdTup_t, rdList_l, rdList_t, rdInt_, rdSum_, rdMax_l, rdMax_i, rdMin_i, gT_, List.map_cons, List.map_nil, List.getElem?_cons_zero, List.getElem?_cons_succ, List.set_cons_zero, List.set_cons_succ, List.length_cons, List.length_nil, List.replicate, List.cons_append, List.nil_append, Option.map_some, Option.map_none, if_true, cond_true, cond_false, Bool.not_true, Bool.not_false, Nat.add_sub_cancel, Nat.sub_self, Nat.zero_add, Nat.reduceAdd, Nat.reduceSub, true_and, and_true]
      refine ⟨by decide, by decide, fun i ρ b2 => ∃ s2 s3 s4 s5 s6 : SV, ρ = [.no, .st, s2, s3, s4, s5, s6] ∧ b2 ≤ 400 * i, ⟨.no, .no, .no, .no, .no, rfl, Nat.le_refl _⟩, fun i v ρ b2 hv hi => ?_, fun ρ b2 hi => ?_⟩
      · obtain ⟨s2, s3, s4, s5, s6, rfl, hb⟩ := hi
        obtain ⟨hi3, rfl⟩ := rangeD_get hv
        have hi3 : i < 3 := hi3
        simp only [sCons_, sIf_, sRet_, sNil_, sSet_, sOwn_, sAppend_, sExtend_, onSq_l, onSq_t, sPop_, sPar_, sAsg_, sAug_, sRetN_, sDrop_, sRaise_, sFreeze_, sSetI_, sBreak_, sCont_, sTry_, dAct, dLam, dGet2, dDisp, rdReprX_l, rdReprX_t, onDict_, onKey_i, onKey_s, toOV, ofOV, dOr, dAnd, dNot, dB, dIsi, dVar_0, dVar_s, dVarB_0, dVarB_l, dVarB_s, dChain, dC, dCall, aCons, aNil, aVar, allIm_0, allIm_1, allIm_2, d2, dAllIn, startD, svOf, gN, gsC_, gsN, dTup, dCons, dNil, dLst, dAddL, dMulL, dF, dIf, dAndV, dOrV, dNotV, dNeg, dIter, dRng1, dRng2, dRng3, dEnum, dZip, dYes, dSl, dNo, dSo, dFn, wipeR, onB_, onI_, onIt_l, onIt_t, onIt_s, kRng1_, kRng2_, kRng3_, kEnum_l, kEnum_t, kZip_l, kZip_t, cutQ_t, cutQ_l, cutQ_s, rdI_, rdI0_, rdB0_, rdAdd_i, rdAdd_s, rdAdd_t, rdAdd_l, rdMul_i, rdMul_l, rdMul_t, rdEq_i, rdEq_s, rdEq0_l, rdEq0_ln, rdEq0_t, rdOrd_i, rdIsN_, rdIsN_n, rdIx_t, rdIx_l, rdIx_s, rdLen_l, rdLen_t, rdLen_s, rdTup_l, rdTup_t, rdList_l, rdList_t, rdInt_, rdSum_, rdMax_l, rdMax_i, rdMin_i, gT_, List.map_cons, List.map_nil, List.getElem?_cons_zero, List.getElem?_cons_succ, List.set_cons_zero, List.set_cons_succ, List.length_cons, List.length_nil, List.replicate, List.cons_append, List.nil_append, Option.map_some, Option.map_none, if_true, cond_true, cond_false, Bool.not_true, Bool.not_false, Nat.add_sub_cancel, Nat.sub_self, Nat.zero_add, Nat.reduceAdd, Nat.reduceSub, true_and, and_true]
        refine ⟨4, rfl, by decide, by decide, by omega, fun s hg hrk hsl => ?_⟩
        refine ⟨s, rfl, hg, hrk, by omega, fun ds hdl hdo => ?_⟩
        have hpos := hg.pos
        have hdo' : ∀ d ∈ ds, d.fine = true ∧ d.deep ≤ 4 ∧ d.size ≤ 4 := fun d hd => by
          obtain ⟨a1, a2, a3⟩ := hdo d hd
          exact ⟨a1, by omega, by omega⟩
        refine ⟨4, rfl, by decide, by decide, by omega, fun m hm => ?_⟩
        have hz : zDoc 4 (1 + m) ≤ 364 ∧ cDoc (1 + m) ≤ 40 := by
          have : ∀ m : Fin 4, zDoc 4 (1 + m.val) ≤ 364 ∧ cDoc (1 + m.val) ≤ 40 := by decide
          exact this ⟨m, hm⟩
        refine ⟨1 + m, by omega, s, ds, 0, 4, 4, by rw [Int.natCast_add]; rfl, by omega, hg, hdl, hdo', hpos, fun x hx1 hx2 hx3 => ?_⟩
        simp only [encShp, sCons_, sIf_, sRet_, sNil_, sSet_, sOwn_, sAppend_, sExtend_, onSq_l, onSq_t, sPop_, sPar_, sAsg_, sAug_, sRetN_, sDrop_, sRaise_, sFreeze_, sSetI_, sBreak_, sCont_, sTry_, dAct, dLam, dGet2, dDisp, rdReprX_l, rdReprX_t, onDict_, onKey_i, onKey_s, toOV, ofOV, dOr, dAnd, dNot, dB, dIsi, dVar_0, dVar_s, dVarB_0, dVarB_l, dVarB_s, dChain, dC, dCall, aCons, aNil, aVar, allIm_0, allIm_1, allIm_2, d2, dAllIn, startD, svOf, gN, gsC_, gsN, dTup, dCons, dNil, dLst, dAddL, dMulL, dF, dIf, dAndV, dOrV, dNotV, dNeg, dIter, dRng1, dRng2, dRng3, dEnum, dZip, dYes, dSl, dNo, dSo, dFn, wipeR, onB_, onI_, onIt_l, onIt_t, onIt_s, kRng1_, kRng2_, kRng3_, kEnum_l, kEnum_t, kZip_l, kZip_t, cutQ_t, cutQ_l, cutQ_s, rdI_, rdI0_, rdB0_, rdAdd_i, rdAdd_s, rdAdd_t, rdAdd_l, rdMul_i, rdMul_l, rdMul_t, rdEq_i, rdEq_s, rdEq0_l, rdEq0_ln, rdEq0_t, rdOrd_i, rdIsN_, rdIsN_n, rdIx_t, rdIx_l, rdIx_s, rdLen_l, rdLen_t, rdLen_s, rdTup_l, rdTup_t, rdList_l, rdList_t, rdInt_, rdSum_, rdMax_l, rdMax_i, rdMin_i, gT_, List.map_cons, List.map_nil, List.getElem?_cons_zero, List.getElem?_cons_succ, List.set_cons_zero, List.set_cons_succ, List.length_cons, List.length_nil, List.replicate, List.cons_append, List.nil_append, Option.map_some, Option.map_none, if_true, cond_true, cond_false, Bool.not_true, Bool.not_false, Nat.add_sub_cancel, Nat.sub_self, Nat.zero_add, Nat.reduceAdd, Nat.reduceSub, true_and, and_true]
        refine ⟨_, rfl, by rw [List.length_map]; omega, by rw [List.length_map]; omega, by omega, fun m2 hm2 => ?_⟩
        rw [List.length_map] at hm2
        have hz2 : zDoc 4 2 ≤ 40 ∧ cDoc 2 = 4 := by decide
        refine ⟨2, by decide, s, ds, m2, 4, 4, rfl, by omega, hg, hdl, hdo', hm2, fun y hy1 hy2 hy3 => ?_⟩
        refine ⟨x, y, rfl, hx1, hy1, by omega, by omega, by omega, by omega, by omega, ?_⟩
        simp only [sCons_, sIf_, sRet_, sNil_, sSet_, sOwn_, sAppend_, sExtend_, onSq_l, onSq_t, sPop_, sPar_, sAsg_, sAug_, sRetN_, sDrop_, sRaise_, sFreeze_, sSetI_, sBreak_, sCont_, sTry_, dAct, dLam, dGet2, dDisp, rdReprX_l, rdReprX_t, onDict_, onKey_i, onKey_s, toOV, ofOV, dOr, dAnd, dNot, dB, dIsi, dVar_0, dVar_s, dVarB_0, dVarB_l, dVarB_s, dChain, dC, dCall, aCons, aNil, aVar, allIm_0, allIm_1, allIm_2, d2, dAllIn, startD, svOf, gN, gsC_, gsN, dTup, dCons, dNil, dLst, dAddL, dMulL, dF, dIf, dAndV, dOrV, dNotV, dNeg, dIter, dRng1, dRng2, dRng3, dEnum, dZip, dYes, dSl, dNo, dSo, dFn, wipeR, onB_, onI_, onIt_l, onIt_t, onIt_s, kRng1_, kRng2_, kRng3_, kEnum_l, kEnum_t, kZip_l, kZip_t, cutQ_t, cutQ_l, cutQ_s, rdI_, rdI0_, rdB0_, rdAdd_i, rdAdd_s, rdAdd_t, rdAdd_l, rdMul_i, rdMul_l, rdMul_t, rdEq_i, rdEq_s, rdEq0_l, rdEq0_ln, rdEq0_t, rdOrd_i, rdIsN_, rdIsN_n, rdIx_t, rdIx_l, rdIx_s, rdLen_l, rdLen_t, rdLen_s, rdTup_l, rdTup_t, rdList_l, rdList_t, rdInt_, rdSum_, rdMax_l, rdMax_i, rdMin_i, gT_, List.map_cons, List.map_nil, List.getElem?_cons_zero, List.getElem?_cons_succ, List.set_cons_zero, List.set_cons_succ, List.length_cons, List.length_nil, List.replicate, List.cons_append, List.nil_append, Option.map_some, Option.map_none, if_true, cond_true, cond_false, Bool.not_true, Bool.not_false, Nat.add_sub_cancel, Nat.sub_self, Nat.zero_add, Nat.reduceAdd, Nat.reduceSub, true_and, and_true]
        refine ⟨x, y, rfl, hx1, hy1, by omega, by omega, by omega, by omega, by omega, ?_⟩
        have h2 := hz2.2
        exact ⟨_, _, _, _, _, rfl, by rw [h2]; omega⟩
      · obtain ⟨s2, s3, s4, s5, s6, rfl, hb⟩ := hi
        simp only [sCons_, sIf_, sRet_, sNil_, sSet_, sOwn_, sAppend_, sExtend_, onSq_l, onSq_t, sPop_, sPar_, sAsg_, sAug_, sRetN_, sDrop_, sRaise_, sFreeze_, sSetI_, sBreak_, sCont_, sTry_, dAct, dLam, dGet2, dDisp, rdReprX_l, rdReprX_t, onDict_, onKey_i, onKey_s, toOV, ofOV, dOr, dAnd, dNot, dB, dIsi, dVar_0, dVar_s, dVarB_0, dVarB_l, dVarB_s, dChain, dC, dCall, aCons, aNil, aVar, allIm_0, allIm_1, allIm_2, d2, dAllIn, startD, svOf, gN, gsC_, gsN, dTup, dCons, dNil, dLst, dAddL, dMulL, dF, dIf, dAndV, dOrV, dNotV, dNeg, dIter, dRng1, dRng2, dRng3, dEnum, dZip, dYes, dSl, dNo, dSo, dFn, wipeR, onB_, onI_, onIt_l, onIt_t, onIt_s, kRng1_, kRng2_, kRng3_, kEnum_l, kEnum_t, kZip_l, kZip_t, cutQ_t, cutQ_l, cutQ_s, rdI_, rdI0_, rdB0_, rdAdd_i, rdAdd_s, rdAdd_t, rdAdd_l, rdMul_i, rdMul_l, rdMul_t, rdEq_i, rdEq_s, rdEq0_l, rdEq0_ln, rdEq0_t, rdOrd_i, rdIsN_, rdIsN_n, rdIx_t, rdIx_l, rdIx_s, rdLen_l, rdLen_t, rdLen_s, rdTup_l, rdTup_t, rdList_l, rdList_t, rdInt_, rdSum_, rdMax_l, rdMax_i, rdMin_i, gT_, List.map_cons, List.map_nil, List.getElem?_cons_zero, List.getElem?_cons_succ, List.set_cons_zero, List.set_cons_succ, List.length_cons, List.length_nil, List.replicate, List.cons_append, List.nil_append, Option.map_some, Option.map_none, if_true, cond_true, cond_false, Bool.not_true, Bool.not_false, Nat.add_sub_cancel, Nat.sub_self, Nat.zero_add, Nat.reduceAdd, Nat.reduceSub, true_and, and_true]
        have c1 := chk_doc (d := .nd "a9zz9zz0" []) (by decide +kernel) (by decide +kernel) (by decide +kernel)
        have c2 := chk_doc (d := .nd "z" [.nd "a" []]) (by decide +kernel) (by decide +kernel) (by decide +kernel)
        refine ⟨_, 2001, none, rfl, by decide +kernel, c1, .nd "a9zz9zz0" [], rfl, by decide +kernel, ?_⟩
        refine ⟨_, 2001, none, rfl, by decide +kernel, c2, .nd "z" [.nd "a" []], rfl, by decide +kernel, ?_⟩
        have s1 : (Doc.nd "a9zz9zz0" []).size = 1 := by decide +kernel
        have s2 : (Doc.nd "z" [.nd "a" []]).deep = 2 := by decide +kernel
        have hR : Rp 10 1 (.list [.int 1, .int 2]) := (rp_list (rps_cons (m := 0) (rp_int (by decide) (by decide)) (rps_cons (rp_int (by decide) (by decide)) rps_nil))).mono (by decide) (by decide)
        show spLike [.im (.list [.int ((Doc.nd "a9zz9zz0" []).size : Nat), .int ((Doc.nd "z" [.nd "a" []]).deep : Nat)]), .im (.list [.int 1, .int 2])] b2 (fun d x => d = PyData.bool true) R0
        rw [s1, s2]
        exact ⟨_, rfl, rfl, hR.sh, hR.len (by decide), Nat.le_trans hR.dp (by decide), rfl⟩
    · have hd : d = .bool true := hd
      subst hd
      have := hx.inv_bl
      subst this
      exact q _
end
end K00

set_option Elab.async false
set_option linter.all false
set_option maxRecDepth 100000
set_option maxHeartbeats 0
/-! K0z: the head's facts, the end of law_k00. -/
namespace K00
open PySem PySem.Spec PyProof.Rows L2 Lf Df
open GxR (TabB TabG Tabbed)
/-! ### what the Hook tells -/
def d_is_whole : He.DefD := ⟨("is_whole", none), "is_whole", "is_whole", defArgs s_is_whole, defBody s_is_whole, defScope s_is_whole, [], []⟩
def d_is_name : He.DefD := ⟨("is_name", none), "is_name", "is_name", defArgs s_is_name, defBody s_is_name, defScope s_is_name, [], []⟩
def d_check_document : He.DefD := ⟨("check_document", none), "check_document", "check_document", defArgs s_check_document, defBody s_check_document, defScope s_check_document, [], []⟩
def d_need_document : He.DefD := ⟨("need_document", none), "need_document", "need_document", defArgs s_need_document, defBody s_need_document, defScope s_need_document, [], []⟩
def d_count_names : He.DefD := ⟨("count_names", none), "count_names", "count_names", defArgs s_count_names, defBody s_count_names, defScope s_count_names, [], []⟩
def d_count_depth : He.DefD := ⟨("count_depth", none), "count_depth", "count_depth", defArgs s_count_depth, defBody s_count_depth, defScope s_count_depth, [], []⟩
def d_size_of : He.DefD := ⟨("size_of", none), "size_of", "size_of", defArgs s_size_of, defBody s_size_of, defScope s_size_of, [], []⟩
def d_depth_of : He.DefD := ⟨("depth_of", none), "depth_of", "depth_of", defArgs s_depth_of, defBody s_depth_of, defScope s_depth_of, [], []⟩
def d_all_places : He.DefD := ⟨("all_places", none), "all_places", "all_places", defArgs s_all_places, defBody s_all_places, defScope s_all_places, [], []⟩
def d_places_of : He.DefD := ⟨("places_of", none), "places_of", "places_of", defArgs s_places_of, defBody s_places_of, defScope s_places_of, [], []⟩
def d_is_place : He.DefD := ⟨("is_place", none), "is_place", "is_place", defArgs s_is_place, defBody s_is_place, defScope s_is_place, [], []⟩
def d_part_there : He.DefD := ⟨("part_there", none), "part_there", "part_there", defArgs s_part_there, defBody s_part_there, defScope s_part_there, [], []⟩
def d_with_part : He.DefD := ⟨("with_part", none), "with_part", "with_part", defArgs s_with_part, defBody s_with_part, defScope s_with_part, [], []⟩
def d_part_at : He.DefD := ⟨("part_at", none), "part_at", "part_at", defArgs s_part_at, defBody s_part_at, defScope s_part_at, [], []⟩
def d_put_at : He.DefD := ⟨("put_at", none), "put_at", "put_at", defArgs s_put_at, defBody s_put_at, defScope s_put_at, [], []⟩
def d__law_begin : He.DefD := ⟨("_law_begin", none), "_law_begin", "_law_begin", defArgs s__law_begin, defBody s__law_begin, defScope s__law_begin, [], []⟩
def d__law_mixed : He.DefD := ⟨("_law_mixed", none), "_law_mixed", "_law_mixed", defArgs s__law_mixed, defBody s__law_mixed, defScope s__law_mixed, [], []⟩
def d__law_draw : He.DefD := ⟨("_law_draw", none), "_law_draw", "_law_draw", defArgs s__law_draw, defBody s__law_draw, defScope s__law_draw, [], []⟩
def d__law_of : He.DefD := ⟨("_law_of", none), "_law_of", "_law_of", defArgs s__law_of, defBody s__law_of, defScope s__law_of, [], []⟩
def d__law_key : He.DefD := ⟨("_law_key", none), "_law_key", "_law_key", defArgs s__law_key, defBody s__law_key, defScope s__law_key, [], []⟩
def d__law_firsts : He.DefD := ⟨("_law_firsts", none), "_law_firsts", "_law_firsts", defArgs s__law_firsts, defBody s__law_firsts, defScope s__law_firsts, [], []⟩
def d__law_reached : He.DefD := ⟨("_law_reached", none), "_law_reached", "_law_reached", defArgs s__law_reached, defBody s__law_reached, defScope s__law_reached, [], []⟩
def d__law_shape : He.DefD := ⟨("_law_shape", none), "_law_shape", "_law_shape", defArgs s__law_shape, defBody s__law_shape, defScope s__law_shape, [], []⟩
def d__law_document : He.DefD := ⟨("_law_document", none), "_law_document", "_law_document", defArgs s__law_document, defBody s__law_document, defScope s__law_document, [], []⟩
def d__law_with : He.DefD := ⟨("_law_with", none), "_law_with", "_law_with", defArgs s__law_with, defBody s__law_with, defScope s__law_with, [], []⟩
def d__law_size : He.DefD := ⟨("_law_size", none), "_law_size", "_law_size", defArgs s__law_size, defBody s__law_size, defScope s__law_size, [], []⟩
def d__law_like : He.DefD := ⟨("_law_like", none), "_law_like", "_law_like", defArgs s__law_like, defBody s__law_like, defScope s__law_like, [], []⟩
def d__law_caught : He.DefD := ⟨("_law_caught", none), "_law_caught", "_law_caught", defArgs s__law_caught, defBody s__law_caught, defScope s__law_caught, [], []⟩
def d__law_places : He.DefD := ⟨("_law_places", none), "_law_places", "_law_places", defArgs s__law_places, defBody s__law_places, defScope s__law_places, [], []⟩
def d__law_depth : He.DefD := ⟨("_law_depth", none), "_law_depth", "_law_depth", defArgs s__law_depth, defBody s__law_depth, defScope s__law_depth, [], []⟩
def d__law_there : He.DefD := ⟨("_law_there", none), "_law_there", "_law_there", defArgs s__law_there, defBody s__law_there, defScope s__law_there, [], []⟩
def d__law_right : He.DefD := ⟨("_law_right", none), "_law_right", "_law_right", defArgs s__law_right, defBody s__law_right, defScope s__law_right, [], []⟩
def d__law_bent : He.DefD := ⟨("_law_bent", none), "_law_bent", "_law_bent", defArgs s__law_bent, defBody s__law_bent, defScope s__law_bent, [], []⟩
def d__law_refused : He.DefD := ⟨("_law_refused", none), "_law_refused", "_law_refused", defArgs s__law_refused, defBody s__law_refused, defScope s__law_refused, [], []⟩
def d_law : He.DefD := ⟨("law", none), "law", "law", defArgs s_law, defBody s_law, defScope s_law, [], []⟩
def fn : List He.DefD := [d_is_whole, d_is_name, d_check_document, d_need_document, d_count_names, d_count_depth, d_size_of, d_depth_of, d_all_places, d_places_of, d_is_place, d_part_there, d_with_part, d_part_at, d_put_at, d__law_begin, d__law_mixed, d__law_draw, d__law_of, d__law_key, d__law_firsts, d__law_reached, d__law_shape, d__law_document, d__law_with, d__law_size, d__law_like, d__law_caught, d__law_places, d__law_depth, d__law_there, d__law_right, d__law_bent, d__law_refused, d_law]
def fa : List He.Fa := [.glo "is_whole", .glo "is_name", .glo "check_document", .glo "need_document", .glo "count_names", .glo "count_depth", .glo "size_of", .glo "depth_of", .glo "all_places", .glo "places_of", .glo "is_place", .glo "part_there", .glo "with_part", .glo "part_at", .glo "put_at", .glo "_law_begin", .glo "_law_mixed", .glo "_law_draw", .glo "_law_of", .glo "_law_key", .glo "_law_firsts", .glo "_law_reached", .glo "_law_shape", .glo "_law_document", .glo "_law_with", .glo "_law_size", .glo "_law_like", .glo "_law_caught", .glo "_law_places", .glo "_law_depth", .glo "_law_there", .glo "_law_right", .glo "_law_bent", .glo "_law_refused", .glo "law", .glo "BadDocument", .glo "BadPlace", .glo "LeafError", .free "len", .free "isinstance", .free "str", .free "tuple", .free "list", .free "int", .free "all", .free "sum", .free "range", .free "enumerate", .free "zip", .free "repr", .free "sorted", .free "max", .free "bool", .free "super", .str "SMALL" smalls, .str "SIGNS" Lf.signs, .int "LONGEST" 8, .int "MOST_NAMES" 2000, .int "MOST_DEEP" 100, .int "MOST_PARTS" 3]
def sI1 : Stmt := match topS 2 with
  | .ClassDef _ _ _ (s :: _) .. => s
  | _ => .Pass ⟨0, 0, 0, 0⟩
def ia1 (K : PySem.W.Frag) : Addr := He.ma K (He.ga K "BadDocument") "__init__"
def iv1 : FnC := some ("__init__", "BadDocument.__init__", defArgs sI1, .stmts (defBody sI1), defScope sI1, mainGlobals, ["__class__"], builtinsNs)
def sI2 : Stmt := match topS 3 with
  | .ClassDef _ _ _ (s :: _) .. => s
  | _ => .Pass ⟨0, 0, 0, 0⟩
def ia2 (K : PySem.W.Frag) : Addr := He.ma K (He.ga K "BadPlace") "__init__"
def iv2 : FnC := some ("__init__", "BadPlace.__init__", defArgs sI2, .stmts (defBody sI2), defScope sI2, mainGlobals, ["__class__"], builtinsNs)
def ex (K : PySem.W.Frag) : Bool := supB K (He.ga K "BadDocument") (ia1 K) "place" "BadDocument.__init__" PySem.Challenge.pw_everyleaf_k00_whole_documents_and_places.main.file && (supB K (He.ga K "BadPlace") (ia2 K) "value" "BadPlace.__init__" PySem.Challenge.pw_everyleaf_k00_whole_documents_and_places.main.file && (isB K (He.ga K "BadDocument") (He.ga K "LeafError") && (isB K (He.ga K "BadPlace") (He.ga K "LeafError") &&
  (decide (PySem.W.exmOne K (.ref (He.ga K "BadDocument")) (.ref (He.ga K "BadDocument")) = some true) && (decide (PySem.W.exmOne K (.ref (He.ga K "BadPlace")) (.ref (He.ga K "BadDocument")) = some false) && (decide (PySem.W.exmOne K (.ref (He.ga K "BadPlace")) (.ref (He.ga K "BadPlace")) = some true) &&
  ((K.lookup sysModules).isSome && (decide ((He.cT K ("is_name", none)).2 ≠ (He.cT K ("_law_right", none)).2) && (decide ((He.cT K ("is_name", none)).2 ≠ (He.cT K ("_law_refused", none)).2) && decide ((He.cT K ("_law_right", none)).2 ≠ (He.cT K ("_law_refused", none)).2))))))))))
def tf : List He.Defn := [("is_name", none), ("_law_right", none), ("_law_refused", none)]
abbrev hk : PySem.W.Hook := hookL 4 fa fn tf ex (fun K => [ia1 K, ia2 K]) [iv1, iv2]
def ob (s : PySem.W.SharedT) : AlL := obsL 4 fa fn tf ex (fun K => [ia1 K, ia2 K]) (HandSHeadRun.getT s)
theorem ob_eq (s : PySem.W.SharedT) : ob s = hk.obs s.abs := obsL_eq (HandSHeadRun.getT_eq s)
def loose0 : List PySem.Str := ["LeafError", "BadDocument", "BadPlace", "SMALL", "SIGNS", "LONGEST", "is_whole", "is_name", "MOST_NAMES", "MOST_DEEP", "MOST_PARTS", "check_document", "need_document", "count_names", "count_depth", "size_of"]
def loose1 : List PySem.Str := ["depth_of", "all_places", "places_of", "is_place", "part_there", "with_part", "part_at", "put_at", "_law_begin", "_law_mixed", "_law_draw", "_law_of", "_law_key", "_law_firsts", "_law_reached", "_law_shape"]
def loose2 : List PySem.Str := ["_law_document", "_law_with", "_law_size", "_law_like", "_law_caught", "_law_places", "_law_depth", "_law_there", "_law_right", "_law_bent", "_law_refused"]
def loose : List PySem.Str := loose0 ++ loose1 ++ loose2
theorem run (w : World) : HandSHeadRun.RunEq R (PySem.W.view R.prog [47]) hk ob 4000 loose w := by
  intro os
  kernel_rfl
/-! ### the facts, used -/
theorem code_of {K : PySem.W.Frag} {p : He.Defn} {x qual : Str} {params : Arguments} {body : List Stmt} {scope : Scope} {dvs : List V} {kws : List (Str × V)} {fd : FuncData} (F : FunD K x qual params body scope dvs kws (He.fAd K p) fd) : fd.code = .ref (He.codeOf K p) := by
  obtain ⟨oc, od, dV, kV, doc, pm, an, cdv, ct, osl, rfl, lk, hcd, _, _⟩ := F.ex
  obtain ⟨c, rfl⟩ := He.codeIn_ref hcd
  exact congrArg Value.ref (He.codeOf_eq lk rfl).symm
section
variable {P : Program} {w : World} {K : PySem.W.Frag} {mg : Str → Option Value} {h : Heap}
theorem def_is_whole (X : K.In h) (G : h.Ns mainGlobals mg) (c : He.SaysD fa fn K) : ∃ fd, Def K mg "is_whole" ["value"] s_is_whole (He.ga K "is_whole") fd := by
  obtain ⟨fd, F⟩ := c.def_ 0 (d := d_is_whole) rfl
  exact ⟨fd, ⟨He5.fun_of F, He.glo_ok X G (c.fact 0 (f := .glo "is_whole") rfl), FunD.bindsN (ps := ["value"]) F fun _ _ _ _ _ _ us hl => match us, hl with | [_], _ => rfl⟩⟩
theorem def_is_name (X : K.In h) (G : h.Ns mainGlobals mg) (c : He.SaysD fa fn K) : ∃ fd, Def K mg "is_name" ["value"] s_is_name (He.ga K "is_name") fd ∧ fd.code = .ref (He.cT K ("is_name", none)).1 := by
  obtain ⟨fd, F⟩ := c.def_ 1 (d := d_is_name) rfl
  exact ⟨fd, ⟨⟨He5.fun_of F, He.glo_ok X G (c.fact 1 (f := .glo "is_name") rfl), FunD.bindsN (ps := ["value"]) F fun _ _ _ _ _ _ us hl => match us, hl with | [_], _ => rfl⟩, code_of F⟩⟩
theorem def_check_document (X : K.In h) (G : h.Ns mainGlobals mg) (c : He.SaysD fa fn K) : ∃ fd, Def K mg "check_document" ["value"] s_check_document (He.ga K "check_document") fd := by
  obtain ⟨fd, F⟩ := c.def_ 2 (d := d_check_document) rfl
  exact ⟨fd, ⟨He5.fun_of F, He.glo_ok X G (c.fact 2 (f := .glo "check_document") rfl), FunD.bindsN (ps := ["value"]) F fun _ _ _ _ _ _ us hl => match us, hl with | [_], _ => rfl⟩⟩
theorem def_need_document (X : K.In h) (G : h.Ns mainGlobals mg) (c : He.SaysD fa fn K) : ∃ fd, Def K mg "need_document" ["document"] s_need_document (He.ga K "need_document") fd := by
  obtain ⟨fd, F⟩ := c.def_ 3 (d := d_need_document) rfl
  exact ⟨fd, ⟨He5.fun_of F, He.glo_ok X G (c.fact 3 (f := .glo "need_document") rfl), FunD.bindsN (ps := ["document"]) F fun _ _ _ _ _ _ us hl => match us, hl with | [_], _ => rfl⟩⟩
theorem def_count_names (X : K.In h) (G : h.Ns mainGlobals mg) (c : He.SaysD fa fn K) : ∃ fd, Def K mg "count_names" ["document"] s_count_names (He.ga K "count_names") fd := by
  obtain ⟨fd, F⟩ := c.def_ 4 (d := d_count_names) rfl
  exact ⟨fd, ⟨He5.fun_of F, He.glo_ok X G (c.fact 4 (f := .glo "count_names") rfl), FunD.bindsN (ps := ["document"]) F fun _ _ _ _ _ _ us hl => match us, hl with | [_], _ => rfl⟩⟩
theorem def_count_depth (X : K.In h) (G : h.Ns mainGlobals mg) (c : He.SaysD fa fn K) : ∃ fd, Def K mg "count_depth" ["document"] s_count_depth (He.ga K "count_depth") fd := by
  obtain ⟨fd, F⟩ := c.def_ 5 (d := d_count_depth) rfl
  exact ⟨fd, ⟨He5.fun_of F, He.glo_ok X G (c.fact 5 (f := .glo "count_depth") rfl), FunD.bindsN (ps := ["document"]) F fun _ _ _ _ _ _ us hl => match us, hl with | [_], _ => rfl⟩⟩
theorem def_size_of (X : K.In h) (G : h.Ns mainGlobals mg) (c : He.SaysD fa fn K) : ∃ fd, Def K mg "size_of" ["document"] s_size_of (He.ga K "size_of") fd := by
  obtain ⟨fd, F⟩ := c.def_ 6 (d := d_size_of) rfl
  exact ⟨fd, ⟨He5.fun_of F, He.glo_ok X G (c.fact 6 (f := .glo "size_of") rfl), FunD.bindsN (ps := ["document"]) F fun _ _ _ _ _ _ us hl => match us, hl with | [_], _ => rfl⟩⟩
theorem def_depth_of (X : K.In h) (G : h.Ns mainGlobals mg) (c : He.SaysD fa fn K) : ∃ fd, Def K mg "depth_of" ["document"] s_depth_of (He.ga K "depth_of") fd := by
  obtain ⟨fd, F⟩ := c.def_ 7 (d := d_depth_of) rfl
  exact ⟨fd, ⟨He5.fun_of F, He.glo_ok X G (c.fact 7 (f := .glo "depth_of") rfl), FunD.bindsN (ps := ["document"]) F fun _ _ _ _ _ _ us hl => match us, hl with | [_], _ => rfl⟩⟩
theorem def_all_places (X : K.In h) (G : h.Ns mainGlobals mg) (c : He.SaysD fa fn K) : ∃ fd, Def K mg "all_places" ["document"] s_all_places (He.ga K "all_places") fd := by
  obtain ⟨fd, F⟩ := c.def_ 8 (d := d_all_places) rfl
  exact ⟨fd, ⟨He5.fun_of F, He.glo_ok X G (c.fact 8 (f := .glo "all_places") rfl), FunD.bindsN (ps := ["document"]) F fun _ _ _ _ _ _ us hl => match us, hl with | [_], _ => rfl⟩⟩
theorem def_places_of (X : K.In h) (G : h.Ns mainGlobals mg) (c : He.SaysD fa fn K) : ∃ fd, Def K mg "places_of" ["document"] s_places_of (He.ga K "places_of") fd := by
  obtain ⟨fd, F⟩ := c.def_ 9 (d := d_places_of) rfl
  exact ⟨fd, ⟨He5.fun_of F, He.glo_ok X G (c.fact 9 (f := .glo "places_of") rfl), FunD.bindsN (ps := ["document"]) F fun _ _ _ _ _ _ us hl => match us, hl with | [_], _ => rfl⟩⟩
theorem def_is_place (X : K.In h) (G : h.Ns mainGlobals mg) (c : He.SaysD fa fn K) : ∃ fd, Def K mg "is_place" ["document", "value"] s_is_place (He.ga K "is_place") fd := by
  obtain ⟨fd, F⟩ := c.def_ 10 (d := d_is_place) rfl
  exact ⟨fd, ⟨He5.fun_of F, He.glo_ok X G (c.fact 10 (f := .glo "is_place") rfl), FunD.bindsN (ps := ["document", "value"]) F fun _ _ _ _ _ _ us hl => match us, hl with | [_, _], _ => rfl⟩⟩
theorem def_part_there (X : K.In h) (G : h.Ns mainGlobals mg) (c : He.SaysD fa fn K) : ∃ fd, Def K mg "part_there" ["document", "place"] s_part_there (He.ga K "part_there") fd := by
  obtain ⟨fd, F⟩ := c.def_ 11 (d := d_part_there) rfl
  exact ⟨fd, ⟨He5.fun_of F, He.glo_ok X G (c.fact 11 (f := .glo "part_there") rfl), FunD.bindsN (ps := ["document", "place"]) F fun _ _ _ _ _ _ us hl => match us, hl with | [_, _], _ => rfl⟩⟩
theorem def_with_part (X : K.In h) (G : h.Ns mainGlobals mg) (c : He.SaysD fa fn K) : ∃ fd, Def K mg "with_part" ["document", "place", "part"] s_with_part (He.ga K "with_part") fd := by
  obtain ⟨fd, F⟩ := c.def_ 12 (d := d_with_part) rfl
  exact ⟨fd, ⟨He5.fun_of F, He.glo_ok X G (c.fact 12 (f := .glo "with_part") rfl), FunD.bindsN (ps := ["document", "place", "part"]) F fun _ _ _ _ _ _ us hl => match us, hl with | [_, _, _], _ => rfl⟩⟩
theorem def_part_at (X : K.In h) (G : h.Ns mainGlobals mg) (c : He.SaysD fa fn K) : ∃ fd, Def K mg "part_at" ["document", "place"] s_part_at (He.ga K "part_at") fd := by
  obtain ⟨fd, F⟩ := c.def_ 13 (d := d_part_at) rfl
  exact ⟨fd, ⟨He5.fun_of F, He.glo_ok X G (c.fact 13 (f := .glo "part_at") rfl), FunD.bindsN (ps := ["document", "place"]) F fun _ _ _ _ _ _ us hl => match us, hl with | [_, _], _ => rfl⟩⟩
theorem def_put_at (X : K.In h) (G : h.Ns mainGlobals mg) (c : He.SaysD fa fn K) : ∃ fd, Def K mg "put_at" ["document", "place", "part"] s_put_at (He.ga K "put_at") fd := by
  obtain ⟨fd, F⟩ := c.def_ 14 (d := d_put_at) rfl
  exact ⟨fd, ⟨He5.fun_of F, He.glo_ok X G (c.fact 14 (f := .glo "put_at") rfl), FunD.bindsN (ps := ["document", "place", "part"]) F fun _ _ _ _ _ _ us hl => match us, hl with | [_, _, _], _ => rfl⟩⟩
theorem def__law_begin (X : K.In h) (G : h.Ns mainGlobals mg) (c : He.SaysD fa fn K) : ∃ fd, Def K mg "_law_begin" ["script"] s__law_begin (He.ga K "_law_begin") fd := by
  obtain ⟨fd, F⟩ := c.def_ 15 (d := d__law_begin) rfl
  exact ⟨fd, ⟨He5.fun_of F, He.glo_ok X G (c.fact 15 (f := .glo "_law_begin") rfl), FunD.bindsN (ps := ["script"]) F fun _ _ _ _ _ _ us hl => match us, hl with | [_], _ => rfl⟩⟩
theorem def__law_mixed (X : K.In h) (G : h.Ns mainGlobals mg) (c : He.SaysD fa fn K) : ∃ fd, Def K mg "_law_mixed" ["cell", "k"] s__law_mixed (He.ga K "_law_mixed") fd := by
  obtain ⟨fd, F⟩ := c.def_ 16 (d := d__law_mixed) rfl
  exact ⟨fd, ⟨He5.fun_of F, He.glo_ok X G (c.fact 16 (f := .glo "_law_mixed") rfl), FunD.bindsN (ps := ["cell", "k"]) F fun _ _ _ _ _ _ us hl => match us, hl with | [_, _], _ => rfl⟩⟩
theorem def__law_draw (X : K.In h) (G : h.Ns mainGlobals mg) (c : He.SaysD fa fn K) : ∃ fd, Def K mg "_law_draw" ["state", "limit"] s__law_draw (He.ga K "_law_draw") fd := by
  obtain ⟨fd, F⟩ := c.def_ 17 (d := d__law_draw) rfl
  exact ⟨fd, ⟨He5.fun_of F, He.glo_ok X G (c.fact 17 (f := .glo "_law_draw") rfl), FunD.bindsN (ps := ["state", "limit"]) F fun _ _ _ _ _ _ us hl => match us, hl with | [_, _], _ => rfl⟩⟩
theorem def__law_of (X : K.In h) (G : h.Ns mainGlobals mg) (c : He.SaysD fa fn K) : ∃ fd, Def K mg "_law_of" ["state", "some"] s__law_of (He.ga K "_law_of") fd := by
  obtain ⟨fd, F⟩ := c.def_ 18 (d := d__law_of) rfl
  exact ⟨fd, ⟨He5.fun_of F, He.glo_ok X G (c.fact 18 (f := .glo "_law_of") rfl), FunD.bindsN (ps := ["state", "some"]) F fun _ _ _ _ _ _ us hl => match us, hl with | [_, _], _ => rfl⟩⟩
theorem def__law_key (X : K.In h) (G : h.Ns mainGlobals mg) (c : He.SaysD fa fn K) : ∃ fd, Def K mg "_law_key" ["document"] s__law_key (He.ga K "_law_key") fd := by
  obtain ⟨fd, F⟩ := c.def_ 19 (d := d__law_key) rfl
  exact ⟨fd, ⟨He5.fun_of F, He.glo_ok X G (c.fact 19 (f := .glo "_law_key") rfl), FunD.bindsN (ps := ["document"]) F fun _ _ _ _ _ _ us hl => match us, hl with | [_], _ => rfl⟩⟩
theorem def__law_firsts (X : K.In h) (G : h.Ns mainGlobals mg) (c : He.SaysD fa fn K) : ∃ fd, Def K mg "_law_firsts" ["shape_so"] s__law_firsts (He.ga K "_law_firsts") fd := by
  obtain ⟨fd, F⟩ := c.def_ 20 (d := d__law_firsts) rfl
  exact ⟨fd, ⟨He5.fun_of F, He.glo_ok X G (c.fact 20 (f := .glo "_law_firsts") rfl), FunD.bindsN (ps := ["shape_so"]) F fun _ _ _ _ _ _ us hl => match us, hl with | [_], _ => rfl⟩⟩
theorem def__law_reached (X : K.In h) (G : h.Ns mainGlobals mg) (c : He.SaysD fa fn K) : ∃ fd, Def K mg "_law_reached" ["shape_so"] s__law_reached (He.ga K "_law_reached") fd := by
  obtain ⟨fd, F⟩ := c.def_ 21 (d := d__law_reached) rfl
  exact ⟨fd, ⟨He5.fun_of F, He.glo_ok X G (c.fact 21 (f := .glo "_law_reached") rfl), FunD.bindsN (ps := ["shape_so"]) F fun _ _ _ _ _ _ us hl => match us, hl with | [_], _ => rfl⟩⟩
theorem def__law_shape (X : K.In h) (G : h.Ns mainGlobals mg) (c : He.SaysD fa fn K) : ∃ fd, Def K mg "_law_shape" ["state", "most", "wide"] s__law_shape (He.ga K "_law_shape") fd := by
  obtain ⟨fd, F⟩ := c.def_ 22 (d := d__law_shape) rfl
  exact ⟨fd, ⟨He5.fun_of F, He.glo_ok X G (c.fact 22 (f := .glo "_law_shape") rfl), FunD.bindsN (ps := ["state", "most", "wide"]) F fun _ _ _ _ _ _ us hl => match us, hl with | [_, _, _], _ => rfl⟩⟩
theorem def__law_document (X : K.In h) (G : h.Ns mainGlobals mg) (c : He.SaysD fa fn K) : ∃ fd, Def K mg "_law_document" ["state", "shape_so", "firsts_so", "kind", "deep"] s__law_document (He.ga K "_law_document") fd := by
  obtain ⟨fd, F⟩ := c.def_ 23 (d := d__law_document) rfl
  exact ⟨fd, ⟨He5.fun_of F, He.glo_ok X G (c.fact 23 (f := .glo "_law_document") rfl), FunD.bindsN (ps := ["state", "shape_so", "firsts_so", "kind", "deep"]) F fun _ _ _ _ _ _ us hl => match us, hl with | [_, _, _, _, _], _ => rfl⟩⟩
theorem def__law_with (X : K.In h) (G : h.Ns mainGlobals mg) (c : He.SaysD fa fn K) : ∃ fd, Def K mg "_law_with" ["output", "place", "part"] s__law_with (He.ga K "_law_with") fd := by
  obtain ⟨fd, F⟩ := c.def_ 24 (d := d__law_with) rfl
  exact ⟨fd, ⟨He5.fun_of F, He.glo_ok X G (c.fact 24 (f := .glo "_law_with") rfl), FunD.bindsN (ps := ["output", "place", "part"]) F fun _ _ _ _ _ _ us hl => match us, hl with | [_, _, _], _ => rfl⟩⟩
theorem def__law_size (X : K.In h) (G : h.Ns mainGlobals mg) (c : He.SaysD fa fn K) : ∃ fd, Def K mg "_law_size" ["document"] s__law_size (He.ga K "_law_size") fd := by
  obtain ⟨fd, F⟩ := c.def_ 25 (d := d__law_size) rfl
  exact ⟨fd, ⟨He5.fun_of F, He.glo_ok X G (c.fact 25 (f := .glo "_law_size") rfl), FunD.bindsN (ps := ["document"]) F fun _ _ _ _ _ _ us hl => match us, hl with | [_], _ => rfl⟩⟩
theorem def__law_like (X : K.In h) (G : h.Ns mainGlobals mg) (c : He.SaysD fa fn K) : ∃ fd, Def K mg "_law_like" ["got", "due"] s__law_like (He.ga K "_law_like") fd := by
  obtain ⟨fd, F⟩ := c.def_ 26 (d := d__law_like) rfl
  exact ⟨fd, ⟨He5.fun_of F, He.glo_ok X G (c.fact 26 (f := .glo "_law_like") rfl), FunD.bindsN (ps := ["got", "due"]) F fun _ _ _ _ _ _ us hl => match us, hl with | [_, _], _ => rfl⟩⟩
theorem def__law_caught (X : K.In h) (G : h.Ns mainGlobals mg) (c : He.SaysD fa fn K) : ∃ fd, Def K mg "_law_caught" ["call"] s__law_caught (He.ga K "_law_caught") fd := by
  obtain ⟨fd, F⟩ := c.def_ 27 (d := d__law_caught) rfl
  exact ⟨fd, ⟨He5.fun_of F, He.glo_ok X G (c.fact 27 (f := .glo "_law_caught") rfl), FunD.bindsN (ps := ["call"]) F fun _ _ _ _ _ _ us hl => match us, hl with | [_], _ => rfl⟩⟩
theorem def__law_places (X : K.In h) (G : h.Ns mainGlobals mg) (c : He.SaysD fa fn K) : ∃ fd, Def K mg "_law_places" ["document", "place"] s__law_places (He.ga K "_law_places") fd := by
  obtain ⟨fd, F⟩ := c.def_ 28 (d := d__law_places) rfl
  exact ⟨fd, ⟨He5.fun_of F, He.glo_ok X G (c.fact 28 (f := .glo "_law_places") rfl), FunD.bindsN (ps := ["document", "place"]) F fun _ _ _ _ _ _ us hl => match us, hl with | [_, _], _ => rfl⟩⟩
theorem def__law_depth (X : K.In h) (G : h.Ns mainGlobals mg) (c : He.SaysD fa fn K) : ∃ fd, Def K mg "_law_depth" ["document"] s__law_depth (He.ga K "_law_depth") fd := by
  obtain ⟨fd, F⟩ := c.def_ 29 (d := d__law_depth) rfl
  exact ⟨fd, ⟨He5.fun_of F, He.glo_ok X G (c.fact 29 (f := .glo "_law_depth") rfl), FunD.bindsN (ps := ["document"]) F fun _ _ _ _ _ _ us hl => match us, hl with | [_], _ => rfl⟩⟩
theorem def__law_there (X : K.In h) (G : h.Ns mainGlobals mg) (c : He.SaysD fa fn K) : ∃ fd, Def K mg "_law_there" ["output", "place"] s__law_there (He.ga K "_law_there") fd := by
  obtain ⟨fd, F⟩ := c.def_ 30 (d := d__law_there) rfl
  exact ⟨fd, ⟨He5.fun_of F, He.glo_ok X G (c.fact 30 (f := .glo "_law_there") rfl), FunD.bindsN (ps := ["output", "place"]) F fun _ _ _ _ _ _ us hl => match us, hl with | [_, _], _ => rfl⟩⟩
theorem def__law_right (X : K.In h) (G : h.Ns mainGlobals mg) (c : He.SaysD fa fn K) : ∃ fd, Def K mg "_law_right" ["state", "document", "other"] s__law_right (He.ga K "_law_right") fd ∧ fd.code = .ref (He.cT K ("_law_right", none)).1 := by
  obtain ⟨fd, F⟩ := c.def_ 31 (d := d__law_right) rfl
  exact ⟨fd, ⟨⟨He5.fun_of F, He.glo_ok X G (c.fact 31 (f := .glo "_law_right") rfl), FunD.bindsN (ps := ["state", "document", "other"]) F fun _ _ _ _ _ _ us hl => match us, hl with | [_, _, _], _ => rfl⟩, code_of F⟩⟩
theorem def__law_bent (X : K.In h) (G : h.Ns mainGlobals mg) (c : He.SaysD fa fn K) : ∃ fd, Def K mg "_law_bent" ["state", "document"] s__law_bent (He.ga K "_law_bent") fd := by
  obtain ⟨fd, F⟩ := c.def_ 32 (d := d__law_bent) rfl
  exact ⟨fd, ⟨He5.fun_of F, He.glo_ok X G (c.fact 32 (f := .glo "_law_bent") rfl), FunD.bindsN (ps := ["state", "document"]) F fun _ _ _ _ _ _ us hl => match us, hl with | [_, _], _ => rfl⟩⟩
theorem def__law_refused (X : K.In h) (G : h.Ns mainGlobals mg) (c : He.SaysD fa fn K) : ∃ fd, Def K mg "_law_refused" ["state", "document", "good"] s__law_refused (He.ga K "_law_refused") fd ∧ fd.code = .ref (He.cT K ("_law_refused", none)).1 := by
  obtain ⟨fd, F⟩ := c.def_ 33 (d := d__law_refused) rfl
  exact ⟨fd, ⟨⟨He5.fun_of F, He.glo_ok X G (c.fact 33 (f := .glo "_law_refused") rfl), FunD.bindsN (ps := ["state", "document", "good"]) F fun _ _ _ _ _ _ us hl => match us, hl with | [_, _, _], _ => rfl⟩, code_of F⟩⟩
theorem def_law (X : K.In h) (G : h.Ns mainGlobals mg) (c : He.SaysD fa fn K) : ∃ fd, Def K mg "law" ["script"] s_law (He.ga K "law") fd := by
  obtain ⟨fd, F⟩ := c.def_ 34 (d := d_law) rfl
  exact ⟨fd, ⟨He5.fun_of F, He.glo_ok X G (c.fact 34 (f := .glo "law") rfl), FunD.bindsN (ps := ["script"]) F fun _ _ _ _ _ _ us hl => match us, hl with | [_], _ => rfl⟩⟩
theorem txt (X : K.In h) (G : h.Ns mainGlobals mg) (c : He.SaysD fa fn K) : Txt mg where
  len := He.free_ok X G (c.fact 38 (f := .free "len") rfl)
  isinstance := He.free_ok X G (c.fact 39 (f := .free "isinstance") rfl)
  str := He.free_ok X G (c.fact 40 (f := .free "str") rfl)
  tuple := He.free_ok X G (c.fact 41 (f := .free "tuple") rfl)
  list := He.free_ok X G (c.fact 42 (f := .free "list") rfl)
  int := He.free_ok X G (c.fact 43 (f := .free "int") rfl)
  all := He.free_ok X G (c.fact 44 (f := .free "all") rfl)
  sum := He.free_ok X G (c.fact 45 (f := .free "sum") rfl)
  range := He.free_ok X G (c.fact 46 (f := .free "range") rfl)
  enumerate := He.free_ok X G (c.fact 47 (f := .free "enumerate") rfl)
  zip := He.free_ok X G (c.fact 48 (f := .free "zip") rfl)
  repr := He.free_ok X G (c.fact 49 (f := .free "repr") rfl)
  sorted := He.free_ok X G (c.fact 50 (f := .free "sorted") rfl)
  max := He.free_ok X G (c.fact 51 (f := .free "max") rfl)
  bool := He.free_ok X G (c.fact 52 (f := .free "bool") rfl)
  small := He.str_ok X G (c.fact 54 (f := .str "SMALL" smalls) rfl)
  sign := He.str_ok X G (c.fact 55 (f := .str "SIGNS" Lf.signs) rfl)
  longest := He.int_ok X G (c.fact 56 (f := .int "LONGEST" 8) rfl)
  names := He.int_ok X G (c.fact 57 (f := .int "MOST_NAMES" 2000) rfl)
  deeps := He.int_ok X G (c.fact 58 (f := .int "MOST_DEEP" 100) rfl)
  parts := He.int_ok X G (c.fact 59 (f := .int "MOST_PARTS" 3) rfl)
theorem sup1 (X : K.In h) (G : h.Ns mainGlobals mg) (c : SaysL fa fn tf ex (fun K => [ia1 K, ia2 K]) [iv1, iv2] h K) (b : supB K (He.ga K "BadDocument") (ia1 K) "place" "BadDocument.__init__" PySem.Challenge.pw_everyleaf_k00_whole_documents_and_places.main.file = true) : LfX.SupTxt (PySem.Challenge.rw_everyleaf_k00_whole_documents_and_places).prog K mg "BadDocument" (He.ga K "BadDocument") (ia1 K) "place" :=
  supTxt_of (qual := "BadDocument.__init__") b ((List.cons.inj c.ini).1) (He.glo_ok X G (c.d.fact 35 (f := .glo "BadDocument") rfl)) (He.free_ok X G (c.d.fact 53 (f := .free "super") rfl)) (by kernel_rfl) (.inl rfl) (fun env => by rfl)
theorem sup2 (X : K.In h) (G : h.Ns mainGlobals mg) (c : SaysL fa fn tf ex (fun K => [ia1 K, ia2 K]) [iv1, iv2] h K) (b : supB K (He.ga K "BadPlace") (ia2 K) "value" "BadPlace.__init__" PySem.Challenge.pw_everyleaf_k00_whole_documents_and_places.main.file = true) : LfX.SupTxt (PySem.Challenge.rw_everyleaf_k00_whole_documents_and_places).prog K mg "BadPlace" (He.ga K "BadPlace") (ia2 K) "value" :=
  supTxt_of (qual := "BadPlace.__init__") b ((List.cons.inj (List.cons.inj c.ini).2).1) (He.glo_ok X G (c.d.fact 36 (f := .glo "BadPlace") rfl)) (He.free_ok X G (c.d.fact 53 (f := .free "super") rfl)) (by kernel_rfl) (.inr rfl) (fun env => by rfl)
theorem exm {x y : Str} {a b : Addr} {k : Bool} (h1 : mg x = some (.ref a)) (h2 : mg y = some (.ref b)) (e : PySem.W.exmOne K (.ref a) (.ref b) = some k) : ExM K mg x y k := fun cls c e1 e2 => by
  rw [h1] at e1
  rw [h2] at e2
  cases e1
  cases e2
  exact e
end
abbrev PTs (K : PySem.W.Frag) : List (Addr × Option Str) := [((He.cT K ("is_name", none)).2, none), ((He.cT K ("_law_right", none)).2, some (lamQ "_law_right")), ((He.cT K ("_law_refused", none)).2, some (lamQ "_law_refused"))]
theorem lamB {base : Heap} {mg : Str → Option Value} {c P : Addr} (h : TabB base mg c P) : LamX.TabB base mg c P := ⟨h.code, h.bm, h.gP⟩
/-! ### law's promise -/
set_option maxHeartbeats 8000000 in
theorem law_all {w : World} {K : PySem.W.Frag} {mg : Str → Option Value} {h base : Heap} (X : K.In h) (G : h.Ns mainGlobals mg) (c : SaysL fa fn tf ex (fun K => [ia1 K, ia2 K]) [iv1, iv2] h K) (TB1 : TabB base mg (He.cT K ("is_name", none)).1 (He.cT K ("is_name", none)).2) (TB2 : TabB base mg (He.cT K ("_law_right", none)).1 (He.cT K ("_law_right", none)).2) (TB3 : TabB base mg (He.cT K ("_law_refused", none)).1 (He.cT K ("_law_refused", none)).2) :
    Pr (PySem.Challenge.rw_everyleaf_k00_whole_documents_and_places).prog w K mg base 60 "law" ["script"] (spLaw K (PTs K)) := by
  have T := txt X G c.d
  obtain ⟨b1, bb⟩ := He.ba c.more
  obtain ⟨b2, bb⟩ := He.ba bb
  obtain ⟨b3, bb⟩ := He.ba bb
  obtain ⟨b4, bb⟩ := He.ba bb
  obtain ⟨b5, bb⟩ := He.ba bb
  obtain ⟨b6, bb⟩ := He.ba bb
  obtain ⟨b7, bb⟩ := He.ba bb
  obtain ⟨b8, _⟩ := He.ba bb
  have TS1 := sup1 X G c b1
  have TS2 := sup2 X G c b2
  have m1 := He.glo_ok X G (c.d.fact 35 (f := .glo "BadDocument") rfl)
  have m2 := He.glo_ok X G (c.d.fact 36 (f := .glo "BadPlace") rfl)
  have m3 := He.glo_ok X G (c.d.fact 37 (f := .glo "LeafError") rfl)
  have TI1 : IsTxt K mg "BadDocument" "LeafError" true := ⟨_, _, m1, m3, isB_ok b3⟩
  have TI2 : IsTxt K mg "BadPlace" "LeafError" true := ⟨_, _, m2, m3, isB_ok b4⟩
  have X1 := exm (K := K) m1 m1 (of_decide_eq_true b5)
  have X2 := exm (K := K) m2 m1 (of_decide_eq_true b6)
  have X3 := exm (K := K) m2 m2 (of_decide_eq_true b7)
  obtain ⟨f_is_whole, D_is_whole⟩ := def_is_whole X G c.d
  obtain ⟨f_is_name, D_is_name, hc_is_name⟩ := def_is_name X G c.d
  obtain ⟨f_check_document, D_check_document⟩ := def_check_document X G c.d
  obtain ⟨f_need_document, D_need_document⟩ := def_need_document X G c.d
  obtain ⟨f_count_names, D_count_names⟩ := def_count_names X G c.d
  obtain ⟨f_count_depth, D_count_depth⟩ := def_count_depth X G c.d
  obtain ⟨f_size_of, D_size_of⟩ := def_size_of X G c.d
  obtain ⟨f_depth_of, D_depth_of⟩ := def_depth_of X G c.d
  obtain ⟨f_all_places, D_all_places⟩ := def_all_places X G c.d
  obtain ⟨f_places_of, D_places_of⟩ := def_places_of X G c.d
  obtain ⟨f_is_place, D_is_place⟩ := def_is_place X G c.d
  obtain ⟨f_part_there, D_part_there⟩ := def_part_there X G c.d
  obtain ⟨f_with_part, D_with_part⟩ := def_with_part X G c.d
  obtain ⟨f_part_at, D_part_at⟩ := def_part_at X G c.d
  obtain ⟨f_put_at, D_put_at⟩ := def_put_at X G c.d
  obtain ⟨f__law_begin, D__law_begin⟩ := def__law_begin X G c.d
  obtain ⟨f__law_mixed, D__law_mixed⟩ := def__law_mixed X G c.d
  obtain ⟨f__law_draw, D__law_draw⟩ := def__law_draw X G c.d
  obtain ⟨f__law_of, D__law_of⟩ := def__law_of X G c.d
  obtain ⟨f__law_key, D__law_key⟩ := def__law_key X G c.d
  obtain ⟨f__law_firsts, D__law_firsts⟩ := def__law_firsts X G c.d
  obtain ⟨f__law_reached, D__law_reached⟩ := def__law_reached X G c.d
  obtain ⟨f__law_shape, D__law_shape⟩ := def__law_shape X G c.d
  obtain ⟨f__law_document, D__law_document⟩ := def__law_document X G c.d
  obtain ⟨f__law_with, D__law_with⟩ := def__law_with X G c.d
  obtain ⟨f__law_size, D__law_size⟩ := def__law_size X G c.d
  obtain ⟨f__law_like, D__law_like⟩ := def__law_like X G c.d
  obtain ⟨f__law_caught, D__law_caught⟩ := def__law_caught X G c.d
  obtain ⟨f__law_places, D__law_places⟩ := def__law_places X G c.d
  obtain ⟨f__law_depth, D__law_depth⟩ := def__law_depth X G c.d
  obtain ⟨f__law_there, D__law_there⟩ := def__law_there X G c.d
  obtain ⟨f__law_right, D__law_right, hc__law_right⟩ := def__law_right X G c.d
  obtain ⟨f__law_bent, D__law_bent⟩ := def__law_bent X G c.d
  obtain ⟨f__law_refused, D__law_refused, hc__law_refused⟩ := def__law_refused X G c.d
  obtain ⟨f_law, D_law⟩ := def_law X G c.d
  have G_is_name := pr_is_name (P := (PySem.Challenge.rw_everyleaf_k00_whole_documents_and_places).prog) (w := w) (base := base) (PT := PTs K) (k := 0) T D_is_name hc_is_name TB1 (List.mem_cons_self ..)
  have G_check := pr_check_document T D_check_document G_is_name
  have G_need := pr_need_document T D_need_document TS1 G_check
  have G_whole := pr_is_whole (P := (PySem.Challenge.rw_everyleaf_k00_whole_documents_and_places).prog) (w := w) (base := base) (PT := PTs K) (k := 0) T D_is_whole
  have G_cn := pr_count_names (P := (PySem.Challenge.rw_everyleaf_k00_whole_documents_and_places).prog) (w := w) (base := base) (PT := PTs K) (k := 2) T D_count_names
  have G_cd := pr_count_depth (P := (PySem.Challenge.rw_everyleaf_k00_whole_documents_and_places).prog) (w := w) (base := base) (PT := PTs K) (k := 2) T D_count_depth
  have G_ap := pr_all_places (P := (PySem.Challenge.rw_everyleaf_k00_whole_documents_and_places).prog) (w := w) (base := base) (PT := PTs K) (k := 2) T D_all_places
  have G_size_of := pr_size_of T D_size_of G_need G_cn
  have G_depth_of := pr_depth_of T D_depth_of G_need G_cd
  have G_places_of := pr_places_of T D_places_of G_need G_ap
  have G_is_place := pr_is_place T D_is_place G_whole
  have G_part_there := pr_part_there (P := (PySem.Challenge.rw_everyleaf_k00_whole_documents_and_places).prog) (w := w) (base := base) (PT := PTs K) (k := 0) T D_part_there
  have G_with_part := pr_with_part (P := (PySem.Challenge.rw_everyleaf_k00_whole_documents_and_places).prog) (w := w) (base := base) (PT := PTs K) (k := 0) T D_with_part
  have G_part_at := pr_part_at (k := 3) T D_part_at TS2 (G_need.mono (by decide)) (G_is_place.mono (by decide)) (G_part_there.mono (by decide))
  have G_put_at := pr_put_at (k := 3) T D_put_at TS2 (G_need.mono (by decide)) (G_is_place.mono (by decide)) (G_with_part.mono (by decide))
  have G_mixed := pr__law_mixed (P := (PySem.Challenge.rw_everyleaf_k00_whole_documents_and_places).prog) (w := w) (base := base) (k := 0) T D__law_mixed
  have G_draw := pr__law_draw T D__law_draw G_mixed
  have G_of := pr__law_of T D__law_of G_draw
  have G_begin := pr__law_begin (P := (PySem.Challenge.rw_everyleaf_k00_whole_documents_and_places).prog) (w := w) (base := base) (k := 0) T D__law_begin
  have G_size := pr__law_size (P := (PySem.Challenge.rw_everyleaf_k00_whole_documents_and_places).prog) (w := w) (base := base) (k := 0) T D__law_size 10
  have G_lkey := pr__law_key (P := (PySem.Challenge.rw_everyleaf_k00_whole_documents_and_places).prog) (w := w) (base := base) (k := 0) T D__law_key 7
  have G_reach := pr__law_reached (P := (PySem.Challenge.rw_everyleaf_k00_whole_documents_and_places).prog) (w := w) (base := base) (k := 0) T D__law_reached
  have G_shape := pr__law_shape (k := 3) T D__law_shape (G_draw.mono (by decide)) (G_of.mono (by decide)) (G_reach.mono (by decide))
  have G_docs := pr__law_documents (k := 3) (m := 5) T D__law_document G_of (by decide)
  have G_firsts := pr__law_firstsS T D__law_firsts (key_d (PT := PTs K) G_lkey)
  have G_like := pr__law_like (P := (PySem.Challenge.rw_everyleaf_k00_whole_documents_and_places).prog) (w := w) (base := base) (PT := PTs K) (k := 0) T b8 D__law_like
  have G_there := pr__law_there (P := (PySem.Challenge.rw_everyleaf_k00_whole_documents_and_places).prog) (w := w) (base := base) (PT := PTs K) (k := 0) T D__law_there
  have G_with := pr__law_with (P := (PySem.Challenge.rw_everyleaf_k00_whole_documents_and_places).prog) (w := w) (base := base) (PT := PTs K) (k := 0) T D__law_with 10
  have G_depth := pr__law_depth (P := (PySem.Challenge.rw_everyleaf_k00_whole_documents_and_places).prog) (w := w) (base := base) (PT := PTs K) (k := 0) T D__law_depth 10
  have G_places := pr__law_places (P := (PySem.Challenge.rw_everyleaf_k00_whole_documents_and_places).prog) (w := w) (base := base) (PT := PTs K) (k := 0) T D__law_places 10
  have G_caught := pr__law_caught (P := (PySem.Challenge.rw_everyleaf_k00_whole_documents_and_places).prog) (w := w) (base := base) (PT := PTs K) (k := 20) T D__law_caught TS1 TS2 TI1 TI2 X1 X2 X3
  have G_right := pr__law_right (k := 20) T D__law_right hc__law_right (lamB TB2) (List.mem_cons_of_mem _ (List.mem_cons_self ..)) (G_need.mono (by decide)) (G_size_of.mono (by decide)) (G_depth_of.mono (by decide)) (G_places_of.mono (by decide)) (G_part_at.mono (by decide)) (G_put_at.mono (by decide)) (G_places.mono (by decide)) ((size_d (PT := PTs K) G_size).mono (by decide)) (G_depth.mono (by decide)) (G_like.mono (by decide)) (G_there.mono (by decide)) (G_with.mono (by decide)) ((of_d (PT := PTs K) G_of).mono (by decide)) G_caught
  have G_bent := pr__law_bent (k := 15) T D__law_bent (G_places.mono (by decide)) (G_there.mono (by decide)) (G_with.mono (by decide)) ((of_d (PT := PTs K) G_of).mono (by decide)) ((draw_d (PT := PTs K) G_draw).mono (by decide))
  have G_refused := pr__law_refused (k := 20) T D__law_refused hc__law_refused (lamB TB3) (List.mem_cons_of_mem _ (List.mem_cons_of_mem _ (List.mem_cons_self ..))) (G_need.mono (by decide)) (G_size_of.mono (by decide)) (G_depth_of.mono (by decide)) (G_places_of.mono (by decide)) (G_part_at.mono (by decide)) (G_put_at.mono (by decide)) (G_like.mono (by decide)) (G_bent.mono (by decide)) G_caught
  exact pr_law (PT := PTs K) (k := 59) T D_law (G_begin.mono (by decide)) ((shape_d (PT := PTs K) G_shape).mono (by decide)) (G_firsts.mono (by decide)) ((docs_d (PT := PTs K) G_docs).mono (by decide)) ((draw_d (PT := PTs K) G_draw).mono (by decide)) (G_right.mono (by decide)) (G_refused.mono (by decide)) (G_like.mono (by decide)) (G_size_of.mono (by decide)) (G_depth_of.mono (by decide))
end K00
open PySem PySem.W PySem.Calls PyProof.Rows
theorem PySem.Challenge.cw_everyleaf_k00_whole_documents_and_places_holds : PySem.Challenge.rw_everyleaf_k00_whole_documents_and_places.Holds := by
  w_on; o_law
  refine HandSHeadRun.head_any (r := OpenLaw.row PySem.Challenge.rw_everyleaf_k00_whole_documents_and_places) (q := view (OpenLaw.row PySem.Challenge.rw_everyleaf_k00_whole_documents_and_places).prog [47]) (H := K00.hk) (ob := K00.ob) (M := 4000) (loose := K00.loose) (d := HandSHeadRun.topDef (OpenLaw.row PySem.Challenge.rw_everyleaf_k00_whole_documents_and_places).prog 47) (kwd := []) K00.ob_eq
    (by kernel_rfl) (fun s => by kernel_rfl) K00.run (by kernel_rfl) (by kernel_rfl) (by kernel_rfl) (by rfl) (by first | assumption | decide +kernel) (by decide +kernel) ⟨rfl, rfl, rfl, rfl, rfl, by decide +kernel⟩ ?hw ?hc
  case hw => w_witness2
  case hc =>
    refine Lf.walk_ofG (l := PySem.Challenge.rw_everyleaf_k00_whole_documents_and_places) (n := 63) (k := 60) (x := "script") rfl (by decide) (by kernel_rfl) ⟨rfl, by decide, by decide⟩ ?F (fun w H s e s' z => by
      obtain ⟨_, _, _, _, _, _, _, _, _, _, _, _, z⟩ := z
      exact z)
    intro w mg fa h Y G hmg0
    obtain ⟨K, KX, c⟩ := Y
    have hnm : (HandSHeadRun.topDef (OpenLaw.row PySem.Challenge.rw_everyleaf_k00_whole_documents_and_places).prog 47).name = ("law" : PySem.Str) := by kernel_rfl
    have m1 : (("is_name", none) : He.Defn) ∈ K00.tf := List.mem_cons_self ..
    have m2 : (("_law_right", none) : He.Defn) ∈ K00.tf := List.mem_cons_of_mem _ (List.mem_cons_self ..)
    have m3 : (("_law_refused", none) : He.Defn) ∈ K00.tf := List.mem_cons_of_mem _ (List.mem_cons_of_mem _ (List.mem_cons_self ..))
    refine ⟨K, KX, [(He.cT K ("is_name", none)), (He.cT K ("_law_right", none)), (He.cT K ("_law_refused", none))], K00.spLaw K (K00.PTs K), fun p hp => ?_, fun p hp => ?_, fun p hp => ?_, fun H a ns hl hT hA hS => ?_, fun base X G2 TB => ?_⟩
    · rcases List.mem_cons.mp hp with rfl | hp
      · exact c.empty _ m1
      · rcases List.mem_cons.mp hp with rfl | hp
        · exact c.empty _ m2
        · rcases List.mem_cons.mp hp with rfl | hp
          · exact c.empty _ m3
          · cases hp
    · rcases List.mem_cons.mp hp with rfl | hp
      · exact c.out _ m1
      · rcases List.mem_cons.mp hp with rfl | hp
        · exact c.out _ m2
        · rcases List.mem_cons.mp hp with rfl | hp
          · exact c.out _ m3
          · cases hp
    · rcases List.mem_cons.mp hp with rfl | hp
      · exact codeHd_of_K KX (c.hd _ m1)
      · rcases List.mem_cons.mp hp with rfl | hp
        · exact codeHd_of_K KX (c.hd _ m2)
        · rcases List.mem_cons.mp hp with rfl | hp
          · exact codeHd_of_K KX (c.hd _ m3)
          · cases hp
    · have t1 := hT _ (List.mem_cons_self ..)
      have t2 := hT _ (List.mem_cons_of_mem _ (List.mem_cons_self ..))
      have t3 := hT _ (List.mem_cons_of_mem _ (List.mem_cons_of_mem _ (List.mem_cons_self ..)))
      have a1 := hA _ (List.mem_cons_self ..)
      have a2 := hA _ (List.mem_cons_of_mem _ (List.mem_cons_self ..))
      have a3 := hA _ (List.mem_cons_of_mem _ (List.mem_cons_of_mem _ (List.mem_cons_self ..)))
      obtain ⟨_, bb⟩ := He.ba c.more
      obtain ⟨_, bb⟩ := He.ba bb
      obtain ⟨_, bb⟩ := He.ba bb
      obtain ⟨_, bb⟩ := He.ba bb
      obtain ⟨_, bb⟩ := He.ba bb
      obtain ⟨_, bb⟩ := He.ba bb
      obtain ⟨_, bb⟩ := He.ba bb
      obtain ⟨_, bb⟩ := He.ba bb
      obtain ⟨n1, bb⟩ := He.ba bb
      obtain ⟨n2, n3⟩ := He.ba bb
      have nd : ((K00.PTs K).map (·.1)).Nodup := by
        have n1 := of_decide_eq_true n1
        have n2 := of_decide_eq_true n2
        have n3 := of_decide_eq_true n3
        simp only [List.map_cons, List.map_nil, List.nodup_cons, List.mem_cons, List.not_mem_nil, or_false, not_or]
        exact ⟨⟨n1, n2⟩, n3, not_false, List.nodup_nil⟩
      refine ⟨Df.FT (K00.PTs K), a, ns, rfl, fun p hp => ?_, Df.FT.has nd, fun n => ?_, hS, hl, fun _ => rfl⟩
      · rcases List.mem_cons.mp hp with rfl | hp
        · exact Df.tabP_nil t1
        · rcases List.mem_cons.mp hp with rfl | hp
          · exact Df.tabP_nil t2
          · rcases List.mem_cons.mp hp with rfl | hp
            · exact Df.tabP_nil t3
            · cases hp
      · obtain ⟨p, hp, e⟩ := n
        rcases List.mem_cons.mp hp with rfl | hp
        · exact a1 e
        · rcases List.mem_cons.mp hp with rfl | hp
          · exact a2 e
          · rcases List.mem_cons.mp hp with rfl | hp
            · exact a3 e
            · cases hp
    · rw [hnm]
      exact K00.law_all KX G c (TB _ (List.mem_cons_self ..)) (TB _ (List.mem_cons_of_mem _ (List.mem_cons_self ..))) (TB _ (List.mem_cons_of_mem _ (List.mem_cons_of_mem _ (List.mem_cons_self ..))))

