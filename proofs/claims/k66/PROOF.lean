import PyProof.Rows.All
import Wide.All
import OpenK.AllK
import Wide.FinOn
import KE.KStateDown
import HandS.ForMost
import HandS.ForExc
import HandS.More
import HandS.Wide
import HandS.Evl
import HandS.Defaults
import HandS.RaiseMore
import HandS.Steps
import HandS.ExcInit
import KE.KExcInit
import KE.KIsAll
import HandS.ExcIs
import HandS.MakeKw
import HandS.IsInst
import PySem.Challenge.RW_twobenches_k66_errors_required
import HandS.Ends
import HandS.HeadHook2
import HandS.Head0
import HandS.Head1
import HandS.Head2
set_option Elab.async false
set_option linter.all false
set_option maxRecDepth 100000
set_option maxHeartbeats 4000000
/-! Own layer, part 0: what a def promises where no repr is under way (FG), its calls. -/
namespace DL
open PySem PySem.Spec PyProof.Rows L2

/-- nothing that guards itself (a repr) is running around -/
abbrev Gd (A : Around) : Prop := A.guards = some []

/-- a def's contract, asked only where no repr is under way -/
structure FG (P : Program) (w : World) (K : PySem.W.Frag) (mg : Str → Option Value)
    (base : Heap) (CX : CXT) (k : Nat) (f : Addr) (fd : FuncData) (ps : List Str) (sp : Sp) : Prop where
  count : ∀ vs H Q E, sp vs H Q E → vs.length = ps.length
  go : ∀ (A : Around) (outer : List Env) (s : Shared) (H : Hp) (args : Args)
      (us : List Value) (vs : List V) (Q : VK) (E : XK),
    Room k A → Gd A → Env0 P w K mg base A outer s H → BindsTo s fd args (ps.zip us) →
    Vals vs us → sp vs H Q E →
    codeAny (model P w) A (.call (.ref f) args) (CR CX outer P w H s Q E) s

section
variable {P : Program} {w : World} {K : PySem.W.Frag} {mg : Str → Option Value} {base : Heap}
  {CX : CXT} {f : Addr} {fd : FuncData} {ps : List Str} {sp sp' : Sp}
theorem FG.up {j k : Nat} (F : FG P w K mg base CX j f fd ps sp) (h : j ≤ k) :
    FG P w K mg base CX k f fd ps sp :=
  ⟨F.count, fun A o s H a us vs Q E r => F.go A o s H a us vs Q E (r.mono h)⟩
theorem FG.weak {k : Nat} (F : FG P w K mg base CX k f fd ps sp)
    (h : ∀ vs H Q E, sp' vs H Q E → sp vs H Q E) : FG P w K mg base CX k f fd ps sp' :=
  ⟨fun vs H Q E q => F.count vs H Q E (h _ _ _ _ q),
    fun A o s H a us vs Q E r g e b v q => F.go A o s H a us vs Q E r g e b v (h _ _ _ _ q)⟩
theorem FG.of {k : Nat} (F : FnOk P w K mg base CX k f fd ps sp) : FG P w K mg base CX k f fd ps sp :=
  ⟨F.len, fun A o s H a us vs Q E r _ e b v q => F.run A o s H a us vs Q E r e b v q⟩
end

theorem Gd.deeper {A : Around} (g : Gd A) (env : Env) : Gd (A.deeper env) := g

/-- a def by its body -/
theorem fg_of {CX : CXT} {P : Program} {w : World} {K : PySem.W.Frag} {mg : Str → Option Value}
    {base : Heap} {k : Nat} {f : Addr} {name qual : Str} {params : Arguments} {body : List Stmt}
    {scope : Scope} {dV kV doc pm cdv ct oc : Value} {an od : Option Addr}
    {osl : Array (Option Value)} {N ps : List Str} {sp : Sp}
    (lk : K.lookup f = some ⟨oc, od, .func (PySem.W.fnOf name qual params body scope dV kV doc pm an cdv ct), osl⟩)
    (hcd : PySem.W.codeIn K cdv qual = true) (S : FnScope N ps scope)
    (len : ∀ vs H Q E, sp vs H Q E → vs.length = ps.length)
    (hbody : ∀ (A : Around) (outer : List Env) (s : Shared) (H : Hp) (vs : List V) (Q : VK) (E : XK),
      Room k (A.deeper (envOfC qual scope s.heap.objs.size f cdv)) → Gd A → sp vs H Q E →
      ∃ t, PSs (cxOf CX P w K mg base N qual scope f cdv A outer s H E) body t ∧
        t { nx := fun _ H' => Q .non H', rt := Q } (start N vs) H) :
    FG P w K mg base CX (k + 1) f (PySem.W.fnOf name qual params body scope dV kV doc pm an cdv ct) ps sp := by
  refine ⟨len, fun A outer s H args us vs Q E hr hg e0 hb r hsp => ?_⟩
  -- a contract that holds at this one place, by the layer's rule for this very entry
  have hl := len _ _ _ _ hsp
  have Xs : K.In s.heap := e0.mod.kin.keeps fun b o e => (e0.bs b o e).1
  have lim : s.heap.NoLimit := e0.mod.nolimit.keeps fun b o e => (e0.bs b o e).1
  have kinds : ∀ y ∈ ps.zip us, scope.names.lookup y.1 = some .local ∨
      (scope.names.lookup y.1 = some .cell ∧
        ((cellsFrom (s.heap.objs.size + 1) scope.names []).lookup y.1).isSome = true) := by
    rintro ⟨n, v⟩ hy
    rcases S.par n (List.of_mem_zip hy).1 with q | q
    · exact .inl q
    · exact .inr ⟨q, PySem.W.cellsFrom_some _ _ _ (.inl q)⟩
  refine codeAny_call_function hr.depth (Xs _ _ lk) rfl S.co S.gen rfl
    (PySem.W.codeRec_of Xs hcd) (hb _ _ _ _ ?_)
  refine wpAny_newFunctionEnv_cells S.kind kinds fun env he s1 x => ?_
  subst he
  refine ⟨lim.keeps x.toInCall.keep, codeAny_func ?_⟩
  obtain ⟨t, ht, hq⟩ := hbody A outer s H vs Q E (hr.deeper _) hg hsp
  have I : Inv (cxOf CX P w K mg base N qual scope f cdv A outer s H E) [] (start N vs) H s1 :=
    inv_start S hr.hd e0 hl r x
  refine wpAny_mono (ht.run [] s1 (start N vs) H _ I hq) (fun fl s' hs => ?_) fun e s' hs => hs
  cases fl with
  | ret u =>
    obtain ⟨v, σ', H', J, rv, q⟩ := hs
    exact ⟨v, H', J.os, J.bare, J.base, J.hok, rv, q⟩
  | next =>
    obtain ⟨σ', H', J, q⟩ := hs
    exact ⟨V.non, H', J.os, J.bare, J.base, J.hok, rfl, q⟩
  | brk =>
    obtain ⟨_, _, _, q⟩ := hs
    exact q.elim
  | cont =>
    obtain ⟨_, _, _, q⟩ := hs
    exact q.elim

section
variable {P : Program} {w : World} {K : PySem.W.Frag} {mg : Str → Option Value} {base : Heap}
/-- a def of the text (no defaults): nothing that is raised leaves it -/
theorem fg_def {x qual : Str} {st : Stmt} {f : Addr} {fd : FuncData} {N ps : List Str} {k : Nat} {sp : Sp}
    (F : Fun K x qual st f fd) (S : FnScope N ps (defScope st))
    (len : ∀ vs H Q E, sp vs H Q E → vs.length = ps.length)
    (hbody : ∀ (cdv : Value) (A : Around) (outer : List Env) (s : Shared) (H : Hp) (vs : List V) (Q : VK) (E : XK),
      Room k (A.deeper (envOfC qual (defScope st) s.heap.objs.size f cdv)) → Gd A → sp vs H Q E →
      ∃ t, PSs (cxOf CX0 P w K mg base N qual (defScope st) f cdv A outer s H E).nox (defBody st) t ∧
        t { nx := fun _ H' => Q .non H', rt := Q } (start N vs) H) :
    FG P w K mg base CX0 (k + 1) f fd ps sp := by
  obtain ⟨oc, od, kV, doc, pm, an, cdv, ct, osl, rfl, lk, hcd⟩ := F.ex
  refine fg_of lk hcd S len fun A outer s H vs Q E hr hg hsp => ?_
  obtain ⟨t, h, q⟩ := hbody cdv A outer s H vs Q E hr hg hsp
  exact ⟨t, h.nox, q⟩
/-- the same for a def that may raise -/
theorem fg_defX {x qual : Str} {st : Stmt} {f : Addr} {fd : FuncData} {N ps : List Str} {k : Nat} {sp : Sp}
    (F : Fun K x qual st f fd) (S : FnScope N ps (defScope st))
    (len : ∀ vs H Q E, sp vs H Q E → vs.length = ps.length)
    (hbody : ∀ (cdv : Value) (A : Around) (outer : List Env) (s : Shared) (H : Hp) (vs : List V) (Q : VK) (E : XK),
      Room k (A.deeper (envOfC qual (defScope st) s.heap.objs.size f cdv)) → Gd A → sp vs H Q E →
      ∃ t, PSs (cxOf (L2.CX P w) P w K mg base N qual (defScope st) f cdv A outer s H E) (defBody st) t ∧
        t { nx := fun _ H' => Q .non H', rt := Q } (start N vs) H) :
    FG P w K mg base (L2.CX P w) (k + 1) f fd ps sp := by
  obtain ⟨oc, od, kV, doc, pm, an, cdv, ct, osl, rfl, lk, hcd⟩ := F.ex
  exact fg_of lk hcd S len fun A outer s H vs Q E hr hg hsp => hbody cdv A outer s H vs Q E hr hg hsp
end

section
variable {X : Cx} {CX : CXT} {k : Nat} {f C : Addr} {fd : FuncData} {ps : List Str} {sp : Sp} {dvs : List V}
  {ds : List Value} {E : XK} {x m : Str} {p pos apos : Pos} {e o : Expr} {es : List Expr} {ta : TE} {t : TA}
/-- the callee's run from a body -/
theorem go_fg {pins : List (Addr × Obj)} {σ : L2.St} {H : Hp} {s : Shared} {Q : VK} {us : List Value} {vs : List V}
    (F : FG X.prog X.w X.K X.mg X.base CX k f fd ps sp) (hr : Room k X.A) (hg : Gd X.A)
    (hb : Binds X.K fd ps ds) (hd : Vals dvs ds) (hx : Passes CX X E)
    (I : Inv X pins σ H s) (r : Vals vs us) (h : sp (vs ++ dvs) H Q E) :
    wpAny (model X.prog X.w) X.A (call (.ref f) us) (EP X pins σ Q) X.xe s := by
  have r2 : Vals (vs ++ dvs) (us ++ ds) := r.append hd
  have hl : (us ++ ds).length = ps.length := by rw [← r2.length]; exact F.count _ _ _ _ h
  have run := F.go X.A X.stack s H ⟨us, []⟩ (us ++ ds) (vs ++ dvs) Q E hr hg I.env0 (hb s us I.kIn hl) r2 h
  refine wpAny_call (codeAny_mono run fun r s' hq => ?_)
  match r, hq with
  | .error e, hq => exact hx pins σ H s e s' I hq
  | .ok (.ret u), hq => exact I.after hq
  | .ok .next, hq => exact hq.elim
  | .ok .brk, hq => exact hq.elim
  | .ok .cont, hq => exact hq.elim

/-- f(e, ..) -/
theorem ge_call (F : FG X.prog X.w X.K X.mg X.base CX k f fd ps sp) (hr : Room k X.A) (hgd : Gd X.A)
    (hg : Gl X x) (hm : X.mg x = some (.ref f)) (hk : PySem.W.keepIn X.K (.ref f) = true)
    (hb : Binds X.K fd ps ds) (hd : Vals dvs ds) (hx : Passes CX X E) (ha : PA X (e :: es) t)
    (hdb : (x == ("__debug__" : Str)) = false := by decide)
    (he : starEach (e :: es) X.env = (false, eval e X.env) :: starEach es X.env := by rfl)
    (hpl : (backTo pos (starEach es X.env)).any (·.1) = false := by rfl) :
    PE X (.Call (.Name x p) (e :: es) [] pos) (tCall sp dvs E t) := by
  constructor
  intro pins s σ H Q I h
  refine wpAny_Call_Name_kw (ld_glob I hg hm ?_ hdb)
  refine PySem.W.callWith_K (h₀ := X.base) I.ok.mod.kin hk
    (thn (ha.run pos pins s σ H _ I h) fun us s1 ⟨vs, H1, I1, r, q⟩ => ⟨I1.kIn, ?_⟩) he hpl
  exact go_fg F hr hgd hb hd hx I1 r q
/-- f() -/
theorem ge_call0 (F : FG X.prog X.w X.K X.mg X.base CX k f fd ps sp) (hr : Room k X.A) (hgd : Gd X.A)
    (hg : Gl X x) (hm : X.mg x = some (.ref f)) (hk : PySem.W.keepIn X.K (.ref f) = true)
    (hb : Binds X.K fd ps ds) (hd : Vals dvs ds) (hx : Passes CX X E)
    (hdb : (x == ("__debug__" : Str)) = false := by decide) :
    PE X (.Call (.Name x p) [] [] pos) (tCall sp dvs E tNil) := by
  constructor
  intro pins s σ H Q I h
  refine wpAny_Call_Name_kw (ld_glob I hg hm ?_ hdb)
  exact PySem.W.callWith_K0 I.kIn hk (go_fg (us := []) F hr hgd hb hd hx I .nil h)
end
end DL

set_option maxHeartbeats 4000000
/-! Own layer, part 1: data with empty dicts, repr of data. -/
namespace DL
open PySem PySem.Spec PyProof.Rows L2

/-! ### how long a shown datum is -/
mutual
def nodes : PyData → Nat
  | .list xs => 1 + nodesAll xs
  | .tuple xs => 1 + nodesAll xs
  | .dict kvs => 1 + nodesKv kvs
  | .none => 1
  | .bool _ => 1
  | .int _ => 1
  | .str _ => 1
def nodesAll : List PyData → Nat
  | [] => 0
  | x :: xs => nodes x + nodesAll xs
def nodesKv : List (PyData × PyData) → Nat
  | [] => 0
  | (a, b) :: r => nodes a + nodes b + nodesKv r
end
mutual
/-- ints below 2 ^ 1920, texts whose repr is below 1900 signs; dicts only empty -/
def short : PyData → Bool
  | .list xs => shortAll xs
  | .tuple xs => shortAll xs
  | .dict kvs => kvs.isEmpty
  | .none => true
  | .bool _ => true
  | .int i => decide (i.natAbs.log2 < 1920)
  | .str x => decide ((reprText x).length ≤ 1900)
def shortAll : List PyData → Bool
  | [] => true
  | x :: xs => short x && shortAll xs
end
theorem listText_len (ts : List Str) : (listText ts).length ≤ piled ts + 2 := by
  unfold listText
  rw [strLen_append]
  cases ts with
  | nil => decide
  | cons t r =>
    have h := textFrom_length_pos r 1 (("[" : Str) ++ (if 0 > 0 then ", " else "" : String) ++ t) (by decide)
    have e : textFrom 0 ("[" : Str) (t :: r) = textFrom 1 (("[" : Str) ++ (if 0 > 0 then ", " else "" : String) ++ t) r := rfl
    rw [e, h, strLen_append, strLen_append, piled_cons]
    have e1 : ("[" : Str).length = 1 := by decide
    have e2 : (Str.ofString (if 0 > 0 then ", " else "" : String)).length = 0 := by decide
    have e3 : ("]" : Str).length = 1 := by decide
    rw [e3]
    omega
theorem tupleText_len (ts : List Str) : (tupleText ts).length ≤ piled ts + 3 := by
  unfold tupleText
  rw [strLen_append, strLen_append]
  have e1 : ("(" : Str).length = 1 := by decide
  have e3 : (Str.ofString (if ts.length == 1 then ",)" else ")" : String)).length ≤ 2 := by
    split <;> decide
  cases ts with
  | nil =>
    have e2 : (Str.join ", " ([] : List Str)).length = 0 := by decide
    rw [e1, e2]
    omega
  | cons t r =>
    have h := join_length_add (t :: r) (by simp)
    rw [e1]
    omega
mutual
theorem shown_len : ∀ d : PyData, short d = true → d.shown.length + 4 ≤ 2005 * nodes d
  | .none, _ => by
    have e : (PyData.none).shown.length = 4 := by simp only [PyData.shown]; decide
    rw [e, nodes]
    decide
  | .bool b, _ => by
    cases b with
    | true =>
      have e : (PyData.bool true).shown.length = 4 := by simp only [PyData.shown]; decide
      rw [e, nodes]
      decide
    | false =>
      have e : (PyData.bool false).shown.length = 5 := by simp only [PyData.shown]; decide
      rw [e, nodes]
      decide
  | .int i, h => by
    have h1 : i.natAbs.log2 < 1920 := of_decide_eq_true (by simpa only [short] using h)
    have := int_text_len_1921 h1
    simp only [PyData.shown, nodes]
    omega
  | .str x, h => by
    have h1 : (reprText x).length ≤ 1900 := of_decide_eq_true (by simpa only [short] using h)
    simp only [PyData.shown, nodes]
    omega
  | .list xs, h => by
    have h1 := shownAll_len xs (by simpa only [short] using h)
    have h2 := listText_len (PyData.shownAll xs)
    simp only [PyData.shown, nodes]
    omega
  | .tuple xs, h => by
    have h1 := shownAll_len xs (by simpa only [short] using h)
    have h2 := tupleText_len (PyData.shownAll xs)
    simp only [PyData.shown, nodes]
    omega
  | .dict kvs, h => by
    cases kvs with
    | nil =>
      have e : (PyData.dict []).shown.length = 2 := by simp only [PyData.shown, PyData.shownKv]; decide
      rw [e, nodes]
      omega
    | cons a r => simp [short] at h
theorem shownAll_len : ∀ ds : List PyData, shortAll ds = true → piled (PyData.shownAll ds) ≤ 2005 * nodesAll ds
  | [], _ => by simp only [PyData.shownAll, piled_nil]; omega
  | d :: r, h => by
    have hb : short d = true ∧ shortAll r = true := by simpa only [shortAll, Bool.and_eq_true] using h
    have h1 := shown_len d hb.1
    have h2 := shownAll_len r hb.2
    simp only [PyData.shownAll, piled_cons, nodesAll, List.length_cons]
    omega
end

/-! ### data over the heap: as Dp, and empty dicts -/
mutual
inductive Dw (K : PySem.W.Frag) (H : Hp) : V → PyData → Prop
  | non : Dw K H .non .none
  | bl (b : Bool) : Dw K H (.bl b) (.bool b)
  | int (i : Int) : Dw K H (.int i) (.int i)
  | str (x : Str) : Dw K H (.str x) (.str x)
  | lst {a : Addr} {vs : List V} {ds : List PyData} (at_ : SqL K H a vs) (all : DwAll K H vs ds) : Dw K H (.ref a) (.list ds)
  | tup {a : Addr} {vs : List V} {ds : List PyData} (at_ : SqT K H a vs) (all : DwAll K H vs ds) : Dw K H (.ref a) (.tuple ds)
  | emp {a : Addr} (at_ : H a = some (.dK [])) : Dw K H (.ref a) (.dict [])
inductive DwAll (K : PySem.W.Frag) (H : Hp) : List V → List PyData → Prop
  | nil : DwAll K H [] []
  | cons {v : V} {d : PyData} {vs : List V} {ds : List PyData} (hd : Dw K H v d) (tl : DwAll K H vs ds) : DwAll K H (v :: vs) (d :: ds)
end
section
variable {K : PySem.W.Frag} {H H' : Hp}
theorem seqT_ex {a : Addr} {xs : List V} (e : Evl.Ex H H') (h : SqT K H a xs) : SqT K H' a xs := Evl.ex_t e h
mutual
theorem Dw.ex (e : Evl.Ex H H') : ∀ (d : PyData) (v : V), Dw K H v d → Dw K H' v d
  | .none, _, h => by cases h; exact .non
  | .bool b, _, h => by cases h; exact .bl b
  | .int i, _, h => by cases h; exact .int i
  | .str x, _, h => by cases h; exact .str x
  | .list ds, _, h => by
    cases h with
    | lst hs ha => exact .lst (Evl.ex_l e hs) (DwAll.ex e ds _ ha)
  | .tuple ds, _, h => by
    cases h with
    | tup hs ha => exact .tup (Evl.ex_t e hs) (DwAll.ex e ds _ ha)
  | .dict kvs, _, h => by
    cases h with
    | emp ha => exact .emp (e _ _ ha)
theorem DwAll.ex (e : Evl.Ex H H') : ∀ (ds : List PyData) (vs : List V), DwAll K H vs ds → DwAll K H' vs ds
  | [], _, h => by cases h; exact .nil
  | d :: ds, _, h => by
    cases h with
    | cons h1 h2 => exact .cons (Dw.ex e d _ h1) (DwAll.ex e ds _ h2)
end
theorem DwAll.len {vs : List V} {ds : List PyData} (h : DwAll K H vs ds) : vs.length = ds.length := by
  induction ds generalizing vs with
  | nil => cases h; rfl
  | cons d ds ih =>
    cases h with
    | cons h1 h2 => rw [List.length_cons, List.length_cons, ih h2]
theorem DwAll.get {vs : List V} {ds : List PyData} (h : DwAll K H vs ds) {i : Nat} {d : PyData} (e : ds[i]? = some d) : ∃ v, vs[i]? = some v ∧ Dw K H v d := by
  induction ds generalizing vs i with
  | nil => simp at e
  | cons d0 ds ih =>
    cases h with
    | cons h1 h2 =>
      cases i with
      | zero =>
        simp at e
        subst e
        exact ⟨_, rfl, h1⟩
      | succ i => exact ih h2 (by simpa using e)
theorem DwAll.append {vs ws : List V} {ds es : List PyData} (h : DwAll K H vs ds) (g : DwAll K H ws es) : DwAll K H (vs ++ ws) (ds ++ es) := by
  induction ds generalizing vs with
  | nil => cases h; exact g
  | cons d0 ds ih =>
    cases h with
    | cons h1 h2 => exact .cons h1 (ih h2)
end
/-- the written part holds the dict of the modules -/
def SysK (K : PySem.W.Frag) : Prop := ∃ (o : Obj) (es : Array DictEntry) (n : Nat), K.lookup sysModules = some o ∧ o.data = .dict es n
section
variable {X : Cx} {pins : List (Addr × Obj)} {σ : L2.St} {H : Hp} {s : Shared}
theorem Inv.sys (I : Inv X pins σ H s) (S : SysK X.K) : ∃ (o : Obj) (es : Array DictEntry) (n : Nat), s.heap.get? sysModules = some o ∧ o.data = .dict es n ∧ H sysModules = none := by
  obtain ⟨o, es, n, hk, hd⟩ := S
  have hb := I.mod.kin sysModules o hk
  obtain ⟨h1, h2⟩ := I.bs sysModules o hb
  exact ⟨o, es, n, h1, hd, h2⟩
mutual
theorem Dw.reads (S : SysK X.K) (I : Inv X pins σ H s) : ∀ (d : PyData) (v : V) (u : Value), Dw X.K H v d → RelV v u → ∃ as, Reads s.heap u d as ∧ sysModules ∉ as
  | .none, _, _, h, r => by
    cases h; cases r
    exact ⟨_, Reads.none, by simp⟩
  | .bool b, _, _, h, r => by
    cases h; cases r
    exact ⟨_, Reads.bool b, by simp⟩
  | .int i, _, _, h, r => by
    cases h
    obtain ⟨t, rfl⟩ := r
    exact ⟨_, Reads.int i t, by simp⟩
  | .str x, _, _, h, r => by
    cases h
    obtain ⟨t, rfl⟩ := r
    exact ⟨_, Reads.str x t, by simp⟩
  | .list ds, _, _, h, r => by
    cases h with
    | @lst a vs _ hs ha =>
      cases r
      obtain ⟨its, rv, ⟨o, n, ho, hc, hdd, hd⟩, _⟩ := I.list hs
      obtain ⟨as, hr, hn⟩ := Dw.readsAll S I ds _ its ha rv
      refine ⟨_, Reads.list ho hc hd hr, fun hm => ?_⟩
      rcases List.mem_cons.mp hm with e | hm
      · obtain ⟨o2, es, k, h1, h2, _⟩ := Inv.sys I S
        rw [e, ho] at h1
        cases h1
        rw [hd] at h2
        cases h2
      · exact hn hm
  | .tuple ds, _, _, h, r => by
    cases h with
    | tup hs ha =>
      cases r
      obtain ⟨its, rv, ⟨o, ho, hc, n, hd⟩, _⟩ := I.tuple hs
      obtain ⟨as, hr, hn⟩ := Dw.readsAll S I ds _ its ha rv
      exact ⟨_, Reads.tuple ho hc hd hr, hn⟩
  | .dict kvs, _, _, h, r => by
    cases h with
    | @emp a0 ha =>
      cases r
      obtain ⟨_, hne, kvs, hkv, o, es, ep, h1, h2, h3, h4, h5, h6⟩ := I.hok _ _ ha
      have e0 : kvs = [] := by cases hkv; rfl
      subst e0
      have e1 : es.toList = [] := by
        have := h5
        cases h : es.toList with
        | nil => rfl
        | cons a b => rw [h] at this; cases this
      have k1 : ReadsAll s.heap (es.toList.map (·.key)) (([] : List (PyData × PyData)).map (·.1)) [] := by rw [e1]; exact ReadsAll.nil
      have k2 : ReadsAll s.heap (es.toList.map (·.val)) (([] : List (PyData × PyData)).map (·.2)) [] := by rw [e1]; exact ReadsAll.nil
      refine ⟨_, Reads.dict h1 h2.1 h3 k1 k2, fun hm => ?_⟩
      have q : sysModules = a0 := by simpa using hm
      rw [← q] at hne
      simp at hne
theorem Dw.readsAll (S : SysK X.K) (I : Inv X pins σ H s) : ∀ (ds : List PyData) (vs : List V) (us : List Value), DwAll X.K H vs ds → Vals vs us → ∃ as, ReadsAll s.heap us ds as ∧ sysModules ∉ as
  | [], _, _, h, r => by
    cases h; cases r
    exact ⟨_, ReadsAll.nil, by simp⟩
  | d :: ds, _, _, h, r => by
    cases h with
    | cons h1 h2 =>
      cases r with
      | cons r1 r2 =>
        obtain ⟨as, q1, n1⟩ := Dw.reads S I d _ _ h1 r1
        obtain ⟨bs, q2, n2⟩ := Dw.readsAll S I ds _ _ h2 r2
        exact ⟨_, ReadsAll.cons q1 q2, fun hm => (List.mem_append.mp hm).elim n1 n2⟩
end
end

theorem short_showable : ∀ d : PyData, short d = true → d.showable = true
  | .none, _ => by simp only [PyData.showable]
  | .bool _, _ => by simp only [PyData.showable]
  | .int i, h => by simpa only [PyData.showable, short] using h
  | .str _, _ => by simp only [PyData.showable]
  | .list xs, h => by
    simp only [PyData.showable]
    exact go xs (by simpa only [short] using h)
  | .tuple xs, h => by
    simp only [PyData.showable]
    exact go xs (by simpa only [short] using h)
  | .dict kvs, h => by
    cases kvs with
    | nil => simp only [PyData.showable, PyData.showableKv]
    | cons a r => simp [short] at h
where go : ∀ ds : List PyData, shortAll ds = true → PyData.showableAll ds = true
  | [], _ => by simp only [PyData.showableAll]
  | d :: r, h => by
    have hb : short d = true ∧ shortAll r = true := by simpa only [shortAll, Bool.and_eq_true] using h
    simp only [PyData.showableAll, short_showable d hb.1, go r hb.2, Bool.and_self]

/-- repr of short data -/
def rRepr (K : PySem.W.Frag) : List V → Hp → VK → Prop := fun xs H Q => ∃ v d, xs = [v] ∧ Dw K H v d ∧ short d = true ∧ nodes d ≤ 8000 ∧ d.depth ≤ 60 ∧ Q (.str d.shown) H
section
variable {X : Cx}
theorem call_repr (S : SysK X.K) (hg : Gd X.A) (hu : X.A.units + 64 < cLine) : CallR X (.builtin "repr") (rRepr X.K) := by
  intro pins s σ H xs us Q I r h
  obtain ⟨v, d, rfl, hd, hs, hn, hdp, q⟩ := h
  obtain ⟨u, rfl, ru⟩ := vals1 r
  have hz : d.shown.length ≤ sizeLine := by
    have := shown_len d hs
    rw [sizeLine_eq]
    omega
  obtain ⟨as, hr, hno⟩ := Dw.reads S I d v u hd ru
  have fin : ∀ (h' : Heap) (tk : Nat), (∀ b o, s.heap.get? b = some o → h'.get? b = some o) → ∀ t, EP X pins σ Q (.str d.shown t) { s with heap := h', toks := tk } := fun h' tk k t =>
    ⟨.str d.shown, H, I.kept (t' := tk) k, ⟨t, rfl⟩, q⟩
  cases hd with
  | non => cases ru; exact PySem.P.repr_of_none (fin s.heap _ (fun _ _ z => z) _)
  | bl b => cases ru; exact PySem.P.repr_of_bool (fin s.heap _ (fun _ _ z => z) _)
  | int i =>
    obtain ⟨t, rfl⟩ := ru
    exact PySem.P.repr_of_int (of_decide_eq_true (by simpa only [short] using hs)) (fin s.heap _ (fun _ _ z => z) _)
  | str x =>
    obtain ⟨t, rfl⟩ := ru
    exact PySem.P.repr_of_str (fin s.heap _ (fun _ _ z => z) _) (by simpa only [PyData.shown] using hz)
  | lst _ _ =>
    cases ru
    exact repr_of_reads' hr (short_showable _ hs) (fun _ => hno) hg (by omega) (fun _ _ z => z) (fun h' t tk k => fin h' tk k t) hz
  | tup _ _ =>
    cases ru
    exact repr_of_reads' hr (short_showable _ hs) (fun _ => hno) hg (by omega) (fun _ _ z => z) (fun h' t tk k => fin h' tk k t) hz
  | emp _ =>
    cases ru
    exact repr_of_reads' hr (short_showable _ hs) (fun _ => hno) hg (by omega) (fun _ _ z => z) (fun h' t tk k => fin h' tk k t) hz
end

/-! ### ints in lists -/
theorem Dw.dp_ints {K : PySem.W.Frag} {H : Hp} : ∀ ns : List Int, DpAll K H (ns.map V.int) (ns.map PyData.int)
  | [] => .nil
  | n :: r => .cons (.int n) (dp_ints r)
theorem canLay_ints : ∀ ns : List Int, PyData.canLayAll0 (ns.map PyData.int) = true
  | [] => by simp only [List.map_nil, PyData.canLayAll0]
  | n :: r => by simp only [List.map_cons, PyData.canLayAll0, PyData.canLay0, canLay_ints r, Bool.and_self]
theorem depth_ints : ∀ ns : List Int, PyData.depthAll (ns.map PyData.int) = 0
  | [] => by simp only [List.map_nil, PyData.depthAll]
  | n :: r => by simp only [List.map_cons, PyData.depthAll, PyData.depth, depth_ints r]; decide
theorem shaped_ints (ns : List Int) : SeqAt.shaped (.list (ns.map PyData.int)) = true := by
  simp only [SeqAt.shaped, PyData.canLay0, canLay_ints, PyData.depth, depth_ints]
  decide
theorem shaped_intsT (ns : List Int) : SeqAt.shaped (.tuple (ns.map PyData.int)) = true := by
  simp only [SeqAt.shaped, PyData.canLay0, canLay_ints, PyData.depth, depth_ints]
  decide
theorem eqv_list (xs ys : List PyData) : PyData.eqv (.list xs) (.list ys) = PyData.eqvAll xs ys := by simp only [PyData.eqv]
theorem eqvAll_nil (xs : List PyData) : PyData.eqvAll xs [] = xs.isEmpty := by cases xs <;> simp [PyData.eqvAll]
theorem eqvAll_ints : ∀ xs ys : List Int, PyData.eqvAll (xs.map PyData.int) (ys.map PyData.int) = decide (xs = ys)
  | [], [] => by simp [PyData.eqvAll]
  | [], _ :: _ => by simp [PyData.eqvAll]
  | _ :: _, [] => by simp [PyData.eqvAll]
  | x :: xs, y :: ys => by
    simp only [List.map_cons, PyData.eqvAll, eqvAll_ints xs ys, PyData.eqv]
    by_cases h : x = y <;> simp [h]
end DL

set_option maxHeartbeats 4000000
/-! Own layer, part 2: steps of readings. -/
namespace DL
open PySem PySem.Spec PyProof.Rows L2
section
variable {te : TE} {tt : TT} {t u v : TS} {g : TG} {D : Ends} {σ : L2.St} {H : Hp} {i : Nat} {P : V → Hp → Prop}
/-- name = e; rest -/
theorem q_set (P : V → Hp → Prop) (h : ∀ Q : VK, (∀ x H', P x H' → Q x H') → te σ H Q) (k : ∀ x H', P x H' → u D (σ.set i (some x)) H') :
    tSeq (tAsg te (gName i)) u D σ H := h _ k
/-- name = e, the last statement -/
theorem q_set1 (P : V → Hp → Prop) (h : ∀ Q : VK, (∀ x H', P x H' → Q x H') → te σ H Q) (k : ∀ x H', P x H' → D.nx (σ.set i (some x)) H') :
    tAsg te (gName i) D σ H := h _ k
/-- e; rest -/
theorem q_drop (P : Hp → Prop) (h : ∀ Q : VK, (∀ x H', P H' → Q x H') → te σ H Q) (k : ∀ H', P H' → u D σ H') :
    tSeq (tDrop te) u D σ H := h _ fun _ => k
/-- target = e; rest -/
theorem q_asg (P : V → Hp → Prop) (h : ∀ Q : VK, (∀ x H', P x H' → Q x H') → te σ H Q) (k : ∀ x H', P x H' → g x σ H' (u D)) :
    tSeq (tAsg te g) u D σ H := h _ k
/-- if t: .. else: ..; rest; the heap behind the test holds P -/
theorem q_if (b : Bool) (P : Hp → Prop) (h : ∀ Q : Bool → Hp → Prop, (∀ H', P H' → Q b H') → tt σ H Q)
    (k1 : b = true → ∀ H', P H' → t { D with nx := v D } σ H') (k2 : b = false → ∀ H', P H' → u { D with nx := v D } σ H') :
    tSeq (tIfS tt t u) v D σ H := h _ fun H' p => by
  cases b with
  | true => exact k1 rfl H' p
  | false => exact k2 rfl H' p
/-- if t: ..; rest -/
theorem q_ifN (b : Bool) (P : Hp → Prop) (h : ∀ Q : Bool → Hp → Prop, (∀ H', P H' → Q b H') → tt σ H Q)
    (k1 : b = true → ∀ H', P H' → t { D with nx := v D } σ H') (k2 : b = false → ∀ H', P H' → v D σ H') :
    tSeq (tIfS tt t tNext) v D σ H := q_if b P h k1 fun e H' p => k2 e H' p
theorem q_if1 (b : Bool) (P : Hp → Prop) (h : ∀ Q : Bool → Hp → Prop, (∀ H', P H' → Q b H') → tt σ H Q)
    (k1 : b = true → ∀ H', P H' → t D σ H') (k2 : b = false → ∀ H', P H' → u D σ H') :
    tIfS tt t u D σ H := h _ fun H' p => by
  cases b with
  | true => exact k1 rfl H' p
  | false => exact k2 rfl H' p
/-- a statement; rest: the ways meet -/
theorem q_join (P : L2.St → Hp → Prop) (h : ∀ N : L2.St → Hp → Prop, (∀ σ' H', P σ' H' → N σ' H') → t { D with nx := N } σ H) (k : ∀ σ' H', P σ' H' → v D σ' H') :
    tSeq t v D σ H := h _ k
theorem q_ret (P : V → Hp → Prop) (h : ∀ Q : VK, (∀ x H', P x H' → Q x H') → te σ H Q) (k : ∀ x H', P x H' → D.rt x H') : tRet te D σ H := h _ k
theorem q_next (h : D.nx σ H) : tNext D σ H := h
/-- for i in range(n); rest -/
theorem q_range {j : Nat} {n : Nat} {ta : TA} (hn : n ≤ 1000000) (P : Hp → Prop) (h : ∀ Q : List V → Hp → Prop, (∀ H', P H' → Q [.int n] H') → ta σ H Q)
    (Pv : Nat → L2.St → Hp → Prop) (h0 : ∀ H', P H' → Pv 0 σ H')
    (hs : ∀ (i : Nat) σ' H', i < n → Pv i σ' H' → t { D with nx := Pv (i + 1), ct := Pv (i + 1), bk := u D } (σ'.set j (some (.int (i : Int)))) H')
    (hd : ∀ σ' H', Pv n σ' H' → u D σ' H') : tSeq (tFor (iRng1 ta) (gName j) t) u D σ H := by
  refine h _ fun H' p => ?_
  refine ⟨(n : Int), rfl, by omega, by omega, for_range (lo := 0) (n := (n : Int).toNat) Pv (h0 H' p) (fun i σ' H' hi pv => ?_) (fun σ' H' pv => ?_)⟩
  · have e0 : (0 : Int) + (i : Int) = (i : Int) := Int.zero_add _
    show t { D with nx := Pv (i + 1), ct := Pv (i + 1), bk := u D } (σ'.set j (some (.int ((0 : Int) + (i : Int))))) H'
    rw [e0]
    exact hs i σ' H' (by omega) pv
  · rw [show (n : Int).toNat = n from Int.toNat_natCast n] at pv
    exact hd σ' H' pv
end
end DL

set_option maxHeartbeats 4000000
/-! Own layer, part 3: comprehensions whose elements are known values. -/
namespace DL
open PySem PySem.Spec PyProof.Rows L2
open Evl (Ex)
/-- what a comprehension keeps of n turns -/
def pick (b : Nat → Bool) (ys : Nat → V) : Nat → List V
  | 0 => []
  | n + 1 => pick b ys n ++ (if b n then [ys n] else [])
theorem pick_len (b : Nat → Bool) (ys : Nat → V) : ∀ n, (pick b ys n).length ≤ n
  | 0 => Nat.le_refl _
  | n + 1 => by
    have := pick_len b ys n
    unfold pick
    rw [List.length_append]
    split <;> simp <;> omega
theorem pick_false {b : Nat → Bool} {ys : Nat → V} : ∀ n, (∀ i, i < n → b i = false) → pick b ys n = []
  | 0, _ => rfl
  | n + 1, h => by
    unfold pick
    rw [pick_false n fun i hi => h i (by omega), h n (by omega)]
    rfl
theorem pick_one {b : Nat → Bool} {ys : Nat → V} {j : Nat} : ∀ n, (∀ i, i < n → b i = decide (i = j)) → pick b ys n = if j < n then [ys j] else []
  | 0, _ => by rfl
  | n + 1, h => by
    unfold pick
    rw [pick_one n fun i hi => h i (by omega), h n (by omega)]
    by_cases h1 : j < n
    · simp [h1, show j < n + 1 by omega, show ¬ n = j by omega]
    · by_cases h2 : n = j
      · simp [h1, h2]
      · simp [h1, h2, show ¬ j < n + 1 by omega]
section
variable {K : PySem.W.Frag} {ta : TA} {tl te : TE} {tt : TT} {i1 i2 : Nat} {vs : List Nat} {σ : L2.St} {H : Hp} {Q : VK}
/-- [e for i, x in enumerate(xs) if t] -/
theorem q_lcE (a : Addr) (xs : List V) (hlen : xs.length ≤ 100000)
    (hs : ∀ Q' : List V → Hp → Prop, (∀ H1, Ex H H1 → Q' [.ref a] H1) → ta σ H Q')
    (hx' : SqL K H a xs ∨ ∃ H0, Ex H0 H ∧ SqL K H0 a xs) (b : Nat → Bool) (ys : Nat → V)
    (ht : ∀ (i : Nat) x H1, xs[i]? = some x → Ex H H1 → ∀ Q' : Bool → Hp → Prop, (∀ H2, Ex H1 H2 → Q' (b i) H2) → tt (((wipe σ vs).set i1 (some (.int (i : Int)))).set i2 (some x)) H1 Q')
    (he : ∀ (i : Nat) x H1, xs[i]? = some x → Ex H H1 → b i = true → ∀ Q' : VK, (∀ H2, Ex H1 H2 → Q' (ys i) H2) → te (((wipe σ vs).set i1 (some (.int (i : Int)))).set i2 (some x)) H1 Q')
    (hw : ∀ (i : Nat) (x : V), wipe (((wipe σ vs).set i1 (some (.int (i : Int)))).set i2 (some x)) vs = wipe σ vs)
    (k : ∀ D H', H D = none → Ex H H' → H' D = some (.lst (pick b ys xs.length)) → Q (.ref D) H') :
    tLc (iEnum K ta) (gTup K 2 (gCons (gName i1) (gCons (gName i2) gNil))) tt te vs σ H Q := by
  have src : ∀ H1, Ex H H1 → SqL K H1 a xs := fun H1 e => by
    rcases hx' with h | ⟨H0, e0, h⟩
    · exact Evl.ex_l e h
    · exact Evl.ex_l (e0.trans e) h
  refine hs _ fun H1 e1 => ⟨a, xs, rfl, src H1 e1, fun D hD => ?_⟩
  have hD0 : H D = none := Evl.fresh_back e1 hD
  refine ⟨fun i m H' => m = xs.length - i ∧ i ≤ xs.length ∧ Ex H H' ∧ H' D = some (.lst (pick b ys i)), ⟨xs.length, rfl, Nat.zero_le _, e1.trans (Ex.new hD), upd_same⟩, ?_⟩
  rintro i m H' ⟨rfl, hi, eH, hDi⟩
  by_cases hlt : i < xs.length
  · refine .inr ⟨⟨xs, xs[i], src H' eH, List.getElem?_eq_getElem hlt⟩, fun H2 => Ex H H2 ∧ H2 D = some (.lst (pick b ys (i + 1))), fun H2 h2 => ⟨xs.length - (i + 1), by omega, rfl, hlt, h2.1, h2.2⟩, ?_⟩
    rintro _ _ ⟨T, x, rfl, hT, rfl, hxi⟩
    have hxx := hxi xs (src H' eH)
    have eT : Ex H' (upd H' T (.tup [.int (i : Nat), x])) := Ex.new hT
    refine ⟨T, [.int (i : Nat), x], rfl, SqT.of upd_same, rfl, .int (i : Nat), [x], rfl, x, [], rfl, rfl, ?_⟩
    refine ⟨hw i x, ht i x _ hxx (eH.trans eT) _ fun H2 e2 => ?_⟩
    have hD2 : H2 D = some (.lst (pick b ys i)) := e2 _ _ (eT _ _ hDi)
    cases hb : b i with
    | false =>
      refine iteF ⟨(eH.trans eT).trans e2, ?_⟩
      rw [hD2]
      simp [pick, hb]
    | true =>
      refine iteT (he i x H2 hxx ((eH.trans eT).trans e2) hb _ fun H3 e3 => ⟨pick b ys i, e3 _ _ hD2, ?_, ?_⟩)
      · exact Evl.sz_lt (Nat.lt_of_le_of_lt (pick_len b ys i) (by omega))
      · refine ⟨Ex.mut (((eH.trans eT).trans e2).trans e3) hD0, ?_⟩
        rw [upd_same]
        simp [pick, hb]
  · have e : i = xs.length := by omega
    subst e
    exact .inl ⟨⟨xs, src H' eH, Nat.le_refl _⟩, k D H' hD0 eH hDi⟩
/-- [e for x in xs if t] -/
theorem q_lcL (a : Addr) (xs : List V) (hlen : xs.length ≤ 100000)
    (hs : ∀ Q' : VK, (∀ H1, Ex H H1 → Q' (.ref a) H1) → tl σ H Q')
    (hx' : ∀ H1, Ex H H1 → SqL K H1 a xs) (b : Nat → Bool) (ys : Nat → V)
    (ht : ∀ (i : Nat) x H1, xs[i]? = some x → Ex H H1 → ∀ Q' : Bool → Hp → Prop, (∀ H2, Ex H1 H2 → Q' (b i) H2) → tt ((wipe σ vs).set i1 (some x)) H1 Q')
    (he : ∀ (i : Nat) x H1, xs[i]? = some x → Ex H H1 → b i = true → ∀ Q' : VK, (∀ H2, Ex H1 H2 → Q' (ys i) H2) → te ((wipe σ vs).set i1 (some x)) H1 Q')
    (hw : ∀ (x : V), wipe ((wipe σ vs).set i1 (some x)) vs = wipe σ vs)
    (k : ∀ D H', H D = none → Ex H H' → H' D = some (.lst (pick b ys xs.length)) → Q (.ref D) H') :
    tLc (iList K tl) (gName i1) tt te vs σ H Q := by
  refine hs _ fun H1 e1 => ⟨a, rfl, ⟨xs, hx' H1 e1⟩, fun D hD => ?_⟩
  have hD0 : H D = none := Evl.fresh_back e1 hD
  refine lc_list (K := K) (a := a) (xs := xs) (fun i H' => Ex H H' ∧ H' D = some (.lst (pick b ys i))) ⟨e1.trans (Ex.new hD), upd_same⟩ (fun i H' _ h => hx' H' h.1) ?_ (fun H' h => k D H' hD0 h.1 h.2)
  rintro i x H' hxi ⟨eH, hDi⟩
  have hlt : i < xs.length := (List.getElem?_eq_some_iff.mp hxi).1
  refine ⟨hw x, ht i x H' hxi eH _ fun H2 e2 => ?_⟩
  have hD2 : H2 D = some (.lst (pick b ys i)) := e2 _ _ hDi
  cases hb : b i with
  | false =>
    refine iteF ⟨eH.trans e2, ?_⟩
    rw [hD2]
    simp [pick, hb]
  | true =>
    refine iteT (he i x H2 hxi (eH.trans e2) hb _ fun H3 e3 => ⟨pick b ys i, e3 _ _ hD2, ?_, ?_⟩)
    · exact Evl.sz_lt (Nat.lt_of_le_of_lt (pick_len b ys i) (by omega))
    · refine ⟨Ex.mut ((eH.trans e2).trans e3) hD0, ?_⟩
      rw [upd_same]
      simp [pick, hb]
end
end DL
/-! ### rules whose written part is named (for a comprehension's block) -/
namespace DL
open PySem PySem.Spec PyProof.Rows L2
section
variable {X : Cx} {K : PySem.W.Frag}
theorem pg_tupK (K : PySem.W.Frag) {es : List Expr} {k : Nat} {t : TGs} {n : Nat} {pos : Pos} (hK : X.K = K) (hc : X.calm = true) (h : PGs X es t)
    (hn : (assignEach es X.env).length = n := by rfl) (hst : (assignEach es X.env).findIdx? (·.1) = none := by rfl) : PG X (.Tuple es k pos) (gTup K n t) := by
  subst hK
  exact pg_tup hc h hn hst
theorem op_eqDK (K : PySem.W.Frag) (hK : X.K = K) (hu : X.A.units + 64 < cLine) : OpR X (compareOp .Eq) (rEqD K) := by
  subst hK
  exact op_eqD hu
theorem op_neDK (K : PySem.W.Frag) (hK : X.K = K) (hu : X.A.units + 64 < cLine) : OpR X (compareOp .NotEq) (rNeD K) := by
  subst hK
  exact op_neD hu
end
end DL
/-! ### statements by what their expressions come to -/
namespace DL
open PySem PySem.Spec PyProof.Rows L2
open Evl
section
variable {K : PySem.W.Frag} {σ : L2.St} {H : Hp} {D : Ends} {u : TS} {te ta tb : TE} {i : Nat} {v : V} {xs ys : List V}
theorem q_setV (h : Ev te σ H v) (k : ∀ H1, Ex H H1 → u D (σ.set i (some v)) H1) : tSeq (tAsg te (gName i)) u D σ H := h H (Ex.refl H) _ fun H1 e => k H1 e
theorem q_setL (h : EvL te σ H xs) (k : ∀ p H1, H p = none → Ex H H1 → H1 p = some (.lst xs) → u D (σ.set i (some (.ref p))) H1) :
    tSeq (tAsg te (gName i)) u D σ H := h H (Ex.refl H) _ fun p H1 hp e h1 => k p H1 hp e h1
theorem q_setU (h : EvU te σ H xs) (k : ∀ p H1, H p = none → Ex H H1 → H1 p = some (.tup xs) → u D (σ.set i (some (.ref p))) H1) :
    tSeq (tAsg te (gName i)) u D σ H := h H (Ex.refl H) _ fun p H1 hp e h1 => k p H1 hp e h1
/-- a list and a list -/
theorem el_cat {l : Addr} (ha : Ev ta σ H (.ref l)) (hl : H l = some (.lst xs)) (hb : EvL tb σ H ys) (hz : xs.length + ys.length ≤ 100000) : EvL (tOp rCat ta tb) σ H (xs ++ ys) := fun H1 e Q q =>
  ha H1 e _ fun H2 e2 => hb H2 (e.trans e2) _ fun p H3 _ e3 hp =>
    ⟨l, p, xs, ys, rfl, rfl, e3 _ _ (e2 _ _ (e _ _ hl)), hp, sz_of hz, fun r hr => q r _ (fresh_back (e2.trans e3) hr) ((e2.trans e3).trans (Ex.new hr)) upd_same⟩
/-- two new lists -/
theorem el_cat2 (ha : EvL ta σ H xs) (hb : EvL tb σ H ys) (hz : xs.length + ys.length ≤ 100000) : EvL (tOp rCat ta tb) σ H (xs ++ ys) := fun H1 e Q q =>
  ha H1 e _ fun l H2 _ e2 hl => hb H2 (e.trans e2) _ fun p H3 _ e3 hp =>
    ⟨l, p, xs, ys, rfl, rfl, e3 _ _ hl, hp, sz_of hz, fun r hr => q r _ (fresh_back (e2.trans e3) hr) ((e2.trans e3).trans (Ex.new hr)) upd_same⟩
/-- xs.append(e); rest -/
theorem q_app {l : Addr} (hl : H l = some (.lst xs)) (ha : Ev ta σ H (.ref l)) (h : Ev te σ H v) (hz : xs.length < 100000)
    (k : ∀ H1, Ex H H1 → u D σ (upd H1 l (.lst (xs ++ [v])))) : tSeq (tDrop (tBM K "list" rAppend ta (tCons te tNil))) u D σ H := s_app (D := { D with nx := u D }) hl ha h hz k
/-- what a value rule comes to at one place -/
theorem rc_of {r : List V → Hp → VK → Prop} {vs : List V} {z : V} (h : ∀ H1, Ex H H1 → ∀ Q : VK, Q z H1 → r vs H1 Q) : RC r vs H z := fun H1 e Q q => h H1 e Q (q H1 (Ex.refl H1))
end
end DL
/-! ### comprehensions, comparisons of int lists, as what they come to -/
namespace DL
open PySem PySem.Spec PyProof.Rows L2
open Evl
section
variable {K : PySem.W.Frag} {σ : L2.St} {H : Hp} {tl te ta tb : TE} {tt : TT} {tA : TA} {i1 i2 : Nat} {vs : List Nat} {xs : List V}
theorem xs_is {xs ys : List V} (h : EvL te σ H xs) (e : xs = ys) : EvL te σ H ys := e ▸ h
theorem el_lcL {a : Addr} (b : Nat → Bool) (ys : Nat → V) (hs : Ev tl σ H (.ref a)) (hx : SqL K H a xs) (hlen : xs.length ≤ 100000)
    (ht : ∀ (i : Nat) x, xs[i]? = some x → EvT tt ((wipe σ vs).set i1 (some x)) H (b i))
    (he : ∀ (i : Nat) x, xs[i]? = some x → b i = true → Ev te ((wipe σ vs).set i1 (some x)) H (ys i))
    (hw : ∀ (x : V), wipe ((wipe σ vs).set i1 (some x)) vs = wipe σ vs) : EvL (tLc (iList K tl) (gName i1) tt te vs) σ H (pick b ys xs.length) := fun H1 e Q k =>
  q_lcL a xs hlen (fun Q' q' => hs H1 e Q' q') (fun H2 e2 => ex_l (e.trans e2) hx) b ys (fun i x H2 hi e2 Q' q' => ht i x hi H2 (e.trans e2) Q' q')
    (fun i x H2 hi e2 hb Q' q' => he i x hi hb H2 (e.trans e2) Q' q') hw k
theorem el_lcE {a : Addr} (b : Nat → Bool) (ys : Nat → V) (hs : EvA tA σ H [.ref a]) (hx : SqL K H a xs) (hlen : xs.length ≤ 100000)
    (ht : ∀ (i : Nat) x, xs[i]? = some x → EvT tt (((wipe σ vs).set i1 (some (.int (i : Int)))).set i2 (some x)) H (b i))
    (he : ∀ (i : Nat) x, xs[i]? = some x → b i = true → Ev te (((wipe σ vs).set i1 (some (.int (i : Int)))).set i2 (some x)) H (ys i))
    (hw : ∀ (i : Nat) (x : V), wipe (((wipe σ vs).set i1 (some (.int (i : Int)))).set i2 (some x)) vs = wipe σ vs) :
    EvL (tLc (iEnum K tA) (gTup K 2 (gCons (gName i1) (gCons (gName i2) gNil))) tt te vs) σ H (pick b ys xs.length) := fun H1 e Q k =>
  q_lcE a xs hlen (fun Q' q' => hs H1 e Q' q') (.inl (ex_l e hx)) b ys (fun i x H2 hi e2 Q' q' => ht i x hi H2 (e.trans e2) Q' q')
    (fun i x H2 hi e2 hb Q' q' => he i x hi hb H2 (e.trans e2) Q' q') hw k
/-- two lists of ints, == and != -/
theorem ev_eqL {ns ms : List Int} (ha : EvL ta σ H (ns.map V.int)) (hb : EvL tb σ H (ms.map V.int)) : Ev (tOp (rEqD K) ta tb) σ H (.bl (decide (ns = ms))) :=
  ev_opLL ha hb fun p q H1 hp hq e => rv_val fun H2 e2 Q k => by
    refine ⟨.list (ns.map PyData.int), .list (ms.map PyData.int), Dp.lst (SqL.of (e2 _ _ hp)) (Dw.dp_ints ns), Dp.lst (SqL.of (e2 _ _ hq)) (Dw.dp_ints ms), shaped_ints ns, shaped_ints ms, ?_⟩
    rw [eqv_list, eqvAll_ints]
    exact k
theorem ev_neL {ns ms : List Int} (ha : EvL ta σ H (ns.map V.int)) (hb : EvL tb σ H (ms.map V.int)) : Ev (tOp (rNeD K) ta tb) σ H (.bl (!decide (ns = ms))) :=
  ev_opLL ha hb fun p q H1 hp hq e => rv_val fun H2 e2 Q k => by
    refine ⟨.list (ns.map PyData.int), .list (ms.map PyData.int), Dp.lst (SqL.of (e2 _ _ hp)) (Dw.dp_ints ns), Dp.lst (SqL.of (e2 _ _ hq)) (Dw.dp_ints ms), shaped_ints ns, shaped_ints ms, ?_⟩
    rw [eqv_list, eqvAll_ints]
    exact k
end
end DL

set_option maxHeartbeats 4000000
/-! Own layer, part 4: expressions that come to data (pure: all that stood stands). -/
namespace DL
open PySem PySem.Spec PyProof.Rows L2
open Evl
/-- it comes to a value that holds the datum d -/
def EvD (K : PySem.W.Frag) (te : TE) (σ : L2.St) (H : Hp) (d : PyData) : Prop := ∀ H1, Ex H H1 → ∀ Q : VK, (∀ v H2, Ex H1 H2 → Dw K H2 v d → Q v H2) → te σ H1 Q
def EvDA (K : PySem.W.Frag) (ta : TA) (σ : L2.St) (H : Hp) (ds : List PyData) : Prop := ∀ H1, Ex H H1 → ∀ Q : List V → Hp → Prop, (∀ vs H2, Ex H1 H2 → DwAll K H2 vs ds → Q vs H2) → ta σ H1 Q
section
variable {K : PySem.W.Frag} {σ : L2.St} {H H' : Hp} {te tb : TE} {ta : TA} {d : PyData} {ds : List PyData} {v : V}
theorem EvD.mono (e : Ex H H') (h : EvD K te σ H d) : EvD K te σ H' d := fun H1 a Q q => h H1 (e.trans a) Q q
theorem evd_of (h : Ev te σ H v) (hd : Dw K H v d) : EvD K te σ H d := fun H1 e Q q => h H1 e Q fun H2 e2 => q v H2 e2 (Dw.ex (e.trans e2) d v hd)
theorem evd_var {i : Nat} (h : σ[i]? = some (some v)) (hd : Dw K H v d) : EvD K (tVar i) σ H d := evd_of (ev_var h) hd
theorem evd_int {i : Int} : EvD K (tC (.int i)) σ H (.int i) := evd_of ev_c (.int i)
theorem evd_non : EvD K (tC .non) σ H .none := evd_of ev_c .non
theorem evd_bl {b : Bool} : EvD K (tC (.bl b)) σ H (.bool b) := evd_of ev_c (.bl b)
theorem evd_str {x : Str} : EvD K (tC (.str x)) σ H (.str x) := evd_of ev_c (.str x)
theorem eda_nil : EvDA K tNil σ H [] := fun H1 _ Q q => q [] H1 (Ex.refl H1) .nil
theorem eda_cons (h : EvD K te σ H d) (hr : EvDA K ta σ H ds) : EvDA K (tCons te ta) σ H (d :: ds) := fun H1 e Q q =>
  h H1 e _ fun v H2 e2 hv => hr H2 (e.trans e2) _ fun vs H3 e3 hvs => q (v :: vs) H3 (e2.trans e3) (.cons (Dw.ex e3 d v hv) hvs)
theorem evd_tup (h : EvDA K ta σ H ds) (hl : ds.length ≤ 100000) : EvD K (tTup ta) σ H (.tuple ds) := fun H1 e Q q =>
  h H1 e _ fun vs H2 e2 hvs => ⟨sz_of (by rw [hvs.len]; exact hl), fun p hp => q (.ref p) _ (e2.trans (Ex.new hp)) (.tup (st_of upd_same) (DwAll.ex (Ex.new hp) ds vs hvs))⟩
theorem evd_lst (h : EvDA K ta σ H ds) (hl : ds.length ≤ 100000) : EvD K (tLst ta) σ H (.list ds) := fun H1 e Q q =>
  h H1 e _ fun vs H2 e2 hvs => ⟨sz_of (by rw [hvs.len]; exact hl), fun p hp => q (.ref p) _ (e2.trans (Ex.new hp)) (.lst (sq_of upd_same) (DwAll.ex (Ex.new hp) ds vs hvs))⟩
theorem evd_emp : EvD K tDNewK σ H (.dict []) := fun H1 e Q q => by
  intro p hp
  exact q (.ref p) _ (Ex.new hp) (.emp upd_same)
/-- repr of short data -/
theorem ev_repr (h : EvD K te σ H d) (hs : short d = true) (hn : nodes d ≤ 8000) (hp : d.depth ≤ 60) : Ev (tCB (rRepr K) (tCons te tNil)) σ H (.str d.shown) := fun H1 e Q q =>
  h H1 e _ fun v H2 e2 hv => ⟨v, d, rfl, hv, hs, hn, hp, q H2 e2⟩
/-- the same text twice -/
theorem ev_eqS {s : Str} (ha : Ev te σ H (.str s)) (hb : Ev tb σ H (.str s)) : Ev (tOp rEq te tb) σ H (.bl true) := ev_is (ev_op ha hb (rv_eq rfl)) (by simp)
theorem ev_andT {ta : TE} (h1 : Ev ta σ H (.bl true)) (h2 : Ev tb σ H (.bl true)) : Ev (tAndV ta tb) σ H (.bl true) := ev_is (ev_andV h1 fun _ => h2) rfl
end
end DL

set_option maxHeartbeats 4000000
/-! Own exceptions over any built-in base, made by position or by name, at the machine's level. -/
namespace PySem
namespace DXM
open PySem.W PySem.Calls PyProof.Rows PySem.HandSPX
section
variable {M : Model} {A : Around} {E : Value → Shared → Prop} {h : Heap} {g : Array GenState} {d : Drawn} {t : Nat} {os : OsState}
variable {nm q : Str} {C N : Addr} {bs bm : List Value} {hdct : Bool} {sn : List Str} {sub : List Value} {ab : Bool}
  {col : Option Bool} {dd : Option Addr} {k0 k1 k2 k3 k5 : Option Value} {B newId initId : String}
theorem check_new_kw (F : ExcBaseFacts B newId initId bm)
    {rest : List Value} {kw : List (Str × Value)} {Q : Unit → Shared → Prop}
    (hC : h.get? C = some (excClassObj nm q C N bs bm hdct sn sub ab col dd k0 k1 k2 k3 k5 newId))
    (hq : Q () ⟨h, g, d, t, os⟩) : wpAny M A (checkBuiltinCall newId ⟨.ref C :: rest, kw⟩) Q E ⟨h, g, d, t, os⟩ := by
  have inB : (Value.ref C :: bm).contains (.type B) = true := by
    rw [List.contains_cons, F.hasB, Bool.or_true]
  have star := F.noStar
  simp only [checkBuiltinCall, F.newKind, F.newSplit, F.newRow]
  repeat (first
    | refine wpAny_loadPart_at hC ?_
    | (refine wpAny_isSubtype_exc hC ?_; rw [inB])
    | refine wpAny_staticBase_exc hC ?_
    | refine wpAny_madeBy_exc hC ?_
    | simp only [bne_self_eq_false, Bool.false_eq_true, if_false]
    | wp_step)
  exact hq
end
section
variable {prog : Program} {w : World} {A : Around} {E : Value → Shared → Prop} {R : Result → Shared → Prop} {h : Heap}
  {g : Array GenState} {d : Drawn} {t : Nat} {os : OsState}
variable {nm q : Str} {C N : Addr} {bs bm : List Value} {hdct : Bool} {sn : List Str} {sub : List Value} {ab : Bool}
  {col : Option Bool} {dd : Option Addr} {k0 k1 k2 k3 k5 : Option Value} {B newId initId : String}
theorem new_kw (F : ExcBaseFacts B newId initId bm) {rest : List Value} {kw : List (Str × Value)}
    (hC : h.get? C = some (excClassObj nm q C N bs bm hdct sn sub ab col dd k0 k1 k2 k3 k5 newId))
    (hq : R (.ok (.ret (.ref (h.objs.size + 1)))) ⟨(h.push (W.kdv_tup rest)).push (excO C h.objs.size), g, d, t, os⟩)
    (hrest : rest.length ≤ sizeLine) : codeAny (model prog w) A (.builtin newId ⟨.ref C :: rest, kw⟩) R ⟨h, g, d, t, os⟩ := by
  have ends := F.ends
  have inB : (Value.ref C :: bm).contains (.type B) = true := by
    rw [List.contains_cons, F.hasB, Bool.or_true]
  have inA : (Value.ref C :: bm).contains (.type "AttributeError") = false := by
    rw [List.contains_cons, F.noAttr]; rfl
  have inN : (Value.ref C :: bm).contains (.type "NameError") = false := by
    rw [List.contains_cons, F.noName]; rfl
  refine codeAny_builtinAt F.entry ?_
  unfold Builtin.«BaseException.__new__»
  refine wpAt_bind ?_
  show wpAt _ _ _ (stack >>= _) _ _ _
  refine wpAt_bind (wpAt_stack fun p below => wpAt_of_wpAny ?_)
  wp_walk
  refine wpAt_of_wpAny ?_
  rw [F.owner]
  repeat (first
    | with_reducible refine wpAny_madeHere_exc F.canon hC ?_
    | with_reducible refine wpAny_loadPart_at hC ?_
    | (with_reducible refine wpAny_isSubtype_exc hC ?_; first | rw [inB] | rw [inA] | rw [inN])
    | wp_step)
  show R _ _
  rw [Heap.size_push]
  exact hq
theorem type_call_kw (F : ExcBaseFacts B newId initId bm) {rest : List Value} {kw : List (Str × Value)} {fI : Addr} {Q : Fin → Shared → Prop}
    (hC : h.get? C = some (excClassObj nm q C N bs bm hdct sn sub ab col dd k0 k1 k2 k3 k5 newId))
    (hi : W.Looks (model prog w) h (typeLookup (.ref C) "__init__") (some (.ref fI)))
    (hb : ∀ self, W.Looks (model prog w) h (bindSpecial (.ref fI) self) (.ref fI, [self])) (hrest : rest.length ≤ sizeLine)
    (hq : codeAny (model prog w) A (.call (.ref fI) ⟨.ref (h.objs.size + 1) :: rest, kw⟩)
      (fun r s' => match r with
        | .ok (.ret v) => v = .none ∧ Q (.done (.ret (.ref (h.objs.size + 1)))) s'
        | .ok _ => False
        | .error e => E e s')
      ⟨(h.push (W.kdv_tup rest)).push (excO C h.objs.size), g, d, t, os⟩) :
    wpAny (model prog w) A (Builtin.«type.__call__» ⟨.ref C :: rest, kw⟩) Q E ⟨h, g, d, t, os⟩ := by
  repeat (first | with_reducible refine wpAny_loadPart_at hC ?_ | with_reducible refine wpAny_madeBy_exc hC ?_ | wp_step)
  refine codeAny_call_builtin_code (Code.quiet_builtin _ F.quiet) (check_new_kw F hC ?_)
  refine new_kw F hC ?_ hrest
  show wpAny _ _ _ _ _ _
  have kept : ∀ b o, h.get? b = some o → ((h.push (W.kdv_tup rest)).push (excO C h.objs.size)).get? b = some o :=
    fun b o e => Heap.get?_push_of_some _ (Heap.get?_push_of_some _ e)
  have hC1 := kept _ _ hC
  have hnew : ((h.push (W.kdv_tup rest)).push (excO C h.objs.size)).get? (h.objs.size + 1) = some (excO C h.objs.size) := by
    heap_get
  have inC : (Value.ref C :: bm).contains (.ref C) = true := by simp
  have i1 := hi.keeps kept
  have b1 := (hb (.ref (h.objs.size + 1))).keeps kept
  unfold isInstance
  repeat (first
    | with_reducible refine wpAny_loadPart_at hnew ?_
    | (with_reducible refine wpAny_isSubtype_exc hC1 ?_; rw [inC])
    | wp_step)
  show wpAny _ _ (typeLookup (.ref C) _) _ _ _
  refine i1.at ?_
  refine wpAny_holding (wpAny_bind (b1.at ?_))
  refine wpAny_bind (wpAny_call (codeAny_mono hq fun r s' z => ?_))
  rcases r with e | (v | _ | _ | _) <;> first | exact z | exact z.elim | skip
  obtain ⟨rfl, z⟩ := z
  first
    | exact wpAny_pure (wpAny_pure z)
    | (wp_walk; exact z)
theorem call_kw (F : ExcBaseFacts B newId initId bm) {rest : List Value} {kw : List (Str × Value)} {fI : Addr}
    (hC : h.get? C = some (excClassObj nm q C N bs bm hdct sn sub ab col dd k0 k1 k2 k3 k5 newId))
    (hi : W.Looks (model prog w) h (typeLookup (.ref C) "__init__") (some (.ref fI)))
    (hb : ∀ self, W.Looks (model prog w) h (bindSpecial (.ref fI) self) (.ref fI, [self])) (hrest : rest.length ≤ sizeLine)
    (hq : codeAny (model prog w) (A.under (.builtin "type.__call__" ⟨.ref C :: rest, kw⟩))
      (.call (.ref fI) ⟨.ref (h.objs.size + 1) :: rest, kw⟩) (W.InitBack (h.objs.size + 1) R)
      ⟨(h.push (W.kdv_tup rest)).push (excO C h.objs.size), g, d, t, os⟩) :
    codeAny (model prog w) A (.call (.ref C) ⟨rest, kw⟩) R ⟨h, g, d, t, os⟩ := by
  have f1 := tc_lookup
  have f2 := tc_bind (.ref C)
  have hTy : (⟨h, g, d, t, os⟩ : Shared).TypeIs (.ref C) "type" := ⟨_, hC, rfl⟩
  refine codeAny_of_tree ?_
  show wpAny _ _ (callAny (.ref C) _) _ _ _
  repeat (any_goals (first | assumption | with_reducible refine wpAny_loadPart_at hC ?_ | wp_step))
  refine ⟨rfl, ?_⟩
  refine codeAny_call_builtin_at (Code.quiet_builtin _ (by decide +kernel)) entry_typeCall
    (wpAny_check_type_call_sub hC (type_call_kw F hC hi hb hrest ?_))
  refine codeAny_mono hq fun r s' z => ?_
  rcases r with e | (v | _ | _ | _) <;> exact z
end
/-! ### self.name = v on such an exception -/
section
open Builtin Builtin.ObjectAttr
variable {prog : Program} {w : World} {A : Around} {R : Result → Shared → Prop} {hp : Heap} {g : Array GenState} {d : Drawn} {t : Nat} {os : OsState}
theorem store_first {K : W.Frag} {name : Str} {tk : Tok} {v : Value} {x C : Addr} {fv : Array Value} {cd : ClassData} {bm : List Value}
    (X : K.In hp) (hx : hp.get? x = some { cls := .ref C, data := .fields fv }) (hcd : W.clsIn K C = some cd)
    (hm : cd.mro = .ref C :: bm) (hpass : ∀ self : Value, refuseLoop self "__setattr__" bm = pure ()) (hobj : bm.contains (.type "object") = true)
    (hh : cd.hasDict = true) (ha : W.findIn K (.ref C) name = some none)
    (hq : ∀ h' tk' dx, (∀ b o, b ≠ x → hp.get? b = some o → h'.get? b = some o) → hp.objs.size ≤ dx → dx ≠ x →
      h'.get? x = some { cls := .ref C, dict := some dx, data := .fields fv } →
      h'.Ns1 dx (fun y => if y = name then some v else none) → R (.ok (.ret .none)) ⟨h', g, d, tk', os⟩) :
    codeAny (model prog w) A (.call (.builtin "object.__setattr__") ⟨[.ref x, .str name tk, v], []⟩) R ⟨hp, g, d, t, os⟩ := by
  have I : W.InstAt hp x { cls := .ref C, data := .fields fv } C none := ⟨hx, rfl, rfl, trivial⟩
  have SF := F.store_object
  have ne : cd.mro.isEmpty = false := by rw [hm]; rfl
  have hob : cd.mro.contains (.type "object") = true := by
    rw [hm, List.contains_cons, hobj, Bool.or_true]
  have away : x ≠ hp.objs.size := Nat.ne_of_lt (Heap.lt_size hx)
  have isobj : W.Looks (model prog w) hp (isInstance (.ref x) (.type "object")) true :=
    I.type.andThen (W.looks_mroIn X (by unfold W.mroIn; rw [hcd, Option.bind_some, if_neg (by rw [ne]; decide), hob]))
  refine codeAny_call_builtin SF.slot.plain SF.entry (@W.check_slot (model prog w) _ _ ⟨hp, g, d, t, os⟩ "object.__setattr__" "object"
    "__setattr__" (.ref x) [.str name tk, v] [] _ SF.kind SF.split isobj (SF.args (.ref x) (.str name tk) v) ?_)
  have lm : W.Looks (model prog w) hp (mroOf (.ref C)) cd.mro := (W.looks_clsIn X hcd).andThen .now
  have lt : W.Looks (model prog w) hp (storeTaker? none) none := .now
  have lc : W.Looks (model prog w) hp (classData C) cd := W.looks_clsIn X hcd
  rw [W.osa_eq, refuse_eq]
  refine wpAny_bind (wpAny_bind (I.type.at (wpAny_bind (lm.at ?_))))
  rw [show refuseLoop (.ref x) "__setattr__" cd.mro = pure () by rw [hm, refuseLoop_ref]; exact hpass _]
  refine wpAny_pure (wpAny_bind (I.type.at (wpAny_bind ((W.looks_findIn X ha).at (wpAny_bind (lt.at ?_))))))
  show wpAny _ _ (storeInOwnDict (.ref x) (.ref C) (.str name tk) name v false) _ _ _
  obtain ⟨nm, bs, mro, ns, qn, hd, sn, sb, ab, col, del⟩ := cd
  dsimp only at hh
  subst hh
  unfold storeInOwnDict ownDictForStores
  repeat (first | with_reducible refine store_in_new ?_ ?_ | with_reducible refine wpAny_loadPart_at hx ?_ | with_reducible refine lc.at ?_ | wp_step)
  · exact ⟨_, #[], _, (Heap.get?_update_ne _ _ _ _ away.symm).trans (Heap.get?_push_at rfl rfl), rfl, fun e he => absurd he (by simp), fun _ => rfl⟩
  · intro h' tk' hn' hs
    have hx1 : (hp.push { cls := .type "dict", data := .dict #[] }).get? x = some { cls := .ref C, data := .fields fv } := Heap.get?_push_of_some _ hx
    refine hq h' tk' hp.objs.size (fun b o hb ho => ?_) (Nat.le_refl _) away.symm ?_ hn'
    · exact (hs.2 b (Nat.ne_of_lt (Heap.lt_size ho))).trans ((Heap.get?_update_ne _ _ _ _ hb).trans (Heap.get?_push_of_some _ ho))
    · exact (hs.2 x away).trans (Heap.get?_update_self _ hx1 rfl)
theorem store_more {K : W.Frag} {name : Str} {tk : Tok} {v : Value} {x C dx : Addr} {fv : Array Value} {cd : ClassData} {bm : List Value} {m0 : Str → Option Value} {nl : List Str}
    (X : K.In hp) (hx : hp.get? x = some { cls := .ref C, dict := some dx, data := .fields fv }) (hns : hp.Ns1 dx m0) (hw : Within m0 nl) (hz : nl.length ≤ 1000)
    (hcd : W.clsIn K C = some cd) (hm : cd.mro = .ref C :: bm) (hpass : ∀ self : Value, refuseLoop self "__setattr__" bm = pure ()) (hobj : bm.contains (.type "object") = true)
    (hh : cd.hasDict = true) (ha : W.findIn K (.ref C) name = some none)
    (hq : ∀ h' tk', (∀ b o, b ≠ dx → hp.get? b = some o → h'.get? b = some o) →
      h'.Ns1 dx (fun y => if y = name then some v else m0 y) → R (.ok (.ret .none)) ⟨h', g, d, tk', os⟩) :
    codeAny (model prog w) A (.call (.builtin "object.__setattr__") ⟨[.ref x, .str name tk, v], []⟩) R ⟨hp, g, d, t, os⟩ := by
  obtain ⟨oD, esD, epD, hoD, hdD, _⟩ := hns.count hw
  have I : W.InstAt hp x { cls := .ref C, dict := some dx, data := .fields fv } C (some oD) := ⟨hx, rfl, rfl, hoD⟩
  have SF := F.store_object
  have ne : cd.mro.isEmpty = false := by rw [hm]; rfl
  have hob : cd.mro.contains (.type "object") = true := by
    rw [hm, List.contains_cons, hobj, Bool.or_true]
  have isobj : W.Looks (model prog w) hp (isInstance (.ref x) (.type "object")) true :=
    I.type.andThen (W.looks_mroIn X (by unfold W.mroIn; rw [hcd, Option.bind_some, if_neg (by rw [ne]; decide), hob]))
  refine codeAny_call_builtin SF.slot.plain SF.entry (@W.check_slot (model prog w) _ _ ⟨hp, g, d, t, os⟩ "object.__setattr__" "object"
    "__setattr__" (.ref x) [.str name tk, v] [] _ SF.kind SF.split isobj (SF.args (.ref x) (.str name tk) v) ?_)
  have lm : W.Looks (model prog w) hp (mroOf (.ref C)) cd.mro := (W.looks_clsIn X hcd).andThen .now
  have lt : W.Looks (model prog w) hp (storeTaker? none) none := .now
  have lc : W.Looks (model prog w) hp (classData C) cd := W.looks_clsIn X hcd
  rw [W.osa_eq, refuse_eq]
  refine wpAny_bind (wpAny_bind (I.type.at (wpAny_bind (lm.at ?_))))
  rw [show refuseLoop (.ref x) "__setattr__" cd.mro = pure () by rw [hm, refuseLoop_ref]; exact hpass _]
  refine wpAny_pure (wpAny_bind (I.type.at (wpAny_bind ((W.looks_findIn X ha).at (wpAny_bind (lt.at ?_))))))
  show wpAny _ _ (storeInOwnDict (.ref x) (.ref C) (.str name tk) name v false) _ _ _
  obtain ⟨nm, bs, mro, ns, qn, hd, sn, sb, ab, col, del⟩ := cd
  dsimp only at hh
  subst hh
  unfold storeInOwnDict ownDictForStores
  repeat (first | with_reducible refine OEX.store_in_old hns hw hz ?_ | with_reducible refine wpAny_loadPart_at hx ?_ | with_reducible refine lc.at ?_ | wp_step)
  intro h' tk' hn' hs
  exact hq h' tk' (fun b o hb ho => (hs.2 b hb).trans ho) hn'
end
end DXM
end PySem

set_option maxHeartbeats 4000000
/-! Own exceptions as values: made, stored to, read, asked by isinstance. -/
namespace DL
open PySem PySem.Spec PyProof.Rows L2
/-- a built-in base of own exceptions -/
structure BX (B newId initId : String) (bm : List Value) : Prop where
  F : ExcBaseFacts B newId initId bm
  pass : ∀ self : Value, refuseLoop self "__setattr__" bm = pure ()
  obj : bm.contains (.type "object") = true
  typ : typeOf (.type B) = pure (.type "type")
  bas : bm.contains (.type "BaseException") = true
  stub : Manifest.isStub B = false
  hand : PySem.W.handedIn (.builtin initId) = true
theorem bx_V : BX "ValueError" "ValueError.__new__" "ValueError.__init__" [.type "ValueError", .type "Exception", .type "BaseException", .type "object"] :=
  ⟨F.excBase_ValueError, F.store_ValueError.passes, by decide +kernel, by kernel_rfl, by decide +kernel, by decide +kernel, by decide +kernel⟩
theorem bx_R : BX "RuntimeError" "RuntimeError.__new__" "RuntimeError.__init__" [.type "RuntimeError", .type "Exception", .type "BaseException", .type "object"] :=
  ⟨F.excBase_RuntimeError, F.store_RuntimeError.passes, by decide +kernel, by kernel_rfl, by decide +kernel, by decide +kernel, by decide +kernel⟩
theorem bx_L : BX "LookupError" "LookupError.__new__" "LookupError.__init__" [.type "LookupError", .type "Exception", .type "BaseException", .type "object"] :=
  ⟨F.excBase_LookupError, F.store_LookupError.passes, by decide +kernel, by kernel_rfl, by decide +kernel, by decide +kernel, by decide +kernel⟩
/-- what the written part says of an own exception class at C -/
structure XC (K : PySem.W.Frag) (C : Addr) (newId : String) (bm : List Value) : Prop where
  cls : ∃ nm q N bs sn sub ab col dd k0 k1 k2 k3 k5, K.lookup C = some (excClassObj nm q C N bs bm true sn sub ab col dd k0 k1 k2 k3 k5 newId)
  sa : PySem.W.findIn K (.ref C) "__setattr__" = some (some (.builtin "object.__setattr__"))
  ga : PySem.W.findIn K (.ref C) "__getattribute__" = some (some (.builtin "BaseException.__getattribute__"))
  gg : PySem.W.findIn K (.ref C) "__getattr__" = some none
  cl : PySem.W.findIn K (.ref C) "__class__" = some (some (.builtin "object.__class__"))
  kC : PySem.W.keepIn K (.ref C) = true
theorem XC.clsIn {K : PySem.W.Frag} {C : Addr} {newId : String} {bm : List Value} (T : XC K C newId bm) :
    ∃ cd : ClassData, PySem.W.clsIn K C = some cd ∧ cd.mro = .ref C :: bm ∧ cd.hasDict = true := by
  obtain ⟨nm, q, N, bs, sn, sub, ab, col, dd, k0, k1, k2, k3, k5, hC⟩ := T.cls
  refine ⟨{ name := nm, bases := bs, mro := .ref C :: bm, ns := N, qualname := q, hasDict := true, slotNames := sn, subclasses := sub, abstract := ab, collection := col, hasDel := false }, ?_, rfl, rfl⟩
  unfold PySem.W.clsIn
  rw [hC] <;> rfl
theorem XC.sub {K : PySem.W.Frag} {C : Addr} {newId : String} {bm : List Value} (T : XC K C newId bm) (hb : bm.contains (.type "BaseException") = true) :
    PySem.W.subIn K (.ref C) (.type "BaseException") = some true := by
  obtain ⟨cd, h1, h2, h3⟩ := T.clsIn
  show PySem.W.mroIn K C (.type "BaseException") = some true
  unfold PySem.W.mroIn
  rw [h1, Option.bind_some, h2, if_neg (show ¬ (List.isEmpty (Value.ref C :: bm) = true) from Bool.false_ne_true), List.contains_cons, hb, Bool.or_true]

section
variable {X : Cx} {pins : List (Addr × Obj)} {σ : L2.St} {H : Hp} {s : Shared} {a C dx : Addr} {f : Str} {y : V} {u : Value}
  {fs : List (Str × V)} {E : Value → Shared → Prop} {A : Around} {B newId initId : String} {bm : List Value}
/-- self.f = y, the first field -/
theorem xst_first {Q : Unit → Shared → Prop} (G : BX B newId initId bm) (T : XC X.K C newId bm) (I : Inv X pins σ H s) (e : H a = some (exo a C none))
    (hno : PySem.W.findIn X.K (.ref C) f = some none) (ry : RelV y u)
    (h : ∀ dx s', H dx = none → dx ≠ a → Inv X pins σ (upd (upd H dx (exd dx [(f, y)])) a (exo a C (some dx))) s' → Q () s') :
    wpAny (model X.prog X.w) A (setAttr (.ref a) f u) Q E s := by
  obtain ⟨cd, hcl, hmro, hdict⟩ := T.clsIn
  obtain ⟨t1, ho⟩ := exo_at I.hok e
  obtain ⟨hp, g, d, t, os⟩ := s
  refine PySem.W.set_plain I.kIn (ox := { cls := .ref C, dict := none, data := .fields #[.ref t1, .none, .none, .none, .bool false, .none] }) (od := none) ⟨ho, rfl, rfl, trivial⟩ T.sa ?_
  refine PySem.DXM.store_first I.kIn ho hcl hmro G.pass G.obj hdict hno (fun h' tk' dx k dn dne hx hn => ?_)
  have hnd : H dx = none := I.hok.fresh dn
  have nd : ∀ {b : Addr} {o : Obj}, hp.get? b = some o → b ≠ dx := fun {b o} q => Nat.ne_of_lt (Nat.lt_of_lt_of_le (Heap.lt_size q) dn)
  have na : ∀ {b : Addr}, H b = none → b ≠ a := fun {b} n z => by
    rw [z, e] at n
    cases n
  have U : Un X.fs [] H (upd (upd H dx (exd dx [(f, y)])) a (exo a C (some dx))) hp h' := by
    refine ⟨fun b o q n _ _ => k b o (na n) q, fun b o q n _ _ => ⟨o.slots, k b o (na n) q⟩, fun b o q n _ => ?_, fun b o q _ => ?_, fun b xs q => ?_, fun b o v q => ?_, fun b ps q => ?_⟩
    · rw [upd_ne (na n), upd_ne (nd q)]; exact n
    · by_cases hb : b = a
      · exact ⟨_, by rw [hb]; exact hx⟩
      · exact ⟨o, k b o hb q⟩
    · rw [upd_ne (at_ne e q exo_tup), upd_ne (ne_of_none q hnd)]; exact q
    · rw [upd_ne (at_ne e q exo_frz), upd_ne (ne_of_none q hnd)]; exact q
    · exact ⟨#[], by rw [upd_ne (at_ne e q exo_tbl), upd_ne (ne_of_none q hnd), q]; simp⟩
  refine h dx _ hnd dne (I.un (t' := tk') U fun b o q => ?_)
  by_cases hb : b = a
  · subst hb
    rw [upd_same] at q
    cases q
    exact exo_ok hx
  · rw [upd_ne hb] at q
    by_cases hd : b = dx
    · subst hd
      rw [upd_same] at q
      cases q
      exact exd_ok hn (relO_put (fs := []) ry fun g => True.intro)
    · rw [upd_ne hd] at q
      refine (I.hok b o q).stay (fun c v hc z => k c v ?_ z) (fun c hc => ?_) (fun c xs hc => ?_)
      · rcases hc with hc | hc
        · rw [hc]; exact hb
        · exact at_ne e hc exo_own
      · rw [upd_ne (at_ne e hc exo_own), upd_ne (ne_of_none hc hnd)]; exact hc
      · rw [upd_ne (at_ne e hc exo_tup), upd_ne (ne_of_none hc hnd)]; exact hc
/-- self.f = y, a further field -/
theorem xst_more {Q : Unit → Shared → Prop} (G : BX B newId initId bm) (T : XC X.K C newId bm) (I : Inv X pins σ H s) (e : H a = some (exo a C (some dx))) (ed : H dx = some (exd dx fs))
    (hl : fs.length ≤ 900) (hno : PySem.W.findIn X.K (.ref C) f = some none) (ry : RelV y u)
    (h : ∀ s', Inv X pins σ (upd H dx (exd dx ((f, y) :: fs))) s' → Q () s') : wpAny (model X.prog X.w) A (setAttr (.ref a) f u) Q E s := by
  obtain ⟨cd, hcl, hmro, hdict⟩ := T.clsIn
  obtain ⟨t1, ho⟩ := exo_at I.hok e
  obtain ⟨mA, hns, rel⟩ := exd_at I.hok ed
  have hw := within_of rel
  obtain ⟨hp, g, d, t, os⟩ := s
  obtain ⟨oD, _, _, hoD, _, _⟩ := hns.count hw
  refine PySem.W.set_plain I.kIn (ox := { cls := .ref C, dict := some dx, data := .fields #[.ref t1, .none, .none, .none, .bool false, .none] }) (od := some oD) ⟨ho, rfl, rfl, hoD⟩ T.sa ?_
  refine PySem.DXM.store_more I.kIn ho hns hw (by rw [List.length_map]; omega) hcl hmro G.pass G.obj hdict hno (fun h' tk' k hn => ?_)
  have hd : ∃ o, h'.get? dx = some o := by
    obtain ⟨o, _, _, e', _⟩ := hn
    exact ⟨o, e'⟩
  exact h _ (I.write (t' := tk') (x := dx) (e := dx) (o := exd dx ((f, y) :: fs)) (by rw [ed]; exact True.intro) (.inl rfl) k hd (exd_ok hn (relO_put ry rel)))
/-- Base.__init__(self, ..) -/
theorem xinit_ok {us : List Value} {Q : Value → Shared → Prop} (G : BX B newId initId bm) (T : XC X.K C newId bm) (I : Inv X pins σ H s) (e : H a = some (exo a C none)) (hl : us.length ≤ sizeLine)
    (h : ∀ s', Inv X pins σ H s' → Q .none s') : wpAny (model X.prog X.w) A (call (.builtin initId) (.ref a :: us)) Q E s := by
  obtain ⟨nm, q, N, bs, sn, sub, ab, col, dd, k0, k1, k2, k3, k5, hC⟩ := T.cls
  obtain ⟨t1, ho⟩ := exo_at I.hok e
  obtain ⟨hp, g, d, t, os⟩ := s
  refine wpAny_call (PySem.HandSPX.init_base G.F (fun Y => rfl) (I.kIn _ _ hC) ho hl fun h' t2 k hx => ?_)
  have J := I.write (t' := t) (x := a) (e := a) (o := exo a C none) (by rw [e]; exact True.intro) (.inl rfl) k ⟨_, hx⟩ (exo_ok hx)
  have eu : upd H a (exo a C none) = H := by
    funext b
    by_cases hb : b = a
    · rw [hb, upd_same, e]
    · rw [upd_ne hb]
  rw [eu] at J
  exact h _ J
end

/-! ### readings and rules -/
/-- Base.__init__(self, ..) -/
def tXin (C : Addr) (ta : TA) : TE := fun σ H Q => ta σ H fun vs H1 => ∃ (a : Addr) (ws : List V), vs = .ref a :: ws ∧ ws.length ≤ 1000 ∧ H1 a = some (exo a C none) ∧ Q .non H1
/-- self.f = e -/
def tXst (C : Addr) (f : Str) (to te : TE) : TS := fun D σ H => te σ H fun y H1 => to σ H1 fun x H2 => ∃ a : Addr, x = .ref a ∧
  ((H2 a = some (exo a C none) ∧ ∀ dx, H2 dx = none → dx ≠ a → D.nx σ (upd (upd H2 dx (exd dx [(f, y)])) a (exo a C (some dx)))) ∨
    ∃ (dx : Addr) (fs : List (Str × V)), H2 a = some (exo a C (some dx)) ∧ H2 dx = some (exd dx fs) ∧ fs.length ≤ 900 ∧ D.nx σ (upd H2 dx (exd dx ((f, y) :: fs))))
section
variable {X : Cx} {o e : Expr} {es : List Expr} {to te : TE} {ta : TA} {f : Str} {p p' p1 p2 pos : Pos} {C : Addr} {B newId initId : String} {bm : List Value} {xB : Str}
theorem pe_xinit {pl : Sem Bool} (G : BX B newId initId bm) (T : XC X.K C newId bm) (hg : Gl X xB) (hm : X.mg xB = none) (hbb : bootBuiltins xB = some (.type B))
    (vV : PySem.W.findCls X.K (.type B) (.type "type") "__init__" = some (.val (.builtin initId)))
    (ha : PA X (e :: es) ta) (hn : xB ≠ "__name__" := by decide) (hdb : (xB == ("__debug__" : Str)) = false := by decide)
    (hc : eval (.Call (.Attribute (.Name xB p1) "__init__" p2) (e :: es) [] pos) X.env = (do
      let ov ← eval (.Name xB p1) X.env
      standAt p2.atName
      let (f, first) ← holding [ov] (getMethod ov "__init__" pl)
      callWith pos f first (backTo pos (starEach (e :: es) X.env)) (backToKw pos (keywordEach [] X.env))) := by rfl)
    (he : starEach (e :: es) X.env = (false, eval e X.env) :: starEach es X.env := by rfl) (hpl : (backTo pos (starEach es X.env)).any (·.1) = false := by rfl) :
    PE X (.Call (.Attribute (.Name xB p1) "__init__" p2) (e :: es) [] pos) (tXin C ta) := by
  constructor
  intro pins s σ H Q I h
  refine PySem.W.methodCall_KW (ld_blt I hg hm hbb ?_ hn hdb) hc
  obtain ⟨m, fr⟩ := I.fr
  refine PySem.W.method_type fr I.ok.mod.kin G.typ G.stub vV G.hand ?_
  show wpAny _ _ (callWith pos (Value.builtin initId) [] (backTo pos (starEach (e :: es) X.env)) []) _ _ _
  refine PyProof.Rows.callWith_method1 (thn (ha.run pos pins _ σ H _ (I.tok _) h) fun us s1 ⟨vs, H1, I1, r1, a, ws, ev, hl, ea, q⟩ => ?_) he hpl
  subst ev
  cases r1 with
  | @cons _ u0 _ ur ra rw' =>
    obtain rfl : u0 = Value.ref a := ra
    have hlen : ur.length ≤ sizeLine := by
      rw [← Paired.length rw', sizeLine_eq]
      omega
    exact xinit_ok G T I1 ea hlen fun s' J => ⟨.non, H1, J, rfl, q⟩
theorem ps_xst (G : BX B newId initId bm) (T : XC X.K C newId bm) (hno : PySem.W.findIn X.K (.ref C) f = some none) (ho : PE X o to) (he : PE X e te)
    (hs : swapsWith e (some (.Attribute o f p')) pos.line X.env = pure false := by rfl) : PS X (.Assign [.Attribute o f p'] e pos) (tXst C f to te) := by
  constructor
  intro pins s σ H D I h
  refine plainObj_wpAny_Assign_Attribute (thn (he.run pins s σ H _ I h) fun v s1 ⟨y, H1, I1, r1, q1⟩ =>
    thn (ho.run pins s1 σ H1 _ I1 q1) fun u s2 ⟨x, H2, I2, r2, a, ex, q⟩ => ?_) hs
  subst ex
  obtain rfl : u = Value.ref a := r2
  rcases q with ⟨ea, q⟩ | ⟨dx, fs, ea, ed, hl, q⟩
  · exact xst_first G T I2 ea hno r1 fun dx s' n ne J => ⟨σ, _, J, q dx n ne⟩
  · exact xst_more G T I2 ea ed hl hno r1 fun s' J => ⟨σ, _, J, q⟩
end
/-! ### the making of one, held as a value -/
/-- C(e, ..): the arguments as __init__ takes them are gV of the positional ones and the named ones -/
def tXmk (C : Addr) (sp : Sp) (gV : List V → List V → List V) (n m : Nat) (ta tk : TA) : TE := fun σ H Q => ta σ H fun vs H1 => tk σ H1 fun zs H2 => vs.length = n ∧ zs.length = m ∧ (n ≤ 1000) ∧
  ∀ a, H2 a = none → sp (gV (.ref a :: vs) zs) (upd H2 a (exo a C none)) (fun v H3 => v = .non ∧ Q (.ref a) H3) (fun _ _ _ => False)
section
variable {X : Cx} {e : Expr} {es : List Expr} {kws : List Keyword} {ta tk : TA} {p pos : Pos} {C fI : Addr} {B newId initId : String} {bm : List Value} {x : Str}
  {k n : Nat} {fd : FuncData} {ps ks : List Str} {sp : Sp} {g : List Value → List Value → List Value} {gV : List V → List V → List V}
theorem run_xmk {pins : List (Addr × Obj)} {σ : L2.St} {H : Hp} {s : Shared} {Q : VK} {us ws : List Value} {vs zs : List V}
    (G : BX B newId initId bm) (T : XC X.K C newId bm) (iC : PySem.W.findIn X.K (.ref C) "__init__" = some (some (.ref fI)))
    (tI : PySem.W.typeIn X.K (.ref fI) = some (.type "function"))
    (F : FG X.prog X.w X.K X.mg X.base CX0 k fI fd ps sp) (hr : Room (k + 1) X.A) (hgd : Gd X.A) (hb : KBn X.K fd ps (n + 1) ks g gV)
    (I : Inv X pins σ H s) (r : Vals vs us) (rz : Vals zs ws) (l1 : vs.length = n) (l2 : zs.length = ks.length) (hn : n ≤ 1000)
    (h : ∀ a, H a = none → sp (gV (.ref a :: vs) zs) (upd H a (exo a C none)) (fun v H3 => v = .non ∧ Q (.ref a) H3) (fun _ _ _ => False)) :
    wpAny (model X.prog X.w) X.A (call (.ref C) us (ks.zip ws)) (EP X pins σ Q) X.xe s := by
  obtain ⟨nm, q, N, bs, sn, sub, ab, col, dd, k0, k1, k2, k3, k5, hC⟩ := T.cls
  obtain ⟨hp, g0, dr, tk0, os⟩ := s
  have hsz : hp.objs.size ≤ hp.objs.size + 1 := Nat.le_succ _
  have hfr : H (hp.objs.size + 1) = none := I.hok.fresh hsz
  have hq := h (hp.objs.size + 1) hfr
  have kk : ∀ b o, hp.get? b = some o → ((hp.push (PySem.W.kdv_tup us)).push (PySem.HandSPX.excO C hp.objs.size)).get? b = some o :=
    fun b o e => Heap.get?_push_of_some _ (Heap.get?_push_of_some _ e)
  have hget : ((hp.push (PySem.W.kdv_tup us)).push (PySem.HandSPX.excO C hp.objs.size)).get? (hp.objs.size + 1) = some (PySem.HandSPX.excO C hp.objs.size) := by
    heap_get
  have I2 : Inv X pins σ (upd H (hp.objs.size + 1) (exo (hp.objs.size + 1) C none)) ⟨(hp.push (PySem.W.kdv_tup us)).push (PySem.HandSPX.excO C hp.objs.size), g0, dr, tk0, os⟩ :=
    I.laid (t' := tk0) (a := hp.objs.size + 1) (o := exo (hp.objs.size + 1) C none) (h' := (hp.push (PySem.W.kdv_tup us)).push (PySem.HandSPX.excO C hp.objs.size)) kk hsz (exo_ok hget)
  have r1 : Vals (V.ref (hp.objs.size + 1) :: vs) (Value.ref (hp.objs.size + 1) :: us) := .cons rfl r
  have r2 := hb.rel r1 rz
  have e1 : (Value.ref (hp.objs.size + 1) :: us).length = n + 1 := r1.length.symm.trans (congrArg Nat.succ l1)
  have e2 : ws.length = ks.length := rz.length.symm.trans l2
  have hus : us.length ≤ sizeLine := by
    rw [← Paired.length r, sizeLine_eq]
    omega
  have go := F.go (X.A.under (.builtin "type.__call__" ⟨.ref C :: us, ks.zip ws⟩)) X.stack _ _ ⟨Value.ref (hp.objs.size + 1) :: us, ks.zip ws⟩
    (g (Value.ref (hp.objs.size + 1) :: us) ws) _ _ (fun _ _ _ => False) (hr.make C us (ks.zip ws)) (by
      have hgd' : X.A.guards = some [] := hgd
      show (X.A.under _).guards = some []
      simp [Around.under, Code.guards, Code.isGuard, guardIds, pushGuards, hgd']) (I2.env0.make C us (ks.zip ws))
    (hb.to _ (Value.ref (hp.objs.size + 1) :: us) ws I2.kIn e1 e2) r2 hq
  refine wpAny_call (PySem.DXM.call_kw G.F (I.kIn _ _ hC) (PySem.W.looks_findIn I.kIn iC) (fun self => PySem.W.bind_fn I.kIn self tI) hus
    (codeAny_mono go fun r s' hq' => ?_))
  match r, hq' with
  | .error er, hq' => exact hq'.elim
  | .ok .next, hq' => exact False.elim hq'
  | .ok .brk, hq' => exact False.elim hq'
  | .ok .cont, hq' => exact False.elim hq'
  | .ok (.ret u), hq' =>
    obtain ⟨v, H', I3, rv, ev, q3⟩ := I2.after hq'
    subst ev
    exact ⟨rv, ⟨V.ref (hp.objs.size + 1), H', I3, rfl, q3⟩⟩

variable (G : BX B newId initId bm) (T : XC X.K C newId bm) (iC : PySem.W.findIn X.K (.ref C) "__init__" = some (some (.ref fI)))
  (tI : PySem.W.typeIn X.K (.ref fI) = some (.type "function")) (F : FG X.prog X.w X.K X.mg X.base CX0 k fI fd ps sp) (hr : Room (k + 1) X.A) (hgd : Gd X.A)
include G T iC tI F hr hgd
/-- C(e, ..) -/
theorem pe_xmk (hg : Gl X x) (hm : X.mg x = some (.ref C)) (hb : KBn X.K fd ps (n + 1) [] g gV) (ha : PA X (e :: es) ta)
    (hdb : (x == ("__debug__" : Str)) = false := by decide) (he : starEach (e :: es) X.env = (false, eval e X.env) :: starEach es X.env := by rfl)
    (hpl : (backTo pos (starEach es X.env)).any (·.1) = false := by rfl) : PE X (.Call (.Name x p) (e :: es) [] pos) (tXmk C sp gV n 0 ta tNil) := by
  constructor
  intro pins s σ H Q I h
  refine wpAny_Call_Name_kw (ld_glob I hg hm ?_ hdb)
  refine PySem.W.callWith_K (h₀ := X.base) I.ok.mod.kin T.kC (thn (ha.run pos pins s σ H _ I h) fun us s1 ⟨vs, H1, I1, r, l1, l2, hn, q⟩ => ⟨I1.kIn, ?_⟩) he hpl
  exact run_xmk (ks := []) (ws := []) (zs := []) G T iC tI F hr hgd hb I1 r .nil l1 rfl hn q
/-- C() -/
theorem pe_xmk0 (hg : Gl X x) (hm : X.mg x = some (.ref C)) (hb : KBn X.K fd ps 1 [] g gV)
    (hdb : (x == ("__debug__" : Str)) = false := by decide) : PE X (.Call (.Name x p) [] [] pos) (tXmk C sp gV 0 0 tNil tNil) := by
  constructor
  intro pins s σ H Q I h
  obtain ⟨_, _, _, q⟩ := h
  refine wpAny_Call_Name_kw (ld_glob I hg hm ?_ hdb)
  exact PySem.W.callWith_K0 I.kIn T.kC (run_xmk (n := 0) (ks := []) (us := []) (vs := []) (ws := []) (zs := []) G T iC tI F hr hgd hb I .nil .nil rfl rfl (by decide) q)
/-- C(k = e, ..) -/
theorem pe_xmkK (hg : Gl X x) (hm : X.mg x = some (.ref C)) (hb : KBn X.K fd ps 1 ks g gV) (hkw : PK X kws tk)
    (hall : (backToKw pos (keywordEach kws X.env)).all (·.1.isSome) = true := by rfl) (hks : (backToKw pos (keywordEach kws X.env)).filterMap (·.1) = ks := by rfl)
    (hdb : (x == ("__debug__" : Str)) = false := by decide)
    (hpl : ((backTo pos (starEach [] X.env)).any (·.1) || (backToKw pos (keywordEach kws X.env)).any (·.1.isNone)) = false := by rfl) :
    PE X (.Call (.Name x p) [] kws pos) (tXmk C sp gV 0 ks.length tNil tk) := by
  constructor
  intro pins s σ H Q I h
  refine wpAny_Call_Name_kw (ld_glob I hg hm ?_ hdb)
  refine PySem.W.callWith_KW0 (h₀ := X.base) I.ok.mod.kin T.kC hall ?_ hpl
  refine thn (hkw.run pos pins s σ H _ I h) fun ws s2 ⟨zs, H2, I2, rz, _, l2, hn, q⟩ => ⟨I2.kIn, ?_⟩
  rw [hks]
  exact run_xmk (n := 0) (us := []) (vs := []) G T iC tI F hr hgd hb I2 .nil rz rfl l2 hn q
end
/-! ### a field read, isinstance -/
/-- what is known of the class of an exception value, whatever its base -/
structure XK1 (K : PySem.W.Frag) (C : Addr) : Prop where
  ga : PySem.W.findIn K (.ref C) "__getattribute__" = some (some (.builtin "BaseException.__getattribute__"))
  gg : PySem.W.findIn K (.ref C) "__getattr__" = some none
  sb : PySem.W.subIn K (.ref C) (.type "BaseException") = some true
  hd : PySem.W.hasDictIn K C = true
  cl : PySem.W.findIn K (.ref C) "__class__" = some (some (.builtin "object.__class__"))
  mo : PySem.W.mroIn K C (.type "object") = some true
theorem XC.k1 {K : PySem.W.Frag} {C : Addr} {B newId initId : String} {bm : List Value} (G : BX B newId initId bm) (T : XC K C newId bm) : XK1 K C := by
  obtain ⟨cd, h1, h2, h3⟩ := T.clsIn
  refine ⟨T.ga, T.gg, T.sub G.bas, ?_, T.cl, ?_⟩
  · unfold PySem.W.hasDictIn
    rw [h1]
    exact h3
  · unfold PySem.W.mroIn
    rw [h1, Option.bind_some, h2, if_neg (show ¬ (List.isEmpty (Value.ref C :: bm) = true) from Bool.false_ne_true), List.contains_cons, G.obj, Bool.or_true]
/-- e.f -/
def tXfld (K : PySem.W.Frag) (f : Str) (te : TE) : TE := fun σ H Q => te σ H fun x H1 => ∃ (a C dx : Addr) (fs : List (Str × V)) (v : V), x = .ref a ∧ XK1 K C ∧ PySem.W.findIn K (.ref C) f = some none ∧
  H1 a = some (exo a C (some dx)) ∧ H1 dx = some (exd dx fs) ∧ fs.lookup f = some v ∧ Q v H1
section
variable {X : Cx} {e : Expr} {te : TE} {f : Str} {pos : Pos}
theorem pe_xfld (he : PE X e te) (hb : attributeBase e f X.env (eval e X.env) = eval e X.env := by rfl) : PE X (.Attribute e f pos) (tXfld X.K f te) := by
  constructor
  intro pins s σ H Q I h
  refine attr_of hb (thn (he.run pins s σ H _ I h) fun u s1 hh => ?_)
  obtain ⟨x, H1, I1, rx, a, C, dx, fs, v, ex, T, hno, ea, ed, l, q⟩ := hh
  subst ex
  obtain rfl : u = Value.ref a := rx
  obtain ⟨t1, ho⟩ := exo_at I1.hok ea
  obtain ⟨mA, hns, hr⟩ := exd_at I1.hok ed
  obtain ⟨od, hod, hl⟩ := lookIn_ns hns
  obtain ⟨u, hu, ru⟩ := RelO.some_of (v := v) (o := mA f) (by rw [← l]; exact hr f)
  have J : PySem.W.InstAt s1.heap a { cls := .ref C, dict := some dx, data := .fields #[.ref t1, .none, .none, .none, .bool false, .none] } C (some od) := ⟨ho, rfl, rfl, hod⟩
  exact HandSPX.exc_get I1.kIn J T.ga T.gg T.sb (PySem.W.findObj_own T.hd hno rfl (by rw [hl, hu])) (handed_of ru) ⟨v, H1, I1.tok _, ru, q⟩
end
end DL
namespace PySem.W
open PySem PySem.Spec PySem.Calls PyProof.Rows
section
variable {prog : Program} {w : World} {A : Around} {E : Value → Shared → Prop} {s : Shared} {K : Frag} {x D : Addr} {ox : Obj} {od : Option Obj}
theorem dlx_findData {C : Addr} {name : Str} {a g : Value} (hc : (clsIn K C).isSome = true) (ha : findIn K (.ref C) name = some (some a))
    (hg : specialIn K a "__get__" = some (some g)) (ht : takesIn K a = some true) : findObj K C od name = some (.bind g a) := by
  obtain ⟨cd, hc⟩ := Option.isSome_iff_exists.mp hc
  unfold findObj
  rw [hc, Option.bind_some, ha, Option.bind_some]
  simp [hg, ht]
theorem dlx_class {Q : Option Value → Shared → Prop} (T : DL.XK1 K D)
    (hn : specialIn K (.builtin "object.__class__") "__get__" = some (some (.builtin "getset_descriptor.__get__"))) (htk : takesIn K (.builtin "object.__class__") = some true)
    (X : K.In s.heap) (I : InstAt s.heap x ox D od) (h : Q (some (.ref D)) { s with toks := s.toks + 1 }) : wpAny (model prog w) A (getAttr? (.ref x) "__class__") Q E s := by
  have hf : findObj K D od "__class__" = some (.bind (.builtin "getset_descriptor.__get__") (.builtin "object.__class__")) :=
    dlx_findData (by obtain ⟨cd, hc, _⟩ := any_some T.hd; rw [hc]; rfl) T.cl hn htk
  obtain ⟨hp, g, d, t, os⟩ := s
  have L0 := I.type (M := model prog w)
  have L1 := looks_findIn (M := model prog w) X T.ga
  have L2 := looks_findIn (M := model prog w) X T.gg
  have L3 := looks_find (M := model prog w) X I hf
  have sub : Looks (model prog w) hp (isInstance (.ref x) (.type "BaseException")) true := L0.andThen (looks_subIn X T.sb)
  have hx0 : (false && onTheHeap (Value.builtin "BaseException.__getattribute__")) = false := rfl
  have hx2 : (Value.builtin "BaseException.__getattribute__" == Value.builtin "object.__getattribute__") = false := by decide +kernel
  have hx1 : (onTheHeap (Value.ref D) && Value.builtin "BaseException.__getattribute__" == Value.builtin "object.__getattribute__") = false := by
    rw [hx2]; rfl
  unfold getAttr? getAttrBy? getAttrBy
  refine wpAny_bind (wpAny_mkText (wpAny_bind (wpAny_attempt (wpAny_holding (wpAny_bind (L0.at (wpAny_bind (L1.at ?_))))))))
  show wpAny _ _ (if (onTheHeap (Value.ref D) && Value.builtin "BaseException.__getattribute__" == Value.builtin "object.__getattribute__") = true then _ else _) _ _ _
  rw [hx1, if_neg Bool.false_ne_true]
  unfold getAttrByItsOwn hookBefore
  refine wpAny_bind ?_
  rw [if_pos (show onTheHeap (Value.ref D) = true from rfl)]
  refine L2.at ?_
  refine wpAny_bind (wpAny_attempt (wpAny_holding ?_))
  unfold callGetattribute
  rw [hx0, if_neg Bool.false_ne_true]
  unfold boundAndCalled
  rw [PySem.F.excAttr_ValueError.ga.bind (.ref x)]
  refine wpAny_bind (wpAny_pure ?_)
  show wpAny _ _ (call (.builtin "BaseException.__getattribute__") [.ref x, .str "__class__" t]) _ _ _
  refine wpAny_call (codeAny_call_builtin PySem.F.excAttr_ValueError.ga.plain PySem.F.entry_bexc_ga ?_)
  refine @check_slot (model prog w) _ _ ⟨hp, g, d, t + 1, os⟩ "BaseException.__getattribute__" "BaseException" "__getattribute__" (.ref x)
    [.str "__class__" t] [] _ (by decide +kernel) (by decide +kernel) sub (PySem.F.args_bexc_ga (.ref x) (.str "__class__" t)) ?_
  unfold Builtin.«object.__getattribute__»
  refine wpAny_bind (wpAny_of_eq (a := ((Value.ref x : Value), [Value.str "__class__" t])) (by first | rfl | (simp only [slotArgs]; rfl)) ?_)
  refine wpAny_bind (wpAny_pure (wpAny_bind (L0.at (wpAny_bind (L3.at ?_)))))
  show wpAny _ _ (holding [Value.builtin "object.__class__"] (call (.builtin "getset_descriptor.__get__") [.builtin "object.__class__", .ref x, .ref D]) >>= ret) _ _ _
  refine wpAny_bind (wpAny_holding (wpAny_call (class_get (s := ⟨hp, g, d, t + 1, os⟩) (ox := ox) (od := od) X I T.mo ?_)))
  refine wpAny_pure ?_
  show wpAny _ _ (handedOut (.ref D)) _ _ _
  rw [handedOut_of (v := .ref D) rfl]
  first
    | exact wpAny_pure (wpAny_pure h)
    | exact wpAny_pure h
    | exact wpAny_pure (wpAny_bind (wpAny_pure (wpAny_pure h)))
theorem dlx_kit (T : DL.XK1 K D) (hn : specialIn K (.builtin "object.__class__") "__get__" = some (some (.builtin "getset_descriptor.__get__")))
    (htk : takesIn K (.builtin "object.__class__") = some true) : KitX K (.ref x) (.ref D) (fun h => InstAt h x ox D od) := by
  obtain ⟨cdD, hcD, _⟩ := any_some T.hd
  have hob : ∃ o, K.lookup D = some o ∧ ∃ cd, o.data = .cls cd := by
    unfold clsIn at hcD
    split at hcD
    · rename_i c' d' cd' sl' ho
      exact ⟨_, ho, _, rfl⟩
    · cases hcD
  obtain ⟨o, ho, cd, hcd⟩ := hob
  obtain ⟨oc, odd, dat, osl⟩ := o
  subst hcd
  refine ⟨fun _ _ _ I => I.type, fun _ _ X _ => ?_, fun h tp dd its n sl X htp => ?_, fun X I k => dlx_class T hn htk X I k⟩
  · intro A' Q' E' s' k q
    unfold isType loadHead
    exact wpAny_bind (wpAny_loadPart (k _ _ (X _ _ ho)) (wpAny_pure q))
  · refine Bool.eq_false_iff.mpr fun q => ?_
    have e : D = tp := Value.ref.inj (beq_iff_eq.mp q)
    subst e
    have z := (X _ _ ho).symm.trans htp
    cases z
end
end PySem.W
namespace DL
open PySem PySem.Spec PyProof.Rows L2
/-- isinstance(e, c), e an exception value -/
def rIsX (K : PySem.W.Frag) : List V → Hp → VK → Prop := fun xs H Q => ∃ (a C : Addr) (d : Option Addr) (fs : List (Str × V)) (c : V) (u : Value) (b : Bool), xs = [.ref a, c] ∧ ClsV c u ∧ XK1 K C ∧
  H a = some (exo a C d) ∧ (∀ dx, d = some dx → H dx = some (exd dx fs)) ∧ PySem.W.kitOne K (.ref C) u = some b ∧ Q (.bl b) H
theorem call_isx {X : Cx} (hn : PySem.W.specialIn X.K (.builtin "object.__class__") "__get__" = some (some (.builtin "getset_descriptor.__get__")))
    (htk : PySem.W.takesIn X.K (.builtin "object.__class__") = some true) : CallR X (.builtin "isinstance") (rIsX X.K) := by
  intro pins s σ H xs us Q I r h
  obtain ⟨a, C, d, fs, c, u, b, rfl, k, T, ea, ed, e, q⟩ := h
  obtain ⟨u1, u2, rfl, r1, r2⟩ := vals2 r
  have e2 := k.eq r2
  subst e2
  obtain rfl : u1 = Value.ref a := r1
  obtain ⟨t1, ho⟩ := exo_at I.hok ea
  cases d with
  | none =>
    have J : PySem.W.InstAt s.heap a { cls := .ref C, dict := none, data := .fields #[.ref t1, .none, .none, .none, .bool false, .none] } C none := ⟨ho, rfl, rfl, trivial⟩
    exact PySem.W.kia_one (PySem.W.dlx_kit T hn htk) I.kIn J e (fun z => nomatch z) fun tk => ⟨.bl b, H, I.tok tk, rfl, q⟩
  | some dx =>
    obtain ⟨mA, hns, hr⟩ := exd_at I.hok (ed dx rfl)
    obtain ⟨od, hod, hl⟩ := lookIn_ns hns
    have J : PySem.W.InstAt s.heap a { cls := .ref C, dict := some dx, data := .fields #[.ref t1, .none, .none, .none, .bool false, .none] } C (some od) := ⟨ho, rfl, rfl, hod⟩
    exact PySem.W.kia_one (PySem.W.dlx_kit T hn htk) I.kIn J e (fun z => nomatch z) fun tk => ⟨.bl b, H, I.tok tk, rfl, q⟩
end DL

set_option maxHeartbeats 4000000
/-! Own exceptions as values: what their making comes to. -/
namespace DL
open PySem PySem.Spec PyProof.Rows L2
open Evl
def spX0 (C : Addr) : Sp := fun vs H Q _ => ∃ a, vs = [.ref a] ∧ H a = some (exo a C none) ∧ Q .non H
def spX1 (C : Addr) (f : Str) : Sp := fun vs H Q _ => ∃ (a : Addr) (y : V), vs = [.ref a, y] ∧ H a = some (exo a C none) ∧
  ∀ dx, H dx = none → dx ≠ a → Q .non (upd (upd H dx (exd dx [(f, y)])) a (exo a C (some dx)))
def spX2 (C : Addr) (f g : Str) : Sp := fun vs H Q _ => ∃ (a : Addr) (y z : V), vs = [.ref a, y, z] ∧ H a = some (exo a C none) ∧
  ∀ dx, H dx = none → dx ≠ a → Q .non (upd (upd (upd H dx (exd dx [(f, y)])) a (exo a C (some dx))) dx (exd dx [(g, z), (f, y)]))
/-- how a class of errors is made: its class, its __init__ by position and by name -/
structure XM (P : Program) (w : World) (K : PySem.W.Frag) (mg : Str → Option Value) (base : Heap) (k : Nat) (x : Str) (C : Addr) (newId : String) (bm : List Value)
    (sp : Sp) (n : Nat) (ks : List Str) (gV : List V → List V → List V) : Prop where
  g : mg x = some (.ref C)
  T : XC K C newId bm
  init : ∃ (fI : Addr) (fd : FuncData) (ps : List Str) (g0 g1 : List Value → List Value → List Value), PySem.W.findIn K (.ref C) "__init__" = some (some (.ref fI)) ∧
    PySem.W.typeIn K (.ref fI) = some (.type "function") ∧ FG P w K mg base CX0 k fI fd ps sp ∧ KBn K fd ps (n + 1) [] g0 (fun vs _ => vs) ∧ KBn K fd ps 1 ks g1 gV
section
variable {X : Cx} {k n : Nat} {x : Str} {C : Addr} {B newId initId : String} {bm : List Value} {sp : Sp} {ks : List Str} {gV : List V → List V → List V}
  {e : Expr} {es : List Expr} {kws : List Keyword} {ta tk : TA} {p pos : Pos}
theorem pe_xm (G : BX B newId initId bm) (M : XM X.prog X.w X.K X.mg X.base k x C newId bm sp n ks gV) (hr : Room (k + 1) X.A) (hgd : Gd X.A) (hg : Gl X x) (ha : PA X (e :: es) ta)
    (hdb : (x == ("__debug__" : Str)) = false := by decide) (he : starEach (e :: es) X.env = (false, eval e X.env) :: starEach es X.env := by rfl)
    (hpl : (backTo pos (starEach es X.env)).any (·.1) = false := by rfl) : PE X (.Call (.Name x p) (e :: es) [] pos) (tXmk C sp (fun vs _ => vs) n 0 ta tNil) := by
  obtain ⟨fI, fd, ps, g0, g1, iC, tI, F, b0, b1⟩ := M.init
  exact pe_xmk G M.T iC tI F hr hgd hg M.g b0 ha hdb he hpl
theorem pe_xm0 (G : BX B newId initId bm) (M : XM X.prog X.w X.K X.mg X.base k x C newId bm sp 0 ks gV) (hr : Room (k + 1) X.A) (hgd : Gd X.A) (hg : Gl X x)
    (hdb : (x == ("__debug__" : Str)) = false := by decide) : PE X (.Call (.Name x p) [] [] pos) (tXmk C sp (fun vs _ => vs) 0 0 tNil tNil) := by
  obtain ⟨fI, fd, ps, g0, g1, iC, tI, F, b0, b1⟩ := M.init
  exact pe_xmk0 G M.T iC tI F hr hgd hg M.g b0 hdb
theorem pe_xmK (G : BX B newId initId bm) (M : XM X.prog X.w X.K X.mg X.base k x C newId bm sp n ks gV) (hr : Room (k + 1) X.A) (hgd : Gd X.A) (hg : Gl X x) (hkw : PK X kws tk)
    (hall : (backToKw pos (keywordEach kws X.env)).all (·.1.isSome) = true := by rfl) (hks : (backToKw pos (keywordEach kws X.env)).filterMap (·.1) = ks := by rfl)
    (hdb : (x == ("__debug__" : Str)) = false := by decide)
    (hpl : ((backTo pos (starEach [] X.env)).any (·.1) || (backToKw pos (keywordEach kws X.env)).any (·.1.isNone)) = false := by rfl) :
    PE X (.Call (.Name x p) [] kws pos) (tXmk C sp gV 0 ks.length tNil tk) := by
  obtain ⟨fI, fd, ps, g0, g1, iC, tI, F, b0, b1⟩ := M.init
  exact pe_xmkK G M.T iC tI F hr hgd hg M.g b1 hkw hall hks hdb hpl
end
/-- an error of the class at C with one field that holds d, two such fields, none -/
def ErrD (K : PySem.W.Frag) (H : Hp) (a C : Addr) (f : Str) (d : PyData) : Prop := ∃ dx y, H a = some (exo a C (some dx)) ∧ H dx = some (exd dx [(f, y)]) ∧ Dw K H y d
def ErrD2 (K : PySem.W.Frag) (H : Hp) (a C : Addr) (f g : Str) (d e : PyData) : Prop := ∃ dx y z, H a = some (exo a C (some dx)) ∧ H dx = some (exd dx [(g, z), (f, y)]) ∧ Dw K H y d ∧ Dw K H z e
def ErrAt (H : Hp) (a C : Addr) : Prop := ∃ (d : Option Addr) (fs : List (Str × V)), H a = some (exo a C d) ∧ ∀ dx, d = some dx → H dx = some (exd dx fs)
section
variable {K : PySem.W.Frag} {H H' : Hp} {a C : Addr} {f g : Str} {d e : PyData}
theorem ErrAt.ex (x : Ex H H') (h : ErrAt H a C) : ErrAt H' a C := by
  obtain ⟨d, fs, h1, h2⟩ := h
  exact ⟨d, fs, x _ _ h1, fun dx hd => x _ _ (h2 dx hd)⟩
theorem ErrD.ex (x : Ex H H') (h : ErrD K H a C f d) : ErrD K H' a C f d := by
  obtain ⟨dx, y, h1, h2, h3⟩ := h
  exact ⟨dx, y, x _ _ h1, x _ _ h2, Dw.ex x d y h3⟩
theorem ErrD2.ex (x : Ex H H') (h : ErrD2 K H a C f g d e) : ErrD2 K H' a C f g d e := by
  obtain ⟨dx, y, z, h1, h2, h3, h4⟩ := h
  exact ⟨dx, y, z, x _ _ h1, x _ _ h2, Dw.ex x d y h3, Dw.ex x e z h4⟩
theorem ErrD.at_ (h : ErrD K H a C f d) : ErrAt H a C := by
  obtain ⟨dx, y, h1, h2, h3⟩ := h
  exact ⟨some dx, _, h1, fun dx' e => by cases e; exact h2⟩
theorem ErrD2.at_ (h : ErrD2 K H a C f g d e) : ErrAt H a C := by
  obtain ⟨dx, y, z, h1, h2, h3⟩ := h
  exact ⟨some dx, _, h1, fun dx' e => by cases e; exact h2⟩
end
/-- it comes to a new error of which P holds -/
def EvE (te : TE) (σ : L2.St) (H : Hp) (P : Addr → Hp → Prop) : Prop := ∀ H1, Ex H H1 → ∀ Q : VK, (∀ a H2, Ex H1 H2 → P a H2 → Q (.ref a) H2) → te σ H1 Q
section
variable {σ : L2.St} {H : Hp} {C : Addr} {f g : Str} {ta tk tb : TA} {te te2 : TE} {gV : List V → List V → List V} {ds es : List PyData} {n m i j : Nat} {d e : PyData} {K : PySem.W.Frag} {D : Ends} {u : TS}
theorem eve_0 (hn2 : n = 0) (hm : m = 0) (hg : ∀ a : Addr, gV [.ref a] [] = [.ref a]) : EvE (tXmk C (spX0 C) gV n m tNil tNil) σ H fun a H' => ErrAt H' a C := fun H1 e Q q =>
  ⟨hn2.symm, hm.symm, by omega, fun a na => ⟨a, hg a, upd_same, rfl, q a _ (Ex.new na) ⟨none, [], upd_same, fun _ h => by cases h⟩⟩⟩
theorem eve_1 (ha : EvDA K ta σ H ds) (hk : EvDA K tk σ H es) (hn : ds.length = n) (hm : es.length = m) (hn2 : n ≤ 1000)
    (hg : ∀ (a : Addr) vs zs, DwAll K H vs ds ∨ True → vs.length = ds.length → zs.length = es.length → ∃ y, gV (.ref a :: vs) zs = [.ref a, y] ∧ ∀ H', DwAll K H' vs ds → DwAll K H' zs es → Dw K H' y d) :
    EvE (tXmk C (spX1 C f) gV n m ta tk) σ H fun a H' => ErrD K H' a C f d := fun H1 e Q q =>
  ha H1 e _ fun vs H2 e2 hvs => hk H2 (e.trans e2) _ fun zs H3 e3 hzs => ⟨by rw [hvs.len]; exact hn, by rw [hzs.len]; exact hm, hn2, fun a na => by
    obtain ⟨y, hy, hd⟩ := hg a vs zs (.inr trivial) hvs.len hzs.len
    refine ⟨a, y, hy, upd_same, fun dx nd ne => ⟨rfl, ?_⟩⟩
    have nd3 : H3 dx = none := by rw [upd_ne ne] at nd; exact nd
    have x3 : Ex H3 (upd (upd (upd H3 a (exo a C none)) dx (exd dx [(f, y)])) a (exo a C (some dx))) := fun b x hb => by
      rw [upd_ne (ne_of_none hb na), upd_ne (ne_of_none hb nd3), upd_ne (ne_of_none hb na)]
      exact hb
    exact q a _ ((e2.trans e3).trans x3) ⟨dx, y, upd_same, by rw [upd_ne ne, upd_same], Dw.ex x3 d y (hd H3 (DwAll.ex e3 ds vs hvs) hzs)⟩⟩
theorem eve_2 {d1 d2 : PyData} (ha : EvDA K ta σ H ds) (hk : EvDA K tk σ H es) (hn : ds.length = n) (hm : es.length = m) (hn2 : n ≤ 1000)
    (hg : ∀ (a : Addr) vs zs, vs.length = ds.length → zs.length = es.length → ∃ y z, gV (.ref a :: vs) zs = [.ref a, y, z] ∧ ∀ H', DwAll K H' vs ds → DwAll K H' zs es → Dw K H' y d1 ∧ Dw K H' z d2) :
    EvE (tXmk C (spX2 C f g) gV n m ta tk) σ H fun a H' => ErrD2 K H' a C f g d1 d2 := fun H1 e Q q =>
  ha H1 e _ fun vs H2 e2 hvs => hk H2 (e.trans e2) _ fun zs H3 e3 hzs => ⟨by rw [hvs.len]; exact hn, by rw [hzs.len]; exact hm, hn2, fun a na => by
    obtain ⟨y, z, hy, hd⟩ := hg a vs zs hvs.len hzs.len
    refine ⟨a, y, z, hy, upd_same, fun dx nd ne => ⟨rfl, ?_⟩⟩
    have nd3 : H3 dx = none := by rw [upd_ne ne] at nd; exact nd
    have x3 : Ex H3 (upd (upd (upd (upd H3 a (exo a C none)) dx (exd dx [(f, y)])) a (exo a C (some dx))) dx (exd dx [(g, z), (f, y)])) := fun b x hb => by
      rw [upd_ne (ne_of_none hb nd3), upd_ne (ne_of_none hb na), upd_ne (ne_of_none hb nd3), upd_ne (ne_of_none hb na)]
      exact hb
    obtain ⟨h1, h2⟩ := hd H3 (DwAll.ex e3 ds vs hvs) hzs
    exact q a _ ((e2.trans e3).trans x3) ⟨dx, y, z, by rw [upd_ne (Ne.symm ne), upd_same], upd_same, Dw.ex x3 d1 y h1, Dw.ex x3 d2 z h2⟩⟩
/-- C(e) -/
theorem eve_p (h : EvD K te σ H d) : EvE (tXmk C (spX1 C f) (fun vs _ => vs) 1 0 (tCons te tNil) tNil) σ H fun a H' => ErrD K H' a C f d :=
  eve_1 (ds := [d]) (es := []) (eda_cons h eda_nil) eda_nil rfl rfl (by decide) fun a vs zs _ hv _ => by
    match vs, hv with
    | [y], _ => exact ⟨y, rfl, fun H' h _ => by cases h with | cons h1 h2 => exact h1⟩
/-- C(f = e) -/
theorem eve_k (h : EvD K te σ H d) : EvE (tXmk C (spX1 C f) (fun vs zs => vs ++ zs) 0 1 tNil (tCons te tNil)) σ H fun a H' => ErrD K H' a C f d :=
  eve_1 (ds := []) (es := [d]) eda_nil (eda_cons h eda_nil) rfl rfl (by decide) fun a vs zs _ hv hz => by
    match vs, hv, zs, hz with
    | [], _, [y], _ => exact ⟨y, rfl, fun H' _ h => by cases h with | cons h1 h2 => exact h1⟩
/-- C(d, e); C(g = e, f = d) -/
theorem eve_pp (h : EvD K te σ H d) (h2 : EvD K te2 σ H e) : EvE (tXmk C (spX2 C f g) (fun vs _ => vs) 2 0 (tCons te (tCons te2 tNil)) tNil) σ H fun a H' => ErrD2 K H' a C f g d e :=
  eve_2 (ds := [d, e]) (es := []) (eda_cons h (eda_cons h2 eda_nil)) eda_nil rfl rfl (by decide) fun a vs zs hv _ => by
    match vs, hv with
    | [y, z], _ => exact ⟨y, z, rfl, fun H' h _ => by cases h with | cons h1 h2 => cases h2 with | cons h3 h4 => exact ⟨h1, h3⟩⟩
theorem eve_kk (h : EvD K te σ H e) (h2 : EvD K te2 σ H d) : EvE (tXmk C (spX2 C f g) (fun vs zs => vs ++ zs.reverse) 0 2 tNil (tCons te (tCons te2 tNil))) σ H fun a H' => ErrD2 K H' a C f g d e :=
  eve_2 (ds := []) (es := [e, d]) eda_nil (eda_cons h (eda_cons h2 eda_nil)) rfl rfl (by decide) fun a vs zs hv hz => by
    match vs, hv, zs, hz with
    | [], _, [z, y], _ => exact ⟨y, z, rfl, fun H' _ h => by cases h with | cons h1 h2 => cases h2 with | cons h3 h4 => exact ⟨h3, h1⟩⟩
/-- the field of an error -/
theorem evd_xfld {a : Addr} (h : Ev te σ H (.ref a)) (k1 : XK1 K C) (hno : PySem.W.findIn K (.ref C) f = some none) (he : ErrD K H a C f d) : EvD K (tXfld K f te) σ H d := fun H1 e Q q =>
  h H1 e _ fun H2 e2 => by
    obtain ⟨dx, y, h1, h2, h3⟩ := he.ex (e.trans e2)
    exact ⟨a, C, dx, _, y, rfl, k1, hno, h1, h2, by simp [List.lookup], q y H2 e2 h3⟩
theorem evd_xfld1 {a : Addr} {d1 d2 : PyData} (h : Ev te σ H (.ref a)) (k1 : XK1 K C) (hno : PySem.W.findIn K (.ref C) f = some none) (hfg : f ≠ g) (he : ErrD2 K H a C f g d1 d2) : EvD K (tXfld K f te) σ H d1 := fun H1 e Q q =>
  h H1 e _ fun H2 e2 => by
    obtain ⟨dx, y, z, h1, h2, h3, h4⟩ := he.ex (e.trans e2)
    have hb : (f == g) = false := by simpa using hfg
    exact ⟨a, C, dx, _, y, rfl, k1, hno, h1, h2, by simp [List.lookup, hb], q y H2 e2 h3⟩
theorem evd_xfld2 {a : Addr} {d1 d2 : PyData} (h : Ev te σ H (.ref a)) (k1 : XK1 K C) (hno : PySem.W.findIn K (.ref C) g = some none) (he : ErrD2 K H a C f g d1 d2) : EvD K (tXfld K g te) σ H d2 := fun H1 e Q q =>
  h H1 e _ fun H2 e2 => by
    obtain ⟨dx, y, z, h1, h2, h3, h4⟩ := he.ex (e.trans e2)
    exact ⟨a, C, dx, _, z, rfl, k1, hno, h1, h2, by simp [List.lookup], q z H2 e2 h4⟩
/-- a, b = C(..), C(..); rest -/
theorem q_parE {P1 P2 : Addr → Hp → Prop} (m1 : ∀ a H1 H2, Ex H1 H2 → P1 a H1 → P1 a H2) (h1 : EvE te σ H P1) (h2 : EvE te2 σ H P2)
    (k : ∀ a b H1, Ex H H1 → P1 a H1 → P2 b H1 → u D ((σ.set i (some (.ref a))).set j (some (.ref b))) H1) : tSeq (tPar i j (tCons te (tCons te2 tNil))) u D σ H :=
  h1 H (Ex.refl H) _ fun a H1 e1 p1 => h2 H1 e1 _ fun b H2 e2 p2 => ⟨.ref a, .ref b, rfl, k a b H2 (e1.trans e2) (m1 a _ _ e2 p1) p2⟩
theorem q_parE2 {P1 P2 : Addr → Hp → Prop} (σ' : Addr → Addr → L2.St) (m1 : ∀ a H1 H2, Ex H1 H2 → P1 a H1 → P1 a H2) (h1 : EvE te σ H P1) (h2 : EvE te2 σ H P2)
    (hσ : ∀ a b, (σ.set i (some (.ref a))).set j (some (.ref b)) = σ' a b)
    (k : ∀ a b H1, Ex H H1 → P1 a H1 → P2 b H1 → u D (σ' a b) H1) : tSeq (tPar i j (tCons te (tCons te2 tNil))) u D σ H :=
  q_parE m1 h1 h2 fun a b H1 e p1 p2 => by rw [hσ a b]; exact k a b H1 e p1 p2
theorem q_setV2 {v : V} (σ' : L2.St) (h : Ev te σ H v) (hσ : σ.set i (some v) = σ') (k : ∀ H1, Ex H H1 → u D σ' H1) : tSeq (tAsg te (gName i)) u D σ H :=
  q_setV h fun H1 e => by rw [hσ]; exact k H1 e
end
end DL

set_option maxHeartbeats 4000000
/-! The pen: where the law's numbers come from. -/
namespace DL
open PySem PySem.Spec PyProof.Rows L2
def top (i : Nat) : Stmt := PySem.Challenge.pw_twobenches_k66_errors_required.main.body.getD i (.Pass ⟨0, 0, 0, 0⟩)

/-- all but p is as it was -/
def ExB (p : Addr) (H H' : Hp) : Prop := ∀ b o, b ≠ p → H b = some o → H' b = some o
theorem ExB.refl (p : Addr) (H : Hp) : ExB p H H := fun _ _ _ h => h
theorem ExB.trans {p : Addr} {H H1 H2 : Hp} (a : ExB p H H1) (b : ExB p H1 H2) : ExB p H H2 := fun x o n h => b x o n (a x o n h)
theorem ExB.of {p : Addr} {H H' : Hp} (e : Evl.Ex H H') : ExB p H H' := fun b o _ h => e b o h
theorem ExB.put {p : Addr} {H : Hp} {o : HO} : ExB p H (upd H p o) := fun b u n h => by rw [upd_ne n]; exact h
theorem ExB.new {p q : Addr} {H H1 : Hp} {o : HO} (e : ExB p H H1) (h : H1 q = none) : ExB p H (upd H1 q o) := fun b u n hb => by
  have h1 := e b u n hb
  rw [upd_ne (ne_of_none h1 h)]
  exact h1
/-- a pen at p: the list of the script's ints, the next seat, what is left of a number -/
def PenAt (H : Hp) (p : Addr) : Prop := ∃ (g : Addr) (ns : List Int) (seat left : Int),
  H p = some (.lst [.ref g, .int seat, .int left]) ∧ H g = some (.lst (ns.map V.int)) ∧ ns.length ≤ 63 ∧ 0 ≤ seat
/-- what the module's names are -/
structure PenT (K : PySem.W.Frag) (mg : Str → Option Value) : Prop where
  g_list : mg "list" = none
  g_int : mg "int" = none
  g_len : mg "len" = none
  g_range : mg "range" = none
section
variable {P : Program} {w : World} {K : PySem.W.Frag} {mg : Str → Option Value} {base : Heap}
abbrev sFresh : Stmt := top 16
theorem scFresh : FnScope ["_law_pen_here", "_law_seat", "_law_given", "_law_cell", "_law_prime", "_law_state", "_law_found", "_law_lap"] ["_law_pen_here"] (defScope sFresh) := ⟨rfl, rfl, rfl, by decide +kernel, rfl, by decide +kernel, by decide +kernel⟩
/-- the next number: any int that is not negative; the pen is a pen again -/
def spFresh : Sp := fun vs H Q _ => ∃ p, vs = [.ref p] ∧ PenAt H p ∧ ∀ n H', 0 ≤ n → PenAt H' p → ExB p H H' → Q (.int n) H'
theorem ok_fresh {f : Addr} {fd : FuncData} {k : Nat} (F : Fun K "_law_fresh" "_law_fresh" sFresh f fd) (T : PenT K mg) : FG P w K mg base CX0 (k + 1) f fd ["_law_pen_here"] spFresh := by
  refine fg_def F scFresh (fun vs H Q E h => ?_) (fun cdv A outer s H vs Q E hr hgd h => ?_)
  · obtain ⟨p, rfl, _⟩ := h
    rfl
  · have sc := scFresh
    obtain ⟨p, rfl, ⟨g, ns, seat, left, hp, hg, hl, h0⟩, q⟩ := h
    refine ⟨_, (pss_cons (ps_par (i := 1) (j := 2) rfl sc.nd rfl rfl (by decide) rfl rfl (pa_cons (pe_ix ix_list (pv 0) pe_int (fun _ _ => rfl)) (pa_cons (pe_ix ix_list (pv 0) pe_int (fun _ _ => rfl)) pa_nil)) (by rfl))
      (pss_cons (ps_asg (pe_op op_add (pv 1) pe_int) (pg_sub (pv 0) pe_int set_list))
      (pss_cons (ps_set (i := 3) sc.nd rfl (.inl rfl) (pe_ifExp (pt_cmpR (op_neD hr.units) (pv 2) (pe_lst pa_nil) (nomark _)) (pe_ix ix_list (pv 2) (pe_op op_modN (pe_callTy call_int1 (by rfl) T.g_int (by decide +kernel) (pa_cons (pv 1) pa_nil)) (pe_callB call_len_seq (by rfl) T.g_len (by decide +kernel) (pa_cons (pv 2) pa_nil))) (fun _ _ => rfl)) pe_int))
      (pss_cons (ps_if (PW.pt (pw_and (pt_cmpR op_lt (pv 1) (pe_callB call_len_seq (by rfl) T.g_len (by decide +kernel) (pa_cons (pv 2) pa_nil)) (nomark _)) (pw_and1 (pt_cmpR op_ge (pv 3) (pe_op op_pow pe_int pe_int) (nomark _))))) (pss_one (ps_ret (pe_op op_sub (pv 3) (pe_op op_pow pe_int pe_int)))) pss_nil)
      (pss_cons (ps_set (i := 4) sc.nd rfl (.inl rfl) pe_int)
      (pss_cons (ps_set (i := 5) sc.nd rfl (.inl rfl) (pe_op op_modN (pe_callTy call_int1 (by rfl) T.g_int (by decide +kernel) (pa_cons (pe_op op_add (pe_op op_add (pe_op op_mul (pv 3) pe_int) (pe_op op_mul pe_int (pv 1))) pe_int) pa_nil)) (pv 4)))
      (pss_cons (ps_set (i := 6) sc.nd rfl (.inl rfl) (pv 5))
      (pss_cons (ps_for PassesOwn.never rfl (pi_range1 (by rfl) T.g_range (pa_cons pe_int pa_nil)) (pg_name (i := 7) sc.nd rfl (.inl rfl)) (pss_cons (ps_set (i := 5) sc.nd rfl (.inl rfl) (pe_op op_modN (pe_callTy call_int1 (by rfl) T.g_int (by decide +kernel) (pa_cons (pe_op op_add (pe_op op_add (pe_op op_mul (pv 5) (pv 5)) (pe_op op_mul (pe_op op_mul pe_int (pe_op op_add (pv 7) pe_int)) (pe_op op_add (pv 1) pe_int))) (pv 3)) pa_nil)) (pv 4)))
      (pss_one (ps_set (i := 6) sc.nd rfl (.inl rfl) (pe_op op_add (pe_op op_mul (pv 6) (pv 4)) (pv 5))))))
      (pss_one (ps_ret (pv 6))))))))))), ?_⟩
    have npg : g ≠ p := ne_of hg hp (by intro z; cases ns <;> simp at z)
    -- seat, given = pen[1], pen[0]
    refine ⟨.ref p, rfl, p, _, 1, _, rfl, rfl, SqL.of hp, atI_nat (j := 1) rfl, ?_⟩
    refine ⟨.ref p, rfl, p, _, 0, _, rfl, rfl, SqL.of hp, atI_nat (j := 0) rfl, ?_⟩
    refine ⟨_, _, rfl, ?_⟩
    -- pen[1] = seat + 1
    refine ⟨.int seat, rfl, seat, 1, rfl, rfl, .ref p, rfl, p, _, 1, 1, rfl, rfl, hp, rfl, ?_⟩
    have hp1 : (upd H p (HO.lst ([V.ref g, V.int seat, V.int left].set 1 (V.int (seat + 1))))) p = some (.lst [.ref g, .int (seat + 1), .int left]) := upd_same
    have hg1 : (upd H p (HO.lst ([V.ref g, V.int seat, V.int left].set 1 (V.int (seat + 1))))) g = some (.lst (ns.map V.int)) := by rw [upd_ne npg]; exact hg
    have e1 : ExB p H (upd H p (HO.lst ([V.ref g, V.int seat, V.int left].set 1 (V.int (seat + 1))))) := ExB.put
    revert hp1 hg1 e1
    generalize upd H p (HO.lst ([V.ref g, V.int seat, V.int left].set 1 (V.int (seat + 1)))) = H1
    intro hp1 hg1 e1
    dsimp only
    -- cell = given[..] if given != [] else 0
    refine q_set (fun v H2 => ∃ c : Int, v = .int c ∧ H2 p = some (.lst [.ref g, .int (seat + 1), .int left]) ∧ H2 g = some (.lst (ns.map V.int)) ∧ ExB p H H2) (fun Q1 q1 => ?_) ?_
    · refine ⟨.ref g, rfl, Nat.zero_le _, fun o no => ?_⟩
      have hp2 : (upd H1 o (.lst [])) p = some (.lst [.ref g, .int (seat + 1), .int left]) := by rw [upd_ne (ne_of_none hp1 no)]; exact hp1
      have hg2 : (upd H1 o (.lst [])) g = some (.lst (ns.map V.int)) := by rw [upd_ne (ne_of_none hg1 no)]; exact hg1
      have e2 : ExB p H (upd H1 o (.lst [])) := e1.new no
      refine ⟨.list (ns.map PyData.int), .list [], Dp.lst (SqL.of hg2) (Dw.dp_ints ns), Dp.lst (SqL.of upd_same) .nil, shaped_ints ns, by decide +kernel, _, rfl, ?_⟩
      rw [eqv_list, eqvAll_nil]
      cases ns with
      | nil => exact q1 _ _ ⟨0, rfl, hp2, hg2, e2⟩
      | cons n0 r =>
        have hpos : (0 : Int) < (((n0 :: r).map V.int).length : Int) := by rw [List.length_map, List.length_cons]; omega
        refine ⟨.ref g, rfl, .int seat, rfl, .inl ⟨seat, rfl, .ref g, rfl, g, _, rfl, .inl (SqL.of hg2), seat, _, rfl, rfl, by omega, ?_⟩⟩
        have hm0 := Int.emod_nonneg seat (show (((n0 :: r).map V.int).length : Int) ≠ 0 by omega)
        have hm1 := Int.emod_lt_of_pos seat hpos
        dsimp only
        rw [Int.fmod_eq_emod_of_nonneg seat (by omega)]
        obtain ⟨j, hj⟩ : ∃ j : Nat, seat % (((n0 :: r).map V.int).length : Int) = (j : Int) := ⟨_, (Int.toNat_of_nonneg hm0).symm⟩
        rw [hj] at hm1 ⊢
        have hj2 : j < (n0 :: r).length := by rw [List.length_map] at hm1; omega
        refine ⟨g, _, _, .int (n0 :: r)[j], rfl, rfl, SqL.of hg2, atI_nat (j := j) (by rw [List.getElem?_map, List.getElem?_eq_getElem hj2]; rfl), ?_⟩
        exact q1 _ _ ⟨_, rfl, hp2, hg2, e2⟩
    · rintro _ H2 ⟨c, rfl, hp2, hg2, e2⟩
      have hpow : CPow 10 18 := ⟨by decide, by decide, by decide⟩
      have pen2 : PenAt H2 p := ⟨g, ns, seat + 1, left, hp2, hg2, hl, by omega⟩
      -- if seat < len(given) and cell >= 10 ** 18: return cell - 10 ** 18
      refine q_ifN (decide (seat < (((ns.map V.int).length : Nat) : Int)) && decide ((10 : Int) ^ (18 : Int).toNat ≤ c)) (fun H' => H2 = H') (fun Q1 q1 => ?_) ?_ ?_
      · refine ⟨.int seat, rfl, .ref g, rfl, g, _, rfl, .inl (SqL.of hg2), _, _, rfl, rfl, _, rfl, ?_⟩
        cases hb : decide (seat < (((ns.map V.int).length : Nat) : Int)) with
        | false =>
          refine iteF ?_
          have := q1 H2 rfl
          rw [hb] at this
          exact this
        | true =>
          refine iteT ⟨.int c, rfl, 10, 18, rfl, rfl, hpow, _, _, rfl, rfl, _, rfl, ?_⟩
          have := q1 H2 rfl
          rw [hb, Bool.true_and] at this
          exact this
      · rintro hb _ rfl
        have hc : (10 : Int) ^ (18 : Int).toNat ≤ c := of_decide_eq_true (Bool.and_eq_true_iff.mp hb).2
        refine ⟨.int c, rfl, 10, 18, rfl, rfl, hpow, _, _, rfl, rfl, ?_⟩
        exact q _ _ (by omega) pen2 e2
      · rintro _ _ rfl
        refine q_set (fun v H' => v = .int 2305843009213693951 ∧ H2 = H') ?_ ?_
        · exact fun Q1 q1 => q1 _ _ ⟨rfl, rfl⟩
        rintro _ _ ⟨rfl, rfl⟩
        have hpr : (2305843009213693951 : Int) ≠ 0 := by decide
        refine q_set (fun v H' => ∃ s0 : Int, v = .int s0 ∧ 0 ≤ s0 ∧ s0 < 2305843009213693951 ∧ H2 = H') (fun Q1 q1 => ?_) ?_
        · refine ⟨.int c, rfl, c, 48271, rfl, rfl, .inr ⟨by decide, by decide⟩, .int seat, rfl, 60013, seat, rfl, rfl, .inl ⟨by decide, by decide⟩, _, _, rfl, rfl, _, _, rfl, rfl, .inl ⟨_, rfl, .int 2305843009213693951, rfl, _, _, rfl, rfl, hpr, ?_⟩⟩
          dsimp only
          rw [Int.fmod_eq_emod_of_nonneg _ (by decide)]
          exact q1 _ _ ⟨_, rfl, Int.emod_nonneg _ hpr, Int.emod_lt_of_pos _ (by decide), rfl⟩
        · rintro _ _ ⟨s0, rfl, h1, h2, rfl⟩
          refine q_set (fun v H' => v = .int s0 ∧ H2 = H') ?_ ?_
          · exact fun Q1 q1 => ⟨.int s0, rfl, q1 _ _ ⟨rfl, rfl⟩⟩
          rintro _ _ ⟨rfl, rfl⟩
          refine q_range (n := 6) (by decide) (fun H' => H2 = H') ?_
            (fun i σ' H' => H2 = H' ∧ ∃ (s1 fd1 : Int) (lap : Option V), 0 ≤ s1 ∧ s1 < 2305843009213693951 ∧ 0 ≤ fd1 ∧
              σ' = [some (.ref p), some (.int seat), some (.ref g), some (.int c), some (.int 2305843009213693951), some (.int s1), some (.int fd1), lap]) ?_ ?_ ?_
          · exact fun Q1 q1 => q1 _ rfl
          · rintro _ rfl
            exact ⟨rfl, s0, s0, none, h1, h2, h1, rfl⟩
          · rintro i _ _ hi ⟨rfl, s1, fd1, lap, k1, k2, k3, rfl⟩
            refine q_set (fun v H' => ∃ s2 : Int, v = .int s2 ∧ 0 ≤ s2 ∧ s2 < 2305843009213693951 ∧ H2 = H') (fun Q1 q1 => ?_) ?_
            · refine ⟨.int s1, rfl, .int s1, rfl, s1, s1, rfl, rfl, .inl ⟨by omega, by omega⟩, .int i, rfl, _, _, rfl, rfl, 70139, _, rfl, rfl, .inl ⟨by decide, by decide⟩, .int seat, rfl, _, _, rfl, rfl, _, _, rfl, rfl, .inl ⟨by omega, by omega⟩, _, _, rfl, rfl, .int c, rfl, _, _, rfl, rfl,
                .inl ⟨_, rfl, .int 2305843009213693951, rfl, _, _, rfl, rfl, hpr, ?_⟩⟩
              dsimp only
              rw [Int.fmod_eq_emod_of_nonneg _ (by decide)]
              exact q1 _ _ ⟨_, rfl, Int.emod_nonneg _ hpr, Int.emod_lt_of_pos _ (by decide), rfl⟩
            · rintro _ _ ⟨s2, rfl, k4, k5, rfl⟩
              refine ⟨.int fd1, rfl, .int 2305843009213693951, rfl, _, _, rfl, rfl, .inr ⟨by decide, by decide⟩, .int s2, rfl, _, _, rfl, rfl, rfl, s2, fd1 * 2305843009213693951 + s2, some (.int i), k4, k5, ?_, rfl⟩
              have := Int.mul_nonneg k3 (show (0 : Int) ≤ 2305843009213693951 by decide)
              omega
          · rintro _ _ ⟨rfl, s1, fd1, lap, k1, k2, k3, rfl⟩
            exact ⟨.int fd1, rfl, q _ _ k3 pen2 e2⟩

abbrev sDraw : Stmt := top 17
theorem scDraw : FnScope ["_law_pen_here", "_law_bound", "_law_digit"] ["_law_pen_here", "_law_bound"] (defScope sDraw) := ⟨rfl, rfl, rfl, by decide +kernel, rfl, by decide +kernel, by decide +kernel⟩
/-- a def of the module, by its name -/
structure Nm (K : PySem.W.Frag) (mg : Str → Option Value) (x : Str) (f : Addr) (fd : FuncData) (ps : List Str) : Prop where
  g : mg x = some (.ref f)
  k : PySem.W.keepIn K (.ref f) = true
  b : Binds K fd ps []
/-- a number below the bound -/
def spDraw : Sp := fun vs H Q _ => ∃ (p : Addr) (b : Int), vs = [.ref p, .int b] ∧ PenAt H p ∧ 0 < b ∧ b.natAbs.log2 < 9000 ∧
  ∀ n H', 0 ≤ n → n < b → PenAt H' p → ExB p H H' → Q (.int n) H'
theorem ok_draw {f f1 : Addr} {fd fd1 : FuncData} {k : Nat} (F : Fun K "_law_draw" "_law_draw" sDraw f fd) (T : PenT K mg)
    (G__law_fresh : FG P w K mg base CX0 (k + 1) f1 fd1 ["_law_pen_here"] spFresh) (N__law_fresh : Nm K mg "_law_fresh" f1 fd1 ["_law_pen_here"]) :
    FG P w K mg base CX0 (k + 2) f fd ["_law_pen_here", "_law_bound"] spDraw := by
  refine fg_def F scDraw (fun vs H Q E h => ?_) (fun cdv A outer s H vs Q E hr hgd h => ?_)
  · obtain ⟨p, b, rfl, _⟩ := h
    rfl
  · have sc := scDraw
    obtain ⟨p, b, rfl, hpen, hb0, hbl, q⟩ := h
    refine ⟨_, (pss_cons (ps_if (pt_cmpR op_lt (pe_ix ix_list (pv 0) pe_int (fun _ _ => rfl)) (pv 1) (nomark _)) (pss_one (ps_asg (ge_call G__law_fresh (hr.mono (by omega)) hgd (by rfl) N__law_fresh.g N__law_fresh.k N__law_fresh.b .nil pass0 (pa_cons (pv 0) pa_nil)) (pg_sub (pv 0) pe_int set_list))) pss_nil)
      (pss_cons (ps_set (i := 2) sc.nd rfl (.inl rfl) (pe_op op_modN (pe_callTy call_int1 (by rfl) T.g_int (by decide +kernel) (pa_cons (pe_ix ix_list (pv 0) pe_int (fun _ _ => rfl)) pa_nil)) (pv 1)))
      (pss_cons (ps_asg (pe_op op_fdivW (pe_callTy call_int1 (by rfl) T.g_int (by decide +kernel) (pa_cons (pe_ix ix_list (pv 0) pe_int (fun _ _ => rfl)) pa_nil)) (pv 1)) (pg_sub (pv 0) pe_int set_list))
      (pss_one (ps_ret (pv 2)))))), ?_⟩
    -- if pen[2] < bound: pen[2] = fresh(pen)
    refine q_join (fun σ' H1 => σ' = [some (.ref p), some (.int b), none] ∧ PenAt H1 p ∧ ExB p H H1) (fun N kN => ?_) ?_
    · obtain ⟨g, ns, seat, left, hp, hg, hl, h0⟩ := id hpen
      refine ⟨.ref p, rfl, p, _, 2, _, rfl, rfl, SqL.of hp, atI_nat (j := 2) rfl, .int b, rfl, _, _, rfl, rfl, _, rfl, ite2 (fun _ => ?_) (fun _ => kN _ _ ⟨rfl, hpen, ExB.refl p H⟩)⟩
      refine ⟨.ref p, rfl, p, rfl, hpen, fun n H1 hn hpen1 e1 => ?_⟩
      obtain ⟨g1, ns1, seat1, left1, hp1, hg1, hl1, h01⟩ := hpen1
      refine ⟨.ref p, rfl, p, _, 2, 2, rfl, rfl, hp1, rfl, ?_⟩
      have npg : g1 ≠ p := ne_of hg1 hp1 (by intro z; cases ns1 <;> simp at z)
      exact kN _ _ ⟨rfl, ⟨g1, ns1, seat1, n, upd_same, by rw [upd_ne npg]; exact hg1, hl1, h01⟩, e1.trans ExB.put⟩
    · rintro _ H1 ⟨rfl, ⟨g, ns, seat, left, hp, hg, hl, h0⟩, e1⟩
      have npg : g ≠ p := ne_of hg hp (by intro z; cases ns <;> simp at z)
      refine q_set (fun v H2 => v = .int (left % b) ∧ H1 = H2) ?_ ?_
      · intro Q1 q1
        refine ⟨.ref p, rfl, p, _, 2, _, rfl, rfl, SqL.of hp, atI_nat (j := 2) rfl, .inl ⟨left, rfl, .int b, rfl, _, _, rfl, rfl, by omega, ?_⟩⟩
        dsimp only
        rw [Int.fmod_eq_emod_of_nonneg _ (by omega)]
        exact q1 _ _ ⟨rfl, rfl⟩
      · rintro _ _ ⟨rfl, rfl⟩
        refine ⟨.ref p, rfl, p, _, 2, _, rfl, rfl, SqL.of hp, atI_nat (j := 2) rfl, .inl ⟨left, rfl, .int b, rfl, _, _, rfl, rfl, ⟨hb0, hbl⟩, ?_⟩⟩
        refine ⟨.ref p, rfl, p, _, 2, 2, rfl, rfl, hp, rfl, ?_⟩
        refine ⟨.int (left % b), rfl, ?_⟩
        exact q _ _ (Int.emod_nonneg _ (by omega)) (Int.emod_lt_of_pos _ hb0) ⟨g, ns, seat, left / b, upd_same, by rw [upd_ne npg]; exact hg, hl, h0⟩ (e1.trans ExB.put)

abbrev sOneOf : Stmt := top 18
theorem scOneOf : FnScope ["_law_pen_here", "_law_some"] ["_law_pen_here", "_law_some"] (defScope sOneOf) := ⟨rfl, rfl, rfl, by decide +kernel, rfl, by decide +kernel, by decide +kernel⟩
/-- a drawn part of a list -/
def spOneOf : Sp := fun vs H Q _ => ∃ (p l : Addr) (xs : List V), vs = [.ref p, .ref l] ∧ PenAt H p ∧ H l = some (.lst xs) ∧ l ≠ p ∧ xs ≠ [] ∧ xs.length ≤ 100000 ∧
  ∀ (i : Nat) x H', xs[i]? = some x → PenAt H' p → ExB p H H' → Q x H'
theorem ok_oneOf {f f1 : Addr} {fd fd1 : FuncData} {k : Nat} (F : Fun K "_law_one_of" "_law_one_of" sOneOf f fd) (T : PenT K mg)
    (G__law_draw : FG P w K mg base CX0 (k + 2) f1 fd1 ["_law_pen_here", "_law_bound"] spDraw) (N__law_draw : Nm K mg "_law_draw" f1 fd1 ["_law_pen_here", "_law_bound"]) :
    FG P w K mg base CX0 (k + 3) f fd ["_law_pen_here", "_law_some"] spOneOf := by
  refine fg_def F scOneOf (fun vs H Q E h => ?_) (fun cdv A outer s H vs Q E hr hgd h => ?_)
  · obtain ⟨p, l, xs, rfl, _⟩ := h
    rfl
  · have sc := scOneOf
    obtain ⟨p, l, xs, rfl, hpen, hl, nlp, hne, hlen, q⟩ := h
    refine ⟨_, (pss_one (ps_ret (pe_ix ix_list (pv 1) (ge_call G__law_draw (hr.mono (by omega)) hgd (by rfl) N__law_draw.g N__law_draw.k N__law_draw.b .nil pass0 (pa_cons (pv 0) (pa_cons (pe_callB call_len_seq (by rfl) T.g_len (by decide +kernel) (pa_cons (pv 1) pa_nil)) pa_nil))) (fun _ _ => rfl)))), ?_⟩
    have hpos : 0 < xs.length := List.length_pos_iff.mpr hne
    have hlog : ((xs.length : Nat) : Int).natAbs.log2 < 9000 := by
      rw [Int.natAbs_natCast]
      have := Nat.log2_le_self xs.length
      have h2 : xs.length.log2 < 17 := (Nat.log2_lt (by omega)).mpr (by omega)
      omega
    refine ⟨.ref l, rfl, .ref p, rfl, .ref l, rfl, l, xs, rfl, .inl (SqL.of hl), p, _, rfl, hpen, by omega, hlog, fun n H1 n0 n1 hpen1 e1 => ?_⟩
    obtain ⟨j, hj⟩ : ∃ j : Nat, n = (j : Int) := ⟨n.toNat, (Int.toNat_of_nonneg n0).symm⟩
    subst hj
    have hj2 : j < xs.length := by omega
    exact ⟨l, xs, _, xs[j], rfl, rfl, SqL.of (e1 l _ nlp hl), atI_nat (j := j) (List.getElem?_eq_getElem hj2), q j _ H1 (List.getElem?_eq_getElem hj2) hpen1 e1⟩
end
end DL



set_option maxHeartbeats 4000000
namespace DL
open PySem PySem.Spec PyProof.Rows L2

/-! ### the errors' __init__ -/
theorem vI_V (K : PySem.W.Frag) : PySem.W.findCls K (.type "ValueError") (.type "type") "__init__" = some (.val (.builtin "ValueError.__init__")) := by kernel_rfl
theorem vI_L (K : PySem.W.Frag) : PySem.W.findCls K (.type "LookupError") (.type "type") "__init__" = some (.val (.builtin "LookupError.__init__")) := by kernel_rfl
theorem vI_R (K : PySem.W.Frag) : PySem.W.findCls K (.type "RuntimeError") (.type "type") "__init__" = some (.val (.builtin "RuntimeError.__init__")) := by kernel_rfl
theorem sp_class (K : PySem.W.Frag) : PySem.W.specialIn K (.builtin "object.__class__") "__get__" = some (some (.builtin "getset_descriptor.__get__")) := by kernel_rfl
theorem tk_class (K : PySem.W.Frag) : PySem.W.takesIn K (.builtin "object.__class__") = some true := by kernel_rfl
section
variable {P : Program} {w : World} {K : PySem.W.Frag} {mg : Str → Option Value} {base : Heap} {C f : Addr} {fd : FuncData} {k : Nat}

abbrev s_InvalidBook : Stmt := inClass (top 1) 0
theorem sc_InvalidBook : FnScope ["self", "index"] ["self", "index"] (defScope s_InvalidBook) := ⟨rfl, rfl, rfl, by decide +kernel, rfl, by decide +kernel, by decide +kernel⟩
theorem ok_InvalidBook (F : Fun K "__init__" "InvalidBook.__init__" s_InvalidBook f fd) (T : XC K C "ValueError.__new__" [.type "ValueError", .type "Exception", .type "BaseException", .type "object"]) (hno0 : PySem.W.findIn K (.ref C) "index" = some none) (mB : mg "ValueError" = none) :
    FG P w K mg base CX0 (k + 1) f fd ["self", "index"] (spX1 C "index") := by
  refine fg_def F sc_InvalidBook (fun vs H Q E h => ?_) (fun cdv A outer s H vs Q E hr hgd h => ?_)
  · obtain ⟨a, y, rfl, _⟩ := h
    rfl
  · obtain ⟨a, y, rfl, ha, q⟩ := h
    exact ⟨_, pss_cons (ps_expr (pe_xinit bx_V T (by rfl) mB PyProof.Rows.Boot.«ValueError» (vI_V K) (pa_cons (pv 0) (pa_cons pe_str pa_nil)))) (pss_one (ps_xst bx_V T hno0 (pv 0) (pv 1))), .ref a, rfl, a, _, rfl, by decide, ha, y, rfl, .ref a, rfl, a, rfl, .inl ⟨ha, q⟩⟩
abbrev s_InvalidTimes : Stmt := inClass (top 2) 0
theorem sc_InvalidTimes : FnScope ["self", "index"] ["self", "index"] (defScope s_InvalidTimes) := ⟨rfl, rfl, rfl, by decide +kernel, rfl, by decide +kernel, by decide +kernel⟩
theorem ok_InvalidTimes (F : Fun K "__init__" "InvalidTimes.__init__" s_InvalidTimes f fd) (T : XC K C "ValueError.__new__" [.type "ValueError", .type "Exception", .type "BaseException", .type "object"]) (hno0 : PySem.W.findIn K (.ref C) "index" = some none) (mB : mg "ValueError" = none) :
    FG P w K mg base CX0 (k + 1) f fd ["self", "index"] (spX1 C "index") := by
  refine fg_def F sc_InvalidTimes (fun vs H Q E h => ?_) (fun cdv A outer s H vs Q E hr hgd h => ?_)
  · obtain ⟨a, y, rfl, _⟩ := h
    rfl
  · obtain ⟨a, y, rfl, ha, q⟩ := h
    exact ⟨_, pss_cons (ps_expr (pe_xinit bx_V T (by rfl) mB PyProof.Rows.Boot.«ValueError» (vI_V K) (pa_cons (pv 0) (pa_cons pe_str pa_nil)))) (pss_one (ps_xst bx_V T hno0 (pv 0) (pv 1))), .ref a, rfl, a, _, rfl, by decide, ha, y, rfl, .ref a, rfl, a, rfl, .inl ⟨ha, q⟩⟩
abbrev s_InvalidOrder : Stmt := inClass (top 3) 0
theorem sc_InvalidOrder : FnScope ["self", "index"] ["self", "index"] (defScope s_InvalidOrder) := ⟨rfl, rfl, rfl, by decide +kernel, rfl, by decide +kernel, by decide +kernel⟩
theorem ok_InvalidOrder (F : Fun K "__init__" "InvalidOrder.__init__" s_InvalidOrder f fd) (T : XC K C "ValueError.__new__" [.type "ValueError", .type "Exception", .type "BaseException", .type "object"]) (hno0 : PySem.W.findIn K (.ref C) "index" = some none) (mB : mg "ValueError" = none) :
    FG P w K mg base CX0 (k + 1) f fd ["self", "index"] (spX1 C "index") := by
  refine fg_def F sc_InvalidOrder (fun vs H Q E h => ?_) (fun cdv A outer s H vs Q E hr hgd h => ?_)
  · obtain ⟨a, y, rfl, _⟩ := h
    rfl
  · obtain ⟨a, y, rfl, ha, q⟩ := h
    exact ⟨_, pss_cons (ps_expr (pe_xinit bx_V T (by rfl) mB PyProof.Rows.Boot.«ValueError» (vI_V K) (pa_cons (pv 0) (pa_cons pe_str pa_nil)))) (pss_one (ps_xst bx_V T hno0 (pv 0) (pv 1))), .ref a, rfl, a, _, rfl, by decide, ha, y, rfl, .ref a, rfl, a, rfl, .inl ⟨ha, q⟩⟩
abbrev s_InvalidOffers : Stmt := inClass (top 4) 0
theorem sc_InvalidOffers : FnScope ["self", "index"] ["self", "index"] (defScope s_InvalidOffers) := ⟨rfl, rfl, rfl, by decide +kernel, rfl, by decide +kernel, by decide +kernel⟩
theorem ok_InvalidOffers (F : Fun K "__init__" "InvalidOffers.__init__" s_InvalidOffers f fd) (T : XC K C "ValueError.__new__" [.type "ValueError", .type "Exception", .type "BaseException", .type "object"]) (hno0 : PySem.W.findIn K (.ref C) "index" = some none) (mB : mg "ValueError" = none) :
    FG P w K mg base CX0 (k + 1) f fd ["self", "index"] (spX1 C "index") := by
  refine fg_def F sc_InvalidOffers (fun vs H Q E h => ?_) (fun cdv A outer s H vs Q E hr hgd h => ?_)
  · obtain ⟨a, y, rfl, _⟩ := h
    rfl
  · obtain ⟨a, y, rfl, ha, q⟩ := h
    exact ⟨_, pss_cons (ps_expr (pe_xinit bx_V T (by rfl) mB PyProof.Rows.Boot.«ValueError» (vI_V K) (pa_cons (pv 0) (pa_cons pe_str pa_nil)))) (pss_one (ps_xst bx_V T hno0 (pv 0) (pv 1))), .ref a, rfl, a, _, rfl, by decide, ha, y, rfl, .ref a, rfl, a, rfl, .inl ⟨ha, q⟩⟩
abbrev s_InvalidClaim : Stmt := inClass (top 5) 0
theorem sc_InvalidClaim : FnScope ["self"] ["self"] (defScope s_InvalidClaim) := ⟨rfl, rfl, rfl, by decide +kernel, rfl, by decide +kernel, by decide +kernel⟩
theorem ok_InvalidClaim (F : Fun K "__init__" "InvalidClaim.__init__" s_InvalidClaim f fd) (T : XC K C "ValueError.__new__" [.type "ValueError", .type "Exception", .type "BaseException", .type "object"])  (mB : mg "ValueError" = none) :
    FG P w K mg base CX0 (k + 1) f fd ["self"] (spX0 C) := by
  refine fg_def F sc_InvalidClaim (fun vs H Q E h => ?_) (fun cdv A outer s H vs Q E hr hgd h => ?_)
  · obtain ⟨a, rfl, _⟩ := h
    rfl
  · obtain ⟨a, rfl, ha, q⟩ := h
    exact ⟨_, pss_one (ps_expr (pe_xinit bx_V T (by rfl) mB PyProof.Rows.Boot.«ValueError» (vI_V K) (pa_cons (pv 0) (pa_cons pe_str pa_nil)))), .ref a, rfl, a, _, rfl, by decide, ha, q⟩
abbrev s_ParseError : Stmt := inClass (top 6) 0
theorem sc_ParseError : FnScope ["self", "line"] ["self", "line"] (defScope s_ParseError) := ⟨rfl, rfl, rfl, by decide +kernel, rfl, by decide +kernel, by decide +kernel⟩
theorem ok_ParseError (F : Fun K "__init__" "ParseError.__init__" s_ParseError f fd) (T : XC K C "ValueError.__new__" [.type "ValueError", .type "Exception", .type "BaseException", .type "object"]) (hno0 : PySem.W.findIn K (.ref C) "line" = some none) (mB : mg "ValueError" = none) :
    FG P w K mg base CX0 (k + 1) f fd ["self", "line"] (spX1 C "line") := by
  refine fg_def F sc_ParseError (fun vs H Q E h => ?_) (fun cdv A outer s H vs Q E hr hgd h => ?_)
  · obtain ⟨a, y, rfl, _⟩ := h
    rfl
  · obtain ⟨a, y, rfl, ha, q⟩ := h
    exact ⟨_, pss_cons (ps_expr (pe_xinit bx_V T (by rfl) mB PyProof.Rows.Boot.«ValueError» (vI_V K) (pa_cons (pv 0) (pa_cons pe_str pa_nil)))) (pss_one (ps_xst bx_V T hno0 (pv 0) (pv 1))), .ref a, rfl, a, _, rfl, by decide, ha, y, rfl, .ref a, rfl, a, rfl, .inl ⟨ha, q⟩⟩
abbrev s_UnknownWord : Stmt := inClass (top 7) 0
theorem sc_UnknownWord : FnScope ["self", "value"] ["self", "value"] (defScope s_UnknownWord) := ⟨rfl, rfl, rfl, by decide +kernel, rfl, by decide +kernel, by decide +kernel⟩
theorem ok_UnknownWord (F : Fun K "__init__" "UnknownWord.__init__" s_UnknownWord f fd) (T : XC K C "LookupError.__new__" [.type "LookupError", .type "Exception", .type "BaseException", .type "object"]) (hno0 : PySem.W.findIn K (.ref C) "value" = some none) (mB : mg "LookupError" = none) :
    FG P w K mg base CX0 (k + 1) f fd ["self", "value"] (spX1 C "value") := by
  refine fg_def F sc_UnknownWord (fun vs H Q E h => ?_) (fun cdv A outer s H vs Q E hr hgd h => ?_)
  · obtain ⟨a, y, rfl, _⟩ := h
    rfl
  · obtain ⟨a, y, rfl, ha, q⟩ := h
    exact ⟨_, pss_cons (ps_expr (pe_xinit bx_L T (by rfl) mB PyProof.Rows.Boot.«LookupError» (vI_L K) (pa_cons (pv 0) (pa_cons pe_str pa_nil)))) (pss_one (ps_xst bx_L T hno0 (pv 0) (pv 1))), .ref a, rfl, a, _, rfl, by decide, ha, y, rfl, .ref a, rfl, a, rfl, .inl ⟨ha, q⟩⟩
abbrev s_NoTimes : Stmt := inClass (top 8) 0
theorem sc_NoTimes : FnScope ["self", "ring"] ["self", "ring"] (defScope s_NoTimes) := ⟨rfl, rfl, rfl, by decide +kernel, rfl, by decide +kernel, by decide +kernel⟩
theorem ok_NoTimes (F : Fun K "__init__" "NoTimes.__init__" s_NoTimes f fd) (T : XC K C "RuntimeError.__new__" [.type "RuntimeError", .type "Exception", .type "BaseException", .type "object"]) (hno0 : PySem.W.findIn K (.ref C) "ring" = some none) (mB : mg "RuntimeError" = none) :
    FG P w K mg base CX0 (k + 1) f fd ["self", "ring"] (spX1 C "ring") := by
  refine fg_def F sc_NoTimes (fun vs H Q E h => ?_) (fun cdv A outer s H vs Q E hr hgd h => ?_)
  · obtain ⟨a, y, rfl, _⟩ := h
    rfl
  · obtain ⟨a, y, rfl, ha, q⟩ := h
    exact ⟨_, pss_cons (ps_expr (pe_xinit bx_R T (by rfl) mB PyProof.Rows.Boot.«RuntimeError» (vI_R K) (pa_cons (pv 0) (pa_cons pe_str pa_nil)))) (pss_one (ps_xst bx_R T hno0 (pv 0) (pv 1))), .ref a, rfl, a, _, rfl, by decide, ha, y, rfl, .ref a, rfl, a, rfl, .inl ⟨ha, q⟩⟩
abbrev s_CannotRun : Stmt := inClass (top 9) 0
theorem sc_CannotRun : FnScope ["self", "job"] ["self", "job"] (defScope s_CannotRun) := ⟨rfl, rfl, rfl, by decide +kernel, rfl, by decide +kernel, by decide +kernel⟩
theorem ok_CannotRun (F : Fun K "__init__" "CannotRun.__init__" s_CannotRun f fd) (T : XC K C "RuntimeError.__new__" [.type "RuntimeError", .type "Exception", .type "BaseException", .type "object"]) (hno0 : PySem.W.findIn K (.ref C) "job" = some none) (mB : mg "RuntimeError" = none) :
    FG P w K mg base CX0 (k + 1) f fd ["self", "job"] (spX1 C "job") := by
  refine fg_def F sc_CannotRun (fun vs H Q E h => ?_) (fun cdv A outer s H vs Q E hr hgd h => ?_)
  · obtain ⟨a, y, rfl, _⟩ := h
    rfl
  · obtain ⟨a, y, rfl, ha, q⟩ := h
    exact ⟨_, pss_cons (ps_expr (pe_xinit bx_R T (by rfl) mB PyProof.Rows.Boot.«RuntimeError» (vI_R K) (pa_cons (pv 0) (pa_cons pe_str pa_nil)))) (pss_one (ps_xst bx_R T hno0 (pv 0) (pv 1))), .ref a, rfl, a, _, rfl, by decide, ha, y, rfl, .ref a, rfl, a, rfl, .inl ⟨ha, q⟩⟩
abbrev s_TooMany : Stmt := inClass (top 11) 0
theorem sc_TooMany : FnScope ["self", "number"] ["self", "number"] (defScope s_TooMany) := ⟨rfl, rfl, rfl, by decide +kernel, rfl, by decide +kernel, by decide +kernel⟩
theorem ok_TooMany (F : Fun K "__init__" "TooMany.__init__" s_TooMany f fd) (T : XC K C "RuntimeError.__new__" [.type "RuntimeError", .type "Exception", .type "BaseException", .type "object"]) (hno0 : PySem.W.findIn K (.ref C) "number" = some none) (mB : mg "RuntimeError" = none) :
    FG P w K mg base CX0 (k + 1) f fd ["self", "number"] (spX1 C "number") := by
  refine fg_def F sc_TooMany (fun vs H Q E h => ?_) (fun cdv A outer s H vs Q E hr hgd h => ?_)
  · obtain ⟨a, y, rfl, _⟩ := h
    rfl
  · obtain ⟨a, y, rfl, ha, q⟩ := h
    exact ⟨_, pss_cons (ps_expr (pe_xinit bx_R T (by rfl) mB PyProof.Rows.Boot.«RuntimeError» (vI_R K) (pa_cons (pv 0) (pa_cons pe_str pa_nil)))) (pss_one (ps_xst bx_R T hno0 (pv 0) (pv 1))), .ref a, rfl, a, _, rfl, by decide, ha, y, rfl, .ref a, rfl, a, rfl, .inl ⟨ha, q⟩⟩
abbrev s_Refused : Stmt := inClass (top 12) 0
theorem sc_Refused : FnScope ["self", "index", "reason"] ["self", "index", "reason"] (defScope s_Refused) := ⟨rfl, rfl, rfl, by decide +kernel, rfl, by decide +kernel, by decide +kernel⟩
theorem ok_Refused (F : Fun K "__init__" "Refused.__init__" s_Refused f fd) (T : XC K C "RuntimeError.__new__" [.type "RuntimeError", .type "Exception", .type "BaseException", .type "object"]) (hno0 : PySem.W.findIn K (.ref C) "index" = some none) (hno1 : PySem.W.findIn K (.ref C) "reason" = some none) (mB : mg "RuntimeError" = none) :
    FG P w K mg base CX0 (k + 1) f fd ["self", "index", "reason"] (spX2 C "index" "reason") := by
  refine fg_def F sc_Refused (fun vs H Q E h => ?_) (fun cdv A outer s H vs Q E hr hgd h => ?_)
  · obtain ⟨a, y, z, rfl, _⟩ := h
    rfl
  · obtain ⟨a, y, z, rfl, ha, q⟩ := h
    refine ⟨_, pss_cons (ps_expr (pe_xinit bx_R T (by rfl) mB PyProof.Rows.Boot.«RuntimeError» (vI_R K) (pa_cons (pv 0) (pa_cons pe_str pa_nil)))) (pss_cons (ps_xst bx_R T hno0 (pv 0) (pv 1)) (pss_one (ps_xst bx_R T hno1 (pv 0) (pv 2)))), .ref a, rfl, a, _, rfl, by decide, ha, y, rfl, .ref a, rfl, a, rfl, .inl ⟨ha, fun dx hd ne => ?_⟩⟩
    exact ⟨z, rfl, .ref a, rfl, a, rfl, .inr ⟨dx, _, upd_same, by rw [upd_ne ne, upd_same], by show 1 ≤ 900; decide, q dx hd ne⟩⟩
abbrev s_NothingDone : Stmt := inClass (top 13) 0
theorem sc_NothingDone : FnScope ["self"] ["self"] (defScope s_NothingDone) := ⟨rfl, rfl, rfl, by decide +kernel, rfl, by decide +kernel, by decide +kernel⟩
theorem ok_NothingDone (F : Fun K "__init__" "NothingDone.__init__" s_NothingDone f fd) (T : XC K C "RuntimeError.__new__" [.type "RuntimeError", .type "Exception", .type "BaseException", .type "object"])  (mB : mg "RuntimeError" = none) :
    FG P w K mg base CX0 (k + 1) f fd ["self"] (spX0 C) := by
  refine fg_def F sc_NothingDone (fun vs H Q E h => ?_) (fun cdv A outer s H vs Q E hr hgd h => ?_)
  · obtain ⟨a, rfl, _⟩ := h
    rfl
  · obtain ⟨a, rfl, ha, q⟩ := h
    exact ⟨_, pss_one (ps_expr (pe_xinit bx_R T (by rfl) mB PyProof.Rows.Boot.«RuntimeError» (vI_R K) (pa_cons (pv 0) (pa_cons pe_str pa_nil)))), .ref a, rfl, a, _, rfl, by decide, ha, q⟩
abbrev s_CannotWithdraw : Stmt := inClass (top 10) 0
theorem sc_CannotWithdraw : FnScope ["self", "number"] ["self", "number"] (defScope s_CannotWithdraw) := ⟨rfl, rfl, rfl, by decide +kernel, rfl, by decide +kernel, by decide +kernel⟩
theorem ok_CannotWithdraw (F : Fun K "__init__" "CannotWithdraw.__init__" s_CannotWithdraw f fd) (T : XC K C "RuntimeError.__new__" [.type "RuntimeError", .type "Exception", .type "BaseException", .type "object"]) (hno0 : PySem.W.findIn K (.ref C) "number" = some none) (mB : mg "RuntimeError" = none) :
    FG P w K mg base CX0 (k + 1) f fd ["self", "number"] (spX1 C "number") := by
  refine fg_def F sc_CannotWithdraw (fun vs H Q E h => ?_) (fun cdv A outer s H vs Q E hr hgd h => ?_)
  · obtain ⟨a, y, rfl, _⟩ := h
    rfl
  · obtain ⟨a, y, rfl, ha, q⟩ := h
    exact ⟨_, pss_cons (ps_expr (pe_xinit bx_R T (by rfl) mB PyProof.Rows.Boot.«RuntimeError» (vI_R K) (pa_cons (pv 0) (pa_cons pe_str pa_nil)))) (pss_one (ps_xst bx_R T hno0 (pv 0) (pv 1))), .ref a, rfl, a, _, rfl, by decide, ha, y, rfl, .ref a, rfl, a, rfl, .inl ⟨ha, q⟩⟩
end
/-! ### what the top has written -/
structure T66 (K : PySem.W.Frag) (mg : Str → Option Value) (C0 C1 C2 C3 C4 C5 C6 C7 C8 C9 C10 C11 C12 : Addr) : Prop where
  sys : SysK K
  nd : [C0, C1, C2, C3, C4, C5, C6, C7, C8, C9, C10, C11, C12].Nodup
  g_InvalidBook : mg "InvalidBook" = some (.ref C0)
  x_InvalidBook : XC K C0 "ValueError.__new__" [.type "ValueError", .type "Exception", .type "BaseException", .type "object"]
  g_InvalidTimes : mg "InvalidTimes" = some (.ref C1)
  x_InvalidTimes : XC K C1 "ValueError.__new__" [.type "ValueError", .type "Exception", .type "BaseException", .type "object"]
  g_InvalidOrder : mg "InvalidOrder" = some (.ref C2)
  x_InvalidOrder : XC K C2 "ValueError.__new__" [.type "ValueError", .type "Exception", .type "BaseException", .type "object"]
  g_InvalidOffers : mg "InvalidOffers" = some (.ref C3)
  x_InvalidOffers : XC K C3 "ValueError.__new__" [.type "ValueError", .type "Exception", .type "BaseException", .type "object"]
  g_InvalidClaim : mg "InvalidClaim" = some (.ref C4)
  x_InvalidClaim : XC K C4 "ValueError.__new__" [.type "ValueError", .type "Exception", .type "BaseException", .type "object"]
  g_ParseError : mg "ParseError" = some (.ref C5)
  x_ParseError : XC K C5 "ValueError.__new__" [.type "ValueError", .type "Exception", .type "BaseException", .type "object"]
  g_UnknownWord : mg "UnknownWord" = some (.ref C6)
  x_UnknownWord : XC K C6 "LookupError.__new__" [.type "LookupError", .type "Exception", .type "BaseException", .type "object"]
  g_NoTimes : mg "NoTimes" = some (.ref C7)
  x_NoTimes : XC K C7 "RuntimeError.__new__" [.type "RuntimeError", .type "Exception", .type "BaseException", .type "object"]
  g_CannotRun : mg "CannotRun" = some (.ref C8)
  x_CannotRun : XC K C8 "RuntimeError.__new__" [.type "RuntimeError", .type "Exception", .type "BaseException", .type "object"]
  g_TooMany : mg "TooMany" = some (.ref C9)
  x_TooMany : XC K C9 "RuntimeError.__new__" [.type "RuntimeError", .type "Exception", .type "BaseException", .type "object"]
  g_Refused : mg "Refused" = some (.ref C10)
  x_Refused : XC K C10 "RuntimeError.__new__" [.type "RuntimeError", .type "Exception", .type "BaseException", .type "object"]
  g_NothingDone : mg "NothingDone" = some (.ref C11)
  x_NothingDone : XC K C11 "RuntimeError.__new__" [.type "RuntimeError", .type "Exception", .type "BaseException", .type "object"]
  g_CannotWithdraw : mg "CannotWithdraw" = some (.ref C12)
  x_CannotWithdraw : XC K C12 "RuntimeError.__new__" [.type "RuntimeError", .type "Exception", .type "BaseException", .type "object"]
  no_InvalidBook_index : PySem.W.findIn K (.ref C0) "index" = some none
  no_InvalidTimes_index : PySem.W.findIn K (.ref C1) "index" = some none
  no_InvalidOrder_index : PySem.W.findIn K (.ref C2) "index" = some none
  no_InvalidOffers_index : PySem.W.findIn K (.ref C3) "index" = some none
  no_ParseError_line : PySem.W.findIn K (.ref C5) "line" = some none
  no_UnknownWord_value : PySem.W.findIn K (.ref C6) "value" = some none
  no_NoTimes_ring : PySem.W.findIn K (.ref C7) "ring" = some none
  no_CannotRun_job : PySem.W.findIn K (.ref C8) "job" = some none
  no_TooMany_number : PySem.W.findIn K (.ref C9) "number" = some none
  no_Refused_index : PySem.W.findIn K (.ref C10) "index" = some none
  no_Refused_reason : PySem.W.findIn K (.ref C10) "reason" = some none
  no_CannotWithdraw_number : PySem.W.findIn K (.ref C12) "number" = some none
  g_ValueError : mg "ValueError" = none
  g_LookupError : mg "LookupError" = none
  g_RuntimeError : mg "RuntimeError" = none
  g_OverflowError : mg "OverflowError" = none
  g_KeyError : mg "KeyError" = none
  g_IndexError : mg "IndexError" = none
  g_NotImplementedError : mg "NotImplementedError" = none
  g_isinstance : mg "isinstance" = none
  g_enumerate : mg "enumerate" = none
  g_list : mg "list" = none
  g_int : mg "int" = none
  g_len : mg "len" = none
  g_range : mg "range" = none
  g_repr : mg "repr" = none
/-- how isinstance answers for the class at C: over own classes, over built-in ones -/
structure Kit (K : PySem.W.Frag) (cs : List Addr) (C : Addr) (i bi : Nat) : Prop where
  k1 : XK1 K C
  at_ : cs[i]? = some C
  own : ∀ c ∈ cs, PySem.W.kitOne K (.ref C) (.ref c) = some (decide (C = c))
  blt : ∀ j T, ["ValueError", "LookupError", "RuntimeError", "OverflowError", "KeyError", "IndexError", "NotImplementedError"][j]? = some T → PySem.W.kitOne K (.ref C) (.type T) = some (decide (j = bi))
theorem kit_own {K : PySem.W.Frag} {C c : Addr} {n1 n2 : String} {b1 b2 : List Value} (T1 : XC K C n1 b1) (T2 : XC K c n2 b2) (hb : ∀ a, b1.contains (.ref a) = false) :
    PySem.W.kitOne K (.ref C) (.ref c) = some (decide (C = c)) := by
  unfold PySem.W.kitOne
  by_cases e : C = c
  · subst e
    simp
  · have e1 : (Value.ref C == Value.ref c) = false := by simpa using e
    rw [e1, if_neg Bool.false_ne_true]
    obtain ⟨cd2, h21, h22, h23⟩ := T2.clsIn
    obtain ⟨cd1, h11, h12, h13⟩ := T1.clsIn
    obtain ⟨nm, q, N, bs, sn, sub, ab, col, dd, k0, k1, k2, k3, k5, hC⟩ := T2.cls
    have ht : PySem.W.typeIn K (.ref c) = some (.type "type") := by
      show (K.lookup c).map (·.cls) = _
      rw [hC]
      rfl
    unfold PySem.W.kitCls
    dsimp only
    rw [h21, ht]
    rw [if_pos (by rfl)]
    show PySem.W.mroIn K C (.ref c) = _
    unfold PySem.W.mroIn
    have e2 : (Value.ref c == Value.ref C) = false := by simpa using fun z => e z.symm
    rw [h11, Option.bind_some, h12, if_neg (show ¬ (List.isEmpty (Value.ref C :: b1) = true) from Bool.false_ne_true), List.contains_cons, hb c, e2, decide_eq_false e]
    rfl
theorem kit_blt {K : PySem.W.Frag} {C : Addr} {n1 T : String} {b1 : List Value} (T1 : XC K C n1 b1) (hm : PySem.W.kitMeta T = true) :
    PySem.W.kitOne K (.ref C) (.type T) = some (b1.contains (.type T)) := by
  obtain ⟨cd1, h11, h12, h13⟩ := T1.clsIn
  unfold PySem.W.kitOne
  have e1 : (Value.ref C == Value.type T) = false := rfl
  rw [e1, if_neg Bool.false_ne_true]
  unfold PySem.W.kitCls
  dsimp only
  rw [if_pos hm]
  show PySem.W.mroIn K C (.type T) = _
  unfold PySem.W.mroIn
  rw [h11, Option.bind_some, h12, if_neg (show ¬ (List.isEmpty (Value.ref C :: b1) = true) from Bool.false_ne_true), List.contains_cons]
  rfl
theorem kits {K : PySem.W.Frag} {cs : List Addr} {C : Addr} {i bi : Nat} {n1 : String} {b1 : List Value} (T1 : XC K C n1 b1) (k1 : XK1 K C) (hi : cs[i]? = some C) (hb : ∀ a, b1.contains (.ref a) = false)
    (hcs : ∀ c ∈ cs, ∃ n2 b2, XC K c n2 b2)
    (hB : ∀ j T, ["ValueError", "LookupError", "RuntimeError", "OverflowError", "KeyError", "IndexError", "NotImplementedError"][j]? = some T → PySem.W.kitMeta T = true ∧ b1.contains (.type T) = decide (j = bi)) : Kit K cs C i bi := by
  refine ⟨k1, hi, fun c hc => ?_, fun j T hj => ?_⟩
  · obtain ⟨n2, b2, T2⟩ := hcs c hc
    exact kit_own T1 T2 hb
  · obtain ⟨hm, hc⟩ := hB j T hj
    rw [kit_blt T1 hm, hc]
theorem hb_of {B : String} : ∀ a : Addr, ([.type B, .type "Exception", .type "BaseException", .type "object"] : List Value).contains (.ref a) = false := fun a => rfl
theorem seven {p : Nat → String → Prop} (h0 : p 0 "ValueError") (h1 : p 1 "LookupError") (h2 : p 2 "RuntimeError") (h3 : p 3 "OverflowError") (h4 : p 4 "KeyError") (h5 : p 5 "IndexError") (h6 : p 6 "NotImplementedError") :
    ∀ j T, ["ValueError", "LookupError", "RuntimeError", "OverflowError", "KeyError", "IndexError", "NotImplementedError"][j]? = some T → p j T
  | 0, _, e => by cases e; exact h0
  | 1, _, e => by cases e; exact h1
  | 2, _, e => by cases e; exact h2
  | 3, _, e => by cases e; exact h3
  | 4, _, e => by cases e; exact h4
  | 5, _, e => by cases e; exact h5
  | 6, _, e => by cases e; exact h6
  | _ + 7, _, e => by simp at e
theorem met_V : ∀ j T, ["ValueError", "LookupError", "RuntimeError", "OverflowError", "KeyError", "IndexError", "NotImplementedError"][j]? = some T → PySem.W.kitMeta T = true ∧ ([.type "ValueError", .type "Exception", .type "BaseException", .type "object"] : List Value).contains (.type T) = decide (j = 0) :=
  seven (by decide +kernel) (by decide +kernel) (by decide +kernel) (by decide +kernel) (by decide +kernel) (by decide +kernel) (by decide +kernel)
theorem met_L : ∀ j T, ["ValueError", "LookupError", "RuntimeError", "OverflowError", "KeyError", "IndexError", "NotImplementedError"][j]? = some T → PySem.W.kitMeta T = true ∧ ([.type "LookupError", .type "Exception", .type "BaseException", .type "object"] : List Value).contains (.type T) = decide (j = 1) :=
  seven (by decide +kernel) (by decide +kernel) (by decide +kernel) (by decide +kernel) (by decide +kernel) (by decide +kernel) (by decide +kernel)
theorem met_R : ∀ j T, ["ValueError", "LookupError", "RuntimeError", "OverflowError", "KeyError", "IndexError", "NotImplementedError"][j]? = some T → PySem.W.kitMeta T = true ∧ ([.type "RuntimeError", .type "Exception", .type "BaseException", .type "object"] : List Value).contains (.type T) = decide (j = 2) :=
  seven (by decide +kernel) (by decide +kernel) (by decide +kernel) (by decide +kernel) (by decide +kernel) (by decide +kernel) (by decide +kernel)
section
variable {P : Program} {w : World} {K : PySem.W.Frag} {mg : Str → Option Value} {base : Heap} {C0 C1 C2 C3 C4 C5 C6 C7 C8 C9 C10 C11 C12 : Addr}
theorem T66.kit0 (T : T66 K mg C0 C1 C2 C3 C4 C5 C6 C7 C8 C9 C10 C11 C12) : Kit K [C0, C1, C2, C3, C4, C5, C6, C7, C8, C9, C10, C11, C12] C0 0 0 :=
  kits T.x_InvalidBook (T.x_InvalidBook.k1 bx_V) rfl hb_of (fun c hc => by simp only [List.mem_cons, List.not_mem_nil, or_false] at hc; rcases hc with rfl | rfl | rfl | rfl | rfl | rfl | rfl | rfl | rfl | rfl | rfl | rfl | rfl <;> exact ⟨_, _, by first | exact T.x_InvalidBook | exact T.x_InvalidTimes | exact T.x_InvalidOrder | exact T.x_InvalidOffers | exact T.x_InvalidClaim | exact T.x_ParseError | exact T.x_UnknownWord | exact T.x_NoTimes | exact T.x_CannotRun | exact T.x_TooMany | exact T.x_Refused | exact T.x_NothingDone | exact T.x_CannotWithdraw⟩) met_V
theorem T66.kit1 (T : T66 K mg C0 C1 C2 C3 C4 C5 C6 C7 C8 C9 C10 C11 C12) : Kit K [C0, C1, C2, C3, C4, C5, C6, C7, C8, C9, C10, C11, C12] C1 1 0 :=
  kits T.x_InvalidTimes (T.x_InvalidTimes.k1 bx_V) rfl hb_of (fun c hc => by simp only [List.mem_cons, List.not_mem_nil, or_false] at hc; rcases hc with rfl | rfl | rfl | rfl | rfl | rfl | rfl | rfl | rfl | rfl | rfl | rfl | rfl <;> exact ⟨_, _, by first | exact T.x_InvalidBook | exact T.x_InvalidTimes | exact T.x_InvalidOrder | exact T.x_InvalidOffers | exact T.x_InvalidClaim | exact T.x_ParseError | exact T.x_UnknownWord | exact T.x_NoTimes | exact T.x_CannotRun | exact T.x_TooMany | exact T.x_Refused | exact T.x_NothingDone | exact T.x_CannotWithdraw⟩) met_V
theorem T66.kit2 (T : T66 K mg C0 C1 C2 C3 C4 C5 C6 C7 C8 C9 C10 C11 C12) : Kit K [C0, C1, C2, C3, C4, C5, C6, C7, C8, C9, C10, C11, C12] C2 2 0 :=
  kits T.x_InvalidOrder (T.x_InvalidOrder.k1 bx_V) rfl hb_of (fun c hc => by simp only [List.mem_cons, List.not_mem_nil, or_false] at hc; rcases hc with rfl | rfl | rfl | rfl | rfl | rfl | rfl | rfl | rfl | rfl | rfl | rfl | rfl <;> exact ⟨_, _, by first | exact T.x_InvalidBook | exact T.x_InvalidTimes | exact T.x_InvalidOrder | exact T.x_InvalidOffers | exact T.x_InvalidClaim | exact T.x_ParseError | exact T.x_UnknownWord | exact T.x_NoTimes | exact T.x_CannotRun | exact T.x_TooMany | exact T.x_Refused | exact T.x_NothingDone | exact T.x_CannotWithdraw⟩) met_V
theorem T66.kit3 (T : T66 K mg C0 C1 C2 C3 C4 C5 C6 C7 C8 C9 C10 C11 C12) : Kit K [C0, C1, C2, C3, C4, C5, C6, C7, C8, C9, C10, C11, C12] C3 3 0 :=
  kits T.x_InvalidOffers (T.x_InvalidOffers.k1 bx_V) rfl hb_of (fun c hc => by simp only [List.mem_cons, List.not_mem_nil, or_false] at hc; rcases hc with rfl | rfl | rfl | rfl | rfl | rfl | rfl | rfl | rfl | rfl | rfl | rfl | rfl <;> exact ⟨_, _, by first | exact T.x_InvalidBook | exact T.x_InvalidTimes | exact T.x_InvalidOrder | exact T.x_InvalidOffers | exact T.x_InvalidClaim | exact T.x_ParseError | exact T.x_UnknownWord | exact T.x_NoTimes | exact T.x_CannotRun | exact T.x_TooMany | exact T.x_Refused | exact T.x_NothingDone | exact T.x_CannotWithdraw⟩) met_V
theorem T66.kit4 (T : T66 K mg C0 C1 C2 C3 C4 C5 C6 C7 C8 C9 C10 C11 C12) : Kit K [C0, C1, C2, C3, C4, C5, C6, C7, C8, C9, C10, C11, C12] C4 4 0 :=
  kits T.x_InvalidClaim (T.x_InvalidClaim.k1 bx_V) rfl hb_of (fun c hc => by simp only [List.mem_cons, List.not_mem_nil, or_false] at hc; rcases hc with rfl | rfl | rfl | rfl | rfl | rfl | rfl | rfl | rfl | rfl | rfl | rfl | rfl <;> exact ⟨_, _, by first | exact T.x_InvalidBook | exact T.x_InvalidTimes | exact T.x_InvalidOrder | exact T.x_InvalidOffers | exact T.x_InvalidClaim | exact T.x_ParseError | exact T.x_UnknownWord | exact T.x_NoTimes | exact T.x_CannotRun | exact T.x_TooMany | exact T.x_Refused | exact T.x_NothingDone | exact T.x_CannotWithdraw⟩) met_V
theorem T66.kit5 (T : T66 K mg C0 C1 C2 C3 C4 C5 C6 C7 C8 C9 C10 C11 C12) : Kit K [C0, C1, C2, C3, C4, C5, C6, C7, C8, C9, C10, C11, C12] C5 5 0 :=
  kits T.x_ParseError (T.x_ParseError.k1 bx_V) rfl hb_of (fun c hc => by simp only [List.mem_cons, List.not_mem_nil, or_false] at hc; rcases hc with rfl | rfl | rfl | rfl | rfl | rfl | rfl | rfl | rfl | rfl | rfl | rfl | rfl <;> exact ⟨_, _, by first | exact T.x_InvalidBook | exact T.x_InvalidTimes | exact T.x_InvalidOrder | exact T.x_InvalidOffers | exact T.x_InvalidClaim | exact T.x_ParseError | exact T.x_UnknownWord | exact T.x_NoTimes | exact T.x_CannotRun | exact T.x_TooMany | exact T.x_Refused | exact T.x_NothingDone | exact T.x_CannotWithdraw⟩) met_V
theorem T66.kit6 (T : T66 K mg C0 C1 C2 C3 C4 C5 C6 C7 C8 C9 C10 C11 C12) : Kit K [C0, C1, C2, C3, C4, C5, C6, C7, C8, C9, C10, C11, C12] C6 6 1 :=
  kits T.x_UnknownWord (T.x_UnknownWord.k1 bx_L) rfl hb_of (fun c hc => by simp only [List.mem_cons, List.not_mem_nil, or_false] at hc; rcases hc with rfl | rfl | rfl | rfl | rfl | rfl | rfl | rfl | rfl | rfl | rfl | rfl | rfl <;> exact ⟨_, _, by first | exact T.x_InvalidBook | exact T.x_InvalidTimes | exact T.x_InvalidOrder | exact T.x_InvalidOffers | exact T.x_InvalidClaim | exact T.x_ParseError | exact T.x_UnknownWord | exact T.x_NoTimes | exact T.x_CannotRun | exact T.x_TooMany | exact T.x_Refused | exact T.x_NothingDone | exact T.x_CannotWithdraw⟩) met_L
theorem T66.kit7 (T : T66 K mg C0 C1 C2 C3 C4 C5 C6 C7 C8 C9 C10 C11 C12) : Kit K [C0, C1, C2, C3, C4, C5, C6, C7, C8, C9, C10, C11, C12] C7 7 2 :=
  kits T.x_NoTimes (T.x_NoTimes.k1 bx_R) rfl hb_of (fun c hc => by simp only [List.mem_cons, List.not_mem_nil, or_false] at hc; rcases hc with rfl | rfl | rfl | rfl | rfl | rfl | rfl | rfl | rfl | rfl | rfl | rfl | rfl <;> exact ⟨_, _, by first | exact T.x_InvalidBook | exact T.x_InvalidTimes | exact T.x_InvalidOrder | exact T.x_InvalidOffers | exact T.x_InvalidClaim | exact T.x_ParseError | exact T.x_UnknownWord | exact T.x_NoTimes | exact T.x_CannotRun | exact T.x_TooMany | exact T.x_Refused | exact T.x_NothingDone | exact T.x_CannotWithdraw⟩) met_R
theorem T66.kit8 (T : T66 K mg C0 C1 C2 C3 C4 C5 C6 C7 C8 C9 C10 C11 C12) : Kit K [C0, C1, C2, C3, C4, C5, C6, C7, C8, C9, C10, C11, C12] C8 8 2 :=
  kits T.x_CannotRun (T.x_CannotRun.k1 bx_R) rfl hb_of (fun c hc => by simp only [List.mem_cons, List.not_mem_nil, or_false] at hc; rcases hc with rfl | rfl | rfl | rfl | rfl | rfl | rfl | rfl | rfl | rfl | rfl | rfl | rfl <;> exact ⟨_, _, by first | exact T.x_InvalidBook | exact T.x_InvalidTimes | exact T.x_InvalidOrder | exact T.x_InvalidOffers | exact T.x_InvalidClaim | exact T.x_ParseError | exact T.x_UnknownWord | exact T.x_NoTimes | exact T.x_CannotRun | exact T.x_TooMany | exact T.x_Refused | exact T.x_NothingDone | exact T.x_CannotWithdraw⟩) met_R
theorem T66.kit9 (T : T66 K mg C0 C1 C2 C3 C4 C5 C6 C7 C8 C9 C10 C11 C12) : Kit K [C0, C1, C2, C3, C4, C5, C6, C7, C8, C9, C10, C11, C12] C9 9 2 :=
  kits T.x_TooMany (T.x_TooMany.k1 bx_R) rfl hb_of (fun c hc => by simp only [List.mem_cons, List.not_mem_nil, or_false] at hc; rcases hc with rfl | rfl | rfl | rfl | rfl | rfl | rfl | rfl | rfl | rfl | rfl | rfl | rfl <;> exact ⟨_, _, by first | exact T.x_InvalidBook | exact T.x_InvalidTimes | exact T.x_InvalidOrder | exact T.x_InvalidOffers | exact T.x_InvalidClaim | exact T.x_ParseError | exact T.x_UnknownWord | exact T.x_NoTimes | exact T.x_CannotRun | exact T.x_TooMany | exact T.x_Refused | exact T.x_NothingDone | exact T.x_CannotWithdraw⟩) met_R
theorem T66.kit10 (T : T66 K mg C0 C1 C2 C3 C4 C5 C6 C7 C8 C9 C10 C11 C12) : Kit K [C0, C1, C2, C3, C4, C5, C6, C7, C8, C9, C10, C11, C12] C10 10 2 :=
  kits T.x_Refused (T.x_Refused.k1 bx_R) rfl hb_of (fun c hc => by simp only [List.mem_cons, List.not_mem_nil, or_false] at hc; rcases hc with rfl | rfl | rfl | rfl | rfl | rfl | rfl | rfl | rfl | rfl | rfl | rfl | rfl <;> exact ⟨_, _, by first | exact T.x_InvalidBook | exact T.x_InvalidTimes | exact T.x_InvalidOrder | exact T.x_InvalidOffers | exact T.x_InvalidClaim | exact T.x_ParseError | exact T.x_UnknownWord | exact T.x_NoTimes | exact T.x_CannotRun | exact T.x_TooMany | exact T.x_Refused | exact T.x_NothingDone | exact T.x_CannotWithdraw⟩) met_R
theorem T66.kit11 (T : T66 K mg C0 C1 C2 C3 C4 C5 C6 C7 C8 C9 C10 C11 C12) : Kit K [C0, C1, C2, C3, C4, C5, C6, C7, C8, C9, C10, C11, C12] C11 11 2 :=
  kits T.x_NothingDone (T.x_NothingDone.k1 bx_R) rfl hb_of (fun c hc => by simp only [List.mem_cons, List.not_mem_nil, or_false] at hc; rcases hc with rfl | rfl | rfl | rfl | rfl | rfl | rfl | rfl | rfl | rfl | rfl | rfl | rfl <;> exact ⟨_, _, by first | exact T.x_InvalidBook | exact T.x_InvalidTimes | exact T.x_InvalidOrder | exact T.x_InvalidOffers | exact T.x_InvalidClaim | exact T.x_ParseError | exact T.x_UnknownWord | exact T.x_NoTimes | exact T.x_CannotRun | exact T.x_TooMany | exact T.x_Refused | exact T.x_NothingDone | exact T.x_CannotWithdraw⟩) met_R
theorem T66.kit12 (T : T66 K mg C0 C1 C2 C3 C4 C5 C6 C7 C8 C9 C10 C11 C12) : Kit K [C0, C1, C2, C3, C4, C5, C6, C7, C8, C9, C10, C11, C12] C12 12 2 :=
  kits T.x_CannotWithdraw (T.x_CannotWithdraw.k1 bx_R) rfl hb_of (fun c hc => by simp only [List.mem_cons, List.not_mem_nil, or_false] at hc; rcases hc with rfl | rfl | rfl | rfl | rfl | rfl | rfl | rfl | rfl | rfl | rfl | rfl | rfl <;> exact ⟨_, _, by first | exact T.x_InvalidBook | exact T.x_InvalidTimes | exact T.x_InvalidOrder | exact T.x_InvalidOffers | exact T.x_InvalidClaim | exact T.x_ParseError | exact T.x_UnknownWord | exact T.x_NoTimes | exact T.x_CannotRun | exact T.x_TooMany | exact T.x_Refused | exact T.x_NothingDone | exact T.x_CannotWithdraw⟩) met_R
abbrev sWhich : Stmt := top 19
theorem scWhich : FnScope ["_law_e", "_law_found", "_law_seat", "_law_is_it"] ["_law_e"] (defScope sWhich) := ⟨rfl, rfl, rfl, by decide +kernel, rfl, by decide +kernel, by decide +kernel⟩
def spWhich (K : PySem.W.Frag) (cs : List Addr) : Sp := fun vs H Q _ => ∃ (a C : Addr) (i bi : Nat), vs = [.ref a] ∧ Kit K cs C i bi ∧ ErrAt H a C ∧
  ∀ p H', H p = none → Evl.Ex H H' → H' p = some (.lst [.int (i : Int)]) → Q (.ref p) H'
theorem ok_which {f : Addr} {fd : FuncData} {k : Nat} (F : Fun K "_law_which" "_law_which" sWhich f fd) (T : T66 K mg C0 C1 C2 C3 C4 C5 C6 C7 C8 C9 C10 C11 C12) : FG P w K mg base CX0 (k + 1) f fd ["_law_e"] (spWhich K [C0, C1, C2, C3, C4, C5, C6, C7, C8, C9, C10, C11, C12]) := by
  refine fg_def F scWhich (fun vs H Q E h => ?_) (fun cdv A outer s H vs Q E hr hgd h => ?_)
  · obtain ⟨a, C, i, bi, rfl, _⟩ := h
    rfl
  · have sc := scWhich
    obtain ⟨a, C, i, bi, rfl, ki, he, q⟩ := h
    refine ⟨_, (pss_cons (ps_set (i := 1) sc.nd rfl (.inl rfl) (pe_lst (pa_cons (pe_callB (call_isx (sp_class _) (tk_class _)) (by rfl) T.g_isinstance (by decide +kernel) (pa_cons (pv 0) (pa_cons (pe_glob (v := .ref C0) rfl T.g_InvalidBook rfl) pa_nil))) (pa_cons (pe_callB (call_isx (sp_class _) (tk_class _)) (by rfl) T.g_isinstance (by decide +kernel) (pa_cons (pv 0) (pa_cons (pe_glob (v := .ref C1) rfl T.g_InvalidTimes rfl) pa_nil))) (pa_cons (pe_callB (call_isx (sp_class _) (tk_class _)) (by rfl) T.g_isinstance (by decide +kernel) (pa_cons (pv 0) (pa_cons (pe_glob (v := .ref C2) rfl T.g_InvalidOrder rfl) pa_nil))) pa_nil)))))
      (pss_cons (ps_set (i := 1) sc.nd rfl (.inl rfl) (pe_op op_cat (pv 1) (pe_lst (pa_cons (pe_callB (call_isx (sp_class _) (tk_class _)) (by rfl) T.g_isinstance (by decide +kernel) (pa_cons (pv 0) (pa_cons (pe_glob (v := .ref C3) rfl T.g_InvalidOffers rfl) pa_nil))) (pa_cons (pe_callB (call_isx (sp_class _) (tk_class _)) (by rfl) T.g_isinstance (by decide +kernel) (pa_cons (pv 0) (pa_cons (pe_glob (v := .ref C4) rfl T.g_InvalidClaim rfl) pa_nil))) (pa_cons (pe_callB (call_isx (sp_class _) (tk_class _)) (by rfl) T.g_isinstance (by decide +kernel) (pa_cons (pv 0) (pa_cons (pe_glob (v := .ref C5) rfl T.g_ParseError rfl) pa_nil))) pa_nil))))))
      (pss_cons (ps_set (i := 1) sc.nd rfl (.inl rfl) (pe_op op_cat (pv 1) (pe_lst (pa_cons (pe_callB (call_isx (sp_class _) (tk_class _)) (by rfl) T.g_isinstance (by decide +kernel) (pa_cons (pv 0) (pa_cons (pe_glob (v := .ref C6) rfl T.g_UnknownWord rfl) pa_nil))) (pa_cons (pe_callB (call_isx (sp_class _) (tk_class _)) (by rfl) T.g_isinstance (by decide +kernel) (pa_cons (pv 0) (pa_cons (pe_glob (v := .ref C7) rfl T.g_NoTimes rfl) pa_nil))) (pa_cons (pe_callB (call_isx (sp_class _) (tk_class _)) (by rfl) T.g_isinstance (by decide +kernel) (pa_cons (pv 0) (pa_cons (pe_glob (v := .ref C8) rfl T.g_CannotRun rfl) pa_nil))) pa_nil))))))
      (pss_cons (ps_set (i := 1) sc.nd rfl (.inl rfl) (pe_op op_cat (pv 1) (pe_lst (pa_cons (pe_callB (call_isx (sp_class _) (tk_class _)) (by rfl) T.g_isinstance (by decide +kernel) (pa_cons (pv 0) (pa_cons (pe_glob (v := .ref C9) rfl T.g_TooMany rfl) pa_nil))) (pa_cons (pe_callB (call_isx (sp_class _) (tk_class _)) (by rfl) T.g_isinstance (by decide +kernel) (pa_cons (pv 0) (pa_cons (pe_glob (v := .ref C10) rfl T.g_Refused rfl) pa_nil))) (pa_cons (pe_callB (call_isx (sp_class _) (tk_class _)) (by rfl) T.g_isinstance (by decide +kernel) (pa_cons (pv 0) (pa_cons (pe_glob (v := .ref C11) rfl T.g_NothingDone rfl) pa_nil))) pa_nil))))))
      (pss_cons (ps_expr (pe_bm PySem.F.plainAttrs_list PySem.F.slot_list_append PySem.F.type_list_append mt_append (pv 1) (pa_cons (pe_callB (call_isx (sp_class _) (tk_class _)) (by rfl) T.g_isinstance (by decide +kernel) (pa_cons (pv 0) (pa_cons (pe_glob (v := .ref C12) rfl T.g_CannotWithdraw rfl) pa_nil))) pa_nil)))
      (pss_one (ps_ret (pe_lc (own := [("_law_seat", 2), ("_law_is_it", 3)]) rfl sc.nd (pi_enum (by rfl) T.g_enumerate (pa_cons (pv 1) pa_nil)) (blkOk_by (N := ["_law_e", "_law_found", "_law_seat", "_law_is_it"]) (sc := defScope (top 19)) (by decide +kernel)) (fun _ _ _ _ _ => by exact (pg_tupK K (n := 2) rfl rfl (pgs_cons (pg_name (i := 2) sc.nd rfl (.inl rfl)) (pgs_cons (pg_name (i := 3) sc.nd rfl (.inl rfl)) pgs_nil)))) (fun _ _ _ _ _ => by exact (pts_one (pt_val (pv 3)))) (fun _ _ _ _ _ => by exact (pv 2)))))))))), ?_⟩
    have isx : ∀ (σ : L2.St) H1, σ[0]? = some (some (.ref a)) → Evl.Ex H H1 → ∀ c ∈ [C0, C1, C2, C3, C4, C5, C6, C7, C8, C9, C10, C11, C12], Evl.Ev (tCB (rIsX K) (tCons (tVar 0) (tCons (tC (.ref c)) tNil))) σ H1 (.bl (decide (C = c))) := fun σ H1 hσ e1 c hc => by
      refine Evl.ev_cb (Evl.ea_cons (Evl.ev_var hσ) (Evl.ea_cons Evl.ev_c Evl.ea_nil)) (rc_of fun H2 e2 Q1 q1 => ?_)
      obtain ⟨d, fs, h1, h2⟩ := he.ex (e1.trans e2)
      exact ⟨a, C, d, fs, .ref c, .ref c, _, rfl, .own c, ki.k1, h1, h2, ki.own c hc, q1⟩
    have m : ∀ {j : Nat} {c : Addr}, [C0, C1, C2, C3, C4, C5, C6, C7, C8, C9, C10, C11, C12][j]? = some c → c ∈ [C0, C1, C2, C3, C4, C5, C6, C7, C8, C9, C10, C11, C12] := fun h => List.mem_of_getElem? h
    have e0 := Evl.Ex.refl H
    refine q_setL (Evl.el_lst (Evl.ea_cons (isx _ _ rfl e0 _ (m (j := 0) rfl)) (Evl.ea_cons (isx _ _ rfl e0 _ (m (j := 1) rfl)) (Evl.ea_cons (isx _ _ rfl e0 _ (m (j := 2) rfl)) Evl.ea_nil))) (by simp)) fun p1 H1 n1 e1 h1 => ?_
    refine q_setL (el_cat (Evl.ev_var rfl) h1 (Evl.el_lst (Evl.ea_cons (isx _ _ rfl e1 _ (m (j := 3) rfl)) (Evl.ea_cons (isx _ _ rfl e1 _ (m (j := 4) rfl)) (Evl.ea_cons (isx _ _ rfl e1 _ (m (j := 5) rfl)) Evl.ea_nil))) (by simp)) (by simp)) fun p2 H2 n2 e2 h2 => ?_
    refine q_setL (el_cat (Evl.ev_var rfl) h2 (Evl.el_lst (Evl.ea_cons (isx _ _ rfl (e1.trans e2) _ (m (j := 6) rfl)) (Evl.ea_cons (isx _ _ rfl (e1.trans e2) _ (m (j := 7) rfl)) (Evl.ea_cons (isx _ _ rfl (e1.trans e2) _ (m (j := 8) rfl)) Evl.ea_nil))) (by simp)) (by simp)) fun p3 H3 n3 e3 h3 => ?_
    refine q_setL (el_cat (Evl.ev_var rfl) h3 (Evl.el_lst (Evl.ea_cons (isx _ _ rfl ((e1.trans e2).trans e3) _ (m (j := 9) rfl)) (Evl.ea_cons (isx _ _ rfl ((e1.trans e2).trans e3) _ (m (j := 10) rfl)) (Evl.ea_cons (isx _ _ rfl ((e1.trans e2).trans e3) _ (m (j := 11) rfl)) Evl.ea_nil))) (by simp)) (by simp)) fun p4 H4 n4 e4 h4 => ?_
    have e04 := ((e1.trans e2).trans e3).trans e4
    have n4' : H p4 = none := Evl.fresh_back ((e1.trans e2).trans e3) n4
    refine q_app h4 (Evl.ev_var rfl) (isx _ _ rfl e04 _ (m (j := 12) rfl)) (by simp) fun H5 e5 => ?_
    have hD : (upd H5 p4 (.lst (([.bl (decide (C = C0)), .bl (decide (C = C1)), .bl (decide (C = C2))] ++ [.bl (decide (C = C3)), .bl (decide (C = C4)), .bl (decide (C = C5))] ++ [.bl (decide (C = C6)), .bl (decide (C = C7)), .bl (decide (C = C8))] ++
      [.bl (decide (C = C9)), .bl (decide (C = C10)), .bl (decide (C = C11))]) ++ [.bl (decide (C = C12))]))) p4 = some (.lst ([C0, C1, C2, C3, C4, C5, C6, C7, C8, C9, C10, C11, C12].map fun c => V.bl (decide (C = c)))) := upd_same
    have e06 : Evl.Ex H (upd H5 p4 (.lst (([.bl (decide (C = C0)), .bl (decide (C = C1)), .bl (decide (C = C2))] ++ [.bl (decide (C = C3)), .bl (decide (C = C4)), .bl (decide (C = C5))] ++ [.bl (decide (C = C6)), .bl (decide (C = C7)), .bl (decide (C = C8))] ++
      [.bl (decide (C = C9)), .bl (decide (C = C10)), .bl (decide (C = C11))]) ++ [.bl (decide (C = C12))]))) := (e04.trans e5).mut n4'
    revert hD e06
    generalize upd H5 p4 _ = H6
    intro hD e06
    have at_ : ∀ (j : Nat) (x : V), ([C0, C1, C2, C3, C4, C5, C6, C7, C8, C9, C10, C11, C12].map fun c => V.bl (decide (C = c)))[j]? = some x → x = .bl (decide (j = i)) := fun j x hj => by
      rw [List.getElem?_map] at hj
      cases hc : [C0, C1, C2, C3, C4, C5, C6, C7, C8, C9, C10, C11, C12][j]? with
      | none => rw [hc] at hj; cases hj
      | some c =>
        rw [hc] at hj
        have hx : V.bl (decide (C = c)) = x := Option.some.inj hj
        rw [← hx]
        congr 1
        by_cases hji : j = i
        · subst hji
          rw [ki.at_] at hc
          rw [Option.some.inj hc]
          simp
        · rw [decide_eq_false hji]
          refine decide_eq_false fun hCc => hji ?_
          subst hCc
          obtain ⟨h1, e1⟩ := List.getElem?_eq_some_iff.mp hc
          obtain ⟨h2, e2⟩ := List.getElem?_eq_some_iff.mp ki.at_
          exact (List.getElem_inj T.nd).mp (e1.trans e2.symm)
    have hi : i < 13 := (List.getElem?_eq_some_iff.mp ki.at_).1
    refine q_lcE p4 ([C0, C1, C2, C3, C4, C5, C6, C7, C8, C9, C10, C11, C12].map fun c => V.bl (decide (C = c))) (by simp) (fun Q' q' => ⟨.ref p4, rfl, q' _ (Evl.Ex.refl _)⟩) (.inl (SqL.of hD)) (fun j => decide (j = i)) (fun j => .int (j : Int)) ?_ ?_ ?_ ?_
    · intro j x H7 hj e7 Q' q'
      have hx := at_ j x hj
      subst hx
      exact ⟨_, rfl, _, rfl, q' _ (Evl.Ex.refl _)⟩
    · intro j x H7 hj e7 hb Q' q'
      exact ⟨_, rfl, q' _ (Evl.Ex.refl _)⟩
    · intro j x
      rfl
    · intro p H7 np e7 h7
      rw [pick_one (j := i) _ (fun _ _ => rfl), if_pos (by simpa using hi)] at h7
      exact q p H7 (Evl.fresh_back e06 np) (e06.trans e7) h7

abbrev sBase : Stmt := top 20
theorem scBase : FnScope ["_law_e", "_law_found", "_law_seat", "_law_is_it"] ["_law_e"] (defScope sBase) := ⟨rfl, rfl, rfl, by decide +kernel, rfl, by decide +kernel, by decide +kernel⟩
def spBase (K : PySem.W.Frag) (cs : List Addr) : Sp := fun vs H Q _ => ∃ (a C : Addr) (i bi : Nat), vs = [.ref a] ∧ Kit K cs C i bi ∧ bi < 7 ∧ ErrAt H a C ∧
  ∀ p H', H p = none → Evl.Ex H H' → H' p = some (.lst [.int (bi : Int)]) → Q (.ref p) H'
theorem ok_base {f : Addr} {fd : FuncData} {k : Nat} (F : Fun K "_law_base" "_law_base" sBase f fd) (T : T66 K mg C0 C1 C2 C3 C4 C5 C6 C7 C8 C9 C10 C11 C12) : FG P w K mg base CX0 (k + 1) f fd ["_law_e"] (spBase K [C0, C1, C2, C3, C4, C5, C6, C7, C8, C9, C10, C11, C12]) := by
  refine fg_def F scBase (fun vs H Q E h => ?_) (fun cdv A outer s H vs Q E hr hgd h => ?_)
  · obtain ⟨a, C, i, bi, rfl, _⟩ := h
    rfl
  · have sc := scBase
    obtain ⟨a, C, i, bi, rfl, ki, hbi, he, q⟩ := h
    refine ⟨_, (pss_cons (ps_set (i := 1) sc.nd rfl (.inl rfl) (pe_lst (pa_cons (pe_callB (call_isx (sp_class _) (tk_class _)) (by rfl) T.g_isinstance (by decide +kernel) (pa_cons (pv 0) (pa_cons (pe_bltn (v := .ty "ValueError") (by rfl) T.g_ValueError (by decide +kernel) rfl) pa_nil))) (pa_cons (pe_callB (call_isx (sp_class _) (tk_class _)) (by rfl) T.g_isinstance (by decide +kernel) (pa_cons (pv 0) (pa_cons (pe_bltn (v := .ty "LookupError") (by rfl) T.g_LookupError (by decide +kernel) rfl) pa_nil))) (pa_cons (pe_callB (call_isx (sp_class _) (tk_class _)) (by rfl) T.g_isinstance (by decide +kernel) (pa_cons (pv 0) (pa_cons (pe_bltn (v := .ty "RuntimeError") (by rfl) T.g_RuntimeError (by decide +kernel) rfl) pa_nil))) pa_nil)))))
      (pss_cons (ps_set (i := 1) sc.nd rfl (.inl rfl) (pe_op op_cat (pv 1) (pe_lst (pa_cons (pe_callB (call_isx (sp_class _) (tk_class _)) (by rfl) T.g_isinstance (by decide +kernel) (pa_cons (pv 0) (pa_cons (pe_bltn (v := .ty "OverflowError") (by rfl) T.g_OverflowError (by decide +kernel) rfl) pa_nil))) (pa_cons (pe_callB (call_isx (sp_class _) (tk_class _)) (by rfl) T.g_isinstance (by decide +kernel) (pa_cons (pv 0) (pa_cons (pe_bltn (v := .ty "KeyError") (by rfl) T.g_KeyError (by decide +kernel) rfl) pa_nil))) (pa_cons (pe_callB (call_isx (sp_class _) (tk_class _)) (by rfl) T.g_isinstance (by decide +kernel) (pa_cons (pv 0) (pa_cons (pe_bltn (v := .ty "IndexError") (by rfl) T.g_IndexError (by decide +kernel) rfl) pa_nil))) pa_nil))))))
      (pss_cons (ps_expr (pe_bm PySem.F.plainAttrs_list PySem.F.slot_list_append PySem.F.type_list_append mt_append (pv 1) (pa_cons (pe_callB (call_isx (sp_class _) (tk_class _)) (by rfl) T.g_isinstance (by decide +kernel) (pa_cons (pv 0) (pa_cons (pe_bltn (v := .ty "NotImplementedError") (by rfl) T.g_NotImplementedError (by decide +kernel) rfl) pa_nil))) pa_nil)))
      (pss_one (ps_ret (pe_lc (own := [("_law_seat", 2), ("_law_is_it", 3)]) rfl sc.nd (pi_enum (by rfl) T.g_enumerate (pa_cons (pv 1) pa_nil)) (blkOk_by (N := ["_law_e", "_law_found", "_law_seat", "_law_is_it"]) (sc := defScope (top 20)) (by decide +kernel)) (fun _ _ _ _ _ => by exact (pg_tupK K (n := 2) rfl rfl (pgs_cons (pg_name (i := 2) sc.nd rfl (.inl rfl)) (pgs_cons (pg_name (i := 3) sc.nd rfl (.inl rfl)) pgs_nil)))) (fun _ _ _ _ _ => by exact (pts_one (pt_val (pv 3)))) (fun _ _ _ _ _ => by exact (pv 2)))))))), ?_⟩
    have isx : ∀ (σ : L2.St) H1, σ[0]? = some (some (.ref a)) → Evl.Ex H H1 → ∀ (j : Nat) (B : String), ["ValueError", "LookupError", "RuntimeError", "OverflowError", "KeyError", "IndexError", "NotImplementedError"][j]? = some B → Evl.Ev (tCB (rIsX K) (tCons (tVar 0) (tCons (tC (.ty B)) tNil))) σ H1 (.bl (decide (j = bi))) := fun σ H1 hσ e1 j B hj => by
      refine Evl.ev_cb (Evl.ea_cons (Evl.ev_var hσ) (Evl.ea_cons Evl.ev_c Evl.ea_nil)) (rc_of fun H2 e2 Q1 q1 => ?_)
      obtain ⟨d, fs, h1, h2⟩ := he.ex (e1.trans e2)
      exact ⟨a, C, d, fs, .ty B, .type B, _, rfl, .ty B, ki.k1, h1, h2, ki.blt j B hj, q1⟩
    have e0 := Evl.Ex.refl H
    refine q_setL (Evl.el_lst (Evl.ea_cons (isx _ _ rfl e0 0 "ValueError" rfl) (Evl.ea_cons (isx _ _ rfl e0 1 "LookupError" rfl) (Evl.ea_cons (isx _ _ rfl e0 2 "RuntimeError" rfl) Evl.ea_nil))) (by simp)) fun p1 H1 n1 e1 h1 => ?_
    refine q_setL (el_cat (Evl.ev_var rfl) h1 (Evl.el_lst (Evl.ea_cons (isx _ _ rfl e1 3 "OverflowError" rfl) (Evl.ea_cons (isx _ _ rfl e1 4 "KeyError" rfl) (Evl.ea_cons (isx _ _ rfl e1 5 "IndexError" rfl) Evl.ea_nil))) (by simp)) (by simp)) fun p2 H2 n2 e2 h2 => ?_
    have e02 := e1.trans e2
    have n2' : H p2 = none := Evl.fresh_back e1 n2
    refine q_app h2 (Evl.ev_var rfl) (isx _ _ rfl e02 6 "NotImplementedError" rfl) (by simp) fun H5 e5 => ?_
    have hD : (upd H5 p2 (.lst (([.bl (decide ((0 : Nat) = bi)), .bl (decide ((1 : Nat) = bi)), .bl (decide ((2 : Nat) = bi))] ++ [.bl (decide ((3 : Nat) = bi)), .bl (decide ((4 : Nat) = bi)), .bl (decide ((5 : Nat) = bi))]) ++ [.bl (decide ((6 : Nat) = bi))]))) p2 = some (.lst ((List.range 7).map fun j => V.bl (decide (j = bi)))) := upd_same
    have e06 : Evl.Ex H (upd H5 p2 (.lst (([.bl (decide ((0 : Nat) = bi)), .bl (decide ((1 : Nat) = bi)), .bl (decide ((2 : Nat) = bi))] ++ [.bl (decide ((3 : Nat) = bi)), .bl (decide ((4 : Nat) = bi)), .bl (decide ((5 : Nat) = bi))]) ++ [.bl (decide ((6 : Nat) = bi))]))) := (e02.trans e5).mut n2'
    revert hD e06
    generalize upd H5 p2 _ = H6
    intro hD e06
    have at_ : ∀ (j : Nat) (x : V), ((List.range 7).map fun j => V.bl (decide (j = bi)))[j]? = some x → x = .bl (decide (j = bi)) := fun j x hj => by
      rw [List.getElem?_map] at hj
      cases hc : (List.range 7)[j]? with
      | none => rw [hc] at hj; cases hj
      | some c =>
        rw [hc] at hj
        have hx : V.bl (decide (c = bi)) = x := Option.some.inj hj
        obtain ⟨h1, e1⟩ := List.getElem?_eq_some_iff.mp hc
        rw [List.getElem_range] at e1
        rw [← hx, e1]
    refine q_lcE p2 ((List.range 7).map fun j => V.bl (decide (j = bi))) (by simp) (fun Q' q' => ⟨.ref p2, rfl, q' _ (Evl.Ex.refl _)⟩) (.inl (SqL.of hD)) (fun j => decide (j = bi)) (fun j => .int (j : Int)) ?_ ?_ ?_ ?_
    · intro j x H7 hj e7 Q' q'
      have hx := at_ j x hj
      subst hx
      exact ⟨_, rfl, _, rfl, q' _ (Evl.Ex.refl _)⟩
    · intro j x H7 hj e7 hb Q' q'
      exact ⟨_, rfl, q' _ (Evl.Ex.refl _)⟩
    · intro j x
      rfl
    · intro p H7 np e7 h7
      rw [pick_one (j := bi) _ (fun _ _ => rfl), if_pos (by simpa using hbi)] at h7
      exact q p H7 (Evl.fresh_back e06 np) (e06.trans e7) h7

abbrev sRight : Stmt := top 21
theorem scRight : FnScope ["_law_seat", "_law_base_here", "_law_made", "_law_e"] ["_law_seat", "_law_base_here", "_law_made"] (defScope sRight) := ⟨rfl, rfl, rfl, by decide +kernel, rfl, by decide +kernel, by decide +kernel⟩
def spRight (K : PySem.W.Frag) (cs : List Addr) : Sp := fun vs H Q _ => ∃ (l C : Addr) (i bi : Nat) (es : List Addr), vs = [.int (i : Int), .int (bi : Int), .ref l] ∧ Kit K cs C i bi ∧ bi < 7 ∧
  H l = some (.lst (es.map V.ref)) ∧ es.length ≤ 1000 ∧ (∀ a ∈ es, ErrAt H a C) ∧ ∀ H', Evl.Ex H H' → Q (.bl true) H'
theorem ok_right {f f1 f2 : Addr} {fd fd1 fd2 : FuncData} {k : Nat} (F : Fun K "_law_right" "_law_right" sRight f fd) (T : T66 K mg C0 C1 C2 C3 C4 C5 C6 C7 C8 C9 C10 C11 C12)
    (G__law_which : FG P w K mg base CX0 (k + 1) f1 fd1 ["_law_e"] (spWhich K [C0, C1, C2, C3, C4, C5, C6, C7, C8, C9, C10, C11, C12])) (N__law_which : Nm K mg "_law_which" f1 fd1 ["_law_e"])
    (G__law_base : FG P w K mg base CX0 (k + 1) f2 fd2 ["_law_e"] (spBase K [C0, C1, C2, C3, C4, C5, C6, C7, C8, C9, C10, C11, C12])) (N__law_base : Nm K mg "_law_base" f2 fd2 ["_law_e"]) :
    FG P w K mg base CX0 (k + 2) f fd ["_law_seat", "_law_base_here", "_law_made"] (spRight K [C0, C1, C2, C3, C4, C5, C6, C7, C8, C9, C10, C11, C12]) := by
  refine fg_def F scRight (fun vs H Q E h => ?_) (fun cdv A outer s H vs Q E hr hgd h => ?_)
  · obtain ⟨l, C, i, bi, es, rfl, _⟩ := h
    rfl
  · have sc := scRight
    obtain ⟨l, C, i, bi, es, rfl, ki, hbi, hl, hlen, hes, q⟩ := h
    refine ⟨_, (pss_one (ps_ret (pe_cmpR (op_eqD hr.units) (pe_lc (own := [("_law_e", 3)]) rfl sc.nd (pi_list (pv 2)) (blkOk_by (N := ["_law_seat", "_law_base_here", "_law_made", "_law_e"]) (sc := defScope (top 21)) (by decide +kernel)) (fun _ _ _ _ _ => by exact (pg_name (i := 3) sc.nd rfl (.inl rfl))) (fun _ _ _ _ _ => by exact (pts_one (PW.pt (pw_or (pt_cmpR (op_neDK K rfl hr.units) (ge_call G__law_which (hr.mono (by omega)) hgd (by rfl) N__law_which.g N__law_which.k N__law_which.b .nil pass0 (pa_cons (pv 3) pa_nil)) (pe_lst (pa_cons (pv 0) pa_nil)) (nomark _)) (pw_or1 (pt_cmpR (op_neDK K rfl hr.units) (ge_call G__law_base (hr.mono (by omega)) hgd (by rfl) N__law_base.g N__law_base.k N__law_base.b .nil pass0 (pa_cons (pv 3) pa_nil)) (pe_lst (pa_cons (pv 1) pa_nil)) (nomark _))))))) (fun _ _ _ _ _ => by exact (pv 3))) (pe_lst pa_nil) (nomark _)))), ?_⟩
    have src : ∀ (j : Nat) (x : V), (es.map V.ref)[j]? = some x → ∃ a, a ∈ es ∧ x = .ref a := fun j x hj => by
      rw [List.getElem?_map] at hj
      cases hc : es[j]? with
      | none => rw [hc] at hj; cases hj
      | some c =>
        rw [hc] at hj
        exact ⟨c, List.mem_of_getElem? hc, (Option.some.inj hj).symm⟩
    refine Evl.s_ret (v := .bl true) (ev_eqL (ns := []) (ms := []) (xs_is (el_lcL (fun _ => false) (fun _ => .non) (Evl.ev_var rfl) (SqL.of hl) (by rw [List.length_map]; omega) ?_ (fun _ _ _ hb => by cases hb) (fun _ => rfl)) (pick_false _ fun _ _ => rfl)) (Evl.el_lst Evl.ea_nil (by simp))) (fun H1 e1 => q H1 e1)
    intro j x hj
    obtain ⟨a, ha, rfl⟩ := src j x hj
    have c1 : Evl.EvT (tTest (tOp (rNeD K) (tCall (spWhich K [C0, C1, C2, C3, C4, C5, C6, C7, C8, C9, C10, C11, C12]) [] E0 (tCons (tVar 3) tNil)) (tLst (tCons (tVar 0) tNil)))) [some (.int i), some (.int bi), some (.ref l), some (.ref a)] H false := by
      refine Evl.et_is (Evl.et_test (ev_neL (ns := [(i : Int)]) (ms := [(i : Int)]) (Evl.el_call (Evl.ea_cons (Evl.ev_var rfl) Evl.ea_nil) ?_) (Evl.el_lst (Evl.ea_cons (Evl.ev_var rfl) Evl.ea_nil) (by simp)))) (by simp)
      exact fun H1 e1 Q1 q1 E1 => ⟨a, C, i, bi, rfl, ki, (hes a ha).ex e1, q1⟩
    have c2 : Evl.EvT (tTest (tOp (rNeD K) (tCall (spBase K [C0, C1, C2, C3, C4, C5, C6, C7, C8, C9, C10, C11, C12]) [] E0 (tCons (tVar 3) tNil)) (tLst (tCons (tVar 1) tNil)))) [some (.int i), some (.int bi), some (.ref l), some (.ref a)] H false := by
      refine Evl.et_is (Evl.et_test (ev_neL (ns := [(bi : Int)]) (ms := [(bi : Int)]) (Evl.el_call (Evl.ea_cons (Evl.ev_var rfl) Evl.ea_nil) ?_) (Evl.el_lst (Evl.ea_cons (Evl.ev_var rfl) Evl.ea_nil) (by simp)))) (by simp)
      exact fun H1 e1 Q1 q1 E1 => ⟨a, C, i, bi, rfl, ki, hbi, (hes a ha).ex e1, q1⟩
    exact Evl.et_or c1 (fun _ => c2)
/-- errors right -/
theorem ev_right2 {cs : List Addr} {C a b : Addr} {i bi : Nat} {σ : L2.St} {H : Hp} {s1 s2 : Nat} (ki : Kit K cs C i bi) (hbi : bi < 7) (ha : ErrAt H a C) (hb : ErrAt H b C) (h1 : σ[s1]? = some (some (.ref a))) (h2 : σ[s2]? = some (some (.ref b))) :
    Evl.Ev (tCall (spRight K cs) [] E0 (tCons (tC (.int (i : Int))) (tCons (tC (.int (bi : Int))) (tCons (tLst (tCons (tVar s1) (tCons (tVar s2) tNil))) tNil)))) σ H (.bl true) := fun H1 e Q q =>
  ⟨.ref a, h1, .ref b, h2, (by show 2 ≤ sizeLine; decide), fun p np => ⟨p, C, i, bi, [a, b], rfl, ki, hbi, upd_same, by simp, fun x hx => by
    simp only [List.mem_cons, List.not_mem_nil, or_false] at hx
    rcases hx with rfl | rfl
    · exact ha.ex (e.trans (Evl.Ex.new np))
    · exact hb.ex (e.trans (Evl.Ex.new np)), fun H' e' => q H' ((Evl.Ex.new np).trans e')⟩⟩
theorem ev_right1 {cs : List Addr} {C a : Addr} {i bi : Nat} {σ : L2.St} {H : Hp} {te : TE} (ki : Kit K cs C i bi) (hbi : bi < 7) (ha : EvE te σ H fun a H' => ErrAt H' a C) :
    Evl.Ev (tCall (spRight K cs) [] E0 (tCons (tC (.int (i : Int))) (tCons (tC (.int (bi : Int))) (tCons (tLst (tCons te tNil)) tNil)))) σ H (.bl true) := fun H1 e Q q =>
  ha H1 e _ fun a H2 e2 ea => ⟨(by show 1 ≤ sizeLine; decide), fun p np => ⟨p, C, i, bi, [a], rfl, ki, hbi, upd_same, by simp, fun x hx => by
    simp only [List.mem_cons, List.not_mem_nil, or_false] at hx
    rw [hx]
    exact ea.ex (Evl.Ex.new np), fun H' e' => q H' ((e2.trans (Evl.Ex.new np)).trans e')⟩⟩
/-- repr([a.f, b.f]) == repr([.., ..]) -/
theorem ev_reps {σ : L2.St} {H : Hp} {ta tb : TE} {d1 d2 : PyData} (ha : EvD K ta σ H (.list [d1, d2])) (hb : EvD K tb σ H (.list [d1, d2])) (h1 : short d1 = true) (h2 : short d2 = true) (n1 : nodes d1 ≤ 100) (n2 : nodes d2 ≤ 100)
    (p1 : d1.depth ≤ 5) (p2 : d2.depth ≤ 5) : Evl.Ev (tOp rEq (tCB (rRepr K) (tCons ta tNil)) (tCB (rRepr K) (tCons tb tNil))) σ H (.bl true) := by
  have hs : short (.list [d1, d2]) = true := by simp only [short, shortAll, h1, h2, Bool.and_self]
  have hn : nodes (.list [d1, d2]) ≤ 8000 := by simp only [nodes, nodesAll]; omega
  have hp : (PyData.list [d1, d2]).depth ≤ 60 := by simp only [PyData.depth, PyData.depthAll]; omega
  exact ev_eqS (ev_repr ha hs hn hp) (ev_repr hb hs hn hp)
abbrev sIndexed : Stmt := top 22
theorem scIndexed : FnScope ["_law_count", "_law_a", "_law_b", "_law_good"] ["_law_count"] (defScope sIndexed) := ⟨rfl, rfl, rfl, by decide +kernel, rfl, by decide +kernel, by decide +kernel⟩
def spIndexed : Sp := fun vs H Q _ => ∃ n : Int, vs = [.int n] ∧ n.natAbs.log2 < 1920 ∧ ∀ H', Evl.Ex H H' → Q (.bl true) H'
theorem ok_indexed {f f1 : Addr} {fd fd1 : FuncData} {k k0 : Nat} (F : Fun K "_law_indexed" "_law_indexed" sIndexed f fd) (T : T66 K mg C0 C1 C2 C3 C4 C5 C6 C7 C8 C9 C10 C11 C12) (hk : k0 + 1 ≤ k)
    (G__law_right : FG P w K mg base CX0 k f1 fd1 ["_law_seat", "_law_base_here", "_law_made"] (spRight K [C0, C1, C2, C3, C4, C5, C6, C7, C8, C9, C10, C11, C12])) (N__law_right : Nm K mg "_law_right" f1 fd1 ["_law_seat", "_law_base_here", "_law_made"])
    (M_InvalidBook : XM P w K mg base k0 "InvalidBook" C0 "ValueError.__new__" [.type "ValueError", .type "Exception", .type "BaseException", .type "object"] (spX1 C0 "index") 1 ["index"] (fun vs zs => vs ++ zs)) (M_InvalidTimes : XM P w K mg base k0 "InvalidTimes" C1 "ValueError.__new__" [.type "ValueError", .type "Exception", .type "BaseException", .type "object"] (spX1 C1 "index") 1 ["index"] (fun vs zs => vs ++ zs)) (M_InvalidOrder : XM P w K mg base k0 "InvalidOrder" C2 "ValueError.__new__" [.type "ValueError", .type "Exception", .type "BaseException", .type "object"] (spX1 C2 "index") 1 ["index"] (fun vs zs => vs ++ zs)) (M_InvalidOffers : XM P w K mg base k0 "InvalidOffers" C3 "ValueError.__new__" [.type "ValueError", .type "Exception", .type "BaseException", .type "object"] (spX1 C3 "index") 1 ["index"] (fun vs zs => vs ++ zs)) : FG P w K mg base CX0 (k + 1) f fd ["_law_count"] spIndexed := by
  refine fg_def F scIndexed (fun vs H Q E h => ?_) (fun cdv A outer s H vs Q E hr hgd h => ?_)
  · obtain ⟨n, rfl, _⟩ := h
    rfl
  · have sc := scIndexed
    obtain ⟨n, rfl, hn, q⟩ := h
    refine ⟨_, (pss_cons (ps_par (i := 1) (j := 2) rfl sc.nd rfl rfl (by decide) rfl rfl (pa_cons (pe_xm bx_V M_InvalidBook (hr.mono (by omega)) hgd (by rfl) (pa_cons (pv 0) pa_nil)) (pa_cons (pe_xmK bx_V M_InvalidBook (hr.mono (by omega)) hgd (by rfl) (pk_cons pe_non pk_nil)) pa_nil)) (by rfl))
      (pss_cons (ps_set (i := 3) sc.nd rfl (.inl rfl) (pe_and (ge_call G__law_right (hr.mono (by omega)) hgd (by rfl) N__law_right.g N__law_right.k N__law_right.b .nil pass0 (pa_cons pe_int (pa_cons pe_int (pa_cons (pe_lst (pa_cons (pv 1) (pa_cons (pv 2) pa_nil))) pa_nil)))) (pe_one (pe_cmpR op_eq (pe_callB (call_repr T.sys hgd hr.units) (by rfl) T.g_repr (by decide +kernel) (pa_cons (pe_lst (pa_cons (pe_xfld (pv 1)) (pa_cons (pe_xfld (pv 2)) pa_nil))) pa_nil)) (pe_callB (call_repr T.sys hgd hr.units) (by rfl) T.g_repr (by decide +kernel) (pa_cons (pe_lst (pa_cons (pv 0) (pa_cons pe_non pa_nil))) pa_nil)) (nomark _)))))
      (pss_cons (ps_par (i := 1) (j := 2) rfl sc.nd rfl rfl (by decide) rfl rfl (pa_cons (pe_xm bx_V M_InvalidTimes (hr.mono (by omega)) hgd (by rfl) (pa_cons (pv 0) pa_nil)) (pa_cons (pe_xmK bx_V M_InvalidTimes (hr.mono (by omega)) hgd (by rfl) (pk_cons pe_non pk_nil)) pa_nil)) (by rfl))
      (pss_cons (ps_set (i := 3) sc.nd rfl (.inl rfl) (pe_and (pv 3) (pe_and (ge_call G__law_right (hr.mono (by omega)) hgd (by rfl) N__law_right.g N__law_right.k N__law_right.b .nil pass0 (pa_cons pe_int (pa_cons pe_int (pa_cons (pe_lst (pa_cons (pv 1) (pa_cons (pv 2) pa_nil))) pa_nil)))) (pe_one (pe_cmpR op_eq (pe_callB (call_repr T.sys hgd hr.units) (by rfl) T.g_repr (by decide +kernel) (pa_cons (pe_lst (pa_cons (pe_xfld (pv 1)) (pa_cons (pe_xfld (pv 2)) pa_nil))) pa_nil)) (pe_callB (call_repr T.sys hgd hr.units) (by rfl) T.g_repr (by decide +kernel) (pa_cons (pe_lst (pa_cons (pv 0) (pa_cons pe_non pa_nil))) pa_nil)) (nomark _))))))
      (pss_cons (ps_par (i := 1) (j := 2) rfl sc.nd rfl rfl (by decide) rfl rfl (pa_cons (pe_xm bx_V M_InvalidOrder (hr.mono (by omega)) hgd (by rfl) (pa_cons (pv 0) pa_nil)) (pa_cons (pe_xmK bx_V M_InvalidOrder (hr.mono (by omega)) hgd (by rfl) (pk_cons pe_non pk_nil)) pa_nil)) (by rfl))
      (pss_cons (ps_set (i := 3) sc.nd rfl (.inl rfl) (pe_and (pv 3) (pe_and (ge_call G__law_right (hr.mono (by omega)) hgd (by rfl) N__law_right.g N__law_right.k N__law_right.b .nil pass0 (pa_cons pe_int (pa_cons pe_int (pa_cons (pe_lst (pa_cons (pv 1) (pa_cons (pv 2) pa_nil))) pa_nil)))) (pe_one (pe_cmpR op_eq (pe_callB (call_repr T.sys hgd hr.units) (by rfl) T.g_repr (by decide +kernel) (pa_cons (pe_lst (pa_cons (pe_xfld (pv 1)) (pa_cons (pe_xfld (pv 2)) pa_nil))) pa_nil)) (pe_callB (call_repr T.sys hgd hr.units) (by rfl) T.g_repr (by decide +kernel) (pa_cons (pe_lst (pa_cons (pv 0) (pa_cons pe_non pa_nil))) pa_nil)) (nomark _))))))
      (pss_cons (ps_par (i := 1) (j := 2) rfl sc.nd rfl rfl (by decide) rfl rfl (pa_cons (pe_xm bx_V M_InvalidOffers (hr.mono (by omega)) hgd (by rfl) (pa_cons (pv 0) pa_nil)) (pa_cons (pe_xmK bx_V M_InvalidOffers (hr.mono (by omega)) hgd (by rfl) (pk_cons pe_non pk_nil)) pa_nil)) (by rfl))
      (pss_one (ps_ret (pe_and (pv 3) (pe_and (ge_call G__law_right (hr.mono (by omega)) hgd (by rfl) N__law_right.g N__law_right.k N__law_right.b .nil pass0 (pa_cons pe_int (pa_cons pe_int (pa_cons (pe_lst (pa_cons (pv 1) (pa_cons (pv 2) pa_nil))) pa_nil)))) (pe_one (pe_cmpR op_eq (pe_callB (call_repr T.sys hgd hr.units) (by rfl) T.g_repr (by decide +kernel) (pa_cons (pe_lst (pa_cons (pe_xfld (pv 1)) (pa_cons (pe_xfld (pv 2)) pa_nil))) pa_nil)) (pe_callB (call_repr T.sys hgd hr.units) (by rfl) T.g_repr (by decide +kernel) (pa_cons (pe_lst (pa_cons (pv 0) (pa_cons pe_non pa_nil))) pa_nil)) (nomark _)))))))))))))), ?_⟩
    have hsn : short (.int n) = true := by simp only [short]; exact decide_eq_true hn
    have reps : ∀ {σ : L2.St} {H : Hp} (a b C : Addr) (f : Str) (s1 s2 : Nat), XK1 K C → PySem.W.findIn K (.ref C) f = some none → ErrD K H a C f (.int n) → ErrD K H b C f .none → σ[0]? = some (some (.int n)) → σ[s1]? = some (some (.ref a)) → σ[s2]? = some (some (.ref b)) →
        Evl.Ev (tOp rEq (tCB (rRepr K) (tCons (tLst (tCons (tXfld K f (tVar s1)) (tCons (tXfld K f (tVar s2)) tNil))) tNil)) (tCB (rRepr K) (tCons (tLst (tCons (tVar 0) (tCons (tC .non) tNil))) tNil))) σ H (.bl true) := fun a b C f s1 s2 k1 hno ea eb h0 h1 h2 =>
      ev_reps (evd_lst (eda_cons (evd_xfld (Evl.ev_var h1) k1 hno ea) (eda_cons (evd_xfld (Evl.ev_var h2) k1 hno eb) eda_nil)) (by simp)) (evd_lst (eda_cons (evd_var h0 (.int n)) (eda_cons evd_non eda_nil)) (by simp)) hsn rfl (by simp [nodes]) (by simp [nodes]) (by simp [PyData.depth]) (by simp [PyData.depth])
    refine q_parE (P1 := fun a H' => ErrD K H' a C0 "index" (.int n)) (P2 := fun a H' => ErrD K H' a C0 "index" .none) (fun _ _ _ x h => ErrD.ex x h) (eve_p (evd_var rfl (.int n))) (eve_k evd_non) fun a0 b0 H1 e1 x0 y0 => ?_
    refine q_setV (v := .bl true) (ev_andT (ev_right2 T.kit0 (by decide) x0.at_ y0.at_ rfl rfl) (reps a0 b0 C0 "index" _ _ (T.x_InvalidBook.k1 bx_V) T.no_InvalidBook_index x0 y0 rfl rfl rfl)) fun H2 e2 => ?_
    refine q_parE (P1 := fun a H' => ErrD K H' a C1 "index" (.int n)) (P2 := fun a H' => ErrD K H' a C1 "index" .none) (fun _ _ _ x h => ErrD.ex x h) (eve_p (evd_var rfl (.int n))) (eve_k evd_non) fun a1 b1 H3 e3 x1 y1 => ?_
    refine q_setV (v := .bl true) (ev_andT (Evl.ev_var rfl) (ev_andT (ev_right2 T.kit1 (by decide) x1.at_ y1.at_ rfl rfl) (reps a1 b1 C1 "index" _ _ (T.x_InvalidTimes.k1 bx_V) T.no_InvalidTimes_index x1 y1 rfl rfl rfl))) fun H4 e4 => ?_
    refine q_parE (P1 := fun a H' => ErrD K H' a C2 "index" (.int n)) (P2 := fun a H' => ErrD K H' a C2 "index" .none) (fun _ _ _ x h => ErrD.ex x h) (eve_p (evd_var rfl (.int n))) (eve_k evd_non) fun a2 b2 H5 e5 x2 y2 => ?_
    refine q_setV (v := .bl true) (ev_andT (Evl.ev_var rfl) (ev_andT (ev_right2 T.kit2 (by decide) x2.at_ y2.at_ rfl rfl) (reps a2 b2 C2 "index" _ _ (T.x_InvalidOrder.k1 bx_V) T.no_InvalidOrder_index x2 y2 rfl rfl rfl))) fun H6 e6 => ?_
    refine q_parE (P1 := fun a H' => ErrD K H' a C3 "index" (.int n)) (P2 := fun a H' => ErrD K H' a C3 "index" .none) (fun _ _ _ x h => ErrD.ex x h) (eve_p (evd_var rfl (.int n))) (eve_k evd_non) fun a3 b3 H7 e7 x3 y3 => ?_
    exact Evl.s_ret (v := .bl true) (ev_andT (Evl.ev_var rfl) (ev_andT (ev_right2 T.kit3 (by decide) x3.at_ y3.at_ rfl rfl) (reps a3 b3 C3 "index" _ _ (T.x_InvalidOffers.k1 bx_V) T.no_InvalidOffers_index x3 y3 rfl rfl rfl))) fun H8 e8 => q H8 (e1.trans (e2.trans (e3.trans (e4.trans (e5.trans (e6.trans (e7.trans e8)))))))
abbrev sOthers : Stmt := top 23
theorem scOthers : FnScope ["_law_count", "_law_thing", "_law_a", "_law_b", "_law_good"] ["_law_count", "_law_thing"] (defScope sOthers) := ⟨rfl, rfl, rfl, by decide +kernel, rfl, by decide +kernel, by decide +kernel⟩
/-- a small datum -/
def Mini (d : PyData) : Prop := short d = true ∧ nodes d ≤ 100 ∧ d.depth ≤ 5
def spOthers (K : PySem.W.Frag) : Sp := fun vs H Q _ => ∃ (n : Int) (v : V) (d : PyData), vs = [.int n, v] ∧ n.natAbs.log2 < 1920 ∧ Dw K H v d ∧ Mini d ∧ ∀ H', Evl.Ex H H' → Q (.bl true) H'
theorem ok_others {f f1 : Addr} {fd fd1 : FuncData} {k k0 : Nat} (F : Fun K "_law_others" "_law_others" sOthers f fd) (T : T66 K mg C0 C1 C2 C3 C4 C5 C6 C7 C8 C9 C10 C11 C12) (hk : k0 + 1 ≤ k)
    (G__law_right : FG P w K mg base CX0 k f1 fd1 ["_law_seat", "_law_base_here", "_law_made"] (spRight K [C0, C1, C2, C3, C4, C5, C6, C7, C8, C9, C10, C11, C12])) (N__law_right : Nm K mg "_law_right" f1 fd1 ["_law_seat", "_law_base_here", "_law_made"])
    (M_ParseError : XM P w K mg base k0 "ParseError" C5 "ValueError.__new__" [.type "ValueError", .type "Exception", .type "BaseException", .type "object"] (spX1 C5 "line") 1 ["line"] (fun vs zs => vs ++ zs)) (M_UnknownWord : XM P w K mg base k0 "UnknownWord" C6 "LookupError.__new__" [.type "LookupError", .type "Exception", .type "BaseException", .type "object"] (spX1 C6 "value") 1 ["value"] (fun vs zs => vs ++ zs)) (M_NoTimes : XM P w K mg base k0 "NoTimes" C7 "RuntimeError.__new__" [.type "RuntimeError", .type "Exception", .type "BaseException", .type "object"] (spX1 C7 "ring") 1 ["ring"] (fun vs zs => vs ++ zs)) (M_CannotRun : XM P w K mg base k0 "CannotRun" C8 "RuntimeError.__new__" [.type "RuntimeError", .type "Exception", .type "BaseException", .type "object"] (spX1 C8 "job") 1 ["job"] (fun vs zs => vs ++ zs)) (M_CannotWithdraw : XM P w K mg base k0 "CannotWithdraw" C12 "RuntimeError.__new__" [.type "RuntimeError", .type "Exception", .type "BaseException", .type "object"] (spX1 C12 "number") 1 ["number"] (fun vs zs => vs ++ zs)) (M_TooMany : XM P w K mg base k0 "TooMany" C9 "RuntimeError.__new__" [.type "RuntimeError", .type "Exception", .type "BaseException", .type "object"] (spX1 C9 "number") 1 ["number"] (fun vs zs => vs ++ zs)) (M_Refused : XM P w K mg base k0 "Refused" C10 "RuntimeError.__new__" [.type "RuntimeError", .type "Exception", .type "BaseException", .type "object"] (spX2 C10 "index" "reason") 2 ["reason", "index"] (fun vs zs => vs ++ zs.reverse)) : FG P w K mg base CX0 (k + 1) f fd ["_law_count", "_law_thing"] (spOthers K) := by
  refine fg_def F scOthers (fun vs H Q E h => ?_) (fun cdv A outer s H vs Q E hr hgd h => ?_)
  · obtain ⟨n, v, d, rfl, _⟩ := h
    rfl
  · have sc := scOthers
    obtain ⟨n, v, d, rfl, hn, hd, md, q⟩ := h
    refine ⟨_, (pss_cons (ps_par (i := 2) (j := 3) rfl sc.nd rfl rfl (by decide) rfl rfl (pa_cons (pe_xm bx_V M_ParseError (hr.mono (by omega)) hgd (by rfl) (pa_cons (pv 0) pa_nil)) (pa_cons (pe_xmK bx_V M_ParseError (hr.mono (by omega)) hgd (by rfl) (pk_cons (pv 0) pk_nil)) pa_nil)) (by rfl))
      (pss_cons (ps_set (i := 4) sc.nd rfl (.inl rfl) (pe_and (ge_call G__law_right (hr.mono (by omega)) hgd (by rfl) N__law_right.g N__law_right.k N__law_right.b .nil pass0 (pa_cons pe_int (pa_cons pe_int (pa_cons (pe_lst (pa_cons (pv 2) (pa_cons (pv 3) pa_nil))) pa_nil)))) (pe_one (pe_cmpR op_eq (pe_callB (call_repr T.sys hgd hr.units) (by rfl) T.g_repr (by decide +kernel) (pa_cons (pe_lst (pa_cons (pe_xfld (pv 2)) (pa_cons (pe_xfld (pv 3)) pa_nil))) pa_nil)) (pe_callB (call_repr T.sys hgd hr.units) (by rfl) T.g_repr (by decide +kernel) (pa_cons (pe_lst (pa_cons (pv 0) (pa_cons (pv 0) pa_nil))) pa_nil)) (nomark _)))))
      (pss_cons (ps_par (i := 2) (j := 3) rfl sc.nd rfl rfl (by decide) rfl rfl (pa_cons (pe_xm bx_L M_UnknownWord (hr.mono (by omega)) hgd (by rfl) (pa_cons (pv 1) pa_nil)) (pa_cons (pe_xmK bx_L M_UnknownWord (hr.mono (by omega)) hgd (by rfl) (pk_cons (pv 1) pk_nil)) pa_nil)) (by rfl))
      (pss_cons (ps_set (i := 4) sc.nd rfl (.inl rfl) (pe_and (pv 4) (pe_and (ge_call G__law_right (hr.mono (by omega)) hgd (by rfl) N__law_right.g N__law_right.k N__law_right.b .nil pass0 (pa_cons pe_int (pa_cons pe_int (pa_cons (pe_lst (pa_cons (pv 2) (pa_cons (pv 3) pa_nil))) pa_nil)))) (pe_one (pe_cmpR op_eq (pe_callB (call_repr T.sys hgd hr.units) (by rfl) T.g_repr (by decide +kernel) (pa_cons (pe_lst (pa_cons (pe_xfld (pv 2)) (pa_cons (pe_xfld (pv 3)) pa_nil))) pa_nil)) (pe_callB (call_repr T.sys hgd hr.units) (by rfl) T.g_repr (by decide +kernel) (pa_cons (pe_lst (pa_cons (pv 1) (pa_cons (pv 1) pa_nil))) pa_nil)) (nomark _))))))
      (pss_cons (ps_par (i := 2) (j := 3) rfl sc.nd rfl rfl (by decide) rfl rfl (pa_cons (pe_xm bx_R M_NoTimes (hr.mono (by omega)) hgd (by rfl) (pa_cons (pe_tup (pa_cons pe_int (pa_cons (pv 0) pa_nil))) pa_nil)) (pa_cons (pe_xmK bx_R M_NoTimes (hr.mono (by omega)) hgd (by rfl) (pk_cons (pe_tup pa_nil) pk_nil)) pa_nil)) (by rfl))
      (pss_cons (ps_set (i := 4) sc.nd rfl (.inl rfl) (pe_and (pv 4) (pe_and (ge_call G__law_right (hr.mono (by omega)) hgd (by rfl) N__law_right.g N__law_right.k N__law_right.b .nil pass0 (pa_cons pe_int (pa_cons pe_int (pa_cons (pe_lst (pa_cons (pv 2) (pa_cons (pv 3) pa_nil))) pa_nil)))) (pe_one (pe_cmpR op_eq (pe_callB (call_repr T.sys hgd hr.units) (by rfl) T.g_repr (by decide +kernel) (pa_cons (pe_lst (pa_cons (pe_xfld (pv 2)) (pa_cons (pe_xfld (pv 3)) pa_nil))) pa_nil)) (pe_callB (call_repr T.sys hgd hr.units) (by rfl) T.g_repr (by decide +kernel) (pa_cons (pe_lst (pa_cons (pe_tup (pa_cons pe_int (pa_cons (pv 0) pa_nil))) (pa_cons (pe_tup pa_nil) pa_nil))) pa_nil)) (nomark _))))))
      (pss_cons (ps_par (i := 2) (j := 3) rfl sc.nd rfl rfl (by decide) rfl rfl (pa_cons (pe_xm bx_R M_CannotRun (hr.mono (by omega)) hgd (by rfl) (pa_cons (pv 1) pa_nil)) (pa_cons (pe_xmK bx_R M_CannotRun (hr.mono (by omega)) hgd (by rfl) (pk_cons (pv 0) pk_nil)) pa_nil)) (by rfl))
      (pss_cons (ps_set (i := 4) sc.nd rfl (.inl rfl) (pe_and (pv 4) (pe_and (ge_call G__law_right (hr.mono (by omega)) hgd (by rfl) N__law_right.g N__law_right.k N__law_right.b .nil pass0 (pa_cons pe_int (pa_cons pe_int (pa_cons (pe_lst (pa_cons (pv 2) (pa_cons (pv 3) pa_nil))) pa_nil)))) (pe_one (pe_cmpR op_eq (pe_callB (call_repr T.sys hgd hr.units) (by rfl) T.g_repr (by decide +kernel) (pa_cons (pe_lst (pa_cons (pe_xfld (pv 2)) (pa_cons (pe_xfld (pv 3)) pa_nil))) pa_nil)) (pe_callB (call_repr T.sys hgd hr.units) (by rfl) T.g_repr (by decide +kernel) (pa_cons (pe_lst (pa_cons (pv 1) (pa_cons (pv 0) pa_nil))) pa_nil)) (nomark _))))))
      (pss_cons (ps_par (i := 2) (j := 3) rfl sc.nd rfl rfl (by decide) rfl rfl (pa_cons (pe_xm bx_R M_CannotWithdraw (hr.mono (by omega)) hgd (by rfl) (pa_cons (pv 1) pa_nil)) (pa_cons (pe_xmK bx_R M_CannotWithdraw (hr.mono (by omega)) hgd (by rfl) (pk_cons (pv 0) pk_nil)) pa_nil)) (by rfl))
      (pss_cons (ps_set (i := 4) sc.nd rfl (.inl rfl) (pe_and (pv 4) (pe_and (ge_call G__law_right (hr.mono (by omega)) hgd (by rfl) N__law_right.g N__law_right.k N__law_right.b .nil pass0 (pa_cons pe_int (pa_cons pe_int (pa_cons (pe_lst (pa_cons (pv 2) (pa_cons (pv 3) pa_nil))) pa_nil)))) (pe_one (pe_cmpR op_eq (pe_callB (call_repr T.sys hgd hr.units) (by rfl) T.g_repr (by decide +kernel) (pa_cons (pe_lst (pa_cons (pe_xfld (pv 2)) (pa_cons (pe_xfld (pv 3)) pa_nil))) pa_nil)) (pe_callB (call_repr T.sys hgd hr.units) (by rfl) T.g_repr (by decide +kernel) (pa_cons (pe_lst (pa_cons (pv 1) (pa_cons (pv 0) pa_nil))) pa_nil)) (nomark _))))))
      (pss_cons (ps_par (i := 2) (j := 3) rfl sc.nd rfl rfl (by decide) rfl rfl (pa_cons (pe_xm bx_R M_TooMany (hr.mono (by omega)) hgd (by rfl) (pa_cons (pv 0) pa_nil)) (pa_cons (pe_xmK bx_R M_TooMany (hr.mono (by omega)) hgd (by rfl) (pk_cons pe_int pk_nil)) pa_nil)) (by rfl))
      (pss_cons (ps_set (i := 4) sc.nd rfl (.inl rfl) (pe_and (pv 4) (pe_and (ge_call G__law_right (hr.mono (by omega)) hgd (by rfl) N__law_right.g N__law_right.k N__law_right.b .nil pass0 (pa_cons pe_int (pa_cons pe_int (pa_cons (pe_lst (pa_cons (pv 2) (pa_cons (pv 3) pa_nil))) pa_nil)))) (pe_one (pe_cmpR op_eq (pe_callB (call_repr T.sys hgd hr.units) (by rfl) T.g_repr (by decide +kernel) (pa_cons (pe_lst (pa_cons (pe_xfld (pv 2)) (pa_cons (pe_xfld (pv 3)) pa_nil))) pa_nil)) (pe_callB (call_repr T.sys hgd hr.units) (by rfl) T.g_repr (by decide +kernel) (pa_cons (pe_lst (pa_cons (pv 0) (pa_cons pe_int pa_nil))) pa_nil)) (nomark _))))))
      (pss_cons (ps_par (i := 2) (j := 3) rfl sc.nd rfl rfl (by decide) rfl rfl (pa_cons (pe_xm bx_R M_Refused (hr.mono (by omega)) hgd (by rfl) (pa_cons (pv 0) (pa_cons pe_str pa_nil))) (pa_cons (pe_xmK bx_R M_Refused (hr.mono (by omega)) hgd (by rfl) (pk_cons pe_non (pk_cons (pe_un un_neg pe_int) pk_nil))) pa_nil)) (by rfl))
      (pss_cons (ps_set (i := 4) sc.nd rfl (.inl rfl) (pe_and (pv 4) (pe_and (ge_call G__law_right (hr.mono (by omega)) hgd (by rfl) N__law_right.g N__law_right.k N__law_right.b .nil pass0 (pa_cons pe_int (pa_cons pe_int (pa_cons (pe_lst (pa_cons (pv 2) (pa_cons (pv 3) pa_nil))) pa_nil)))) (pe_one (pe_cmpR op_eq (pe_callB (call_repr T.sys hgd hr.units) (by rfl) T.g_repr (by decide +kernel) (pa_cons (pe_lst (pa_cons (pe_xfld (pv 2)) (pa_cons (pe_xfld (pv 3)) pa_nil))) pa_nil)) (pe_callB (call_repr T.sys hgd hr.units) (by rfl) T.g_repr (by decide +kernel) (pa_cons (pe_lst (pa_cons (pv 0) (pa_cons (pe_un un_neg pe_int) pa_nil))) pa_nil)) (nomark _))))))
      (pss_one (ps_ret (pe_and (pv 4) (pe_one (pe_cmpR op_eq (pe_callB (call_repr T.sys hgd hr.units) (by rfl) T.g_repr (by decide +kernel) (pa_cons (pe_lst (pa_cons (pe_xfld (pv 2)) (pa_cons (pe_xfld (pv 3)) pa_nil))) pa_nil)) (pe_callB (call_repr T.sys hgd hr.units) (by rfl) T.g_repr (by decide +kernel) (pa_cons (pe_lst (pa_cons pe_str (pa_cons pe_non pa_nil))) pa_nil)) (nomark _)))))))))))))))))))), ?_⟩
    have hsn : short (.int n) = true := by simp only [short]; exact decide_eq_true hn
    have mn : Mini (.int n) := ⟨hsn, by simp [nodes], by simp [PyData.depth]⟩
    have mt : Mini (.tuple [.int 0, .int n]) := ⟨by simp only [short, shortAll]; rw [decide_eq_true hn]; decide, by simp [nodes, nodesAll], by simp [PyData.depth, PyData.depthAll]⟩
    have mu : Mini (.tuple []) := ⟨by decide +kernel, by decide +kernel, by decide +kernel⟩
    have m5 : Mini (.int 5) := ⟨by decide +kernel, by decide +kernel, by decide +kernel⟩
    have mm : Mini (.int (-1)) := ⟨by decide +kernel, by decide +kernel, by decide +kernel⟩
    have ms : Mini (.str "NoTimes") := ⟨by decide +kernel, by decide +kernel, by decide +kernel⟩
    have mN : Mini .none := ⟨by decide +kernel, by decide +kernel, by decide +kernel⟩
    have nir : ("index" : Str) ≠ "reason" := by decide +kernel
    have reps : ∀ {σ : L2.St} {H : Hp} {a b C : Addr} {f : Str} {s1 s2 : Nat} {d1 d2 : PyData} {tr : TA}, XK1 K C → PySem.W.findIn K (.ref C) f = some none → ErrD K H a C f d1 → ErrD K H b C f d2 → σ[s1]? = some (some (.ref a)) → σ[s2]? = some (some (.ref b)) → EvDA K tr σ H [d1, d2] → Mini d1 → Mini d2 →
        Evl.Ev (tOp rEq (tCB (rRepr K) (tCons (tLst (tCons (tXfld K f (tVar s1)) (tCons (tXfld K f (tVar s2)) tNil))) tNil)) (tCB (rRepr K) (tCons (tLst tr) tNil))) σ H (.bl true) := fun k1 hno ea eb h1 h2 hr m1 m2 =>
      ev_reps (evd_lst (eda_cons (evd_xfld (Evl.ev_var h1) k1 hno ea) (eda_cons (evd_xfld (Evl.ev_var h2) k1 hno eb) eda_nil)) (by simp)) (evd_lst hr (by simp)) m1.1 m2.1 m1.2.1 m2.2.1 m1.2.2 m2.2.2
    refine q_parE2 (σ' := fun a b => [some (.int n), some v, some (.ref a), some (.ref b), none]) (P1 := fun a H' => ErrD K H' a C5 "line" (.int n)) (P2 := fun a H' => ErrD K H' a C5 "line" (.int n)) (fun _ _ _ x h => ErrD.ex x h) (eve_p (evd_var rfl (.int n))) (eve_k (evd_var rfl (.int n))) (fun _ _ => rfl) fun a0 b0 H1 e1 x0 y0 => ?_
    have E1 : Evl.Ex H H1 := e1
    refine q_setV2 (v := .bl true) [some (.int n), some v, some (.ref a0), some (.ref b0), some (.bl true)] (ev_andT (ev_right2 T.kit5 (by decide) x0.at_ y0.at_ rfl rfl) (reps (T.x_ParseError.k1 bx_V) T.no_ParseError_line x0 y0 rfl rfl (eda_cons (evd_var rfl (.int n)) (eda_cons (evd_var rfl (.int n)) eda_nil)) mn mn)) rfl fun H2 e2 => ?_
    have E2 : Evl.Ex H H2 := E1.trans e2
    refine q_parE2 (σ' := fun a b => [some (.int n), some v, some (.ref a), some (.ref b), some (.bl true)]) (P1 := fun a H' => ErrD K H' a C6 "value" d) (P2 := fun a H' => ErrD K H' a C6 "value" d) (fun _ _ _ x h => ErrD.ex x h) (eve_p (evd_var rfl (Dw.ex E2 d v hd))) (eve_k (evd_var rfl (Dw.ex E2 d v hd))) (fun _ _ => rfl) fun a1 b1 H3 e3 x1 y1 => ?_
    have E3 : Evl.Ex H H3 := E2.trans e3
    refine q_setV2 (v := .bl true) [some (.int n), some v, some (.ref a1), some (.ref b1), some (.bl true)] (ev_andT (Evl.ev_var rfl) (ev_andT (ev_right2 T.kit6 (by decide) x1.at_ y1.at_ rfl rfl) (reps (T.x_UnknownWord.k1 bx_L) T.no_UnknownWord_value x1 y1 rfl rfl (eda_cons (evd_var rfl (Dw.ex E3 d v hd)) (eda_cons (evd_var rfl (Dw.ex E3 d v hd)) eda_nil)) md md))) rfl fun H4 e4 => ?_
    have E4 : Evl.Ex H H4 := E3.trans e4
    refine q_parE2 (σ' := fun a b => [some (.int n), some v, some (.ref a), some (.ref b), some (.bl true)]) (P1 := fun a H' => ErrD K H' a C7 "ring" (.tuple [.int 0, .int n])) (P2 := fun a H' => ErrD K H' a C7 "ring" (.tuple [])) (fun _ _ _ x h => ErrD.ex x h) (eve_p (evd_tup (eda_cons evd_int (eda_cons (evd_var rfl (.int n)) eda_nil)) (by simp))) (eve_k (evd_tup eda_nil (by simp))) (fun _ _ => rfl) fun a2 b2 H5 e5 x2 y2 => ?_
    have E5 : Evl.Ex H H5 := E4.trans e5
    refine q_setV2 (v := .bl true) [some (.int n), some v, some (.ref a2), some (.ref b2), some (.bl true)] (ev_andT (Evl.ev_var rfl) (ev_andT (ev_right2 T.kit7 (by decide) x2.at_ y2.at_ rfl rfl) (reps (T.x_NoTimes.k1 bx_R) T.no_NoTimes_ring x2 y2 rfl rfl (eda_cons (evd_tup (eda_cons evd_int (eda_cons (evd_var rfl (.int n)) eda_nil)) (by simp)) (eda_cons (evd_tup eda_nil (by simp)) eda_nil)) mt mu))) rfl fun H6 e6 => ?_
    have E6 : Evl.Ex H H6 := E5.trans e6
    refine q_parE2 (σ' := fun a b => [some (.int n), some v, some (.ref a), some (.ref b), some (.bl true)]) (P1 := fun a H' => ErrD K H' a C8 "job" d) (P2 := fun a H' => ErrD K H' a C8 "job" (.int n)) (fun _ _ _ x h => ErrD.ex x h) (eve_p (evd_var rfl (Dw.ex E6 d v hd))) (eve_k (evd_var rfl (.int n))) (fun _ _ => rfl) fun a3 b3 H7 e7 x3 y3 => ?_
    have E7 : Evl.Ex H H7 := E6.trans e7
    refine q_setV2 (v := .bl true) [some (.int n), some v, some (.ref a3), some (.ref b3), some (.bl true)] (ev_andT (Evl.ev_var rfl) (ev_andT (ev_right2 T.kit8 (by decide) x3.at_ y3.at_ rfl rfl) (reps (T.x_CannotRun.k1 bx_R) T.no_CannotRun_job x3 y3 rfl rfl (eda_cons (evd_var rfl (Dw.ex E7 d v hd)) (eda_cons (evd_var rfl (.int n)) eda_nil)) md mn))) rfl fun H8 e8 => ?_
    have E8 : Evl.Ex H H8 := E7.trans e8
    refine q_parE2 (σ' := fun a b => [some (.int n), some v, some (.ref a), some (.ref b), some (.bl true)]) (P1 := fun a H' => ErrD K H' a C12 "number" d) (P2 := fun a H' => ErrD K H' a C12 "number" (.int n)) (fun _ _ _ x h => ErrD.ex x h) (eve_p (evd_var rfl (Dw.ex E8 d v hd))) (eve_k (evd_var rfl (.int n))) (fun _ _ => rfl) fun a4 b4 H9 e9 x4 y4 => ?_
    have E9 : Evl.Ex H H9 := E8.trans e9
    refine q_setV2 (v := .bl true) [some (.int n), some v, some (.ref a4), some (.ref b4), some (.bl true)] (ev_andT (Evl.ev_var rfl) (ev_andT (ev_right2 T.kit12 (by decide) x4.at_ y4.at_ rfl rfl) (reps (T.x_CannotWithdraw.k1 bx_R) T.no_CannotWithdraw_number x4 y4 rfl rfl (eda_cons (evd_var rfl (Dw.ex E9 d v hd)) (eda_cons (evd_var rfl (.int n)) eda_nil)) md mn))) rfl fun H10 e10 => ?_
    have E10 : Evl.Ex H H10 := E9.trans e10
    refine q_parE2 (σ' := fun a b => [some (.int n), some v, some (.ref a), some (.ref b), some (.bl true)]) (P1 := fun a H' => ErrD K H' a C9 "number" (.int n)) (P2 := fun a H' => ErrD K H' a C9 "number" (.int 5)) (fun _ _ _ x h => ErrD.ex x h) (eve_p (evd_var rfl (.int n))) (eve_k evd_int) (fun _ _ => rfl) fun a5 b5 H11 e11 x5 y5 => ?_
    have E11 : Evl.Ex H H11 := E10.trans e11
    refine q_setV2 (v := .bl true) [some (.int n), some v, some (.ref a5), some (.ref b5), some (.bl true)] (ev_andT (Evl.ev_var rfl) (ev_andT (ev_right2 T.kit9 (by decide) x5.at_ y5.at_ rfl rfl) (reps (T.x_TooMany.k1 bx_R) T.no_TooMany_number x5 y5 rfl rfl (eda_cons (evd_var rfl (.int n)) (eda_cons evd_int eda_nil)) mn m5))) rfl fun H12 e12 => ?_
    have E12 : Evl.Ex H H12 := E11.trans e12
    refine q_parE2 (σ' := fun a b => [some (.int n), some v, some (.ref a), some (.ref b), some (.bl true)]) (P1 := fun a H' => ErrD2 K H' a C10 "index" "reason" (.int n) (.str "NoTimes")) (P2 := fun a H' => ErrD2 K H' a C10 "index" "reason" (.int (-1)) .none) (fun _ _ _ x h => ErrD2.ex x h) (eve_pp (evd_var rfl (.int n)) evd_str) (eve_kk evd_non (evd_of (Evl.ev_un Evl.ev_c Evl.ru_neg) (.int (-1)))) (fun _ _ => rfl) fun a6 b6 H13 e13 x6 y6 => ?_
    have E13 : Evl.Ex H H13 := E12.trans e13
    refine q_setV2 (v := .bl true) [some (.int n), some v, some (.ref a6), some (.ref b6), some (.bl true)] (ev_andT (Evl.ev_var rfl) (ev_andT (ev_right2 T.kit10 (by decide) x6.at_ y6.at_ rfl rfl) (ev_reps (evd_lst (eda_cons (evd_xfld1 (Evl.ev_var rfl) (T.x_Refused.k1 bx_R) T.no_Refused_index nir x6) (eda_cons (evd_xfld1 (Evl.ev_var rfl) (T.x_Refused.k1 bx_R) T.no_Refused_index nir y6) eda_nil)) (by simp)) (evd_lst (eda_cons (evd_var rfl (.int n)) (eda_cons (evd_of (Evl.ev_un Evl.ev_c Evl.ru_neg) (.int (-1))) eda_nil)) (by simp)) mn.1 mm.1 mn.2.1 mm.2.1 mn.2.2 mm.2.2))) rfl fun H14 e14 => ?_
    have E14 : Evl.Ex H H14 := E13.trans e14
    have x6' := x6.ex e14
    have y6' := y6.ex e14
    exact Evl.s_ret (v := .bl true) (ev_andT (Evl.ev_var rfl) (ev_reps (evd_lst (eda_cons (evd_xfld2 (Evl.ev_var rfl) (T.x_Refused.k1 bx_R) T.no_Refused_reason x6') (eda_cons (evd_xfld2 (Evl.ev_var rfl) (T.x_Refused.k1 bx_R) T.no_Refused_reason y6') eda_nil)) (by simp)) (evd_lst (eda_cons evd_str (eda_cons evd_non eda_nil)) (by simp)) ms.1 mN.1 ms.2.1 mN.2.1 ms.2.2 mN.2.2)) fun H' e' => q H' (E14.trans e')

end
end DL

set_option maxHeartbeats 4000000
namespace DL
open PySem PySem.Spec PyProof.Rows L2

section
variable {P : Program} {w : World} {K : PySem.W.Frag} {mg : Str → Option Value} {base : Heap} {C0 C1 C2 C3 C4 C5 C6 C7 C8 C9 C10 C11 C12 : Addr}
abbrev sPen : Stmt := top 15
theorem scPen : FnScope ["_law_script"] ["_law_script"] (defScope sPen) := ⟨rfl, rfl, rfl, by decide +kernel, rfl, by decide +kernel, by decide +kernel⟩
theorem PenAt.ex {H H' : Hp} {p : Addr} (e : Evl.Ex H H') (h : PenAt H p) : PenAt H' p := by
  obtain ⟨g, ns, seat, left, h1, h2, h3, h4⟩ := h
  exact ⟨g, ns, seat, left, e _ _ h1, e _ _ h2, h3, h4⟩
/-- a new pen of the script -/
def spPen (K : PySem.W.Frag) : Sp := fun vs H Q _ => ∃ (a : Addr) (ns : List Int), vs = [.ref a] ∧ SqL K H a (ns.map V.int) ∧ ns.length ≤ 63 ∧
  ∀ p H', H p = none → Evl.Ex H H' → PenAt H' p → Q (.ref p) H'
theorem ok_pen {f : Addr} {fd : FuncData} {k : Nat} (F : Fun K "_law_pen" "_law_pen" sPen f fd) (T : T66 K mg C0 C1 C2 C3 C4 C5 C6 C7 C8 C9 C10 C11 C12) : FG P w K mg base CX0 (k + 1) f fd ["_law_script"] (spPen K) := by
  refine fg_def F scPen (fun vs H Q E h => ?_) (fun cdv A outer s H vs Q E hr hgd h => ?_)
  · obtain ⟨a, ns, rfl, _⟩ := h
    rfl
  · have sc := scPen
    obtain ⟨a, ns, rfl, hs, hl, q⟩ := h
    refine ⟨_, (pss_one (ps_ret (pe_lst (pa_cons (pe_callTy call_list_of (by rfl) T.g_list (by decide +kernel) (pa_cons (pe_slice sl_list (pv 0) po_none (po_some pe_int)) pa_nil)) (pa_cons pe_int (pa_cons pe_int pa_nil)))))), ?_⟩
    have hcut : cutV (ns.map V.int) none (some 63) = ns.map V.int := by
      unfold cutV
      have e1 : HT.sIx (ns.map V.int).length (ns.map V.int).length (some 63) = min 63 (ns.map V.int).length := HT.sIx_nat _ _ 63
      rw [e1, HT.sIx_none, List.drop_zero]
      exact List.take_of_length_le (by rw [List.length_map]; omega)
    refine ⟨.ref a, rfl, 63, rfl, a, ns.map V.int, rfl, hs, fun o no => ?_⟩
    rw [hcut]
    refine ⟨o, _, rfl, .inl (SqL.of upd_same), fun l nl => ⟨by show 3 ≤ sizeLine; decide, fun p np => ?_⟩⟩
    have x1 : Evl.Ex H (upd H o (.lst (ns.map V.int))) := Evl.Ex.new no
    have x2 : Evl.Ex H (upd (upd H o (.lst (ns.map V.int))) l (.lst (ns.map V.int))) := x1.trans (Evl.Ex.new nl)
    have hpn : H p = none := by
      cases hh : H p with
      | none => rfl
      | some ob => rw [x2 _ _ hh] at np; cases np
    exact q p _ hpn (x2.trans (Evl.Ex.new np)) ⟨l, ns, 0, 0, upd_same, Evl.Ex.new np _ _ upd_same, hl, by omega⟩
abbrev sLaw : Stmt := top 24
theorem scLaw : FnScope ["_law_script", "_law_pen_here", "_law_lap", "_law_count", "_law_thing"] ["_law_script"] (defScope sLaw) := ⟨rfl, rfl, rfl, by decide +kernel, rfl, by decide +kernel, by decide +kernel⟩
def spLaw (K : PySem.W.Frag) : Sp := fun vs H Q _ => ∃ (a : Addr) (ns : List Int), vs = [.ref a] ∧ SqL K H a (ns.map V.int) ∧ ns.length ≤ 63 ∧ ∀ H', Q (.bl true) H'
theorem ok_law {f f1 f2 f3 f4 f5 f6 : Addr} {fd fd1 fd2 fd3 fd4 fd5 fd6 : FuncData} {k k0 : Nat} (F : Fun K "law" "law" sLaw f fd) (T : T66 K mg C0 C1 C2 C3 C4 C5 C6 C7 C8 C9 C10 C11 C12) (hk : k0 + 1 ≤ k)
    (G__law_pen : FG P w K mg base CX0 k f1 fd1 ["_law_script"] (spPen K)) (N__law_pen : Nm K mg "_law_pen" f1 fd1 ["_law_script"])
    (G__law_one_of : FG P w K mg base CX0 k f2 fd2 ["_law_pen_here", "_law_some"] spOneOf) (N__law_one_of : Nm K mg "_law_one_of" f2 fd2 ["_law_pen_here", "_law_some"])
    (G__law_draw : FG P w K mg base CX0 k f3 fd3 ["_law_pen_here", "_law_bound"] spDraw) (N__law_draw : Nm K mg "_law_draw" f3 fd3 ["_law_pen_here", "_law_bound"])
    (G__law_indexed : FG P w K mg base CX0 k f4 fd4 ["_law_count"] spIndexed) (N__law_indexed : Nm K mg "_law_indexed" f4 fd4 ["_law_count"])
    (G__law_others : FG P w K mg base CX0 k f5 fd5 ["_law_count", "_law_thing"] (spOthers K)) (N__law_others : Nm K mg "_law_others" f5 fd5 ["_law_count", "_law_thing"])
    (G__law_right : FG P w K mg base CX0 k f6 fd6 ["_law_seat", "_law_base_here", "_law_made"] (spRight K [C0, C1, C2, C3, C4, C5, C6, C7, C8, C9, C10, C11, C12])) (N__law_right : Nm K mg "_law_right" f6 fd6 ["_law_seat", "_law_base_here", "_law_made"])
    (M_InvalidClaim : XM P w K mg base k0 "InvalidClaim" C4 "ValueError.__new__" [.type "ValueError", .type "Exception", .type "BaseException", .type "object"] (spX0 C4) 0 [] (fun vs _ => vs)) (M_NothingDone : XM P w K mg base k0 "NothingDone" C11 "RuntimeError.__new__" [.type "RuntimeError", .type "Exception", .type "BaseException", .type "object"] (spX0 C11) 0 [] (fun vs _ => vs)) : FG P w K mg base CX0 (k + 1) f fd ["_law_script"] (spLaw K) := by
  refine fg_def F scLaw (fun vs H Q E h => ?_) (fun cdv A outer s H vs Q E hr hgd h => ?_)
  · obtain ⟨a, ns, rfl, _⟩ := h
    rfl
  · have sc := scLaw
    obtain ⟨a, ns, rfl, hs, hl, q⟩ := h
    refine ⟨_, (pss_cons (ps_set (i := 1) sc.nd rfl (.inl rfl) (ge_call G__law_pen (hr.mono (by omega)) hgd (by rfl) N__law_pen.g N__law_pen.k N__law_pen.b .nil pass0 (pa_cons (pv 0) pa_nil)))
      (pss_cons (ps_for PassesOwn.never rfl (pi_range1 (by rfl) T.g_range (pa_cons pe_int pa_nil)) (pg_name (i := 2) sc.nd rfl (.inl rfl)) (pss_cons (ps_set (i := 3) sc.nd rfl (.inl rfl) (ge_call G__law_one_of (hr.mono (by omega)) hgd (by rfl) N__law_one_of.g N__law_one_of.k N__law_one_of.b .nil pass0 (pa_cons (pv 1) (pa_cons (pe_lst (pa_cons pe_int (pa_cons pe_int (pa_cons pe_int (pa_cons (ge_call G__law_draw (hr.mono (by omega)) hgd (by rfl) N__law_draw.g N__law_draw.k N__law_draw.b .nil pass0 (pa_cons (pv 1) (pa_cons (pe_op op_pow pe_int pe_int) pa_nil))) pa_nil))))) pa_nil))))
      (pss_cons (ps_set (i := 4) sc.nd rfl (.inl rfl) (ge_call G__law_one_of (hr.mono (by omega)) hgd (by rfl) N__law_one_of.g N__law_one_of.k N__law_one_of.b .nil pass0 (pa_cons (pv 1) (pa_cons (pe_lst (pa_cons pe_non (pa_cons pe_bl (pa_cons pe_str (pa_cons (pe_tup (pa_cons pe_int (pa_cons pe_int pa_nil))) (pa_cons (pe_lst pa_nil) (pa_cons pe_dnewK (pa_cons (pv 3) (pa_cons (pe_un un_neg pe_int) pa_nil))))))))) pa_nil))))
      (pss_one (ps_if (PW.pt (pw_or (pt_not (pt_val (ge_call G__law_indexed (hr.mono (by omega)) hgd (by rfl) N__law_indexed.g N__law_indexed.k N__law_indexed.b .nil pass0 (pa_cons (pv 3) pa_nil)))) (pw_or1 (pt_not (pt_val (ge_call G__law_others (hr.mono (by omega)) hgd (by rfl) N__law_others.g N__law_others.k N__law_others.b .nil pass0 (pa_cons (pv 3) (pa_cons (pv 4) pa_nil)))))))) (pss_one (ps_ret pe_bl)) pss_nil)))))
      (pss_one (ps_ret (pe_and (ge_call G__law_right (hr.mono (by omega)) hgd (by rfl) N__law_right.g N__law_right.k N__law_right.b .nil pass0 (pa_cons pe_int (pa_cons pe_int (pa_cons (pe_lst (pa_cons (pe_xm0 bx_V M_InvalidClaim (hr.mono (by omega)) hgd (by rfl)) pa_nil)) pa_nil)))) (pe_one (ge_call G__law_right (hr.mono (by omega)) hgd (by rfl) N__law_right.g N__law_right.k N__law_right.b .nil pass0 (pa_cons pe_int (pa_cons pe_int (pa_cons (pe_lst (pa_cons (pe_xm0 bx_R M_NothingDone (hr.mono (by omega)) hgd (by rfl)) pa_nil)) pa_nil)))))))))), ?_⟩
    have hpow : CPow 10 60 := ⟨by decide, by decide, by decide⟩
    refine q_set (fun v H1 => ∃ p, v = .ref p ∧ PenAt H1 p) (fun Q1 q1 => ?_) ?_
    · exact ⟨.ref a, rfl, a, ns, rfl, hs, hl, fun p H1 _ _ hp => q1 _ _ ⟨p, rfl, hp⟩⟩
    rintro _ H1 ⟨p, rfl, hp⟩
    refine q_range (n := 3) (by decide) (fun H' => PenAt H' p) ?_ (fun i σ' H' => PenAt H' p ∧ ∃ (l c t : Option V), σ' = [some (.ref a), some (.ref p), l, c, t]) ?_ ?_ ?_
    · exact fun Q1 q1 => q1 _ hp
    · exact fun H' h => ⟨h, none, none, none, rfl⟩
    · rintro i _ H2 hi ⟨hp2, l, c, t, rfl⟩
      refine q_set (fun v H' => ∃ n : Int, v = .int n ∧ n.natAbs.log2 < 1920 ∧ PenAt H' p) (fun Q1 q1 => ?_) ?_
      · refine ⟨.ref p, rfl, .ref p, rfl, 10, 60, rfl, rfl, hpow, p, _, rfl, hp2, by decide +kernel, by decide +kernel, fun d H3 d0 d1 hp3 e3 => ⟨by show 4 ≤ sizeLine; decide, fun o no => ?_⟩⟩
        have hpo : o ≠ p := by
          obtain ⟨g, ns, seat, left, h1, _⟩ := hp3
          exact (ne_of_none h1 no).symm
        refine ⟨p, o, _, rfl, hp3.ex (Evl.Ex.new no), upd_same, hpo, by simp, by simp, fun j x H4 hx hp4 e4 => ?_⟩
        have hd : d.natAbs.log2 < 1920 := by
          have h2 : d.natAbs ≤ 10 ^ 60 := by
            have : d < 10 ^ 60 := d1
            omega
          by_cases hz : d.natAbs = 0
          · rw [hz]; decide
          · exact (Nat.log2_lt hz).mpr (Nat.lt_of_le_of_lt h2 (by decide +kernel))
        match j, hx with
        | 0, hx => cases hx; exact q1 _ _ ⟨0, rfl, by decide, hp4⟩
        | 1, hx => cases hx; exact q1 _ _ ⟨1, rfl, by decide, hp4⟩
        | 2, hx => cases hx; exact q1 _ _ ⟨17, rfl, by decide, hp4⟩
        | 3, hx => cases hx; exact q1 _ _ ⟨d, rfl, hd, hp4⟩
        | _ + 4, hx => simp at hx
      rintro _ H3 ⟨n, rfl, hn, hp3⟩
      have hsn : short (.int n) = true := by simp only [short]; exact decide_eq_true hn
      have mn : Mini (.int n) := ⟨hsn, by simp [nodes], by simp [PyData.depth]⟩
      refine q_set (fun v H' => ∃ d, Dw K H' v d ∧ Mini d ∧ PenAt H' p) (fun Q1 q1 => ?_) ?_
      · refine ⟨.ref p, rfl, by show 2 ≤ sizeLine; decide, fun t1 n1 => ⟨by show 0 ≤ sizeLine; decide, fun l1 n2 => fun e1 n3 => ⟨.int n, rfl, ?_⟩⟩⟩
        refine ⟨1, rfl, by show 8 ≤ sizeLine; decide, fun o no => ?_⟩
        have E1 := Evl.Ex.new (o := .tup [.int 0, .int 1]) n1
        have E2 := Evl.Ex.new (o := .lst []) n2
        have E3 := Evl.Ex.new (o := .dK []) n3
        have E4 := fun o' => Evl.Ex.new (o := o') no
        have pne : ∀ {H : Hp} {b : Addr}, PenAt H p → H b = none → b ≠ p := fun {H b} h0 hb => by
          obtain ⟨g, ns, seat, left, h1, _⟩ := h0
          exact (ne_of_none h1 hb).symm
        have k1 : PenAt _ p := hp3.ex E1
        have k2 : PenAt _ p := k1.ex E2
        have k3 : PenAt _ p := k2.ex E3
        refine ⟨p, o, _, rfl, k3.ex (E4 _), upd_same, pne k3 no, by simp, by simp, fun j x H4 hx hp4 e4 => ?_⟩
        match j, hx with
        | 0, hx => cases hx; exact q1 _ _ ⟨.none, .non, ⟨by decide +kernel, by decide +kernel, by decide +kernel⟩, hp4⟩
        | 1, hx => cases hx; exact q1 _ _ ⟨.bool true, .bl _, ⟨by decide +kernel, by decide +kernel, by decide +kernel⟩, hp4⟩
        | 2, hx => cases hx; exact q1 _ _ ⟨.str "up", .str _, ⟨by decide +kernel, by decide +kernel, by decide +kernel⟩, hp4⟩
        | 3, hx =>
          cases hx
          have h4 := e4 t1 _ (pne hp3 n1) (E4 _ _ _ (E3 _ _ (E2 _ _ upd_same)))
          exact q1 _ _ ⟨.tuple [.int 0, .int 1], .tup (Evl.st_of h4) (.cons (.int 0) (.cons (.int 1) .nil)), ⟨by decide +kernel, by decide +kernel, by decide +kernel⟩, hp4⟩
        | 4, hx =>
          cases hx
          have h4 := e4 l1 _ (pne k1 n2) (E4 _ _ _ (E3 _ _ upd_same))
          exact q1 _ _ ⟨.list [], .lst (Evl.sq_of h4) .nil, ⟨by decide +kernel, by decide +kernel, by decide +kernel⟩, hp4⟩
        | 5, hx =>
          cases hx
          have h4 := e4 e1 _ (pne k2 n3) (E4 _ _ _ upd_same)
          exact q1 _ _ ⟨.dict [], .emp h4, ⟨by decide +kernel, by decide +kernel, by decide +kernel⟩, hp4⟩
        | 6, hx => cases hx; exact q1 _ _ ⟨.int n, .int _, mn, hp4⟩
        | 7, hx => cases hx; exact q1 _ _ ⟨.int (-1), .int _, ⟨by decide +kernel, by decide +kernel, by decide +kernel⟩, hp4⟩
        | _ + 8, hx => simp at hx
      rintro v H4 ⟨d, hd, md, hp4⟩
      refine q_if1 false (fun H' => PenAt H' p) (fun Q1 q1 => ?_) (fun z => by cases z) fun _ H5 hp5 => ?_
      · refine ⟨.int n, rfl, n, rfl, hn, fun H5 e5 => ⟨true, rfl, iteF ?_⟩⟩
        exact ⟨.int n, rfl, v, rfl, n, v, d, rfl, hn, Dw.ex e5 d v hd, md, fun H6 e6 => ⟨true, rfl, q1 H6 (hp4.ex (e5.trans e6))⟩⟩
      · exact ⟨hp5, _, _, _, rfl⟩
    · rintro _ H2 ⟨hp2, l, c, t, rfl⟩
      exact Evl.s_ret (v := .bl true) (ev_andT (ev_right1 (a := a) T.kit4 (by decide) (eve_0 rfl rfl fun _ => rfl)) (ev_right1 (a := a) T.kit11 (by decide) (eve_0 rfl rfl fun _ => rfl))) fun H' e' => q H'

end
end DL

set_option maxHeartbeats 4000000
/-! Own layer: a law's end for FG; the Hook of facts. -/
namespace DL
open PySem PySem.Spec PyProof.Rows L2
theorem gd_caller : Gd callerA := rfl
/-- what is tracked at the start: the script at most -/
structure Start (P : Program) (w : World) (K : PySem.W.Frag) (a : Addr) (h : Heap) (H : Hp) : Prop where
  only : Only H
  hok : HOk P w H h
  at_ : ∀ b, H b ≠ none → b = a
  out : H a ≠ none → K.lookup a = none
section
variable {P : Program} {w : World} {K : PySem.W.Frag} {mg mb : Str → Option Value} {k : Nat} {fa a : Addr} {fd : FuncData} {x : Str} {sp : Sp} {s : Shared} {vs : List Value} {ns : List Int} {H : Hp}
theorem Start.off (S : Start P w K a s.heap H) {b : Addr} (n : b ≠ a) : H b = none := by
  rcases hb : H b with _ | o
  · rfl
  · exact (n (S.at_ b (by rw [hb]; intro z; cases z))).elim
theorem Start.low (S : Start P w K a s.heap H) {b : Addr} {o : Obj} (e : K.lookup b = some o) : H b = none := by
  by_cases n : b = a
  · rw [n] at e ⊢
    rcases hb : H a with _ | u
    · rfl
    · rw [S.out (by rw [hb]; intro z; cases z)] at e
      cases e
  · exact S.off n
/-- the law's call, from what it promises -/
theorem end_core (X : K.In s.heap) (Gm : s.heap.Ns mainGlobals mg) (Gb : s.heap.Ns builtinsNs mb) (bb : ∀ y : Str, y ≠ "__name__" → mb y = bootBuiltins y) (nl : s.heap.NoLimit) (gs : s.gens = #[])
    (oa : s.heap.get? a = some { cls := .type "list", data := .seq vs.toArray }) (room : Room k callerA)
    (F : ∀ base : Heap, K.In base → base.Ns mainGlobals mg → FG P w K mg base CX0 k fa fd [x] sp) (bd : ∀ (t : Shared) (u : Value), BindsTo t fd ⟨[u], []⟩ [(x, u)])
    (S : Start P w K a s.heap H) (q : sp [.ref a] H (fun v _ => v = .bl true) E0) :
    codeAny (model P w) callerA (.call (.ref fa) ⟨[.ref a], []⟩) (fun r t => r = .ok (.ret (.bool true)) ∧ OldK s.heap t.heap ∧ t.os = s.os ∧ AllBare t.gens) s := by
  have nsp : ∀ {b : Addr} {m : Str → Option Value}, s.heap.Ns b m → (hidT s.heap H).Ns b m := fun {b m} z => by
    obtain ⟨o, es, ep, e, d, r⟩ := z
    refine ⟨o, es, ep, hidT_get e (S.off fun z => ?_), d, r⟩
    rw [z, oa] at e
    cases e
    exact Data.noConfusion d
  have kb : K.In (hidT s.heap H) := fun b o e => hidT_get (X b o e) (S.low e)
  obtain ⟨mc, c1, c2⟩ := nl
  have env : Env0 P w K mg (hidT s.heap H) callerA [] s H :=
    ⟨rfl, ⟨kb, nsp Gm, ⟨mb, nsp Gb, bb⟩, ⟨mc, nsp c1, c2⟩⟩, fun b o e => of_hidT e, Nat.le_of_eq (hidT_size _ _), trivial, fun b hb => absurd hb List.not_mem_nil, S.hok, .of_eq gs⟩
  have run := (F _ kb (nsp Gm)).go callerA [] s H ⟨[.ref a], []⟩ [.ref a] [.ref a] _ _ room gd_caller env (bd s (.ref a)) (.cons rfl .nil) q
  refine codeAny_mono run ?_
  rintro (e | fl) t h
  · exact False.elim h
  · cases fl with
    | ret u =>
      obtain ⟨v, H', os, bare, un, hok', rv, hv⟩ := h
      cases (show v = .bl true from hv)
      cases (show u = Value.bool true from rv)
      refine ⟨rfl, OldK.of_keep fun b o e => ?_, os, bare⟩
      rcases S.only b with z | ⟨ob, xs, z⟩
      · exact un.keep b o e z (fun y => absurd y List.not_mem_nil) (fun y => absurd y List.not_mem_nil)
      · obtain ⟨e2, _⟩ := hok' b _ (un.frzs b ob _ z)
        obtain ⟨e1, _⟩ := S.hok b _ z
        rw [← e, e1]
        exact e2
    | next => exact False.elim h
    | brk => exact False.elim h
    | cont => exact False.elim h
/-- the script as it is given: it may be tracked from the start -/
theorem end_call (X : K.In s.heap) (Gm : s.heap.Ns mainGlobals mg) (Gb : s.heap.Ns builtinsNs mb) (bb : ∀ y : Str, y ≠ "__name__" → mb y = bootBuiltins y) (nl : s.heap.NoLimit) (gs : s.gens = #[])
    (oa : s.heap.get? a = some { cls := .type "list", data := .seq vs.toArray }) (hi : IntsAre vs ns) (hl : ns.length ≤ sizeLine) (room : Room k callerA)
    (F : ∀ base : Heap, K.In base → base.Ns mainGlobals mg → FG P w K mg base CX0 k fa fd [x] sp) (bd : ∀ (t : Shared) (u : Value), BindsTo t fd ⟨[u], []⟩ [(x, u)])
    (q : ∀ H : Hp, Only H → SqL K H a (ns.map V.int) → sp [.ref a] H (fun v _ => v = .bl true) E0) :
    codeAny (model P w) callerA (.call (.ref fa) ⟨[.ref a], []⟩) (fun r t => r = .ok (.ret (.bool true)) ∧ OldK s.heap t.heap ∧ t.os = s.os ∧ AllBare t.gens) s := by
  have rv := vals_ints hi
  have lv := hi.length
  rcases ka : K.lookup a with _ | o
  · let Hs : Hp := fun b => if b = a then some (.frz { cls := .type "list", data := .seq vs.toArray } (.lst (ns.map V.int))) else none
    have ha : Hs a = some (.frz { cls := .type "list", data := .seq vs.toArray } (.lst (ns.map V.int))) := if_pos rfl
    have hn : ∀ b, b ≠ a → Hs b = none := fun b n => if_neg n
    have st : Start P w K a s.heap Hs := by
      refine ⟨fun b => ?_, fun b u z => ?_, fun b z => ?_, fun _ => ka⟩
      · by_cases n : b = a
        · subst n
          exact .inr ⟨_, _, ha⟩
        · exact .inl (hn b n)
      · by_cases n : b = a
        · subst n
          rw [ha] at z
          cases z
          exact ⟨oa, by rw [List.length_map]; exact hl, vs, _, rv, oa⟩
        · rw [hn b n] at z
          cases z
      · by_cases n : b = a
        · exact n
        · exact absurd (hn b n) z
    exact end_core X Gm Gb bb nl gs oa room F bd st (q Hs st.only (.inl (.inr ⟨_, ha⟩)))
  · have e := X a o ka
    rw [oa] at e
    cases e
    have st : Start P w K a s.heap (fun _ => none) := ⟨fun _ => .inl rfl, fun b u z => (Option.some_ne_none u z.symm).elim, fun b z => absurd rfl z, fun z => absurd rfl z⟩
    exact end_core X Gm Gb bb nl gs oa room F bd st (q _ st.only (.inr ⟨_, vs.toArray, _, ka, rfl, rfl, rfl, by rw [List.size_toArray, lv]; exact hl, by simpa using rv⟩))
end
/-- the goal that the head leaves, from what the law promises -/
theorem end_walk {l : PySem.W.OpenLaw} {n k : Nat} {q : Program} {loose : List Str} {XP : (Str → Option Value) → Heap → Prop} {YP : World → Heap → Prop} {d : DefRec} {x : Str}
    (hn : l.most = some n) (hn2 : n ≤ sizeLine) (hdf : d.params.defaults = []) (hr : Room k callerA)
    (F : ∀ (w : World) (mg : Str → Option Value) (fa : Addr) (h : Heap), YP w h → h.Ns mainGlobals mg → mg d.name = some (.ref fa) →
      ∃ (K : PySem.W.Frag) (fd : FuncData) (sp : Sp), K.In h ∧ (∀ (t : Shared) (u : Value), BindsTo t fd ⟨[u], []⟩ [(x, u)]) ∧
        (∀ (H : Hp) (a : Addr) (ns : List Int), ns.length ≤ n → Only H → SqL K H a (ns.map V.int) → sp [.ref a] H (fun v _ => v = .bl true) E0) ∧
        ∀ base : Heap, K.In base → base.Ns mainGlobals mg → FG l.prog w K mg base CX0 k fa fd [x] sp) :
    PySem.W.WalkO q loose XP YP l.row.toRowW d [] (fun f vs => PySem.call f vs) := by
  refine Att.attach_call hn hdf ?_
  intro w s₀ s₁ mg mb fa o pm cd doc a vs ns G Y _ _ _ hmg hobj hints hlen hg
  obtain ⟨K, fd, sp, KX, bd, hsp, hF⟩ := F w mg fa _ Y G.T.g hmg
  exact end_call KX G.T.g G.T.b G.T.builtins G.T.nolimit hg hobj hints (Nat.le_trans hlen hn2) hr hF bd fun H => hsp H a ns hlen

/-! ### the Hook: facts of one's own, defs -/
abbrev AlX : Type := Bool × List He.FnW
def obsX (fx : List (PySem.W.Frag → Bool)) (fn : List He.DefD) (K : PySem.W.Frag) : AlX := ((fx.all fun f => f K) && fn.all fun d => d.ok K, fn.map fun d => He.fnW K d.at_)
def valX (fn : List He.DefD) : AlX := (true, fn.map He.DefD.val)
def SaysX (fx : List (PySem.W.Frag → Bool)) (fn : List He.DefD) (K : PySem.W.Frag) : Prop := obsX fx fn K = valX fn
def partX (n : Nat) (g : Addr → Option Obj) : PySem.W.Frag := He.frG g (sysModules :: He.asD g n)
def obsXG (n : Nat) (fx : List (PySem.W.Frag → Bool)) (fn : List He.DefD) (g : Addr → Option Obj) : AlX := obsX fx fn (partX n g)
def hookX (n : Nat) (fx : List (PySem.W.Frag → Bool)) (fn : List He.DefD) : PySem.W.Hook where
  α := AlX
  obs := fun s => obsXG n fx fn s.heap.get?
  val := fun _ => valX fn
  says := fun _ h => ∃ K : PySem.W.Frag, K.In h ∧ SaysX fx fn K
  of := fun _ _ e => ⟨_, He.frG_in, e⟩
  keeps := fun _ _ _ ⟨K, hK, c⟩ k => ⟨K, PySem.W.Frag.In.keeps hK k, c⟩
theorem obsXG_eq {n : Nat} {fx : List (PySem.W.Frag → Bool)} {fn : List He.DefD} {g : Addr → Option Obj} {s : Shared} (h : ∀ a, g a = s.heap.get? a) : obsXG n fx fn g = (hookX n fx fn).obs s := by
  cases (funext h : g = s.heap.get?)
  rfl
section
variable {fx : List (PySem.W.Frag → Bool)} {fn : List He.DefD} {K : PySem.W.Frag}
theorem SaysX.fact (c : SaysX fx fn K) (i : Nat) {f : PySem.W.Frag → Bool} (h : fx[i]? = some f := by rfl) : f K = true :=
  List.all_eq_true.mp (He.ba (congrArg (fun z : AlX => z.1) c)).1 f (List.mem_of_getElem? h)
theorem SaysX.def_ (c : SaysX fx fn K) (i : Nat) {d : He.DefD} (h : fn[i]? = some d := by rfl) : ∃ fd, FunD K d.name d.qual d.params d.body d.scope (d.dvs K) (d.kws K) (He.fAd K d.at_) fd := by
  have h1 := List.all_eq_true.mp (He.ba (congrArg (fun z : AlX => z.1) c)).2 d (List.mem_of_getElem? h)
  have h2 : (fn.map fun d => He.fnW K d.at_)[i]? = (fn.map He.DefD.val)[i]? := congrArg (fun z : AlX => z.2[i]?) c
  rw [List.getElem?_map, List.getElem?_map, h] at h2
  exact He.DefD.funD (Option.some.inj h2) h1
end
/-- a def without defaults as the walk wants it -/
theorem fun_of {K : PySem.W.Frag} {x qual : Str} {st : Stmt} {f : Addr} {fd : FuncData} (F : FunD K x qual (defArgs st) (defBody st) (defScope st) [] [] f fd) : Fun K x qual st f fd := by
  obtain ⟨oc, od, dV, kV, doc, pm, an, cdv, ct, osl, rfl, lk, hcd, hD, hK⟩ := F.ex
  rcases hD with ⟨_, rfl⟩ | ⟨e, _⟩
  · exact ⟨⟨oc, od, kV, doc, pm, an, cdv, ct, osl, rfl, lk, hcd⟩, F.kp⟩
  · exact absurd rfl e
end DL

set_option maxHeartbeats 4000000
/-! Own layer: facts that the head's run decides. -/
namespace DL
open PySem PySem.Spec PyProof.Rows L2
abbrev FxF : Type := PySem.W.Frag → Bool
def gloF (x : Str) : FxF := fun K => He.eqO (PySem.W.nsIn K mainGlobals x) (some (some (.ref (He.ga K x))))
def freeF (x : Str) : FxF := fun K => He.eqO (PySem.W.nsIn K mainGlobals x) (some none)
def noF (x f : Str) : FxF := fun K => He.eqO (PySem.W.findIn K (.ref (He.ga K x)) f) (some none)
def iniF (x : Str) : FxF := fun K => He.eqO (PySem.W.findIn K (.ref (He.ga K x)) "__init__") (some (some (.ref (He.fAd K (x, some "__init__"))))) && decide (PySem.W.typeIn K (.ref (He.fAd K (x, some "__init__"))) = some (.type "function"))
def sysF : FxF := fun K => match K.lookup sysModules with
  | some ⟨_, _, .dict _ _, _⟩ => true
  | _ => false
def notIn (a : Addr) : List Addr → Bool
  | [] => true
  | b :: r => !(Nat.beq a b) && notIn a r
def allUnlike : List Addr → Bool
  | [] => true
  | a :: r => notIn a r && allUnlike r
def ndF (xs : List Str) : FxF := fun K => allUnlike (xs.map (He.ga K))
def excSlots (newId : String) : List (Option Value) → Bool
  | [_, _, _, _, some (.builtin n), _] => decide (n = newId)
  | _ => false
def xclB (newId : String) (bm : List Value) (C : Addr) (K : PySem.W.Frag) : Bool := match K.lookup C with
  | some ⟨.type c, _, .cls cd, sl⟩ => decide (c = "type") && (cd.hasDict && (!cd.hasDel && (decide (cd.mro = .ref C :: bm) && excSlots newId sl.toList)))
  | _ => false
def xcF (x : Str) (newId : String) (bm : List Value) : FxF := fun K => xclB newId bm (He.ga K x) K &&
  (He.eqO (PySem.W.findIn K (.ref (He.ga K x)) "__setattr__") (some (some (.builtin "object.__setattr__"))) &&
  (He.eqO (PySem.W.findIn K (.ref (He.ga K x)) "__getattribute__") (some (some (.builtin "BaseException.__getattribute__"))) &&
  (He.eqO (PySem.W.findIn K (.ref (He.ga K x)) "__getattr__") (some none) &&
  (He.eqO (PySem.W.findIn K (.ref (He.ga K x)) "__class__") (some (some (.builtin "object.__class__"))) && PySem.W.keepIn K (.ref (He.ga K x))))))
section
variable {K : PySem.W.Frag} {h : Heap} {mg : Str → Option Value} {x f : Str} {newId : String} {bm : List Value} {C : Addr}
theorem gloF_ok (X : K.In h) (G : h.Ns mainGlobals mg) (c : gloF x K = true) : mg x = some (.ref (He.ga K x)) := PySem.W.mg_of X G (He.eqO_ok c)
theorem freeF_ok (X : K.In h) (G : h.Ns mainGlobals mg) (c : freeF x K = true) : mg x = none := PySem.W.mg_none_of X G (He.eqO_ok c)
theorem noF_ok (c : noF x f K = true) : PySem.W.findIn K (.ref (He.ga K x)) f = some none := He.eqO_ok c
theorem iniF_ok (c : iniF x K = true) : PySem.W.findIn K (.ref (He.ga K x)) "__init__" = some (some (.ref (He.fAd K (x, some "__init__")))) ∧ PySem.W.typeIn K (.ref (He.fAd K (x, some "__init__"))) = some (.type "function") := by
  obtain ⟨c1, c2⟩ := He.ba c
  exact ⟨He.eqO_ok c1, of_decide_eq_true c2⟩
theorem sysF_ok (c : sysF K = true) : SysK K := by
  unfold sysF at c
  split at c
  · rename_i oc od es n sl q
    exact ⟨_, es, n, q, rfl⟩
  · cases c
theorem notIn_ok {a : Addr} : ∀ {l : List Addr}, notIn a l = true → a ∉ l
  | [], _ => List.not_mem_nil
  | b :: r, c => by
    obtain ⟨c1, c2⟩ := He.ba (show (!(Nat.beq a b) && notIn a r) = true from c)
    intro m
    rcases List.mem_cons.mp m with e | m
    · subst e
      rw [Nat.beq_refl a] at c1
      cases c1
    · exact notIn_ok c2 m
theorem unlike_ok : ∀ {l : List Addr}, allUnlike l = true → l.Nodup
  | [], _ => .nil
  | b :: r, c => by
    obtain ⟨c1, c2⟩ := He.ba (show (notIn b r && allUnlike r) = true from c)
    exact List.nodup_cons.mpr ⟨notIn_ok c1, unlike_ok c2⟩
theorem excSlots_ok : ∀ {l : List (Option Value)}, excSlots newId l = true → ∃ k0 k1 k2 k3 k5, l = [k0, k1, k2, k3, some (.builtin newId), k5] := fun {l} c => by
  unfold excSlots at c
  split at c
  · cases of_decide_eq_true c
    exact ⟨_, _, _, _, _, rfl⟩
  · cases c
theorem xclB_ok (c : xclB newId bm C K = true) : ∃ nm q N bs sn sub ab col dd k0 k1 k2 k3 k5, K.lookup C = some (excClassObj nm q C N bs bm true sn sub ab col dd k0 k1 k2 k3 k5 newId) := by
  unfold xclB at c
  split at c
  · rename_i ct dd cd sl q
    obtain ⟨c1, c⟩ := He.ba c
    obtain ⟨c2, c⟩ := He.ba c
    obtain ⟨c3, c⟩ := He.ba c
    obtain ⟨c4, c5⟩ := He.ba c
    obtain ⟨k0, k1, k2, k3, k5, e⟩ := excSlots_ok c5
    have e1 : ct = "type" := of_decide_eq_true c1
    have e4 : cd.mro = .ref C :: bm := of_decide_eq_true c4
    obtain ⟨l⟩ := sl
    have e' : l = [k0, k1, k2, k3, some (.builtin newId), k5] := e
    obtain ⟨nm, bs, mro, ns, qn, hd, sn, sub, ab, col, del⟩ := cd
    dsimp only at c2 c3 e4
    have e3 : del = false := by
      cases del with
      | false => rfl
      | true => cases c3
    subst e1 e' c2 e4 e3
    exact ⟨nm, qn, ns, bs, sn, sub, ab, col, dd, k0, k1, k2, k3, k5, q⟩
  · cases c
theorem xcF_ok (c : xcF x newId bm K = true) : XC K (He.ga K x) newId bm := by
  obtain ⟨c0, c⟩ := He.ba c
  obtain ⟨c1, c⟩ := He.ba c
  obtain ⟨c2, c⟩ := He.ba c
  obtain ⟨c3, c⟩ := He.ba c
  obtain ⟨c4, c5⟩ := He.ba c
  exact ⟨xclB_ok c0, He.eqO_ok c1, He.eqO_ok c2, He.eqO_ok c3, He.eqO_ok c4, c5⟩
end
/-- how a def without defaults takes its arguments: some by position, some by name -/
theorem kbn_of {K : PySem.W.Frag} {x qual : Str} {st : Stmt} {f : Addr} {fd : FuncData} {ps ks : List Str} {n : Nat} {g : List Value → List Value → List Value} {gV : List V → List V → List V} (F : Fun K x qual st f fd)
    (hrel : ∀ {vs zs : List V} {us ws : List Value}, Vals vs us → Vals zs ws → Vals (gV vs zs) (g us ws))
    (h : ∀ (kV doc pm : Value) (an : Option Addr) (cdv ct : Value) (us ws : List Value), us.length = n → ws.length = ks.length →
      bindArgs (PySem.W.fnOf x qual (defArgs st) (defBody st) (defScope st) .none kV doc pm an cdv ct) ⟨us, ks.zip ws⟩ = pure (ps.zip (g us ws))) : KBn K fd ps n ks g gV := by
  obtain ⟨oc, od, kV, doc, pm, an, cdv, ct, osl, rfl, lk, hcd⟩ := F.ex
  exact ⟨fun s us ws _ l1 l2 => .of_eq (h kV doc pm an cdv ct us ws l1 l2), hrel⟩
end DL

set_option maxHeartbeats 0
/-! The head by one run in the kernel, and the law's end. -/
namespace DL
open PySem PySem.Spec PyProof.Rows L2

def d_InvalidBook : He.DefD := ⟨("InvalidBook", some "__init__"), "__init__", "InvalidBook.__init__", defArgs s_InvalidBook, defBody s_InvalidBook, defScope s_InvalidBook, [], []⟩
def d_InvalidTimes : He.DefD := ⟨("InvalidTimes", some "__init__"), "__init__", "InvalidTimes.__init__", defArgs s_InvalidTimes, defBody s_InvalidTimes, defScope s_InvalidTimes, [], []⟩
def d_InvalidOrder : He.DefD := ⟨("InvalidOrder", some "__init__"), "__init__", "InvalidOrder.__init__", defArgs s_InvalidOrder, defBody s_InvalidOrder, defScope s_InvalidOrder, [], []⟩
def d_InvalidOffers : He.DefD := ⟨("InvalidOffers", some "__init__"), "__init__", "InvalidOffers.__init__", defArgs s_InvalidOffers, defBody s_InvalidOffers, defScope s_InvalidOffers, [], []⟩
def d_InvalidClaim : He.DefD := ⟨("InvalidClaim", some "__init__"), "__init__", "InvalidClaim.__init__", defArgs s_InvalidClaim, defBody s_InvalidClaim, defScope s_InvalidClaim, [], []⟩
def d_ParseError : He.DefD := ⟨("ParseError", some "__init__"), "__init__", "ParseError.__init__", defArgs s_ParseError, defBody s_ParseError, defScope s_ParseError, [], []⟩
def d_UnknownWord : He.DefD := ⟨("UnknownWord", some "__init__"), "__init__", "UnknownWord.__init__", defArgs s_UnknownWord, defBody s_UnknownWord, defScope s_UnknownWord, [], []⟩
def d_NoTimes : He.DefD := ⟨("NoTimes", some "__init__"), "__init__", "NoTimes.__init__", defArgs s_NoTimes, defBody s_NoTimes, defScope s_NoTimes, [], []⟩
def d_CannotRun : He.DefD := ⟨("CannotRun", some "__init__"), "__init__", "CannotRun.__init__", defArgs s_CannotRun, defBody s_CannotRun, defScope s_CannotRun, [], []⟩
def d_TooMany : He.DefD := ⟨("TooMany", some "__init__"), "__init__", "TooMany.__init__", defArgs s_TooMany, defBody s_TooMany, defScope s_TooMany, [], []⟩
def d_Refused : He.DefD := ⟨("Refused", some "__init__"), "__init__", "Refused.__init__", defArgs s_Refused, defBody s_Refused, defScope s_Refused, [], []⟩
def d_NothingDone : He.DefD := ⟨("NothingDone", some "__init__"), "__init__", "NothingDone.__init__", defArgs s_NothingDone, defBody s_NothingDone, defScope s_NothingDone, [], []⟩
def d_CannotWithdraw : He.DefD := ⟨("CannotWithdraw", some "__init__"), "__init__", "CannotWithdraw.__init__", defArgs s_CannotWithdraw, defBody s_CannotWithdraw, defScope s_CannotWithdraw, [], []⟩
def d__law_pen : He.DefD := ⟨("_law_pen", none), "_law_pen", "_law_pen", defArgs sPen, defBody sPen, defScope sPen, [], []⟩
def d__law_fresh : He.DefD := ⟨("_law_fresh", none), "_law_fresh", "_law_fresh", defArgs sFresh, defBody sFresh, defScope sFresh, [], []⟩
def d__law_draw : He.DefD := ⟨("_law_draw", none), "_law_draw", "_law_draw", defArgs sDraw, defBody sDraw, defScope sDraw, [], []⟩
def d__law_one_of : He.DefD := ⟨("_law_one_of", none), "_law_one_of", "_law_one_of", defArgs sOneOf, defBody sOneOf, defScope sOneOf, [], []⟩
def d__law_which : He.DefD := ⟨("_law_which", none), "_law_which", "_law_which", defArgs sWhich, defBody sWhich, defScope sWhich, [], []⟩
def d__law_base : He.DefD := ⟨("_law_base", none), "_law_base", "_law_base", defArgs sBase, defBody sBase, defScope sBase, [], []⟩
def d__law_right : He.DefD := ⟨("_law_right", none), "_law_right", "_law_right", defArgs sRight, defBody sRight, defScope sRight, [], []⟩
def d__law_indexed : He.DefD := ⟨("_law_indexed", none), "_law_indexed", "_law_indexed", defArgs sIndexed, defBody sIndexed, defScope sIndexed, [], []⟩
def d__law_others : He.DefD := ⟨("_law_others", none), "_law_others", "_law_others", defArgs sOthers, defBody sOthers, defScope sOthers, [], []⟩
def d_law : He.DefD := ⟨("law", none), "law", "law", defArgs sLaw, defBody sLaw, defScope sLaw, [], []⟩
def fn66 : List He.DefD := [d_InvalidBook, d_InvalidTimes, d_InvalidOrder, d_InvalidOffers, d_InvalidClaim, d_ParseError, d_UnknownWord, d_NoTimes, d_CannotRun, d_TooMany, d_Refused, d_NothingDone, d_CannotWithdraw, d__law_pen, d__law_fresh, d__law_draw, d__law_one_of, d__law_which, d__law_base, d__law_right, d__law_indexed, d__law_others, d_law]
def fx66_0 : List FxF := [
  gloF "InvalidBook",
  xcF "InvalidBook" "ValueError.__new__" [.type "ValueError", .type "Exception", .type "BaseException", .type "object"],
  iniF "InvalidBook",
  gloF "InvalidTimes",
  xcF "InvalidTimes" "ValueError.__new__" [.type "ValueError", .type "Exception", .type "BaseException", .type "object"],
  iniF "InvalidTimes",
  gloF "InvalidOrder",
  xcF "InvalidOrder" "ValueError.__new__" [.type "ValueError", .type "Exception", .type "BaseException", .type "object"],
  iniF "InvalidOrder",
  gloF "InvalidOffers",
  xcF "InvalidOffers" "ValueError.__new__" [.type "ValueError", .type "Exception", .type "BaseException", .type "object"],
  iniF "InvalidOffers",
  gloF "InvalidClaim",
  xcF "InvalidClaim" "ValueError.__new__" [.type "ValueError", .type "Exception", .type "BaseException", .type "object"],
  iniF "InvalidClaim",
  gloF "ParseError",
  xcF "ParseError" "ValueError.__new__" [.type "ValueError", .type "Exception", .type "BaseException", .type "object"],
  iniF "ParseError",
  gloF "UnknownWord",
  xcF "UnknownWord" "LookupError.__new__" [.type "LookupError", .type "Exception", .type "BaseException", .type "object"],
  iniF "UnknownWord",
  gloF "NoTimes",
  xcF "NoTimes" "RuntimeError.__new__" [.type "RuntimeError", .type "Exception", .type "BaseException", .type "object"],
  iniF "NoTimes",
  gloF "CannotRun",
  xcF "CannotRun" "RuntimeError.__new__" [.type "RuntimeError", .type "Exception", .type "BaseException", .type "object"],
  iniF "CannotRun",
  gloF "TooMany",
  xcF "TooMany" "RuntimeError.__new__" [.type "RuntimeError", .type "Exception", .type "BaseException", .type "object"],
  iniF "TooMany"]
def fx66_1 : List FxF := [
  gloF "Refused",
  xcF "Refused" "RuntimeError.__new__" [.type "RuntimeError", .type "Exception", .type "BaseException", .type "object"],
  iniF "Refused",
  gloF "NothingDone",
  xcF "NothingDone" "RuntimeError.__new__" [.type "RuntimeError", .type "Exception", .type "BaseException", .type "object"],
  iniF "NothingDone",
  gloF "CannotWithdraw",
  xcF "CannotWithdraw" "RuntimeError.__new__" [.type "RuntimeError", .type "Exception", .type "BaseException", .type "object"],
  iniF "CannotWithdraw",
  noF "InvalidBook" "index",
  noF "InvalidTimes" "index",
  noF "InvalidOrder" "index",
  noF "InvalidOffers" "index",
  noF "ParseError" "line",
  noF "UnknownWord" "value",
  noF "NoTimes" "ring",
  noF "CannotRun" "job",
  noF "TooMany" "number",
  noF "Refused" "index",
  noF "Refused" "reason",
  noF "CannotWithdraw" "number",
  freeF "ValueError",
  freeF "LookupError",
  freeF "RuntimeError",
  freeF "OverflowError",
  freeF "KeyError",
  freeF "IndexError",
  freeF "NotImplementedError",
  freeF "isinstance",
  freeF "enumerate"]
def fx66_2 : List FxF := [
  freeF "list",
  freeF "int",
  freeF "len",
  freeF "range",
  freeF "repr",
  gloF "_law_pen",
  gloF "_law_fresh",
  gloF "_law_draw",
  gloF "_law_one_of",
  gloF "_law_which",
  gloF "_law_base",
  gloF "_law_right",
  gloF "_law_indexed",
  gloF "_law_others",
  gloF "law",
  sysF,
  ndF ["InvalidBook", "InvalidTimes", "InvalidOrder", "InvalidOffers", "InvalidClaim", "ParseError", "UnknownWord", "NoTimes", "CannotRun", "TooMany", "Refused", "NothingDone", "CannotWithdraw"]]
def fx66 : List FxF := fx66_0 ++ fx66_1 ++ fx66_2
def loose66 : List PySem.Str := ["__name__", "InvalidBook", "InvalidTimes", "InvalidOrder", "InvalidOffers", "InvalidClaim", "ParseError", "UnknownWord", "NoTimes", "CannotRun", "CannotWithdraw", "TooMany", "Refused", "NothingDone", "_law_pen", "_law_fresh", "_law_draw", "_law_one_of", "_law_which", "_law_base", "_law_right", "_law_indexed", "_law_others"]
abbrev R66 : PySem.W.OpenRow := PySem.W.OpenLaw.row PySem.Challenge.rw_twobenches_k66_errors_required
abbrev hk66 : PySem.W.Hook := hookX 5 fx66 fn66
def ob66 (s : PySem.W.SharedT) : AlX := obsXG 5 fx66 fn66 (HandSHeadRun.getT s)
theorem ob66_eq (s : PySem.W.SharedT) : ob66 s = hk66.obs s.abs := obsXG_eq (HandSHeadRun.getT_eq s)
theorem run66 (w : World) : HandSHeadRun.RunEq R66 (PySem.W.view R66.prog [24]) hk66 ob66 9000 loose66 w := by
  intro os
  kernel_rfl
section
variable {P : Program} {w : World} {K : PySem.W.Frag} {mg : Str → Option Value} {base : Heap} {h : Heap}
theorem bind1_of {x qual y : Str} {st : Stmt} {f : Addr} {fd : FuncData} (F : Fun K x qual st f fd)
    (hb : ∀ (kV doc pm : Value) (an : Option Addr) (cdv ct : Value) (u : Value), bindArgs (PySem.W.fnOf x qual (defArgs st) (defBody st) (defScope st) .none kV doc pm an cdv ct) ⟨[u], []⟩ = pure [(y, u)]) (s : Shared) (v : Value) : BindsTo s fd ⟨[v], []⟩ [(y, v)] := by
  obtain ⟨oc, od, kV, doc, pm, an, cdv, ct, osl, rfl, lk, hcd⟩ := F.ex
  exact .of_eq (hb kV doc pm an cdv ct v)
theorem t66 (X : K.In h) (G : h.Ns mainGlobals mg) (c : SaysX fx66 fn66 K) : T66 K mg (He.ga K "InvalidBook") (He.ga K "InvalidTimes") (He.ga K "InvalidOrder") (He.ga K "InvalidOffers") (He.ga K "InvalidClaim") (He.ga K "ParseError") (He.ga K "UnknownWord") (He.ga K "NoTimes") (He.ga K "CannotRun") (He.ga K "TooMany") (He.ga K "Refused") (He.ga K "NothingDone") (He.ga K "CannotWithdraw") where
  sys := sysF_ok (c.fact 75 (f := sysF) rfl)
  nd := unlike_ok (c.fact 76 (f := ndF ["InvalidBook", "InvalidTimes", "InvalidOrder", "InvalidOffers", "InvalidClaim", "ParseError", "UnknownWord", "NoTimes", "CannotRun", "TooMany", "Refused", "NothingDone", "CannotWithdraw"]) rfl)
  g_InvalidBook := gloF_ok X G (c.fact 0 rfl)
  x_InvalidBook := xcF_ok (c.fact 1 rfl)
  g_InvalidTimes := gloF_ok X G (c.fact 3 rfl)
  x_InvalidTimes := xcF_ok (c.fact 4 rfl)
  g_InvalidOrder := gloF_ok X G (c.fact 6 rfl)
  x_InvalidOrder := xcF_ok (c.fact 7 rfl)
  g_InvalidOffers := gloF_ok X G (c.fact 9 rfl)
  x_InvalidOffers := xcF_ok (c.fact 10 rfl)
  g_InvalidClaim := gloF_ok X G (c.fact 12 rfl)
  x_InvalidClaim := xcF_ok (c.fact 13 rfl)
  g_ParseError := gloF_ok X G (c.fact 15 rfl)
  x_ParseError := xcF_ok (c.fact 16 rfl)
  g_UnknownWord := gloF_ok X G (c.fact 18 rfl)
  x_UnknownWord := xcF_ok (c.fact 19 rfl)
  g_NoTimes := gloF_ok X G (c.fact 21 rfl)
  x_NoTimes := xcF_ok (c.fact 22 rfl)
  g_CannotRun := gloF_ok X G (c.fact 24 rfl)
  x_CannotRun := xcF_ok (c.fact 25 rfl)
  g_TooMany := gloF_ok X G (c.fact 27 rfl)
  x_TooMany := xcF_ok (c.fact 28 rfl)
  g_Refused := gloF_ok X G (c.fact 30 rfl)
  x_Refused := xcF_ok (c.fact 31 rfl)
  g_NothingDone := gloF_ok X G (c.fact 33 rfl)
  x_NothingDone := xcF_ok (c.fact 34 rfl)
  g_CannotWithdraw := gloF_ok X G (c.fact 36 rfl)
  x_CannotWithdraw := xcF_ok (c.fact 37 rfl)
  no_InvalidBook_index := noF_ok (c.fact 39 rfl)
  no_InvalidTimes_index := noF_ok (c.fact 40 rfl)
  no_InvalidOrder_index := noF_ok (c.fact 41 rfl)
  no_InvalidOffers_index := noF_ok (c.fact 42 rfl)
  no_ParseError_line := noF_ok (c.fact 43 rfl)
  no_UnknownWord_value := noF_ok (c.fact 44 rfl)
  no_NoTimes_ring := noF_ok (c.fact 45 rfl)
  no_CannotRun_job := noF_ok (c.fact 46 rfl)
  no_TooMany_number := noF_ok (c.fact 47 rfl)
  no_Refused_index := noF_ok (c.fact 48 rfl)
  no_Refused_reason := noF_ok (c.fact 49 rfl)
  no_CannotWithdraw_number := noF_ok (c.fact 50 rfl)
  g_ValueError := freeF_ok X G (c.fact 51 rfl)
  g_LookupError := freeF_ok X G (c.fact 52 rfl)
  g_RuntimeError := freeF_ok X G (c.fact 53 rfl)
  g_OverflowError := freeF_ok X G (c.fact 54 rfl)
  g_KeyError := freeF_ok X G (c.fact 55 rfl)
  g_IndexError := freeF_ok X G (c.fact 56 rfl)
  g_NotImplementedError := freeF_ok X G (c.fact 57 rfl)
  g_isinstance := freeF_ok X G (c.fact 58 rfl)
  g_enumerate := freeF_ok X G (c.fact 59 rfl)
  g_list := freeF_ok X G (c.fact 60 rfl)
  g_int := freeF_ok X G (c.fact 61 rfl)
  g_len := freeF_ok X G (c.fact 62 rfl)
  g_range := freeF_ok X G (c.fact 63 rfl)
  g_repr := freeF_ok X G (c.fact 64 rfl)
theorem xm_InvalidBook (X : K.In h) (G : h.Ns mainGlobals mg) (c : SaysX fx66 fn66 K) (T : T66 K mg (He.ga K "InvalidBook") (He.ga K "InvalidTimes") (He.ga K "InvalidOrder") (He.ga K "InvalidOffers") (He.ga K "InvalidClaim") (He.ga K "ParseError") (He.ga K "UnknownWord") (He.ga K "NoTimes") (He.ga K "CannotRun") (He.ga K "TooMany") (He.ga K "Refused") (He.ga K "NothingDone") (He.ga K "CannotWithdraw")) : XM P w K mg base 1 "InvalidBook" (He.ga K "InvalidBook") "ValueError.__new__" [.type "ValueError", .type "Exception", .type "BaseException", .type "object"] (spX1 (He.ga K "InvalidBook") "index") 1 ["index"] (fun vs zs => vs ++ zs) := by
  obtain ⟨fd, D⟩ := c.def_ 0 (d := d_InvalidBook) rfl
  have F := fun_of (st := s_InvalidBook) D
  obtain ⟨i1, i2⟩ := iniF_ok (c.fact 2 (f := iniF "InvalidBook") rfl)
  exact ⟨T.g_InvalidBook, T.x_InvalidBook, _, fd, _, fun us _ => us, (fun us ws => us ++ ws), i1, i2, ok_InvalidBook F T.x_InvalidBook T.no_InvalidBook_index T.g_ValueError,
    kbn_of F (fun r _ => r) (fun _ _ _ _ _ _ us ws l1 l2 => match us, l1, ws, l2 with | [_, _], _, [], _ => rfl),
    kbn_of F (fun r z => r.append z) (fun _ _ _ _ _ _ us ws l1 l2 => match us, l1, ws, l2 with | [_], _, [_], _ => rfl)⟩
theorem xm_InvalidTimes (X : K.In h) (G : h.Ns mainGlobals mg) (c : SaysX fx66 fn66 K) (T : T66 K mg (He.ga K "InvalidBook") (He.ga K "InvalidTimes") (He.ga K "InvalidOrder") (He.ga K "InvalidOffers") (He.ga K "InvalidClaim") (He.ga K "ParseError") (He.ga K "UnknownWord") (He.ga K "NoTimes") (He.ga K "CannotRun") (He.ga K "TooMany") (He.ga K "Refused") (He.ga K "NothingDone") (He.ga K "CannotWithdraw")) : XM P w K mg base 1 "InvalidTimes" (He.ga K "InvalidTimes") "ValueError.__new__" [.type "ValueError", .type "Exception", .type "BaseException", .type "object"] (spX1 (He.ga K "InvalidTimes") "index") 1 ["index"] (fun vs zs => vs ++ zs) := by
  obtain ⟨fd, D⟩ := c.def_ 1 (d := d_InvalidTimes) rfl
  have F := fun_of (st := s_InvalidTimes) D
  obtain ⟨i1, i2⟩ := iniF_ok (c.fact 5 (f := iniF "InvalidTimes") rfl)
  exact ⟨T.g_InvalidTimes, T.x_InvalidTimes, _, fd, _, fun us _ => us, (fun us ws => us ++ ws), i1, i2, ok_InvalidTimes F T.x_InvalidTimes T.no_InvalidTimes_index T.g_ValueError,
    kbn_of F (fun r _ => r) (fun _ _ _ _ _ _ us ws l1 l2 => match us, l1, ws, l2 with | [_, _], _, [], _ => rfl),
    kbn_of F (fun r z => r.append z) (fun _ _ _ _ _ _ us ws l1 l2 => match us, l1, ws, l2 with | [_], _, [_], _ => rfl)⟩
theorem xm_InvalidOrder (X : K.In h) (G : h.Ns mainGlobals mg) (c : SaysX fx66 fn66 K) (T : T66 K mg (He.ga K "InvalidBook") (He.ga K "InvalidTimes") (He.ga K "InvalidOrder") (He.ga K "InvalidOffers") (He.ga K "InvalidClaim") (He.ga K "ParseError") (He.ga K "UnknownWord") (He.ga K "NoTimes") (He.ga K "CannotRun") (He.ga K "TooMany") (He.ga K "Refused") (He.ga K "NothingDone") (He.ga K "CannotWithdraw")) : XM P w K mg base 1 "InvalidOrder" (He.ga K "InvalidOrder") "ValueError.__new__" [.type "ValueError", .type "Exception", .type "BaseException", .type "object"] (spX1 (He.ga K "InvalidOrder") "index") 1 ["index"] (fun vs zs => vs ++ zs) := by
  obtain ⟨fd, D⟩ := c.def_ 2 (d := d_InvalidOrder) rfl
  have F := fun_of (st := s_InvalidOrder) D
  obtain ⟨i1, i2⟩ := iniF_ok (c.fact 8 (f := iniF "InvalidOrder") rfl)
  exact ⟨T.g_InvalidOrder, T.x_InvalidOrder, _, fd, _, fun us _ => us, (fun us ws => us ++ ws), i1, i2, ok_InvalidOrder F T.x_InvalidOrder T.no_InvalidOrder_index T.g_ValueError,
    kbn_of F (fun r _ => r) (fun _ _ _ _ _ _ us ws l1 l2 => match us, l1, ws, l2 with | [_, _], _, [], _ => rfl),
    kbn_of F (fun r z => r.append z) (fun _ _ _ _ _ _ us ws l1 l2 => match us, l1, ws, l2 with | [_], _, [_], _ => rfl)⟩
theorem xm_InvalidOffers (X : K.In h) (G : h.Ns mainGlobals mg) (c : SaysX fx66 fn66 K) (T : T66 K mg (He.ga K "InvalidBook") (He.ga K "InvalidTimes") (He.ga K "InvalidOrder") (He.ga K "InvalidOffers") (He.ga K "InvalidClaim") (He.ga K "ParseError") (He.ga K "UnknownWord") (He.ga K "NoTimes") (He.ga K "CannotRun") (He.ga K "TooMany") (He.ga K "Refused") (He.ga K "NothingDone") (He.ga K "CannotWithdraw")) : XM P w K mg base 1 "InvalidOffers" (He.ga K "InvalidOffers") "ValueError.__new__" [.type "ValueError", .type "Exception", .type "BaseException", .type "object"] (spX1 (He.ga K "InvalidOffers") "index") 1 ["index"] (fun vs zs => vs ++ zs) := by
  obtain ⟨fd, D⟩ := c.def_ 3 (d := d_InvalidOffers) rfl
  have F := fun_of (st := s_InvalidOffers) D
  obtain ⟨i1, i2⟩ := iniF_ok (c.fact 11 (f := iniF "InvalidOffers") rfl)
  exact ⟨T.g_InvalidOffers, T.x_InvalidOffers, _, fd, _, fun us _ => us, (fun us ws => us ++ ws), i1, i2, ok_InvalidOffers F T.x_InvalidOffers T.no_InvalidOffers_index T.g_ValueError,
    kbn_of F (fun r _ => r) (fun _ _ _ _ _ _ us ws l1 l2 => match us, l1, ws, l2 with | [_, _], _, [], _ => rfl),
    kbn_of F (fun r z => r.append z) (fun _ _ _ _ _ _ us ws l1 l2 => match us, l1, ws, l2 with | [_], _, [_], _ => rfl)⟩
theorem xm_InvalidClaim (X : K.In h) (G : h.Ns mainGlobals mg) (c : SaysX fx66 fn66 K) (T : T66 K mg (He.ga K "InvalidBook") (He.ga K "InvalidTimes") (He.ga K "InvalidOrder") (He.ga K "InvalidOffers") (He.ga K "InvalidClaim") (He.ga K "ParseError") (He.ga K "UnknownWord") (He.ga K "NoTimes") (He.ga K "CannotRun") (He.ga K "TooMany") (He.ga K "Refused") (He.ga K "NothingDone") (He.ga K "CannotWithdraw")) : XM P w K mg base 1 "InvalidClaim" (He.ga K "InvalidClaim") "ValueError.__new__" [.type "ValueError", .type "Exception", .type "BaseException", .type "object"] (spX0 (He.ga K "InvalidClaim")) 0 [] (fun vs _ => vs) := by
  obtain ⟨fd, D⟩ := c.def_ 4 (d := d_InvalidClaim) rfl
  have F := fun_of (st := s_InvalidClaim) D
  obtain ⟨i1, i2⟩ := iniF_ok (c.fact 14 (f := iniF "InvalidClaim") rfl)
  exact ⟨T.g_InvalidClaim, T.x_InvalidClaim, _, fd, _, fun us _ => us, (fun us _ => us), i1, i2, ok_InvalidClaim F T.x_InvalidClaim  T.g_ValueError,
    kbn_of F (fun r _ => r) (fun _ _ _ _ _ _ us ws l1 l2 => match us, l1, ws, l2 with | [_], _, [], _ => rfl),
    kbn_of F (fun r _ => r) (fun _ _ _ _ _ _ us ws l1 l2 => match us, l1, ws, l2 with | [_], _, [], _ => rfl)⟩
theorem xm_ParseError (X : K.In h) (G : h.Ns mainGlobals mg) (c : SaysX fx66 fn66 K) (T : T66 K mg (He.ga K "InvalidBook") (He.ga K "InvalidTimes") (He.ga K "InvalidOrder") (He.ga K "InvalidOffers") (He.ga K "InvalidClaim") (He.ga K "ParseError") (He.ga K "UnknownWord") (He.ga K "NoTimes") (He.ga K "CannotRun") (He.ga K "TooMany") (He.ga K "Refused") (He.ga K "NothingDone") (He.ga K "CannotWithdraw")) : XM P w K mg base 1 "ParseError" (He.ga K "ParseError") "ValueError.__new__" [.type "ValueError", .type "Exception", .type "BaseException", .type "object"] (spX1 (He.ga K "ParseError") "line") 1 ["line"] (fun vs zs => vs ++ zs) := by
  obtain ⟨fd, D⟩ := c.def_ 5 (d := d_ParseError) rfl
  have F := fun_of (st := s_ParseError) D
  obtain ⟨i1, i2⟩ := iniF_ok (c.fact 17 (f := iniF "ParseError") rfl)
  exact ⟨T.g_ParseError, T.x_ParseError, _, fd, _, fun us _ => us, (fun us ws => us ++ ws), i1, i2, ok_ParseError F T.x_ParseError T.no_ParseError_line T.g_ValueError,
    kbn_of F (fun r _ => r) (fun _ _ _ _ _ _ us ws l1 l2 => match us, l1, ws, l2 with | [_, _], _, [], _ => rfl),
    kbn_of F (fun r z => r.append z) (fun _ _ _ _ _ _ us ws l1 l2 => match us, l1, ws, l2 with | [_], _, [_], _ => rfl)⟩
theorem xm_UnknownWord (X : K.In h) (G : h.Ns mainGlobals mg) (c : SaysX fx66 fn66 K) (T : T66 K mg (He.ga K "InvalidBook") (He.ga K "InvalidTimes") (He.ga K "InvalidOrder") (He.ga K "InvalidOffers") (He.ga K "InvalidClaim") (He.ga K "ParseError") (He.ga K "UnknownWord") (He.ga K "NoTimes") (He.ga K "CannotRun") (He.ga K "TooMany") (He.ga K "Refused") (He.ga K "NothingDone") (He.ga K "CannotWithdraw")) : XM P w K mg base 1 "UnknownWord" (He.ga K "UnknownWord") "LookupError.__new__" [.type "LookupError", .type "Exception", .type "BaseException", .type "object"] (spX1 (He.ga K "UnknownWord") "value") 1 ["value"] (fun vs zs => vs ++ zs) := by
  obtain ⟨fd, D⟩ := c.def_ 6 (d := d_UnknownWord) rfl
  have F := fun_of (st := s_UnknownWord) D
  obtain ⟨i1, i2⟩ := iniF_ok (c.fact 20 (f := iniF "UnknownWord") rfl)
  exact ⟨T.g_UnknownWord, T.x_UnknownWord, _, fd, _, fun us _ => us, (fun us ws => us ++ ws), i1, i2, ok_UnknownWord F T.x_UnknownWord T.no_UnknownWord_value T.g_LookupError,
    kbn_of F (fun r _ => r) (fun _ _ _ _ _ _ us ws l1 l2 => match us, l1, ws, l2 with | [_, _], _, [], _ => rfl),
    kbn_of F (fun r z => r.append z) (fun _ _ _ _ _ _ us ws l1 l2 => match us, l1, ws, l2 with | [_], _, [_], _ => rfl)⟩
theorem xm_NoTimes (X : K.In h) (G : h.Ns mainGlobals mg) (c : SaysX fx66 fn66 K) (T : T66 K mg (He.ga K "InvalidBook") (He.ga K "InvalidTimes") (He.ga K "InvalidOrder") (He.ga K "InvalidOffers") (He.ga K "InvalidClaim") (He.ga K "ParseError") (He.ga K "UnknownWord") (He.ga K "NoTimes") (He.ga K "CannotRun") (He.ga K "TooMany") (He.ga K "Refused") (He.ga K "NothingDone") (He.ga K "CannotWithdraw")) : XM P w K mg base 1 "NoTimes" (He.ga K "NoTimes") "RuntimeError.__new__" [.type "RuntimeError", .type "Exception", .type "BaseException", .type "object"] (spX1 (He.ga K "NoTimes") "ring") 1 ["ring"] (fun vs zs => vs ++ zs) := by
  obtain ⟨fd, D⟩ := c.def_ 7 (d := d_NoTimes) rfl
  have F := fun_of (st := s_NoTimes) D
  obtain ⟨i1, i2⟩ := iniF_ok (c.fact 23 (f := iniF "NoTimes") rfl)
  exact ⟨T.g_NoTimes, T.x_NoTimes, _, fd, _, fun us _ => us, (fun us ws => us ++ ws), i1, i2, ok_NoTimes F T.x_NoTimes T.no_NoTimes_ring T.g_RuntimeError,
    kbn_of F (fun r _ => r) (fun _ _ _ _ _ _ us ws l1 l2 => match us, l1, ws, l2 with | [_, _], _, [], _ => rfl),
    kbn_of F (fun r z => r.append z) (fun _ _ _ _ _ _ us ws l1 l2 => match us, l1, ws, l2 with | [_], _, [_], _ => rfl)⟩
theorem xm_CannotRun (X : K.In h) (G : h.Ns mainGlobals mg) (c : SaysX fx66 fn66 K) (T : T66 K mg (He.ga K "InvalidBook") (He.ga K "InvalidTimes") (He.ga K "InvalidOrder") (He.ga K "InvalidOffers") (He.ga K "InvalidClaim") (He.ga K "ParseError") (He.ga K "UnknownWord") (He.ga K "NoTimes") (He.ga K "CannotRun") (He.ga K "TooMany") (He.ga K "Refused") (He.ga K "NothingDone") (He.ga K "CannotWithdraw")) : XM P w K mg base 1 "CannotRun" (He.ga K "CannotRun") "RuntimeError.__new__" [.type "RuntimeError", .type "Exception", .type "BaseException", .type "object"] (spX1 (He.ga K "CannotRun") "job") 1 ["job"] (fun vs zs => vs ++ zs) := by
  obtain ⟨fd, D⟩ := c.def_ 8 (d := d_CannotRun) rfl
  have F := fun_of (st := s_CannotRun) D
  obtain ⟨i1, i2⟩ := iniF_ok (c.fact 26 (f := iniF "CannotRun") rfl)
  exact ⟨T.g_CannotRun, T.x_CannotRun, _, fd, _, fun us _ => us, (fun us ws => us ++ ws), i1, i2, ok_CannotRun F T.x_CannotRun T.no_CannotRun_job T.g_RuntimeError,
    kbn_of F (fun r _ => r) (fun _ _ _ _ _ _ us ws l1 l2 => match us, l1, ws, l2 with | [_, _], _, [], _ => rfl),
    kbn_of F (fun r z => r.append z) (fun _ _ _ _ _ _ us ws l1 l2 => match us, l1, ws, l2 with | [_], _, [_], _ => rfl)⟩
theorem xm_TooMany (X : K.In h) (G : h.Ns mainGlobals mg) (c : SaysX fx66 fn66 K) (T : T66 K mg (He.ga K "InvalidBook") (He.ga K "InvalidTimes") (He.ga K "InvalidOrder") (He.ga K "InvalidOffers") (He.ga K "InvalidClaim") (He.ga K "ParseError") (He.ga K "UnknownWord") (He.ga K "NoTimes") (He.ga K "CannotRun") (He.ga K "TooMany") (He.ga K "Refused") (He.ga K "NothingDone") (He.ga K "CannotWithdraw")) : XM P w K mg base 1 "TooMany" (He.ga K "TooMany") "RuntimeError.__new__" [.type "RuntimeError", .type "Exception", .type "BaseException", .type "object"] (spX1 (He.ga K "TooMany") "number") 1 ["number"] (fun vs zs => vs ++ zs) := by
  obtain ⟨fd, D⟩ := c.def_ 9 (d := d_TooMany) rfl
  have F := fun_of (st := s_TooMany) D
  obtain ⟨i1, i2⟩ := iniF_ok (c.fact 29 (f := iniF "TooMany") rfl)
  exact ⟨T.g_TooMany, T.x_TooMany, _, fd, _, fun us _ => us, (fun us ws => us ++ ws), i1, i2, ok_TooMany F T.x_TooMany T.no_TooMany_number T.g_RuntimeError,
    kbn_of F (fun r _ => r) (fun _ _ _ _ _ _ us ws l1 l2 => match us, l1, ws, l2 with | [_, _], _, [], _ => rfl),
    kbn_of F (fun r z => r.append z) (fun _ _ _ _ _ _ us ws l1 l2 => match us, l1, ws, l2 with | [_], _, [_], _ => rfl)⟩
theorem xm_Refused (X : K.In h) (G : h.Ns mainGlobals mg) (c : SaysX fx66 fn66 K) (T : T66 K mg (He.ga K "InvalidBook") (He.ga K "InvalidTimes") (He.ga K "InvalidOrder") (He.ga K "InvalidOffers") (He.ga K "InvalidClaim") (He.ga K "ParseError") (He.ga K "UnknownWord") (He.ga K "NoTimes") (He.ga K "CannotRun") (He.ga K "TooMany") (He.ga K "Refused") (He.ga K "NothingDone") (He.ga K "CannotWithdraw")) : XM P w K mg base 1 "Refused" (He.ga K "Refused") "RuntimeError.__new__" [.type "RuntimeError", .type "Exception", .type "BaseException", .type "object"] (spX2 (He.ga K "Refused") "index" "reason") 2 ["reason", "index"] (fun vs zs => vs ++ zs.reverse) := by
  obtain ⟨fd, D⟩ := c.def_ 10 (d := d_Refused) rfl
  have F := fun_of (st := s_Refused) D
  obtain ⟨i1, i2⟩ := iniF_ok (c.fact 32 (f := iniF "Refused") rfl)
  exact ⟨T.g_Refused, T.x_Refused, _, fd, _, fun us _ => us, (fun us ws => us ++ ws.reverse), i1, i2, ok_Refused F T.x_Refused T.no_Refused_index T.no_Refused_reason T.g_RuntimeError,
    kbn_of F (fun r _ => r) (fun _ _ _ _ _ _ us ws l1 l2 => match us, l1, ws, l2 with | [_, _, _], _, [], _ => rfl),
    kbn_of F (fun r z => r.append z.reverse) (fun _ _ _ _ _ _ us ws l1 l2 => match us, l1, ws, l2 with | [_], _, [_, _], _ => rfl)⟩
theorem xm_NothingDone (X : K.In h) (G : h.Ns mainGlobals mg) (c : SaysX fx66 fn66 K) (T : T66 K mg (He.ga K "InvalidBook") (He.ga K "InvalidTimes") (He.ga K "InvalidOrder") (He.ga K "InvalidOffers") (He.ga K "InvalidClaim") (He.ga K "ParseError") (He.ga K "UnknownWord") (He.ga K "NoTimes") (He.ga K "CannotRun") (He.ga K "TooMany") (He.ga K "Refused") (He.ga K "NothingDone") (He.ga K "CannotWithdraw")) : XM P w K mg base 1 "NothingDone" (He.ga K "NothingDone") "RuntimeError.__new__" [.type "RuntimeError", .type "Exception", .type "BaseException", .type "object"] (spX0 (He.ga K "NothingDone")) 0 [] (fun vs _ => vs) := by
  obtain ⟨fd, D⟩ := c.def_ 11 (d := d_NothingDone) rfl
  have F := fun_of (st := s_NothingDone) D
  obtain ⟨i1, i2⟩ := iniF_ok (c.fact 35 (f := iniF "NothingDone") rfl)
  exact ⟨T.g_NothingDone, T.x_NothingDone, _, fd, _, fun us _ => us, (fun us _ => us), i1, i2, ok_NothingDone F T.x_NothingDone  T.g_RuntimeError,
    kbn_of F (fun r _ => r) (fun _ _ _ _ _ _ us ws l1 l2 => match us, l1, ws, l2 with | [_], _, [], _ => rfl),
    kbn_of F (fun r _ => r) (fun _ _ _ _ _ _ us ws l1 l2 => match us, l1, ws, l2 with | [_], _, [], _ => rfl)⟩
theorem xm_CannotWithdraw (X : K.In h) (G : h.Ns mainGlobals mg) (c : SaysX fx66 fn66 K) (T : T66 K mg (He.ga K "InvalidBook") (He.ga K "InvalidTimes") (He.ga K "InvalidOrder") (He.ga K "InvalidOffers") (He.ga K "InvalidClaim") (He.ga K "ParseError") (He.ga K "UnknownWord") (He.ga K "NoTimes") (He.ga K "CannotRun") (He.ga K "TooMany") (He.ga K "Refused") (He.ga K "NothingDone") (He.ga K "CannotWithdraw")) : XM P w K mg base 1 "CannotWithdraw" (He.ga K "CannotWithdraw") "RuntimeError.__new__" [.type "RuntimeError", .type "Exception", .type "BaseException", .type "object"] (spX1 (He.ga K "CannotWithdraw") "number") 1 ["number"] (fun vs zs => vs ++ zs) := by
  obtain ⟨fd, D⟩ := c.def_ 12 (d := d_CannotWithdraw) rfl
  have F := fun_of (st := s_CannotWithdraw) D
  obtain ⟨i1, i2⟩ := iniF_ok (c.fact 38 (f := iniF "CannotWithdraw") rfl)
  exact ⟨T.g_CannotWithdraw, T.x_CannotWithdraw, _, fd, _, fun us _ => us, (fun us ws => us ++ ws), i1, i2, ok_CannotWithdraw F T.x_CannotWithdraw T.no_CannotWithdraw_number T.g_RuntimeError,
    kbn_of F (fun r _ => r) (fun _ _ _ _ _ _ us ws l1 l2 => match us, l1, ws, l2 with | [_, _], _, [], _ => rfl),
    kbn_of F (fun r z => r.append z) (fun _ _ _ _ _ _ us ws l1 l2 => match us, l1, ws, l2 with | [_], _, [_], _ => rfl)⟩
theorem nm66 {x : Str} {d : He.DefD} (X : K.In h) (G : h.Ns mainGlobals mg) (hg : gloF x K = true) {st : Stmt} {fd : FuncData} {ps : List Str} (F : Fun K x x st (He.ga K x) fd)
    (hb : ∀ (kV doc pm : Value) (an : Option Addr) (cdv ct : Value) (us : List Value), us.length = ps.length → bindArgs (PySem.W.fnOf x x (defArgs st) (defBody st) (defScope st) .none kV doc pm an cdv ct) ⟨us, []⟩ = pure (ps.zip us)) :
    Nm K mg x (He.ga K x) fd ps := ⟨gloF_ok X G hg, F.kp, F.binds hb⟩
theorem end66 (X : K.In h) (G : h.Ns mainGlobals mg) (c : SaysX fx66 fn66 K) {fa : Addr} (hfa : mg ("law" : Str) = some (.ref fa)) :
    ∃ fd : FuncData, (∀ (s : Shared) (v : Value), BindsTo s fd ⟨[v], []⟩ [("_law_script", v)]) ∧ ∀ base : Heap, K.In base → base.Ns mainGlobals mg → FG P w K mg base CX0 4 fa fd ["_law_script"] (spLaw K) := by
  have T := t66 X G c
  have TP : PenT K mg := ⟨T.g_list, T.g_int, T.g_len, T.g_range⟩
  obtain ⟨fd0, D0⟩ := c.def_ 13 (d := d__law_pen) rfl
  have F0 : Fun K "_law_pen" "_law_pen" sPen (He.ga K "_law_pen") fd0 := fun_of D0
  have N0 : Nm K mg "_law_pen" (He.ga K "_law_pen") fd0 ["_law_script"] := nm66 (d := d__law_pen) X G (c.fact 65 rfl) F0 fun _ _ _ _ _ _ us hl => match us, hl with | [_], _ => rfl
  obtain ⟨fd1, D1⟩ := c.def_ 14 (d := d__law_fresh) rfl
  have F1 : Fun K "_law_fresh" "_law_fresh" sFresh (He.ga K "_law_fresh") fd1 := fun_of D1
  have N1 : Nm K mg "_law_fresh" (He.ga K "_law_fresh") fd1 ["_law_pen_here"] := nm66 (d := d__law_fresh) X G (c.fact 66 rfl) F1 fun _ _ _ _ _ _ us hl => match us, hl with | [_], _ => rfl
  obtain ⟨fd2, D2⟩ := c.def_ 15 (d := d__law_draw) rfl
  have F2 : Fun K "_law_draw" "_law_draw" sDraw (He.ga K "_law_draw") fd2 := fun_of D2
  have N2 : Nm K mg "_law_draw" (He.ga K "_law_draw") fd2 ["_law_pen_here", "_law_bound"] := nm66 (d := d__law_draw) X G (c.fact 67 rfl) F2 fun _ _ _ _ _ _ us hl => match us, hl with | [_, _], _ => rfl
  obtain ⟨fd3, D3⟩ := c.def_ 16 (d := d__law_one_of) rfl
  have F3 : Fun K "_law_one_of" "_law_one_of" sOneOf (He.ga K "_law_one_of") fd3 := fun_of D3
  have N3 : Nm K mg "_law_one_of" (He.ga K "_law_one_of") fd3 ["_law_pen_here", "_law_some"] := nm66 (d := d__law_one_of) X G (c.fact 68 rfl) F3 fun _ _ _ _ _ _ us hl => match us, hl with | [_, _], _ => rfl
  obtain ⟨fd4, D4⟩ := c.def_ 17 (d := d__law_which) rfl
  have F4 : Fun K "_law_which" "_law_which" sWhich (He.ga K "_law_which") fd4 := fun_of D4
  have N4 : Nm K mg "_law_which" (He.ga K "_law_which") fd4 ["_law_e"] := nm66 (d := d__law_which) X G (c.fact 69 rfl) F4 fun _ _ _ _ _ _ us hl => match us, hl with | [_], _ => rfl
  obtain ⟨fd5, D5⟩ := c.def_ 18 (d := d__law_base) rfl
  have F5 : Fun K "_law_base" "_law_base" sBase (He.ga K "_law_base") fd5 := fun_of D5
  have N5 : Nm K mg "_law_base" (He.ga K "_law_base") fd5 ["_law_e"] := nm66 (d := d__law_base) X G (c.fact 70 rfl) F5 fun _ _ _ _ _ _ us hl => match us, hl with | [_], _ => rfl
  obtain ⟨fd6, D6⟩ := c.def_ 19 (d := d__law_right) rfl
  have F6 : Fun K "_law_right" "_law_right" sRight (He.ga K "_law_right") fd6 := fun_of D6
  have N6 : Nm K mg "_law_right" (He.ga K "_law_right") fd6 ["_law_seat", "_law_base_here", "_law_made"] := nm66 (d := d__law_right) X G (c.fact 71 rfl) F6 fun _ _ _ _ _ _ us hl => match us, hl with | [_, _, _], _ => rfl
  obtain ⟨fd7, D7⟩ := c.def_ 20 (d := d__law_indexed) rfl
  have F7 : Fun K "_law_indexed" "_law_indexed" sIndexed (He.ga K "_law_indexed") fd7 := fun_of D7
  have N7 : Nm K mg "_law_indexed" (He.ga K "_law_indexed") fd7 ["_law_count"] := nm66 (d := d__law_indexed) X G (c.fact 72 rfl) F7 fun _ _ _ _ _ _ us hl => match us, hl with | [_], _ => rfl
  obtain ⟨fd8, D8⟩ := c.def_ 21 (d := d__law_others) rfl
  have F8 : Fun K "_law_others" "_law_others" sOthers (He.ga K "_law_others") fd8 := fun_of D8
  have N8 : Nm K mg "_law_others" (He.ga K "_law_others") fd8 ["_law_count", "_law_thing"] := nm66 (d := d__law_others) X G (c.fact 73 rfl) F8 fun _ _ _ _ _ _ us hl => match us, hl with | [_, _], _ => rfl
  obtain ⟨fd9, D9⟩ := c.def_ 22 (d := d_law) rfl
  have F9 : Fun K "law" "law" sLaw (He.ga K "law") fd9 := fun_of D9
  have N9 : Nm K mg "law" (He.ga K "law") fd9 ["_law_script"] := nm66 (d := d_law) X G (c.fact 74 rfl) F9 fun _ _ _ _ _ _ us hl => match us, hl with | [_], _ => rfl
  cases hfa.symm.trans N9.g
  refine ⟨fd9, fun s v => bind1_of F9 (fun _ _ _ _ _ _ _ => rfl) s v, fun base _ _ => ?_⟩
  have g0 : FG P w K mg base CX0 1 _ fd0 _ (spPen K) := ok_pen F0 T
  have g1 : FG P w K mg base CX0 1 _ fd1 _ spFresh := ok_fresh (k := 0) F1 TP
  have g2 : FG P w K mg base CX0 2 _ fd2 _ spDraw := ok_draw (k := 0) F2 TP g1 N1
  have g3 : FG P w K mg base CX0 3 _ fd3 _ spOneOf := ok_oneOf (k := 0) F3 TP g2 N2
  have g4 := ok_which (P := P) (w := w) (base := base) (k := 0) F4 T
  have g5 := ok_base (P := P) (w := w) (base := base) (k := 0) F5 T
  have g6 := ok_right (P := P) (w := w) (base := base) (k := 0) F6 T g4 N4 g5 N5
  have g7 := ok_indexed (k := 2) (k0 := 1) F7 T (by decide) g6 N6 (xm_InvalidBook X G c T) (xm_InvalidTimes X G c T) (xm_InvalidOrder X G c T) (xm_InvalidOffers X G c T)
  have g8 := ok_others (k := 2) (k0 := 1) F8 T (by decide) g6 N6 (xm_ParseError X G c T) (xm_UnknownWord X G c T) (xm_NoTimes X G c T) (xm_CannotRun X G c T) (xm_CannotWithdraw X G c T) (xm_TooMany X G c T) (xm_Refused X G c T)
  exact ok_law (k := 3) (k0 := 1) F9 T (by decide) (g0.up (by decide)) N0 g3 N3 (g2.up (by decide)) N2 g7 N7 g8 N8 (g6.up (by decide)) N6 (xm_InvalidClaim X G c T) (xm_NothingDone X G c T)
end
end DL
open PySem PySem.W PySem.Calls PyProof.Rows
theorem PySem.Challenge.cw_twobenches_k66_errors_required_holds : PySem.Challenge.rw_twobenches_k66_errors_required.Holds := by
  w_on; o_law
  refine HandSHeadRun.head_any (r := DL.R66) (q := view DL.R66.prog [24]) (H := DL.hk66) (ob := DL.ob66) (M := 9000) (loose := DL.loose66) (d := HandSHeadRun.topDef DL.R66.prog 24) (kwd := []) DL.ob66_eq
    (by kernel_rfl) (fun s => by kernel_rfl) DL.run66 (by kernel_rfl) (by kernel_rfl) (by kernel_rfl) (by rfl) (by first | assumption | decide +kernel) (by decide +kernel) ⟨rfl, rfl, rfl, rfl, rfl, by decide +kernel⟩ ?hw ?hc
  case hw => w_witness2
  case hc =>
    refine DL.end_walk (l := PySem.Challenge.rw_twobenches_k66_errors_required) (n := 63) (k := 4) (x := "_law_script") rfl (by decide) (by kernel_rfl) ⟨rfl, by decide, by decide⟩ ?F
    intro w mg fa h Y G hmg0
    obtain ⟨K, KX, c⟩ := Y
    have hmg : mg ("law" : PySem.Str) = some (.ref fa) := by
      have e : (HandSHeadRun.topDef DL.R66.prog 24).name = ("law" : PySem.Str) := by kernel_rfl
      rw [← e]
      exact hmg0
    obtain ⟨fd, hb, hF⟩ := DL.end66 (P := (PySem.Challenge.rw_twobenches_k66_errors_required).prog) (w := w) KX G c hmg
    exact ⟨K, fd, DL.spLaw K, KX, hb, fun H a ns hl _ hS => ⟨a, ns, rfl, hS, hl, fun _ => rfl⟩, hF⟩
