import PyProof.Rows.All
import HandS.ForMost
import HandS.ExcOwn
import HandS.ForExc
import HandS.Flow
import HandS.WideBits
import KE.DataEq
import KE.DataCmp
import KE.SortData
import KE.SortKeyHeap
import KE.DataMinMax
import KE.DataMinKey
import KE.DataAny
import KE.KeyNested
import PyProof.ReprRoads
import PyProof.ReprReads
import HandS.Lambda
import KE.KNestM
import HandS.Style
import KE.DataIsa
import PyProof.ListStr
import HandS.TupAny
import PyProof.Rows.StrOr
import HandS.Conv
import HandS.More
import HandS.Dict
import HandS.IsInst
import HandS.Zip
import HandS.Iter
import HandS.TryOnly
import HandS.Keys
import KE.KDictZip
import KE.KTurns
import HandS.Small
import HandS.Ends
import PySem.Challenge.RW_heightbook_k51_whole_climbs_of_ways
set_option Elab.async false
set_option linter.all false
set_option maxRecDepth 100000
/-! TL0: defs whose call is made with no repr running (FnG), their bodies, their calls. -/
namespace TL
open PySem PySem.Spec PyProof.Rows L2

/-- the tables of the code objects that make lambdas, each with its lambdas' name -/
class TabsC where
  T : List (Addr × Str)
/-- what a code object's table needs around it -/
def TbAt [I : TabsC] (base : Heap) (mg : Str → Option Value) : Prop := ∀ p ∈ I.T, base.BuiltinsAt mg p.1 ∧ mainGlobals ≠ p.1
/-- no table -/
def NT (o : HO) : Prop := ∀ ps, o ≠ .tbl ps
theorem NT.lst {xs : List V} : NT (.lst xs) := fun _ z => nomatch z
theorem NT.dK {xs : List (Key × V)} : NT (.dK xs) := fun _ z => nomatch z
theorem NT.dT {xs : List (List Key × V)} : NT (.dT xs) := fun _ z => nomatch z
/-- what is known of them: all tables that are tracked -/
structure Tbs [I : TabsC] (H : Hp) : Prop where
  at_ : ∀ p ∈ I.T, LamX.TabS H p.1 p.2
  only : ∀ a ps, H a = some (.tbl ps) → a ∈ I.T.map (·.1)
theorem Tbs.ext [TabsC] {H H' : Hp} (t : Tbs H) (h1 : ∀ b ps, H b = some (.tbl ps) → H' b = some (.tbl ps)) (h2 : ∀ b φ, H b = some (.ext φ) → H' b = some (.ext φ)) (h3 : ∀ b ps, H' b = some (.tbl ps) → H b = some (.tbl ps)) : Tbs H' := ⟨fun p hp => by
  obtain ⟨ps, a, b, c⟩ := t.at_ p hp
  refine ⟨ps, h1 _ _ a, b, fun pos cv hc => ?_⟩
  obtain ⟨k, e1, e2⟩ := c pos cv hc
  exact ⟨k, e1, h2 _ _ e2⟩, fun a ps e => t.only a ps (h3 a ps e)⟩
/-- a new object -/
theorem Tbs.new [TabsC] {H : Hp} {x : Addr} {o : HO} (t : Tbs H) (h : H x = none) (n : NT o) : Tbs (upd H x o) :=
  t.ext (fun b ps e => by rw [upd_ne (ne_of_none e h)]; exact e) (fun b ps e => by rw [upd_ne (ne_of_none e h)]; exact e) fun b ps e => by
    by_cases z : b = x
    · rw [z, upd_same] at e
      exact (n ps (Option.some.inj e)).elim
    · rw [upd_ne z] at e
      exact e
def Pln : HO → Prop
  | .tbl _ => False
  | .ext _ => False
  | _ => True
theorem Pln.nt {o : HO} (h : Pln o) : NT o := fun ps e => by subst e; exact h
/-- a list, a dict is written -/
theorem Tbs.put [TabsC] {H : Hp} {x : Addr} {o u : HO} (t : Tbs H) (h : H x = some u) (hu : Pln u) (n : Pln o) : Tbs (upd H x o) :=
  t.ext (fun b ps e => by rw [upd_ne fun z => by rw [z, h] at e; cases e; exact hu]; exact e) (fun b ps e => by rw [upd_ne fun z => by rw [z, h] at e; cases e; exact hu]; exact e) fun b ps e => by
    by_cases z : b = x
    · rw [z, upd_same] at e
      exact (n.nt ps (Option.some.inj e)).elim
    · rw [upd_ne z] at e
      exact e

/-- as FnOk, for calls around which no repr runs -/
structure FnG (P : Program) (w : World) (K : PySem.W.Frag) (mg : Str → Option Value)
    (base : Heap) (CX : CXT) (k : Nat) (f : Addr) (fd : FuncData) (ps : List Str) (sp : Sp) : Prop where
  len : ∀ vs H Q E, sp vs H Q E → vs.length = ps.length
  go : ∀ (A : Around) (outer : List Env) (s : Shared) (H : Hp) (args : Args)
    (us : List Value) (vs : List V) (Q : VK) (E : XK), Room k A → A.guards = some [] →
    Env0 P w K mg base A outer s H → BindsTo s fd args (ps.zip us) → Vals vs us → sp vs H Q E →
    codeAny (model P w) A (.call (.ref f) args) (CR CX outer P w H s Q E) s

section
variable {P : Program} {w : World} {K : PySem.W.Frag} {mg : Str → Option Value} {base : Heap}
  {CX : CXT} {k : Nat} {f : Addr} {fd : FuncData} {ps : List Str} {sp : Sp}
theorem FnG.mono {j : Nat} (F : FnG P w K mg base CX j f fd ps sp) (h : j ≤ k) :
    FnG P w K mg base CX k f fd ps sp :=
  ⟨F.len, fun A o s H a us vs Q E hr hg => F.go A o s H a us vs Q E (hr.mono h) hg⟩
theorem FnG.imp {sp' : Sp} (F : FnG P w K mg base CX k f fd ps sp)
    (h : ∀ vs H Q E, sp' vs H Q E → sp vs H Q E) : FnG P w K mg base CX k f fd ps sp' :=
  ⟨fun _ _ _ _ q => F.len _ _ _ _ (h _ _ _ _ q),
   fun A o s H a us vs Q E hr hg e0 hb hv hs => F.go A o s H a us vs Q E hr hg e0 hb hv (h _ _ _ _ hs)⟩

/-- a def of the text keeps its promise: by its body -/
theorem gn_of {x qual : Str} {st : Stmt} {N : List Str} (F : Fun K x qual st f fd)
    (S : FnScope N ps (defScope st)) (len : ∀ vs H Q E, sp vs H Q E → vs.length = ps.length)
    (body : ∀ (cdv : Value) (A : Around) (outer : List Env) (s : Shared) (H : Hp) (vs : List V)
      (Q : VK) (E : XK), fd.code = cdv → Room k (A.deeper (envOfC qual (defScope st) s.heap.objs.size f cdv)) →
      A.guards = some [] → sp vs H Q E →
      ∃ t, PSs (cxOf CX P w K mg base N qual (defScope st) f cdv A outer s H E) (defBody st) t ∧
        t { nx := fun _ H' => Q .non H', rt := Q } (start N vs) H) :
    FnG P w K mg base CX (k + 1) f fd ps sp := by
  obtain ⟨oc, od, kV, doc, pm, an, cdv, ct, osl, efd, lk, hcd⟩ := F.ex
  subst efd
  refine ⟨len, fun A outer s H args us vs Q E hr hg e0 hb r hsp => ?_⟩
  have hl := len _ _ _ _ hsp
  have KX : K.In s.heap := e0.mod.kin.keeps fun b o e => (e0.bs b o e).1
  have lim : s.heap.NoLimit := e0.mod.nolimit.keeps fun b o e => (e0.bs b o e).1
  refine codeAny_call_function hr.depth (KX _ _ lk) rfl S.co S.gen rfl
    (PySem.W.codeRec_of KX hcd) (hb _ _ _ _ ?_)
  refine wpAny_newFunctionEnv_cells S.kind (fun y hy => ?_) fun env he s1 x => ?_
  · obtain ⟨n, v⟩ := y
    cases S.par n (List.of_mem_zip hy).1 with
    | inl q => exact .inl q
    | inr q => exact .inr ⟨q, PySem.W.cellsFrom_some _ _ _ (.inl q)⟩
  subst he
  refine ⟨lim.keeps x.toInCall.keep, codeAny_func ?_⟩
  obtain ⟨t, ht, hq⟩ := body cdv A outer s H vs Q E rfl (hr.deeper _) hg hsp
  have I := inv_start (CX := CX) (E := E) (cd := cdv) (qual := qual) (f := f) S hr.hd e0 hl r x
  refine wpAny_mono (ht.run [] s1 (start N vs) H _ I hq) (fun fl s' hs => ?_) fun e s' hs => hs
  cases fl with
  | ret u =>
    obtain ⟨v, σ', H', J, rv, q⟩ := hs
    exact ⟨v, H', J.os, J.bare, J.base, J.hok, rv, q⟩
  | next =>
    obtain ⟨σ', H', J, q⟩ := hs
    exact ⟨.non, H', J.os, J.bare, J.base, J.hok, rfl, q⟩
  | brk =>
    obtain ⟨_, _, _, q⟩ := hs
    exact False.elim q
  | cont =>
    obtain ⟨_, _, _, q⟩ := hs
    exact False.elim q
end

section
variable {X : Cx} {CX : CXT} {k : Nat} {f : Addr} {fd : FuncData} {ps : List Str} {sp : Sp}
  {x : Str} {p pos : Pos} {e : Expr} {es : List Expr} {t tk : TA}
/-- the callee runs -/
theorem grun {E : XK} {pins : List (Addr × Obj)} {σ : L2.St} {H : Hp} {s : Shared} {Q : VK} {args : Args}
    {us : List Value} {vs : List V} (F : FnG X.prog X.w X.K X.mg X.base CX k f fd ps sp)
    (hr : Room k X.A) (hg : X.A.guards = some []) (hx : PassesAt CX X σ E) (I : Inv X pins σ H s)
    (hb : us.length = ps.length → BindsTo s fd args (ps.zip us)) (r : Vals vs us) (h : sp vs H Q E) :
    wpAny (model X.prog X.w) X.A (call (.ref f) args.pos args.kw) (EP X pins σ Q) X.xe s := by
  have hl : us.length = ps.length := by rw [← r.length]; exact F.len _ _ _ _ h
  refine wpAny_call (codeAny_mono (F.go X.A X.stack s H args us vs Q E hr hg I.env0 (hb hl) r h)
    fun r s' hq => ?_)
  cases r with
  | error e => exact hx pins H s e s' I hq
  | ok fl =>
    cases fl with
    | ret u => exact I.after hq
    | next => exact False.elim hq
    | brk => exact False.elim hq
    | cont => exact False.elim hq

theorem pg_call {E : L2.St → XK} (F : FnG X.prog X.w X.K X.mg X.base CX k f fd ps sp) (hr : Room k X.A)
    (hg : X.A.guards = some []) (hgl : Gl X x) (hm : X.mg x = some (.ref f))
    (hk : PySem.W.keepIn X.K (.ref f) = true) (hb : Binds X.K fd ps []) (hx : ∀ σ, PassesAt CX X σ (E σ))
    (ha : PA X (e :: es) t) (hdb : (x == ("__debug__" : Str)) = false)
    (he : starEach (e :: es) X.env = (false, eval e X.env) :: starEach es X.env)
    (hpl : (backTo pos (starEach es X.env)).any (·.1) = false) :
    PE X (.Call (.Name x p) (e :: es) [] pos) (fun σ H Q => t σ H fun vs H1 => sp vs H1 Q (E σ)) := by
  refine ⟨fun pins s σ H Q I h => ?_⟩
  refine wpAny_Call_Name_kw (ld_glob I hgl hm ?_ hdb)
  refine PySem.W.callWith_K (h₀ := X.base) I.ok.mod.kin hk (thn (ha.run pos pins s σ H _ I h)
    fun us s1 ⟨vs, H1, I1, r, q⟩ => ⟨I1.kIn, ?_⟩) he hpl
  exact grun (args := ⟨us, []⟩) F hr hg (hx σ) I1 (fun hl => by
    have := hb s1 us I1.kIn (by simpa using hl)
    simpa using this) r q
theorem pg_call0 {E : L2.St → XK} (F : FnG X.prog X.w X.K X.mg X.base CX k f fd ps sp) (hr : Room k X.A)
    (hg : X.A.guards = some []) (hgl : Gl X x) (hm : X.mg x = some (.ref f))
    (hk : PySem.W.keepIn X.K (.ref f) = true) (hb : Binds X.K fd ps []) (hx : ∀ σ, PassesAt CX X σ (E σ))
    (hdb : (x == ("__debug__" : Str)) = false) :
    PE X (.Call (.Name x p) [] [] pos) (fun σ H Q => sp [] H Q (E σ)) := by
  refine ⟨fun pins s σ H Q I h => ?_⟩
  refine wpAny_Call_Name_kw (ld_glob I hgl hm ?_ hdb)
  refine PySem.W.callWith_K0 I.kIn hk ?_
  exact grun (args := ⟨[], []⟩) (us := []) F hr hg (hx σ) I (fun hl => by
    have := hb s [] I.kIn (by simpa using hl)
    simpa using this) .nil h
theorem pg_callK {E : L2.St → XK} {ks : List Str} {g : List Value → List Value → List Value}
    {gV : List V → List V → List V} {kws : List Keyword}
    (F : FnG X.prog X.w X.K X.mg X.base CX k f fd ps sp) (hr : Room k X.A)
    (hg : X.A.guards = some []) (hgl : Gl X x) (hm : X.mg x = some (.ref f))
    (hk : PySem.W.keepIn X.K (.ref f) = true) (hb : KBinds X.K fd ps ks g gV) (hx : ∀ σ, PassesAt CX X σ (E σ))
    (ha : PA X (e :: es) t) (hkw : PK X kws tk)
    (hall : (backToKw pos (keywordEach kws X.env)).all (·.1.isSome) = true)
    (hks : (backToKw pos (keywordEach kws X.env)).filterMap (·.1) = ks)
    (hdb : (x == ("__debug__" : Str)) = false)
    (he : starEach (e :: es) X.env = (false, eval e X.env) :: starEach es X.env)
    (hpl : ((backTo pos (starEach (e :: es) X.env)).any (·.1) ||
      (backToKw pos (keywordEach kws X.env)).any (·.1.isNone)) = false) :
    PE X (.Call (.Name x p) (e :: es) kws pos)
      (fun σ H Q => t σ H fun vs H1 => tk σ H1 fun zs H2 => sp (gV vs zs) H2 Q (E σ)) := by
  refine ⟨fun pins s σ H Q I h => ?_⟩
  refine wpAny_Call_Name_kw (ld_glob I hgl hm ?_ hdb)
  refine PySem.W.callWith_KW (h₀ := X.base) I.ok.mod.kin hk hall
    (thn (ha.run pos pins s σ H _ I h) fun us s1 ⟨vs, H1, I1, r, q⟩ => ?_) hpl he
  refine thn (hkw.run pos pins s1 σ H1 _ I1 q) fun ws s2 ⟨zs, H2, I2, rz, q2⟩ => ⟨I2.kIn, ?_⟩
  rw [hks]
  exact grun (args := ⟨us, ks.zip ws⟩) F hr hg (hx σ) I2 (fun hl => hb.to s2 us ws I2.kIn hl) (hb.rel r rz) q2
end
end TL

set_option Elab.async false
set_option linter.all false
set_option maxRecDepth 100000
/-! TL1: values as trees of data over the abstract heap; heaps that grow; masks. -/
namespace TL
open PySem PySem.Spec PyProof.Rows L2

def keyD : Key → PyData
  | .inl i => .int i
  | .inr x => .str x

mutual
/-- the value v stands for the tree d in H -/
inductive Rp (K : PySem.W.Frag) (H : Hp) : V → PyData → Prop
  | non : Rp K H .non .none
  | bl (b : Bool) : Rp K H (.bl b) (.bool b)
  | int (i : Int) : Rp K H (.int i) (.int i)
  | str (x : Str) : Rp K H (.str x) (.str x)
  | lst {a : Addr} {xs : List V} {ds : List PyData} : H a = some (.lst xs) → RpA K H xs ds → Rp K H (.ref a) (.list ds)
  | tup {a : Addr} {xs : List V} {ds : List PyData} : SqT K H a xs → RpA K H xs ds → Rp K H (.ref a) (.tuple ds)
  | dK {a : Addr} {kvs : List (Key × V)} {ds : List (PyData × PyData)} : Rd H a (.dK kvs) → RpK K H kvs ds → Rp K H (.ref a) (.dict ds)
  | dT {a : Addr} {kvs : List (List Key × V)} {ds : List (PyData × PyData)} : Rd H a (.dT kvs) → RpTK K H kvs ds → Rp K H (.ref a) (.dict ds)
inductive RpA (K : PySem.W.Frag) (H : Hp) : List V → List PyData → Prop
  | nil : RpA K H [] []
  | cons {v : V} {vs : List V} {d : PyData} {ds : List PyData} : Rp K H v d → RpA K H vs ds → RpA K H (v :: vs) (d :: ds)
inductive RpK (K : PySem.W.Frag) (H : Hp) : List (Key × V) → List (PyData × PyData) → Prop
  | nil : RpK K H [] []
  | cons {k : Key} {v : V} {kvs : List (Key × V)} {d : PyData} {ds : List (PyData × PyData)} : Rp K H v d → RpK K H kvs ds → RpK K H ((k, v) :: kvs) ((keyD k, d) :: ds)
inductive RpTK (K : PySem.W.Frag) (H : Hp) : List (List Key × V) → List (PyData × PyData) → Prop
  | one {k : List Key} {v : V} {d : PyData} : Rp K H v d → RpTK K H [(k, v)] [(.tuple (k.map keyD), d)]
  | cons {k : List Key} {v : V} {kvs : List (List Key × V)} {d : PyData} {ds : List (PyData × PyData)} : Rp K H v d → RpTK K H kvs ds → RpTK K H ((k, v) :: kvs) ((.tuple (k.map keyD), d) :: ds)
end

/-- all that may be read in H may be read in H' -/
structure Le (H H' : Hp) : Prop where
  rd : ∀ a u, NT u → Rd H a u → Rd H' a u
  lst : ∀ a xs, H a = some (.lst xs) → H' a = some (.lst xs)
theorem Le.refl (H : Hp) : Le H H := ⟨fun _ _ _ h => h, fun _ _ h => h⟩
theorem Le.trans {H H1 H2 : Hp} (a : Le H H1) (b : Le H1 H2) : Le H H2 := ⟨fun x u n h => b.rd x u n (a.rd x u n h), fun x u h => b.lst x u (a.lst x u h)⟩
theorem Le.of {H H' : Hp} (h : ∀ a o, H a = some o → H' a = some o) : Le H H' := ⟨fun a u _ r => by
  rcases r with r | ⟨o, r⟩
  · exact .inl (h a _ r)
  · exact .inr ⟨o, h a _ r⟩, fun a xs e => h a _ e⟩
theorem Le.sqT {K : PySem.W.Frag} {H H' : Hp} {a : Addr} {xs : List V} (l : Le H H') (h : SqT K H a xs) : SqT K H' a xs := by
  rcases h with h | h
  · exact .inl (l.rd _ _ (fun _ z => nomatch z) h)
  · exact .inr h
section
variable {K : PySem.W.Frag} {H H' : Hp}
mutual
theorem Rp.le (l : Le H H') : ∀ {v : V} {d : PyData}, Rp K H v d → Rp K H' v d
  | _, _, .non => .non
  | _, _, .bl b => .bl b
  | _, _, .int i => .int i
  | _, _, .str x => .str x
  | _, _, .lst h r => .lst (l.lst _ _ h) (RpA.le l r)
  | _, _, .tup h r => .tup (l.sqT h) (RpA.le l r)
  | _, _, .dK h r => .dK (l.rd _ _ .dK h) (RpK.le l r)
  | _, _, .dT h r => .dT (l.rd _ _ .dT h) (RpTK.le l r)
theorem RpA.le (l : Le H H') : ∀ {vs : List V} {ds : List PyData}, RpA K H vs ds → RpA K H' vs ds
  | _, _, .nil => .nil
  | _, _, .cons a b => .cons (Rp.le l a) (RpA.le l b)
theorem RpK.le (l : Le H H') : ∀ {vs : List (Key × V)} {ds : List (PyData × PyData)}, RpK K H vs ds → RpK K H' vs ds
  | _, _, .nil => .nil
  | _, _, .cons a b => .cons (Rp.le l a) (RpK.le l b)
theorem RpTK.le (l : Le H H') : ∀ {vs : List (List Key × V)} {ds : List (PyData × PyData)}, RpTK K H vs ds → RpTK K H' vs ds
  | _, _, .one a => .one (Rp.le l a)
  | _, _, .cons a b => .cons (Rp.le l a) (RpTK.le l b)
end
theorem RpA.length : ∀ {vs : List V} {ds : List PyData}, RpA K H vs ds → vs.length = ds.length
  | _, _, .nil => rfl
  | _, _, .cons _ b => by rw [List.length_cons, List.length_cons, RpA.length b]
theorem RpA.get : ∀ {vs : List V} {ds : List PyData} {i : Nat} {d : PyData}, RpA K H vs ds → ds[i]? = some d → ∃ v, vs[i]? = some v ∧ Rp K H v d
  | _, _, _, _, .nil, e => by simp at e
  | _, _, 0, _, .cons a _, e => by simp at e; subst e; exact ⟨_, rfl, a⟩
  | _, _, i + 1, _, .cons _ b, e => by
    obtain ⟨v, h1, h2⟩ := RpA.get (i := i) b (by simpa using e)
    exact ⟨v, by simpa using h1, h2⟩
theorem RpA.getv {vs : List V} {ds : List PyData} {i : Nat} {v : V} (h : RpA K H vs ds) (e : vs[i]? = some v) : ∃ d, ds[i]? = some d ∧ Rp K H v d := by
  have hi : i < ds.length := by rw [← h.length]; exact (List.getElem?_eq_some_iff.mp e).1
  obtain ⟨w, hw, r⟩ := h.get (List.getElem?_eq_getElem hi)
  rw [hw] at e; cases e
  exact ⟨_, List.getElem?_eq_getElem hi, r⟩
theorem RpA.append : ∀ {vs : List V} {ds : List PyData} {vs' : List V} {ds' : List PyData}, RpA K H vs ds → RpA K H vs' ds' → RpA K H (vs ++ vs') (ds ++ ds')
  | _, _, _, _, .nil, h => h
  | _, _, _, _, .cons a b, h => .cons a (RpA.append b h)
theorem RpA.take : ∀ {vs : List V} {ds : List PyData} (n : Nat), RpA K H vs ds → RpA K H (vs.take n) (ds.take n)
  | _, _, 0, _ => .nil
  | _, _, _ + 1, .nil => .nil
  | _, _, n + 1, .cons a b => .cons a (RpA.take n b)
theorem RpA.drop : ∀ {vs : List V} {ds : List PyData} (n : Nat), RpA K H vs ds → RpA K H (vs.drop n) (ds.drop n)
  | _, _, 0, h => h
  | _, _, _ + 1, .nil => .nil
  | _, _, n + 1, .cons _ b => RpA.drop n b
theorem RpA.set : ∀ {vs : List V} {ds : List PyData} {v : V} {d : PyData} (i : Nat), Rp K H v d → RpA K H vs ds → RpA K H (vs.set i v) (ds.set i d)
  | _, _, _, _, _, _, .nil => .nil
  | _, _, _, _, 0, r, .cons _ b => .cons r b
  | _, _, _, _, i + 1, r, .cons a b => .cons a (RpA.set i r b)
theorem RpA.erase : ∀ {vs : List V} {ds : List PyData} (k : Nat), RpA K H vs ds → RpA K H (vs.eraseIdx k) (ds.eraseIdx k)
  | _, _, _, .nil => .nil
  | _, _, 0, .cons _ b => b
  | _, _, k + 1, .cons a b => .cons a (RpA.erase k b)
theorem RpA.one {v : V} {d : PyData} (h : Rp K H v d) : RpA K H [v] [d] := .cons h .nil
theorem RpA.reverse {vs : List V} {ds : List PyData} (h : RpA K H vs ds) : RpA K H vs.reverse ds.reverse := by
  induction vs generalizing ds with
  | nil => cases h; exact .nil
  | cons v vs ih =>
    cases h with
    | cons a b =>
      rw [List.reverse_cons, List.reverse_cons]
      exact (ih b).append (.one a)
theorem RpA.strs : ∀ (xs : List Str), RpA K H (xs.map V.str) (xs.map PyData.str)
  | [] => .nil
  | x :: xs => .cons (.str x) (RpA.strs xs)
theorem RpA.ints : ∀ (xs : List Int), RpA K H (xs.map V.int) (xs.map PyData.int)
  | [] => .nil
  | x :: xs => .cons (.int x) (RpA.ints xs)
end

/-! ### from the abstract heap to the heap -/
theorem RelV.key {k : Key} {u : Value} (h : keyIs k u = true) : Reads hp u (keyD k) [] := by
  rcases keyIs_shape h with ⟨i, t, rfl, rfl⟩ | ⟨x, t, rfl, rfl⟩
  · exact .int i t
  · exact .str x t
theorem reads_keys {P : Program} {w : World} {hp : Heap} : ∀ {ks : List Key} {us : List Value}, ItemsAre (mixKind P w) ks us → ReadsAll hp us (ks.map keyD) []
  | _, _, .nil => .nil
  | _, _, .cons a b => by
    have := ReadsAll.cons (as := []) (bs := []) (RelV.key (hp := hp) a) (reads_keys b)
    simpa using this
section
variable {X : Cx} {pins : List (Addr × Obj)} {σ : L2.St} {H : Hp} {s : Shared}
mutual
theorem Rp.reads (I : Inv X pins σ H s) : ∀ {v : V} {d : PyData} {u : Value}, Rp X.K H v d → RelV v u → ∃ as, Reads s.heap u d as
  | _, _, _, .non, r => by cases r; exact ⟨_, .none⟩
  | _, _, _, .bl b, r => by cases r; exact ⟨_, .bool b⟩
  | _, _, _, .int i, r => by obtain ⟨t, rfl⟩ := r; exact ⟨_, .int i t⟩
  | _, _, _, .str x, r => by obtain ⟨t, rfl⟩ := r; exact ⟨_, .str x t⟩
  | _, _, _, .lst (a := a) h ra, r => by
    cases r
    obtain ⟨its, rv, ⟨o, n, ho, hc, _, hd⟩, _⟩ := I.list (.of h)
    obtain ⟨as, hr⟩ := RpA.reads I ra rv
    exact ⟨_, .list ho hc hd hr⟩
  | _, _, _, .tup (a := a) h ra, r => by
    cases r
    obtain ⟨its, rv, ⟨o, ho, hc, n, hd⟩, _⟩ := I.tuple h
    obtain ⟨as, hr⟩ := RpA.reads I ra rv
    exact ⟨_, .tuple ho hc hd hr⟩
  | _, _, _, .dK (a := a) h ra, r => by
    cases r
    obtain ⟨_, hne, vs, rv, o, es, ep, ho, hx, hd, _, hp, _⟩ := dk_rd I.hok h
    obtain ⟨as, h1, h2⟩ := RpK.reads I ra rv hp
    exact ⟨_, .dict ho hx.1 hd (as := []) h1 h2⟩
  | _, _, _, .dT (a := a) h ra, r => by
    cases r
    obtain ⟨_, hne, xs, rv, o, es, ep, ho, hx, hd, he, hk, _⟩ := dt_rd I.hok h
    obtain ⟨as, h1, h2⟩ := RpTK.reads I ra rv hk
    exact ⟨_, .dict ho hx.1 hd (as := []) (bs := as) (by rw [he]; exact h1) (by rw [he]; exact h2)⟩
theorem RpA.reads (I : Inv X pins σ H s) : ∀ {vs : List V} {ds : List PyData} {us : List Value}, RpA X.K H vs ds → Vals vs us → ∃ as, ReadsAll s.heap us ds as
  | _, _, _, .nil, r => by cases r; exact ⟨_, .nil⟩
  | _, _, _, .cons a b, r => by
    cases r with
    | cons r1 r2 =>
      obtain ⟨as, q1⟩ := Rp.reads I a r1
      obtain ⟨bs, q2⟩ := RpA.reads I b r2
      exact ⟨_, .cons q1 q2⟩
theorem RpK.reads (I : Inv X pins σ H s) : ∀ {kvs : List (Key × V)} {ds : List (PyData × PyData)} {vs : List (Key × Value)} {es : List DictEntry},
    RpK X.K H kvs ds → KV kvs vs → Pairs (mixKind X.prog X.w) es vs → ∃ as, ReadsAll s.heap (es.map (·.key)) (ds.map (·.1)) [] ∧ ReadsAll s.heap (es.map (·.val)) (ds.map (·.2)) as
  | _, _, _, _, .nil, r, p => by cases r; cases p; exact ⟨_, .nil, .nil⟩
  | _, _, _, _, .cons a b, r, p => by
    cases r with
    | cons r1 r2 =>
      cases p with
      | cons p1 p2 p3 =>
        obtain ⟨as, q1⟩ := Rp.reads I a r1.2
        obtain ⟨bs, q2, q3⟩ := RpK.reads I b r2 p3
        refine ⟨as ++ bs, ?_, ?_⟩
        · have h1 := r1.1
          simp only at h1
          have h3 := RelV.key (hp := s.heap) (k := _) p1
          rw [← h1] at h3
          have := ReadsAll.cons (as := []) (bs := []) h3 q2
          simpa using this
        · rw [List.map_cons, List.map_cons, p2]
          exact .cons q1 q3
theorem RpTK.reads (I : Inv X pins σ H s) : ∀ {kvs : List (List Key × V)} {ds : List (PyData × PyData)} {xs : List (List Key × Addr × Value)},
    RpTK X.K H kvs ds → KT H kvs xs → (∀ x ∈ xs, (tupleKind (mixKind X.prog X.w)).is s.heap x.1 x.2.1) →
    ∃ as, ReadsAll s.heap ((xs.map (entryOfKey (tupleKind (mixKind X.prog X.w)))).map (·.key)) (ds.map (·.1)) [] ∧ ReadsAll s.heap ((xs.map (entryOfKey (tupleKind (mixKind X.prog X.w)))).map (·.val)) (ds.map (·.2)) as
  | _, _, _, .one a, r, hk => by
    cases r with
    | cons r1 r2 =>
      cases r2
      obtain ⟨as, q1⟩ := Rp.reads I a r1.2.2
      refine ⟨as ++ [], ?_, ?_⟩
      · obtain ⟨o, its, n, e1, e2, e3, e4⟩ := hk _ (List.mem_cons_self ..)
        have h1 := r1.1
        simp only at h1
        rw [← h1] at e4
        exact ReadsAll.cons (as := []) (bs := []) (Reads.tuple (h := s.heap) e1 e2 e3 (reads_keys e4)) .nil
      · exact .cons q1 .nil
  | _, _, _, .cons a b, r, hk => by
    cases r with
    | cons r1 r2 =>
      obtain ⟨as, q1⟩ := Rp.reads I a r1.2.2
      obtain ⟨bs, q2, q3⟩ := RpTK.reads I b r2 fun x hx => hk x (List.mem_cons_of_mem _ hx)
      refine ⟨as ++ bs, ?_, ?_⟩
      · obtain ⟨o, its, n, e1, e2, e3, e4⟩ := hk _ (List.mem_cons_self ..)
        have h1 := r1.1
        simp only at h1
        rw [← h1] at e4
        exact ReadsAll.cons (as := []) (bs := []) (Reads.tuple (h := s.heap) e1 e2 e3 (reads_keys e4)) q2
      · exact .cons q1 q3
end

/-! ### how a value is shown (no dict of H's is sys.modules) -/
def Sh (P : Program) (w : World) (h : Heap) (u : Value) (x : PyData) : Prop := ∃ bs, ReadAtMost h x.depth bs ∧ ReprK P w bs h x.depth u x.shown
def ShA (P : Program) (w : World) (h : Heap) (us : List Value) (ds : List PyData) : Prop := ∃ bs, ReadAtMost h (PyData.depthAll ds) bs ∧ ReprAllK P w bs h (PyData.depthAll ds) us (PyData.shownAll ds)
def Tp (P : Program) (w : World) (h : Heap) (u : Value) (x : PyData) : Prop := ∀ a, u = .ref a → ∀ (A : Around) (E : Value → Shared → Prop) (t : Shared) (Q : Value → Shared → Prop), A.guards = some [] → A.units + (x.depth + 1) < cLine →
  (∀ b o, h.get? b = some o → t.heap.get? b = some o) → (∀ h' u tk, (∀ b o, t.heap.get? b = some o → h'.get? b = some o) → Q (.str x.shown u) { t with heap := h', toks := tk }) → wpAny (model P w) A (PySem.call (.builtin "repr") [.ref a]) Q E t
section
variable {P : Program} {w : World} {h : Heap}
theorem sh_two {ks vs : List Value} {xs ys : List PyData} (a : ShA P w h ks xs) (b : ShA P w h vs ys) : ∃ bs, ∀ n, PyData.depthAll xs ≤ n → PyData.depthAll ys ≤ n → ReadAtMost h n bs ∧ ReprAllK P w bs h n ks (PyData.shownAll xs) ∧ ReprAllK P w bs h n vs (PyData.shownAll ys) := by
  obtain ⟨c, c1, c2⟩ := a
  obtain ⟨d, d1, d2⟩ := b
  exact ⟨c ++ d, fun n h1 h2 => ⟨(c1.mono h1).append (d1.mono h2), c2.more_le (fun _ => List.mem_append_left d) h1, d2.more_le (fun _ => List.mem_append_right c) h2⟩⟩
theorem sh_list {a : Addr} {o : Obj} {n : Nat} {its : List Value} {ds : List PyData} {as : List Addr} (e1 : h.get? a = some o) (e2 : o.cls = .type "list") (e3 : o.data = .seq its.toArray n) (r : ReadsAll h its ds as) (q : ShA P w h its ds) (z : (PyData.shown (.list ds)).length ≤ sizeLine) :
    Sh P w h (.ref a) (.list ds) ∧ Tp P w h (.ref a) (.list ds) := by
  have R : Reads h (.ref a) (.list ds) _ := .list e1 e2 e3 r
  obtain ⟨bs, q1, q2⟩ := q
  have na : a ∉ bs := not_mem_of_deeper R (Nat.lt_succ_self (PyData.depthAll ds)) q1
  have mem : ReadAtMost h (PyData.depthAll ds + 1) (a :: bs) := ReadAtMost.cons R (Nat.le_succ (PyData.depthAll ds)) q1
  simp only [PyData.shown] at z
  cases its with
  | nil =>
    cases r
    refine ⟨⟨a :: bs, mem, ?_⟩, fun b eb A E t Q hg hu hk hQ => ?_⟩
    · simp only [PyData.shown, PyData.shownAll, listText_nil]
      exact ReprK.listEmpty e1 e2 e3
    · cases eb
      simp only [PyData.shown, PyData.shownAll, listText_nil] at hQ
      exact call_repr_slot (by omega) ⟨o, hk _ _ e1, e2⟩ F.slot_list_repr.toG (call_list_repr_empty ⟨o, hk _ _ e1, e2⟩ (hk _ _ e1) e3 ⟨_, _, rfl, hQ t.heap _ _ fun _ _ e => e⟩)
  | cons x l =>
    have at_ : ∀ (i : Nat) (y : Value), (x :: l).toArray[i]? = some y → ∃ t, (PyData.shownAll ds)[i]? = some t ∧ ReprK P w bs h (PyData.depthAll ds) y t := fun i y e => q2.item i y (by simpa using e)
    refine ⟨⟨a :: bs, mem, ?_⟩, fun b eb A E t Q hg hu hk hQ => ?_⟩
    · simp only [PyData.shown]
      exact ReprK.list e1 e2 e3 na (by simpa using q2.length_eq) at_
    · cases eb
      simp only [PyData.shown] at hQ
      refine call_repr_slot (by omega) ⟨o, hk _ _ e1, e2⟩ F.slot_list_repr.toG ?_
      exact call_list_reprK e1 e2 e3 na (by simpa using q2.length_eq) at_ hg (fun b _ => Clear.nil b) (by simp only [PyData.depth] at hu; show A.units + 1 + _ < _; omega) hk (fun h' u tk k => ⟨_, _, rfl, hQ h' u tk k⟩) z
theorem sh_tuple {a : Addr} {o : Obj} {n : Nat} {its : List Value} {ds : List PyData} {as : List Addr} (e1 : h.get? a = some o) (e2 : o.cls = .type "tuple") (e3 : o.data = .seq its.toArray n) (r : ReadsAll h its ds as) (q : ShA P w h its ds) (z : (PyData.shown (.tuple ds)).length ≤ sizeLine) :
    Sh P w h (.ref a) (.tuple ds) ∧ Tp P w h (.ref a) (.tuple ds) := by
  have R : Reads h (.ref a) (.tuple ds) _ := .tuple e1 e2 e3 r
  obtain ⟨bs, q1, q2⟩ := q
  have na : a ∉ bs := not_mem_of_deeper R (Nat.lt_succ_self (PyData.depthAll ds)) q1
  have mem : ReadAtMost h (PyData.depthAll ds + 1) (a :: bs) := ReadAtMost.cons R (Nat.le_succ (PyData.depthAll ds)) q1
  simp only [PyData.shown] at z
  refine ⟨⟨a :: bs, mem, ?_⟩, fun b eb A E t Q hg hu hk hQ => ?_⟩
  · simp only [PyData.shown]
    exact ReprK.tuple e1 e2 e3 na q2
  · cases eb
    simp only [PyData.shown] at hQ
    refine call_repr_slot (by omega) ⟨o, hk _ _ e1, e2⟩ F.slot_tuple_repr ?_
    exact call_tuple_reprK e1 e2 e3 na q2 hg (fun b _ => Clear.nil b) (by simp only [PyData.depth] at hu; show A.units + 1 + _ < _; omega) hk (fun h' u tk k => ⟨_, _, rfl, hQ h' u tk k⟩) z
theorem sh_dict {a : Addr} {o : Obj} {n : Nat} {es : Array DictEntry} {kvs : List (PyData × PyData)} {as bs : List Addr} (e1 : h.get? a = some o) (e2 : o.cls = .type "dict") (e3 : o.data = .dict es n) (ne : (a == sysModules) = false) (r1 : ReadsAll h (es.toList.map (·.key)) (kvs.map (·.1)) as) (r2 : ReadsAll h (es.toList.map (·.val)) (kvs.map (·.2)) bs)
    (q1 : ShA P w h (es.toList.map (·.key)) (kvs.map (·.1))) (q2 : ShA P w h (es.toList.map (·.val)) (kvs.map (·.2))) (z : (PyData.shown (.dict kvs)).length ≤ sizeLine) : Sh P w h (.ref a) (.dict kvs) ∧ Tp P w h (.ref a) (.dict kvs) := by
  have R : Reads h (.ref a) (.dict kvs) _ := .dict e1 e2 e3 r1 r2
  obtain ⟨cs, q⟩ := sh_two q1 q2
  obtain ⟨c0, c1, c2⟩ := q (PyData.depthKv kvs) (PyData.depthAll_keys_le kvs) (PyData.depthAll_vals_le kvs)
  have na : a ∉ cs := not_mem_of_deeper R (Nat.lt_succ_self (PyData.depthKv kvs)) c0
  have mem : ReadAtMost h (PyData.depthKv kvs + 1) (a :: cs) := ReadAtMost.cons R (Nat.le_succ (PyData.depthKv kvs)) c0
  simp only [PyData.shown] at z
  have two := ReprEntriesK.of_two es.toList _ _ c1 c2
  refine ⟨⟨a :: cs, mem, ?_⟩, fun b eb A E t Q hg hu hk hQ => ?_⟩
  · simp only [PyData.shown, PyData.shownKv_eq]
    exact ReprK.dict e1 e2 e3 ne na two
  · cases eb
    simp only [PyData.shown, PyData.shownKv_eq] at hQ
    refine call_repr_slot (by omega) ⟨o, hk _ _ e1, e2⟩ F.slot_dict_repr ?_
    exact call_dict_reprK e1 e2 e3 ne na two hg (fun b _ => Clear.nil b) (by simp only [PyData.depth] at hu; show A.units + 1 + _ < _; omega) hk (fun h' u tk k => ⟨_, _, rfl, hQ h' u tk k⟩) (by rw [← PyData.shownKv_eq]; exact z)
theorem sh_cons {u : Value} {us : List Value} {x : PyData} {ds : List PyData} (a : Sh P w h u x) (b : ShA P w h us ds) : ShA P w h (u :: us) (x :: ds) := by
  obtain ⟨c, c1, c2⟩ := a
  obtain ⟨d, d1, d2⟩ := b
  refine ⟨c ++ d, ?_, ?_⟩
  · simp only [PyData.depthAll]
    exact (c1.mono (Nat.le_max_left ..)).append (d1.mono (Nat.le_max_right ..))
  · simp only [PyData.depthAll, PyData.shownAll]
    exact .cons ((c2.more fun _ => List.mem_append_left d).level_le (Nat.le_max_left ..)) (d2.more_le (fun _ => List.mem_append_right c) (Nat.le_max_right ..))
theorem keys_noDict : ∀ {ks : List PyData}, (∀ k ∈ ks, k.hasDict = false) → PyData.hasDictAll ks = false
  | [], _ => rfl
  | k :: ks, h => by simp [PyData.hasDictAll, h k (List.mem_cons_self ..), keys_noDict fun x hx => h x (List.mem_cons_of_mem _ hx)]
theorem sh_keys {ks : List Value} {xs : List PyData} {as : List Addr} (r : ReadsAll h ks xs as) (s : PyData.showableAll xs = true) (n : ∀ k ∈ xs, k.hasDict = false) (z : ∀ t ∈ PyData.shownAll xs, t.length ≤ sizeLine) : ShA P w h ks xs :=
  ReprAllK.of_readsAll r s (fun h => by rw [keys_noDict n] at h; cases h) z
end
theorem keyD_noDict (k : Key) : (keyD k).hasDict = false := by cases k <;> rfl
theorem keyDs_noDict (ks : List Key) : (PyData.tuple (ks.map keyD)).hasDict = false := by
  show PyData.hasDictAll _ = false
  exact keys_noDict fun x hx => by
    obtain ⟨k, _, rfl⟩ := List.mem_map.mp hx
    exact keyD_noDict k
theorem RpK.keys {K : PySem.W.Frag} {H : Hp} : ∀ {kvs : List (Key × V)} {ds : List (PyData × PyData)}, RpK K H kvs ds → ∀ k ∈ ds.map (·.1), k.hasDict = false
  | _, _, .nil, _, h => nomatch h
  | _, _, .cons (k := k0) a b, k, h => by
    rcases List.mem_cons.mp h with rfl | h
    · exact keyD_noDict k0
    · exact RpK.keys b k h
theorem RpTK.keys {K : PySem.W.Frag} {H : Hp} : ∀ {kvs : List (List Key × V)} {ds : List (PyData × PyData)}, RpTK K H kvs ds → ∀ k ∈ ds.map (·.1), k.hasDict = false
  | _, _, .one (k := k0) a, k, h => by
    have h : k = .tuple (k0.map keyD) := by simpa using h
    rw [h]; exact keyDs_noDict k0
  | _, _, .cons (k := k0) a b, k, h => by
    rcases List.mem_cons.mp h with rfl | h
    · exact keyDs_noDict k0
    · exact RpTK.keys b k h
mutual
theorem Rp.shows (I : Inv X pins σ H s) : ∀ {v : V} {d : PyData} {u : Value}, Rp X.K H v d → RelV v u → d.showable = true → d.shown.length ≤ sizeLine → Sh X.prog X.w s.heap u d ∧ Tp X.prog X.w s.heap u d
  | _, _, _, .non, r, _, _ => by
    cases r
    exact ⟨⟨[], (fun _ h => nomatch h), by simp only [PyData.shown]; exact .of_is ReprIs.none _ _ _⟩, fun _ e => nomatch e⟩
  | _, _, _, .bl b, r, _, _ => by
    cases r
    exact ⟨⟨[], (fun _ h => nomatch h), by simp only [PyData.shown]; exact .of_is (ReprIs.bool b) _ _ _⟩, fun _ e => nomatch e⟩
  | _, _, _, .int i, r, hs, _ => by
    obtain ⟨t, rfl⟩ := r
    exact ⟨⟨[], (fun _ h => nomatch h), by simp only [PyData.shown]; exact .of_is (ReprIs.int t (by simpa [PyData.showable] using hs)) _ _ _⟩, fun _ e => nomatch e⟩
  | _, _, _, .str x, r, _, hz => by
    obtain ⟨t, rfl⟩ := r
    exact ⟨⟨[], (fun _ h => nomatch h), by simp only [PyData.shown]; exact .of_is (ReprIs.str x t (by simpa only [PyData.shown] using hz)) _ _ _⟩, fun _ e => nomatch e⟩
  | _, _, _, .lst (ds := ds) h ra, r, hs, hz => by
    cases r
    obtain ⟨its, rv, ⟨o, n, ho, hc, _, hd⟩, _⟩ := I.list (.of h)
    obtain ⟨as, hr⟩ := RpA.reads I ra rv
    exact sh_list ho hc hd hr (RpA.shows I ra rv (by simpa [PyData.showable] using hs) fun t ht => Nat.le_trans (listText_mem_le ht) (by simpa only [PyData.shown] using hz)) hz
  | _, _, _, .tup h ra, r, hs, hz => by
    cases r
    obtain ⟨its, rv, ⟨o, ho, hc, n, hd⟩, _⟩ := I.tuple h
    obtain ⟨as, hr⟩ := RpA.reads I ra rv
    exact sh_tuple ho hc hd hr (RpA.shows I ra rv (by simpa [PyData.showable] using hs) fun t ht => Nat.le_trans (tupleText_mem_le ht) (by simpa only [PyData.shown] using hz)) hz
  | _, _, _, .dK h ra, r, hs, hz => by
    cases r
    obtain ⟨_, hne, vs, rv, o, es, ep, ho, hx, hd, _, hp, _⟩ := dk_rd I.hok h
    obtain ⟨as, h1, h2⟩ := RpK.reads I ra rv hp
    have hz' := hz
    simp only [PyData.shown] at hz'
    obtain ⟨s1, s2⟩ := PyData.showableKv_split _ (by simpa [PyData.showable] using hs)
    exact sh_dict ho hx.1 hd hne h1 h2 (sh_keys h1 s1 ra.keys fun t ht => let ⟨_, hp, hl⟩ := PyData.shownKv_key_le _ t ht; Nat.le_trans hl (Nat.le_trans (dictText_mem_le hp) hz'))
      (RpK.shows I ra rv hp s2 fun t ht => let ⟨_, hp, hl⟩ := PyData.shownKv_val_le _ t ht; Nat.le_trans hl (Nat.le_trans (dictText_mem_le hp) hz')) hz
  | _, _, _, .dT h ra, r, hs, hz => by
    cases r
    obtain ⟨_, hne, xs, rv, o, es, ep, ho, hx, hd, he, hk, _⟩ := dt_rd I.hok h
    obtain ⟨as, h1, h2⟩ := RpTK.reads I ra rv hk
    have hz' := hz
    simp only [PyData.shown] at hz'
    obtain ⟨s1, s2⟩ := PyData.showableKv_split _ (by simpa [PyData.showable] using hs)
    have q1 := RpTK.shows I ra rv hk s2 fun t ht => let ⟨_, hp, hl⟩ := PyData.shownKv_val_le _ t ht; Nat.le_trans hl (Nat.le_trans (dictText_mem_le hp) hz')
    have q0 := sh_keys (P := X.prog) (w := X.w) h1 s1 ra.keys fun t ht => let ⟨_, hp, hl⟩ := PyData.shownKv_key_le _ t ht; Nat.le_trans hl (Nat.le_trans (dictText_mem_le hp) hz')
    rw [← he] at h1 h2 q0 q1
    exact sh_dict ho hx.1 hd hne h1 h2 q0 q1 hz
theorem RpA.shows (I : Inv X pins σ H s) : ∀ {vs : List V} {ds : List PyData} {us : List Value}, RpA X.K H vs ds → Vals vs us → PyData.showableAll ds = true → (∀ t ∈ PyData.shownAll ds, t.length ≤ sizeLine) → ShA X.prog X.w s.heap us ds
  | _, _, _, .nil, r, _, _ => by cases r; exact ⟨[], (fun _ h => nomatch h), by simp only [PyData.shownAll]; exact .nil⟩
  | _, _, _, .cons (d := d) (ds := ds) a b, r, hs, hz => by
    cases r with
    | cons r1 r2 =>
      have hs' : d.showable = true ∧ PyData.showableAll ds = true := by simpa [PyData.showableAll] using hs
      exact sh_cons (Rp.shows I a r1 hs'.1 (hz _ (by simp only [PyData.shownAll]; exact List.mem_cons_self ..))).1 (RpA.shows I b r2 hs'.2 fun t ht => hz t (by simp only [PyData.shownAll]; exact List.mem_cons_of_mem _ ht))
theorem RpK.shows (I : Inv X pins σ H s) : ∀ {kvs : List (Key × V)} {ds : List (PyData × PyData)} {vs : List (Key × Value)} {es : List DictEntry},
    RpK X.K H kvs ds → KV kvs vs → Pairs (mixKind X.prog X.w) es vs → PyData.showableAll (ds.map (·.2)) = true → (∀ t ∈ PyData.shownAll (ds.map (·.2)), t.length ≤ sizeLine) → ShA X.prog X.w s.heap (es.map (·.val)) (ds.map (·.2))
  | _, _, _, _, .nil, r, p, _, _ => by cases r; cases p; exact ⟨[], (fun _ h => nomatch h), by simp only [List.map_nil, PyData.shownAll]; exact .nil⟩
  | _, _, _, _, .cons (d := d) (ds := ds) a b, r, p, hs, hz => by
    cases r with
    | cons r1 r2 =>
      cases p with
      | cons p1 p2 p3 =>
        have hs' : d.showable = true ∧ PyData.showableAll (ds.map (·.2)) = true := by simpa [PyData.showableAll] using hs
        rw [List.map_cons, List.map_cons, p2]
        exact sh_cons (Rp.shows I a r1.2 hs'.1 (hz _ (by simp only [List.map_cons, PyData.shownAll]; exact List.mem_cons_self ..))).1 (RpK.shows I b r2 p3 hs'.2 fun t ht => hz t (by simp only [List.map_cons, PyData.shownAll]; exact List.mem_cons_of_mem _ ht))
theorem RpTK.shows (I : Inv X pins σ H s) : ∀ {kvs : List (List Key × V)} {ds : List (PyData × PyData)} {xs : List (List Key × Addr × Value)},
    RpTK X.K H kvs ds → KT H kvs xs → (∀ x ∈ xs, (tupleKind (mixKind X.prog X.w)).is s.heap x.1 x.2.1) → PyData.showableAll (ds.map (·.2)) = true → (∀ t ∈ PyData.shownAll (ds.map (·.2)), t.length ≤ sizeLine) →
    ShA X.prog X.w s.heap ((xs.map (entryOfKey (tupleKind (mixKind X.prog X.w)))).map (·.val)) (ds.map (·.2))
  | _, _, _, .one (d := d) a, r, hk, hs, hz => by
    cases r with
    | cons r1 r2 =>
      cases r2
      have hs' : d.showable = true := by simpa [PyData.showableAll] using hs
      exact sh_cons (Rp.shows I a r1.2.2 hs' (hz _ (by simp only [List.map_cons, PyData.shownAll]; exact List.mem_cons_self ..))).1 ⟨[], (fun _ h => nomatch h), by simp only [List.map_nil, PyData.shownAll]; exact .nil⟩
  | _, _, _, .cons (d := d) (ds := ds) a b, r, hk, hs, hz => by
    cases r with
    | cons r1 r2 =>
      have hs' : d.showable = true ∧ PyData.showableAll (ds.map (·.2)) = true := by simpa [PyData.showableAll] using hs
      exact sh_cons (Rp.shows I a r1.2.2 hs'.1 (hz _ (by simp only [List.map_cons, PyData.shownAll]; exact List.mem_cons_self ..))).1 (RpTK.shows I b r2 (fun x hx => hk x (List.mem_cons_of_mem _ hx)) hs'.2 fun t ht => hz t (by simp only [List.map_cons, PyData.shownAll]; exact List.mem_cons_of_mem _ ht))
end
end

/-! ### masks, generators, growth -/
/-- H without what stands at Z -/
def mask (H : Hp) (Z : List Addr) : Hp := fun a => if a ∈ Z then none else H a
theorem mask_some {H : Hp} {Z : List Addr} {a : Addr} {o : HO} (h : mask H Z a = some o) : a ∉ Z ∧ H a = some o := by
  unfold mask at h
  by_cases e : a ∈ Z
  · rw [if_pos e] at h; cases h
  · rw [if_neg e] at h; exact ⟨e, h⟩
theorem mask_of {H : Hp} {Z : List Addr} {a : Addr} (h : a ∉ Z) : mask H Z a = H a := if_neg h
theorem mask_le {H : Hp} {Z : List Addr} : Le (mask H Z) H := .of fun _ _ h => (mask_some h).2
theorem mask_sub {H : Hp} {Z Z' : List Addr} (h : ∀ a ∈ Z', a ∈ Z) : Le (mask H Z) (mask H Z') := .of fun a o e => by
  obtain ⟨n, e⟩ := mask_some e
  rw [mask_of fun z => n (h a z)]; exact e

/-- a generator of the law's: three ints, n draws so far -/
def GenAt (H : Hp) (g : Addr) (n : Nat) : Prop := ∃ a m c : Int, H g = some (.lst [.int a, .int m, .int c]) ∧
  0 ≤ a ∧ a < 2 ^ 2000 ∧ 0 ≤ m ∧ m < 2147483647 ∧ 0 ≤ c ∧ c ≤ 1000000 + n
/-- a dict may be locked -/
def Fk : HO → Prop
  | .dK _ => True
  | .dT _ => True
  | _ => False
/-- a dict may be locked, a table may grow -/
def Lk : HO → Prop
  | .dK _ => True
  | .dT _ => True
  | .tbl _ => True
  | _ => False
theorem Fk.lk {o : HO} (h : Fk o) : Lk o := by cases o <;> first | exact h | exact h.elim
theorem NT.of {o : HO} (h : ¬ Lk o) : NT o := fun ps e => by subst e; exact h trivial
theorem Fk.nt {o : HO} (h : Fk o) : NT o := fun ps e => by subst e; exact h
/-- o stands at a, or stands there locked -/
def Ex (H' : Hp) (a : Addr) (o : HO) : Prop := H' a = some o ∨ (Fk o ∧ ∃ ob, H' a = some (.frz ob o)) ∨ ∃ ps ps', o = .tbl ps ∧ H' a = some (.tbl ps')
theorem Ex.eq {H' : Hp} {a : Addr} {o : HO} (h : Ex H' a o) (n : ¬ Lk o) : H' a = some o := by
  rcases h with h | ⟨h, _⟩ | ⟨_, _, h, _⟩
  · exact h
  · exact (n h.lk).elim
  · exact (NT.of n _ h).elim
theorem Ex.rd {H' : Hp} {a : Addr} {o u : HO} (h : Ex H' a o) (n : NT u) (r : o = u ∨ ∃ ob, o = .frz ob u) : Rd H' a u := by
  rcases r with rfl | ⟨ob, rfl⟩
  · rcases h with h | ⟨_, ob, h⟩ | ⟨ps, _, z, _⟩
    · exact .inl h
    · exact .inr ⟨ob, h⟩
    · exact (n ps z).elim
  · exact .inr ⟨ob, h.eq fun z => z⟩
/-- behind a step: what stood stands (the generators may turn; a dict outside Z may be locked) -/
structure Gr (G Z : List Addr) (H : Hp) (G' Z' : List Addr) (H' : Hp) : Prop where
  ext : ∀ a o, a ∉ G → H a = some o → Ex H' a o
  exz : ∀ a o, a ∉ G → a ∈ Z → NT o → H a = some o → H' a = some o
  dom : ∀ a, H a ≠ none → H' a ≠ none
  new : ∃ L, G' = L ++ G ∧ Z' = L ++ Z ∧ ∀ g ∈ L, H g = none
theorem Gr.ex {G Z G' Z' : List Addr} {H H' : Hp} {a : Addr} {o : HO} (g : Gr G Z H G' Z' H') (ha : a ∉ G) (h : Ex H a o) : Ex H' a o := by
  rcases h with e' | ⟨k, u, e'⟩ | ⟨ps, ps', rfl, e'⟩
  · exact g.ext a o ha e'
  · exact .inr (.inl ⟨k, u, (g.ext a _ ha e').eq fun z => z⟩)
  · rcases g.ext a _ ha e' with e2 | ⟨k, _⟩ | ⟨_, p2, _, e2⟩
    · exact .inr (.inr ⟨ps, ps', rfl, e2⟩)
    · exact k.elim
    · exact .inr (.inr ⟨ps, p2, rfl, e2⟩)
/-- the state's own side -/
structure Ok [TabsC] (G Z : List Addr) (H : Hp) (n : Nat) : Prop where
  sub : ∀ g ∈ G, g ∈ Z
  dom : ∀ z ∈ Z, H z ≠ none
  gen : ∀ g ∈ G, GenAt H g n
  tab : Tbs H
theorem GenAt.mono {H : Hp} {g : Addr} {n n' : Nat} (h : GenAt H g n) (hn : n ≤ n') : GenAt H g n' := by
  obtain ⟨a, m, c, h1, h2, h3, h4, h5, h6, h7⟩ := h
  exact ⟨a, m, c, h1, h2, h3, h4, h5, h6, by omega⟩
section
variable {G Z G' Z' G2 Z2 : List Addr} {H H' H2 : Hp} {n n' : Nat}
theorem Gr.refl : Gr G Z H G Z H := ⟨fun _ _ _ h => .inl h, fun _ _ _ _ _ h => h, fun _ h => h, [], rfl, rfl, by simp⟩
theorem Gr.lst (g : Gr G Z H G' Z' H') {a : Addr} {xs : List V} (h : a ∉ G) (e : H a = some (.lst xs)) : H' a = some (.lst xs) := (g.ext a _ h e).eq fun z => z
theorem Gr.trans (a : Gr G Z H G' Z' H') (b : Gr G' Z' H' G2 Z2 H2) : Gr G Z H G2 Z2 H2 := by
  obtain ⟨L, rfl, rfl, hL⟩ := a.new
  obtain ⟨L', rfl, rfl, hL'⟩ := b.new
  have nG : ∀ x ob, x ∉ G → H x = some ob → x ∉ L ++ G := fun x ob hx e z => by
    rcases List.mem_append.mp z with z | z
    · rw [hL x z] at e; cases e
    · exact hx z
  refine ⟨fun x ob hx e => ?_, fun x ob hx hz nt e => b.exz x ob (nG x ob hx e) (List.mem_append_right _ hz) nt (a.exz x ob hx hz nt e), fun x e => b.dom x (a.dom x e), L' ++ L, by simp, by simp, fun g hg => ?_⟩
  · rcases a.ext x ob hx e with e' | ⟨k, u, e'⟩ | ⟨ps, ps', rfl, e'⟩
    · exact b.ext x ob (nG x ob hx e) e'
    · exact .inr (.inl ⟨k, u, (b.ext x _ (nG x ob hx e) e').eq fun z => z⟩)
    · rcases b.ext x _ (nG x _ hx e) e' with e2 | ⟨k, _⟩ | ⟨_, p2, _, e2⟩
      · exact .inr (.inr ⟨ps, ps', rfl, e2⟩)
      · exact k.elim
      · exact .inr (.inr ⟨ps, p2, rfl, e2⟩)
  · rcases List.mem_append.mp hg with hg | hg
    · cases q : H g with
      | none => rfl
      | some ob => exact absurd (hL' g hg) (a.dom g (by rw [q]; simp))
    · exact hL g hg
/-- the mask of what is not locked: as far as all stands, or stands locked -/
theorem le_ext {Z Z' : List Addr} {H H' : Hp} (h : ∀ a o, a ∉ Z → H a = some o → Ex H' a o) (hZ : ∀ a ∈ Z', a ∉ Z → H a = none) : Le (mask H Z) (mask H' Z') := by
  have key : ∀ a o, mask H Z a = some o → a ∉ Z' ∧ Ex H' a o := fun a o e => by
    obtain ⟨n, e⟩ := mask_some e
    refine ⟨fun z => ?_, h a o n e⟩
    rw [hZ a z n] at e; cases e
  have up : ∀ a o, a ∉ Z' → Ex H' a o → Ex (mask H' Z') a o := fun a o n e => by
    unfold Ex
    rw [mask_of n]
    exact e
  refine ⟨fun a u nt r => ?_, fun a xs e => ?_⟩
  · rcases r with r | ⟨o, r⟩
    · obtain ⟨n, e⟩ := key a _ r
      exact (up a _ n e).rd nt (.inl rfl)
    · obtain ⟨n, e⟩ := key a _ r
      exact (up a _ n e).rd nt (.inr ⟨o, rfl⟩)
  · obtain ⟨n, e⟩ := key a _ e
    rw [mask_of n]
    exact e.eq fun z => z
/-- what is read behind Z is read behind Z' -/
theorem Gr.le (g : Gr G Z H G' Z' H') (hs : ∀ x ∈ G, x ∈ Z) : Le (mask H Z) (mask H' Z') := by
  obtain ⟨L, rfl, rfl, hL⟩ := g.new
  exact le_ext (fun a o n e => g.ext a o (fun z => n (hs a z)) e) fun a ha n => by
    rcases List.mem_append.mp ha with z | z
    · exact hL a z
    · exact absurd z n
/-- a new object -/
theorem Gr.upd {p : Addr} {o : HO} (h : H p = none) : Gr G Z H G Z (upd H p o) :=
  ⟨fun a u _ e => .inl (by rw [upd_ne (ne_of_none e h)]; exact e), fun a u _ _ _ e => by rw [upd_ne (ne_of_none e h)]; exact e, fun a e => by
    by_cases z : a = p
    · subst z; exact absurd h e
    · rw [upd_ne z]; exact e, [], rfl, rfl, by simp⟩
/-- a dict that is read is locked -/
theorem Gr.lock {d : Addr} {u : HO} {ob : Obj} (k : Fk u) (e : H d = some u) (hd : d ∉ Z) : Gr G Z H G Z (L2.upd H d (.frz ob u)) :=
  ⟨fun a o _ h => by
    by_cases z : a = d
    · subst z
      rw [e] at h
      cases h
      exact .inr (.inl ⟨k, ob, upd_same⟩)
    · exact .inl (by rw [upd_ne z]; exact h), fun a o _ ha _ h => by rw [upd_ne fun (z : a = d) => hd (by rw [← z]; exact ha)]; exact h, fun a h => by
    by_cases z : a = d
    · subst z; rw [upd_same]; simp
    · rw [upd_ne z]; exact h, [], rfl, rfl, by simp⟩
theorem Ok.lock [TabsC] {d : Addr} {u v : HO} {ob : Obj} (k : Ok G Z H n) (hv : H d = some v) (pv : Fk v) (hd : d ∉ Z) : Ok G Z (L2.upd H d (.frz ob u)) n :=
  ⟨k.sub, fun z hz e => k.dom z hz (by rwa [upd_ne fun (q : z = d) => hd (by rw [← q]; exact hz)] at e), fun g hg => by
    obtain ⟨a, m, c, h1, r⟩ := k.gen g hg
    exact ⟨a, m, c, by rw [upd_ne fun (q : g = d) => hd (by rw [← q]; exact k.sub g hg)]; exact h1, r⟩, k.tab.put hv (by cases v <;> first | trivial | exact pv.elim) trivial⟩
theorem Ok.upd [TabsC] {p : Addr} {o : HO} (k : Ok G Z H n) (h : H p = none) (nt : NT o := by exact fun _ z => nomatch z) : Ok G Z (upd H p o) n :=
  ⟨k.sub, fun z hz e => by
    by_cases q : z = p
    · subst q; exact k.dom z hz h
    · rw [upd_ne q] at e; exact k.dom z hz e, fun g hg => by
    obtain ⟨a, m, c, h1, r⟩ := k.gen g hg
    exact ⟨a, m, c, by rw [upd_ne (ne_of_none h1 h)]; exact h1, r⟩, k.tab.new h nt⟩
theorem Ok.there' [TabsC] (k : Ok G Z H n) {g : Addr} (hg : g ∈ G) : H g ≠ none := k.dom g (k.sub g hg)
theorem Ok.re [TabsC] (k : Ok G Z H n) : Ok G G H n := ⟨fun _ h => h, fun g hg => k.dom g (k.sub g hg), k.gen, k.tab⟩
theorem Ok.le [TabsC] (k : Ok G Z H n) (h : n ≤ n') : Ok G Z H n' := ⟨k.sub, k.dom, fun g hg => (k.gen g hg).mono h, k.tab⟩
end
end TL

set_option Elab.async false
set_option linter.all false
set_option maxRecDepth 100000
/-! TL2: a small syntax of places (slots), its meaning over trees. -/
namespace TL
open PySem

/-- what a name holds -/
inductive T where
  /-- data -/
  | d (x : PyData)
  /-- a generator of the law's -/
  | gen
  /-- the script -/
  | scr (ns : List Int)
/-- an expression's value; fr: it is a new object, nothing else holds it -/
structure R where
  t : T
  fr : Bool := false
/-- an error: its class by number, its value -/
structure Er where
  c : Nat
  x : PyData
/-- names' values by slot; the flag: a list or dict of this name's own -/
abbrev Ev := List (Option (Bool × T))
abbrev QE := R → Nat → Prop
abbrev XE := Er → Nat → Prop
abbrev TSp := List T → Nat → QE → XE → Prop

inductive BOp | add | sub | mul | fdiv | mod | pow
inductive COp | eq | ne | lt | le | gt | ge | is_ | isn | in_ | nin
inductive TyN | int | bool | str | list | tuple | dict
inductive Bi | len | sum | int | max2 | min2 | repr | all | any | sorted | list | tuple | abs | str | dict | max1 | min1
inductive Mt | join | bitlen
inductive SK | seq | seqw | rng1 | rng2 | zip
inductive Tg | nm (i : Nat) | tp (l : List Nat)
inductive Kb | sorted | min | max

mutual
inductive E where
  | c (x : PyData) | v (i : Nat) | w (i : Nat) | g (k : Nat)
  | bin (o : BOp) (a b : E) | neg (a : E) | not (a : E) | and (a b : E) | or (a b : E) | ife (c a b : E)
  | cmp (o : COp) (a b : E) | chain (o p : COp) (a b c : E)
  | lst (l : Es) | tup (l : Es) | dct (kvs : List (L2.Key × PyData)) | gix (i k : Nat)
  | ix (a i : E) | sl (a lo hi : E) | rev (a : E)
  | call (f : Nat) (l : Es) | callk (f : Nat) (l : Es) (pm : List Nat) (ks : Es)
  | isi (a : E) (t : TyN) | isi2 (a : E) (t u : TyN)
  | lrg (a : E) | bi (b : Bi) (l : Es) | mt (m : Mt) (a : E) (l : Es)
  | lc (own : List Nat) (tg : Tg) (k : SK) (src : Es) (cnd elt : E)
  | atm (a : E)
  | key (b : Kb) (i : Nat) (a body : E)
  | dzip (a b : E)
inductive Es where
  | nil | cons (a : E) (l : Es)
end

/-! ### operations on trees -/
def keySort (xs ks : List PyData) : List PyData := ((xs.zip ks).mergeSort (PySem.W.dataLe false (·.2))).map (·.1)
/-- the place of the first least (greatest) -/
def minAt (ns : List Int) : Nat := argBest (fun i j => decide (ns.getD i 0 < ns.getD j 0)) (ns.length - 1)
def maxAt (ns : List Int) : Nat := argBest (fun i j => decide (ns.getD i 0 > ns.getD j 0)) (ns.length - 1)
def atomD : PyData → Bool
  | .none => true | .bool _ => true | .int _ => true | .str _ => true | _ => false
def atom : T → Bool
  | .d x => atomD x
  | _ => false
def fitD : PyData → Prop
  | .str x => x.length ≤ sizeLine
  | .dict _ => False
  | _ => True
def truD : PyData → Bool
  | .none => false
  | .bool b => b
  | .int i => i != 0
  | .str x => (x.length : Int) != 0
  | .list xs => !xs.isEmpty
  | .tuple xs => !xs.isEmpty
  | .dict kvs => !kvs.isEmpty
/-- a value's truth -/
def truW : T → (Bool → Prop) → Prop
  | .d x, Q => fitD x ∧ Q (truD x)
  | _, _ => False
def mulOk (i j : Int) : Prop := (-(2 ^ 64) < i ∧ i < 2 ^ 64) ∨ (-(2 ^ 64) < j ∧ j < 2 ^ 64) ∨ ∃ a b : Nat, i.natAbs < 2 ^ a ∧ j.natAbs < 2 ^ b ∧ a + b ≤ 134217728
def strRep (x : Str) (k : Nat) : Str := ⟨(List.replicate k x.cps).foldl (· ++ ·) #[]⟩
def binW : BOp → T → T → (R → Prop) → Prop
  | .add, .d (.int i), .d (.int j), Q => Q ⟨.d (.int (i + j)), false⟩
  | .add, .d (.str x), .d (.str y), Q => x.length + y.length ≤ sizeLine ∧ Q ⟨.d (.str (x ++ y)), false⟩
  | .add, .d (.list xs), .d (.list ys), Q => xs.length + ys.length ≤ sizeLine ∧ Q ⟨.d (.list (xs ++ ys)), true⟩
  | .add, .d (.tuple xs), .d (.tuple ys), Q => xs.length + ys.length ≤ sizeLine ∧ Q ⟨.d (.tuple (xs ++ ys)), false⟩
  | .sub, .d (.int i), .d (.int j), Q => Q ⟨.d (.int (i - j)), false⟩
  | .mul, .d (.int i), .d (.int j), Q => mulOk i j ∧ Q ⟨.d (.int (i * j)), false⟩
  | .mul, .d (.str x), .d (.int j), Q => (2 ≤ j ∧ j < 1000000 ∧ x.length ≠ 0 ∧ x.length < 16 ∧ (strRep x j.toNat).length ≤ sizeLine) ∧ Q ⟨.d (.str (strRep x j.toNat)), false⟩
  | .mul, .d (.list xs), .d (.int j), Q => -(2 ^ 63) ≤ j ∧ j < 2 ^ 63 ∧ xs.length * j.toNat ≤ sizeLine ∧ Q ⟨.d (.list (List.replicate j.toNat xs).flatten), true⟩
  | .fdiv, .d (.int i), .d (.int j), Q => j ≠ 0 ∧ j.natAbs.log2 < 9000 ∧ Q ⟨.d (.int (i.fdiv j)), false⟩
  | .mod, .d (.int i), .d (.int j), Q => j ≠ 0 ∧ Q ⟨.d (.int (i.fmod j)), false⟩
  | .pow, .d (.int i), .d (.int j), Q => 0 ≤ j ∧ (Builtin.Int.intBits i : Int) * j ≤ 2 ^ 27 ∧ Q ⟨.d (.int (i ^ j.toNat)), false⟩
  | _, _, _, _ => False
def litIs : PyData → Bool
  | .none => true | .bool _ => true | _ => false
/-- x is lit: None, True, False -/
def isD : PyData → PyData → Bool
  | .none, .none => true
  | .bool a, .bool b => a == b
  | _, _ => false
def eqOk (x y : PyData) : Prop := x.plain = true ∧ y.plain = true ∧ x.depth ≤ 60
def ltOk (x y : PyData) : Prop := PySem.W.alike x y = true ∧ x ≠ .none ∧ x.depth ≤ 60
/-- keys of dicts: whole numbers, texts -/
def keyOk : PyData → Prop
  | .int _ => True
  | .str _ => True
  | _ => False
def keyEq : PyData → PyData → Bool
  | .int a, .int b => decide (a = b)
  | .str a, .str b => decide (a = b)
  | _, _ => false
def kOk (kvs : List (PyData × PyData)) : Prop := ∀ p ∈ kvs, keyOk p.1
def dGet (kvs : List (PyData × PyData)) (k : PyData) : Option PyData := (kvs.find? fun p => keyEq p.1 k).map (·.2)
/-- in its place, or at the end -/
def dPut (kvs : List (PyData × PyData)) (k v : PyData) : List (PyData × PyData) := if (kvs.any fun p => keyEq p.1 k) = true then kvs.map (fun p => if keyEq p.1 k = true then (p.1, v) else p) else kvs ++ [(k, v)]
def mergeD (l : List (PyData × PyData)) : List (PyData × PyData) := l.foldl (fun acc p => dPut acc p.1 p.2) []
def inOk (x : PyData) (ys : List PyData) : Prop := x.plain = true ∧ PyData.plainAll ys = true ∧ x.depth ≤ 60
def inW (x : PyData) : PyData → (Bool → Prop) → Prop
  | .list ys, Q => inOk x ys ∧ Q (ys.any fun y => PyData.eqv y x)
  | .tuple ys, Q => inOk x ys ∧ Q (ys.any fun y => PyData.eqv y x)
  | .str y, Q => ∃ z, x = .str z ∧ Q (!(Builtin.Str.occurrences y z 0 y.length 1).isEmpty)
  | .dict kvs, Q => (keyOk x ∧ kOk kvs) ∧ Q (dGet kvs x).isSome
  | _, _ => False
def cmpW : COp → T → T → (Bool → Prop) → Prop
  | .eq, .d x, .d y, Q => eqOk x y ∧ Q (PyData.eqv x y)
  | .ne, .d x, .d y, Q => eqOk x y ∧ Q (!PyData.eqv x y)
  | .lt, .d x, .d y, Q => ltOk x y ∧ Q (PySem.W.dataLt x y)
  | .gt, .d x, .d y, Q => ltOk x y ∧ Q (PySem.W.dataLt y x)
  | .le, .d x, .d y, Q => ltOk x y ∧ Q (!PySem.W.dataLt y x)
  | .ge, .d x, .d y, Q => ltOk x y ∧ Q (!PySem.W.dataLt x y)
  | .is_, .d x, .d y, Q => litIs y = true ∧ Q (isD x y)
  | .isn, .d x, .d y, Q => litIs y = true ∧ Q (!isD x y)
  | .in_, .d x, .d y, Q => inW x y Q
  | .nin, .d x, .d y, Q => inW x y fun b => Q (!b)
  | _, _, _, _ => False
def chr1 (c : Nat) : PyData := .str ⟨#[c]⟩
def ixW : T → T → (T → Prop) → Prop
  | .scr ns, .d (.int i), Q => ∃ x, L2.atI ns i = some x ∧ Q (.d (.int x))
  | .d (.list xs), .d (.int i), Q => ∃ x, L2.atI xs i = some x ∧ Q (.d x)
  | .d (.tuple xs), .d (.int i), Q => ∃ x, L2.atI xs i = some x ∧ Q (.d x)
  | .d (.str z), .d (.int i), Q => z.length ≤ sizeLine ∧ ∃ c, L2.atI z.cps.toList i = some c ∧ Q (.d (chr1 c))
  | .d (.dict kvs), .d k, Q => (keyOk k ∧ kOk kvs) ∧ ∃ y, dGet kvs k = some y ∧ Q (.d y)
  | _, _, _ => False
def cutD (xs : List PyData) (lo hi : Option Int) : List PyData :=
  (xs.drop (HT.sIx xs.length 0 lo)).take (HT.sIx xs.length xs.length hi - HT.sIx xs.length 0 lo)
def isNoB : E → Bool
  | .c .none => true | _ => false
/-- a slice's bound: none, or a number -/
def bnd : Bool → T → Option (Option Int)
  | true, _ => some none
  | false, .d (.int i) => some (some i)
  | _, _ => none
def slW (lo hi : Option Int) : T → (R → Prop) → Prop
  | .scr ns, Q => Q ⟨.d (.list (cutD (ns.map .int) lo hi)), true⟩
  | .d (.list xs), Q => Q ⟨.d (.list (cutD xs lo hi)), true⟩
  | .d (.tuple xs), Q => Q ⟨.d (.tuple (cutD xs lo hi)), false⟩
  | .d (.str z), Q => z.length ≤ sizeLine ∧ Q ⟨.d (.str (L2.cutS z lo hi)), false⟩
  | _, _ => False
def isTy : PyData → TyN → Bool
  | .int _, .int => true | .bool _, .int => true | .bool _, .bool => true | .str _, .str => true
  | .list _, .list => true | .tuple _, .tuple => true | .dict _, .dict => true | _, _ => false
/-- a dict whose keys are whole numbers or texts, or no dict -/
def isiOk : PyData → Prop
  | .dict kvs => kOk kvs
  | _ => True
def showOk (x : PyData) : Prop := x.showable = true ∧ x.shown.length ≤ sizeLine ∧ x.depth ≤ 60
def chars (z : Str) : List PyData := z.cps.toList.map chr1
/-- a list of ints, of bools, of texts -/
def intsOf : List PyData → Option (List Int)
  | [] => some []
  | .int i :: r => (intsOf r).map (i :: ·)
  | _ => none
def strsOf : List PyData → Option (List Str)
  | [] => some []
  | .str i :: r => (strsOf r).map (i :: ·)
  | _ => none
def sortOk (xs : List PyData) : Prop := PySem.W.AllAlike xs ∧ PySem.W.Sortable xs ∧ (∀ x ∈ xs, x.depth ≤ 60) ∧ xs.length ≤ sizeLine
/-- not more than 4300 figures -/
def strOk (i : Int) : Prop := i.natAbs.log2 < 14000
def biW : Bi → List T → (R → Prop) → Prop
  | .len, [.scr xs], Q => Q ⟨.d (.int xs.length), false⟩
  | .len, [.d (.list xs)], Q => Q ⟨.d (.int xs.length), false⟩
  | .len, [.d (.tuple xs)], Q => Q ⟨.d (.int xs.length), false⟩
  | .len, [.d (.str z)], Q => z.length ≤ sizeLine ∧ Q ⟨.d (.int z.length), false⟩
  | .len, [.d (.dict kvs)], Q => kOk kvs ∧ Q ⟨.d (.int kvs.length), false⟩
  | .sum, [.d (.list xs)], Q => ∃ ns, intsOf xs = some ns ∧ Q ⟨.d (.int ns.sum), false⟩
  | .int, [.d (.int i)], Q => Q ⟨.d (.int i), false⟩
  | .max2, [.d (.int i), .d (.int j)], Q => Q ⟨.d (.int (if j > i then j else i)), false⟩
  | .min2, [.d (.int i), .d (.int j)], Q => Q ⟨.d (.int (if j < i then j else i)), false⟩
  | .max1, [.d (.list xs)], Q => ∃ ns, intsOf xs = some ns ∧ ns ≠ [] ∧ ∀ m, m ∈ ns → (∀ a ∈ ns, a ≤ m) → Q ⟨.d (.int m), false⟩
  | .min1, [.d (.list xs)], Q => ∃ ns, intsOf xs = some ns ∧ ns ≠ [] ∧ ∀ m, m ∈ ns → (∀ a ∈ ns, m ≤ a) → Q ⟨.d (.int m), false⟩
  | .abs, [.d (.int i)], Q => Q ⟨.d (.int (if i < 0 then -i else i)), false⟩
  | .repr, [.d x], Q => showOk x ∧ Q ⟨.d (.str x.shown), false⟩
  | .str, [.d (.int i)], Q => strOk i ∧ Q ⟨.d (.str (toString i)), false⟩
  | .all, [.d (.list xs)], Q => (∀ x ∈ xs, ∃ b, x = .bool b) ∧ Q ⟨.d (.bool (xs.all truD)), false⟩
  | .any, [.d (.list xs)], Q => (∀ x ∈ xs, ∃ b, x = .bool b) ∧ Q ⟨.d (.bool (xs.any truD)), false⟩
  | .sorted, [.d (.list xs)], Q => sortOk xs ∧ Q ⟨.d (.list (xs.mergeSort (PySem.W.dataLe false id))), true⟩
  | .sorted, [.d (.dict kvs)], Q => (kOk kvs ∧ kvs.length < 64 ∧ ∃ ks, strsOf (kvs.map (·.1)) = some ks) ∧ Q ⟨.d (.list ((kvs.map (·.1)).mergeSort (PySem.W.dataLe false id))), true⟩
  | .list, [.d (.list xs)], Q => Q ⟨.d (.list xs), true⟩
  | .list, [.d (.tuple xs)], Q => Q ⟨.d (.list xs), true⟩
  | .list, [.d (.str z)], Q => z.length ≤ sizeLine ∧ Q ⟨.d (.list (chars z)), true⟩
  | .list, [.d (.dict kvs)], Q => kOk kvs ∧ Q ⟨.d (.list (kvs.map (·.1))), true⟩
  | .dict, [.d (.dict kvs)], Q => kOk kvs ∧ Q ⟨.d (.dict kvs), true⟩
  | .tuple, [.d (.list xs)], Q => Q ⟨.d (.tuple xs), false⟩
  | .tuple, [.d (.tuple xs)], Q => Q ⟨.d (.tuple xs), false⟩
  | _, _, _ => False
def mtW : Mt → T → List T → (R → Prop) → Prop
  | .join, .d (.str a), [.d (.list xs)], Q => ∃ ys, strsOf xs = some ys ∧ (ys.map (·.length)).sum + ys.length * a.length ≤ 16777216 ∧ Q ⟨.d (.str (Txt.join a ys)), false⟩
  | .bitlen, .d (.int i), [], Q => Q ⟨.d (.int (Builtin.Int.intBits i)), false⟩
  | _, _, _, _ => False
/-- what a method is asked of -/
def rcv : Mt → T → Prop
  | .join, .d (.str _) => True
  | .bitlen, .d (.int _) => True
  | _, _ => False
/-- what a loop walks: the items -/
def srcW : SK → List T → (List PyData → Prop) → Prop
  | .seq, [.d (.list xs)], Q => Q xs
  | .seq, [.d (.tuple xs)], Q => Q xs
  | .seq, [.d (.str z)], Q => Q (chars z)
  | .seq, [.d (.dict kvs)], Q => kOk kvs ∧ Q (kvs.map (·.1))
  | .seqw, [.d (.list xs)], Q => Q xs
  | .seqw, [.d (.tuple xs)], Q => Q xs
  | .seqw, [.d (.str z)], Q => Q (chars z)
  | .rng1, [.d (.int j)], Q => -(2 ^ 62) ≤ j ∧ j < 2 ^ 62 ∧ Q ((List.range j.toNat).map fun (m : Nat) => .int m)
  | .rng2, [.d (.int i), .d (.int j)], Q => (-(2 ^ 62) ≤ i ∧ i < 2 ^ 62 ∧ -(2 ^ 62) ≤ j ∧ j < 2 ^ 62) ∧ Q ((List.range (j - i).toNat).map fun (m : Nat) => .int (i + m))
  | .zip, [.d (.list xs), .d (.list ys)], Q => Q (List.zipWith (fun x y => .tuple [x, y]) xs ys)
  | .zip, [.d (.tuple xs), .d (.tuple ys)], Q => Q (List.zipWith (fun x y => .tuple [x, y]) xs ys)
  | _, _, _ => False

/-- sorted, min, max by keys -/
def keyW : Kb → List PyData → List PyData → (R → Prop) → Prop
  | .sorted, xs, ks, Q => (PySem.W.AllAlike ks ∧ PySem.W.Sortable ks ∧ ∀ k ∈ ks, k.depth ≤ 60) ∧ Q ⟨.d (.list (keySort xs ks)), true⟩
  | .min, xs, ks, Q => ∃ ns x, intsOf ks = some ns ∧ xs[minAt ns]? = some x ∧ Q ⟨.d x, false⟩
  | .max, xs, ks, Q => ∃ ns x, intsOf ks = some ns ∧ xs[maxAt ns]? = some x ∧ Q ⟨.d x, false⟩
/-- what stands in a generator's place k -/
def genB (k n : Nat) (z : Int) : Prop := match k with
  | 0 => 0 ≤ z ∧ z < 2 ^ 2000
  | 1 => 0 ≤ z ∧ z < 2147483647
  | _ => 0 ≤ z ∧ z ≤ 1000000 + n
/-! ### names -/
def stA (b : Bool) (t : T) (i : Nat) (ρ : Ev) : Ev := ρ.set i (some (b, t))
def setAll : List Nat → List PyData → Ev → Option Ev
  | [], [], ρ => some ρ
  | i :: is, x :: xs, ρ => setAll is xs (stA false (.d x) i ρ)
  | _, _, _ => none
def asgD : Tg → PyData → Ev → Option Ev
  | .nm i, x, ρ => some (stA false (.d x) i ρ)
  | .tp l, .tuple xs, ρ => setAll l xs ρ
  | .tp l, .list xs, ρ => setAll l xs ρ
  | _, _, _ => none
def wipeE (ρ : Ev) : List Nat → Ev
  | [] => ρ
  | v :: vs => (wipeE ρ vs).set v none
def unown1 : Option (Bool × T) → Option (Bool × T)
  | some (true, .d (.dict _)) => none
  | some (_, t) => some (false, t)
  | none => none
/-- nothing is one's own; dicts of one's own are away -/
def unown (ρ : Ev) : Ev := ρ.map unown1

/-- a list comprehension's turns -/
def lcGo (tg : Tg) (ρ : Ev) (cnd : Ev → Nat → (Bool → Nat → Prop) → Prop) (elt : Ev → Nat → QE → Prop) (Q : List PyData → Nat → Prop) : List PyData → List PyData → Nat → Prop
  | [], acc, n => Q acc n
  | x :: xs, acc, n => ∃ ρ', asgD tg x ρ = some ρ' ∧ cnd ρ' n fun b n => if b = true then elt ρ' n fun r n => ∃ y, r.t = .d y ∧ acc.length < sizeLine ∧ lcGo tg ρ cnd elt Q xs (acc ++ [y]) n else lcGo tg ρ cnd elt Q xs acc n

/-- all values are data -/
def datas : List T → Option (List PyData)
  | [] => some []
  | .d x :: r => (datas r).map (x :: ·)
  | _ => none

mutual
/-- THE MEANING: what must hold so that the expression gives a value with Q -/
def wpE (Φ : Nat → TSp) (C : Nat → PyData) (X : XE) : E → Ev → Nat → QE → Prop
  | .c x, _, n, Q => Q ⟨.d x, false⟩ n
  | .v i, ρ, n, Q => ∃ t, ρ[i]? = some (some (false, t)) ∧ Q ⟨t, false⟩ n
  | .w i, ρ, n, Q => ∃ b t, ρ[i]? = some (some (b, t)) ∧ Q ⟨t, false⟩ n
  | .g k, _, n, Q => Q ⟨.d (C k), false⟩ n
  | .bin o a b, ρ, n, Q => wpE Φ C X a ρ n fun x n => wpE Φ C X b ρ n fun y n => binW o x.t y.t fun r => Q r n
  | .neg a, ρ, n, Q => wpE Φ C X a ρ n fun x n => ∃ i, x.t = .d (.int i) ∧ Q ⟨.d (.int (-i)), false⟩ n
  | .not a, ρ, n, Q => wpE Φ C X a ρ n fun x n => truW x.t fun b => Q ⟨.d (.bool !b), false⟩ n
  | .and a b, ρ, n, Q => wpE Φ C X a ρ n fun x n => truW x.t fun k => if k = true then wpE Φ C X b ρ n Q else Q ⟨x.t, false⟩ n
  | .or a b, ρ, n, Q => wpE Φ C X a ρ n fun x n => truW x.t fun k => if k = true then Q ⟨x.t, false⟩ n else wpE Φ C X b ρ n Q
  | .ife c a b, ρ, n, Q => wpE Φ C X c ρ n fun x n => truW x.t fun k => if k = true then wpE Φ C X a ρ n Q else wpE Φ C X b ρ n Q
  | .cmp o a b, ρ, n, Q => wpE Φ C X a ρ n fun x n => wpE Φ C X b ρ n fun y n => cmpW o x.t y.t fun k => Q ⟨.d (.bool k), false⟩ n
  | .chain o p a b c, ρ, n, Q => wpE Φ C X a ρ n fun x n => wpE Φ C X b ρ n fun y n => cmpW o x.t y.t fun k =>
      if k = true then wpE Φ C X c ρ n fun z n => cmpW p y.t z.t fun k => Q ⟨.d (.bool k), false⟩ n else Q ⟨.d (.bool false), false⟩ n
  | .lst l, ρ, n, Q => wpEs Φ C X l ρ n fun ts n => ∃ ds, datas ts = some ds ∧ ds.length ≤ sizeLine ∧ Q ⟨.d (.list ds), true⟩ n
  | .tup l, ρ, n, Q => wpEs Φ C X l ρ n fun ts n => ∃ ds, datas ts = some ds ∧ ds.length ≤ sizeLine ∧ Q ⟨.d (.tuple ds), false⟩ n
  | .dct kvs, ρ, n, Q => Q ⟨.d (.dict (kvs.map fun kv => (keyD kv.1, kv.2))), true⟩ n
  | .gix i k, ρ, n, Q => ∃ b, ρ[i]? = some (some (b, .gen)) ∧ ∀ z, genB k n z → Q ⟨.d (.int z), false⟩ n
  | .ix a i, ρ, n, Q => wpE Φ C X a ρ n fun x n => wpE Φ C X i ρ n fun y n => ixW x.t y.t fun t => Q ⟨t, false⟩ n
  | .sl a lo hi, ρ, n, Q => wpE Φ C X a ρ n fun x n => wpE Φ C X lo ρ n fun l n => ∃ i, bnd (isNoB lo) l.t = some i ∧ wpE Φ C X hi ρ n fun h n =>
      ∃ j, bnd (isNoB hi) h.t = some j ∧ slW i j x.t fun r => Q r n
  | .rev a, ρ, n, Q => wpE Φ C X a ρ n fun x n => ∃ xs, x.t = .d (.list xs) ∧ Q ⟨.d (.list xs.reverse), true⟩ n
  | .call f l, ρ, n, Q => wpEs Φ C X l ρ n fun ts n => Φ f ts n Q X
  | .callk f l pm ks, ρ, n, Q => wpEs Φ C X l ρ n fun ts n => wpEs Φ C X ks ρ n fun us n => ∃ ws, pm.mapM (fun j => (ts ++ us)[j]?) = some ws ∧ Φ f ws n Q X
  | .isi a t, ρ, n, Q => wpE Φ C X a ρ n fun x n => ∃ y, x.t = .d y ∧ Q ⟨.d (.bool (isTy y t)), false⟩ n
  | .isi2 a t u, ρ, n, Q => wpE Φ C X a ρ n fun x n => ∃ y, x.t = .d y ∧ isiOk y ∧ Q ⟨.d (.bool (isTy y t || isTy y u)), false⟩ n
  | .lrg a, ρ, n, Q => wpE Φ C X a ρ n fun x n => ∃ j, x.t = .d (.int j) ∧ (-(2 ^ 62) ≤ j ∧ j ≤ 16777216) ∧ Q ⟨.d (.list ((List.range j.toNat).map fun (m : Nat) => .int m)), true⟩ n
  | .bi b l, ρ, n, Q => wpEs Φ C X l ρ n fun ts n => biW b ts fun r => Q r n
  | .mt m a l, ρ, n, Q => wpE Φ C X a ρ n fun x n => rcv m x.t ∧ wpEs Φ C X l ρ n fun ts n => mtW m x.t ts fun r => Q r n
  | .lc own tg k src cnd elt, ρ, n, Q => wpEs Φ C X src ρ n fun ts n => srcW k ts fun ds =>
      lcGo tg (wipeE ρ own) (fun ρ n Q => wpE Φ C (fun _ _ => False) cnd ρ n fun x n => truW x.t fun b => Q b n) (fun ρ n Q => wpE Φ C (fun _ _ => False) elt ρ n Q)
        (fun acc n => Q ⟨.d (.list acc), true⟩ n) ds [] n
  | .atm a, ρ, n, Q => wpE Φ C (fun er n => atomD er.x = true ∧ X er n) a (unown ρ) n fun r n => atom r.t = true ∧ Q ⟨r.t, false⟩ n
  | .key b i a body, ρ, n, Q => wpE Φ C X a ρ n fun x n => ∃ xs ks, x.t = .d (.list xs) ∧ (ks.length = xs.length ∧ xs.length ≤ sizeLine) ∧
      (∀ (j : Nat) (d k : PyData), xs[j]? = some d → ks[j]? = some k → wpE Φ C (fun _ _ => False) body (stA false (.d d) i (wipeE ρ [i])) n fun r n' => n' = n ∧ r.t = .d k) ∧ keyW b xs ks fun r => Q r n
  | .dzip a b, ρ, n, Q => wpE Φ C X a ρ n fun x n => wpE Φ C X b ρ n fun y n => ∃ xs ys, x.t = .d (.list xs) ∧ y.t = .d (.list ys) ∧ (∀ k ∈ xs, keyOk k) ∧ Q ⟨.d (.dict (mergeD (xs.zip ys))), true⟩ n
def wpEs (Φ : Nat → TSp) (C : Nat → PyData) (X : XE) : Es → Ev → Nat → (List T → Nat → Prop) → Prop
  | .nil, _, n, Q => Q [] n
  | .cons a l, ρ, n, Q => wpE Φ C X a ρ n fun x n => wpEs Φ C X l ρ n fun ts n => Q (x.t :: ts) n
end

/-- values one by one, each with its sign -/
def wpEf (Φ : Nat → TSp) (C : Nat → PyData) (X : XE) : Es → Ev → Nat → (List R → Nat → Prop) → Prop
  | .nil, _, n, Q => Q [] n
  | .cons a l, ρ, n, Q => wpE Φ C X a ρ n fun x n => wpEf Φ C X l ρ n fun rs n => Q (x :: rs) n
/-- names get values -/
def slot (r : R) : Option (Bool × T) := some (r.fr, r.t)
def setR : List Nat → List R → Ev → Ev
  | i :: l, r :: rs, ρ => setR l rs (ρ.set i (slot r))
  | _, _, ρ => ρ

/-! ### monotone in what is wanted -/
theorem truW_mono {t : T} {Q Q' : Bool → Prop} (h : truW t Q) (q : ∀ b, Q b → Q' b) : truW t Q' := by
  cases t with
  | d x => exact ⟨h.1, q _ h.2⟩
  | gen => exact h
  | scr _ => exact h
theorem binW_mono {o : BOp} {x y : T} {Q Q' : R → Prop} (h : binW o x y Q) (q : ∀ b, Q b → Q' b) : binW o x y Q' := by
  unfold binW at h ⊢
  split at h <;> first
    | exact h.elim
    | exact q _ h
    | exact ⟨h.1, q _ h.2⟩
    | exact ⟨h.1, h.2.1, q _ h.2.2⟩
    | exact ⟨h.1, h.2.1, h.2.2.1, q _ h.2.2.2⟩
theorem inW_mono {x y : PyData} {Q Q' : Bool → Prop} (h : inW x y Q) (q : ∀ b, Q b → Q' b) : inW x y Q' := by
  cases y <;> first
    | exact h.elim
    | exact ⟨h.1, q _ h.2⟩
    | (obtain ⟨z, e, h⟩ := h; exact ⟨z, e, q _ h⟩)
theorem cmpW_mono {o : COp} {x y : T} {Q Q' : Bool → Prop} (h : cmpW o x y Q) (q : ∀ b, Q b → Q' b) : cmpW o x y Q' := by
  unfold cmpW at h ⊢
  split at h <;> first
    | exact h.elim
    | exact ⟨h.1, q _ h.2⟩
    | exact inW_mono h fun b => q _
theorem ixW_mono {x y : T} {Q Q' : T → Prop} (h : ixW x y Q) (q : ∀ b, Q b → Q' b) : ixW x y Q' := by
  unfold ixW at h ⊢
  split at h <;> first
    | exact h.elim
    | (obtain ⟨a, b, c⟩ := h; exact ⟨a, b, q _ c⟩)
    | (obtain ⟨l, a, b, c⟩ := h; exact ⟨l, a, b, q _ c⟩)
theorem slW_mono {lo hi : Option Int} {x : T} {Q Q' : R → Prop} (h : slW lo hi x Q) (q : ∀ b, Q b → Q' b) : slW lo hi x Q' := by
  unfold slW at h ⊢
  split at h <;> first
    | exact h.elim
    | exact ⟨h.1, q _ h.2⟩
    | exact q _ h
theorem biW_mono {b : Bi} {ts : List T} {Q Q' : R → Prop} (h : biW b ts Q) (q : ∀ b, Q b → Q' b) : biW b ts Q' := by
  unfold biW at h ⊢
  split at h <;> first
    | exact h.elim
    | exact q _ h
    | exact ⟨h.1, q _ h.2⟩
    | (obtain ⟨a, b, c, d⟩ := h; exact ⟨a, b, c, fun m h1 h2 => q _ (d m h1 h2)⟩)
    | (obtain ⟨a, b, c⟩ := h; exact ⟨a, b, q _ c⟩)
theorem mtW_mono {m : Mt} {x : T} {ts : List T} {Q Q' : R → Prop} (h : mtW m x ts Q) (q : ∀ b, Q b → Q' b) : mtW m x ts Q' := by
  unfold mtW at h ⊢
  split at h <;> first
    | exact h.elim
    | exact q _ h
    | exact ⟨h.1, q _ h.2⟩
    | (obtain ⟨a, b, c, d⟩ := h; exact ⟨a, b, c, q _ d⟩)
theorem srcW_mono {k : SK} {ts : List T} {Q Q' : List PyData → Prop} (h : srcW k ts Q) (q : ∀ b, Q b → Q' b) : srcW k ts Q' := by
  unfold srcW at h ⊢
  split at h <;> first
    | exact h.elim
    | exact q _ h
    | exact ⟨h.1, q _ h.2⟩
    | exact ⟨h.1, h.2.1, q _ h.2.2⟩
theorem keyW_mono {b : Kb} {xs ks : List PyData} {Q Q' : R → Prop} (h : keyW b xs ks Q) (q : ∀ r, Q r → Q' r) : keyW b xs ks Q' := by
  cases b with
  | sorted => exact ⟨h.1, q _ h.2⟩
  | min => obtain ⟨ns, x, e1, e2, h⟩ := h; exact ⟨ns, x, e1, e2, q _ h⟩
  | max => obtain ⟨ns, x, e1, e2, h⟩ := h; exact ⟨ns, x, e1, e2, q _ h⟩
theorem lcGo_mono {tg : Tg} {ρ : Ev} {cnd : Ev → Nat → (Bool → Nat → Prop) → Prop} {elt : Ev → Nat → QE → Prop} {Q Q' : List PyData → Nat → Prop}
    (hc : ∀ ρ n (P P' : Bool → Nat → Prop), cnd ρ n P → (∀ b n, P b n → P' b n) → cnd ρ n P') (he : ∀ ρ n (P P' : QE), elt ρ n P → (∀ r n, P r n → P' r n) → elt ρ n P') (q : ∀ l n, Q l n → Q' l n) :
    ∀ (ds acc : List PyData) (n : Nat), lcGo tg ρ cnd elt Q ds acc n → lcGo tg ρ cnd elt Q' ds acc n
  | [], acc, n, h => q _ _ h
  | d :: ds, acc, n, ⟨ρ', e, h⟩ => ⟨ρ', e, hc _ _ _ _ h fun b n h => by
      cases b with
      | true => exact he _ _ _ _ h fun r n ⟨y, e, l, h⟩ => ⟨y, e, l, lcGo_mono hc he q ds _ n h⟩
      | false => exact lcGo_mono hc he q ds acc n h⟩
def MonoPh (Φ : Nat → TSp) : Prop := ∀ f ts n (Q Q' : QE) (X X' : XE), Φ f ts n Q X → (∀ r n, Q r n → Q' r n) → (∀ e n, X e n → X' e n) → Φ f ts n Q' X'
mutual
theorem wpE_mono {Φ : Nat → TSp} {C : Nat → PyData} (M : MonoPh Φ) : ∀ {X : XE} (e : E) {ρ : Ev} {n : Nat} {Q Q' : QE}, wpE Φ C X e ρ n Q → (∀ r n, Q r n → Q' r n) → wpE Φ C X e ρ n Q'
  | X, .c x, ρ, n, Q, Q', h, q => q _ _ h
  | X, .v i, ρ, n, Q, Q', ⟨t, e, h⟩, q => ⟨t, e, q _ _ h⟩
  | X, .w i, ρ, n, Q, Q', ⟨b, t, e, h⟩, q => ⟨b, t, e, q _ _ h⟩
  | X, .g k, ρ, n, Q, Q', h, q => q _ _ h
  | X, .bin o a b, ρ, n, Q, Q', h, q => wpE_mono M a h fun _ _ h => wpE_mono M b h fun _ _ h => binW_mono h fun _ => q _ _
  | X, .neg a, ρ, n, Q, Q', h, q => wpE_mono M a h fun _ _ ⟨i, e, h⟩ => ⟨i, e, q _ _ h⟩
  | X, .not a, ρ, n, Q, Q', h, q => wpE_mono M a h fun _ _ h => truW_mono h fun _ => q _ _
  | X, .and a b, ρ, n, Q, Q', h, q => wpE_mono M a h fun _ _ h => truW_mono h fun k h => by
      cases k with
      | true => exact wpE_mono M b h q
      | false => exact q _ _ h
  | X, .or a b, ρ, n, Q, Q', h, q => wpE_mono M a h fun _ _ h => truW_mono h fun k h => by
      cases k with
      | true => exact q _ _ h
      | false => exact wpE_mono M b h q
  | X, .ife c a b, ρ, n, Q, Q', h, q => wpE_mono M c h fun _ _ h => truW_mono h fun k h => by
      cases k with
      | true => exact wpE_mono M a h q
      | false => exact wpE_mono M b h q
  | X, .cmp o a b, ρ, n, Q, Q', h, q => wpE_mono M a h fun _ _ h => wpE_mono M b h fun _ _ h => cmpW_mono h fun _ => q _ _
  | X, .chain o p a b c, ρ, n, Q, Q', h, q => wpE_mono M a h fun _ _ h => wpE_mono M b h fun _ _ h => cmpW_mono h fun k h => by
      cases k with
      | true => exact wpE_mono M c h fun _ _ h => cmpW_mono h fun _ => q _ _
      | false => exact q _ _ h
  | X, .lst l, ρ, n, Q, Q', h, q => wpEs_mono M l h fun _ _ ⟨ds, e, z, h⟩ => ⟨ds, e, z, q _ _ h⟩
  | X, .tup l, ρ, n, Q, Q', h, q => wpEs_mono M l h fun _ _ ⟨ds, e, z, h⟩ => ⟨ds, e, z, q _ _ h⟩
  | X, .dct _, ρ, n, Q, Q', h, q => q _ _ h
  | X, .gix i k, ρ, n, Q, Q', ⟨b, e, h⟩, q => ⟨b, e, fun z hz => q _ _ (h z hz)⟩
  | X, .ix a i, ρ, n, Q, Q', h, q => wpE_mono M a h fun _ _ h => wpE_mono M i h fun _ _ h => ixW_mono h fun _ => q _ _
  | X, .sl a lo hi, ρ, n, Q, Q', h, q => wpE_mono M a h fun _ _ h => wpE_mono M lo h fun _ _ ⟨i, e, h⟩ => ⟨i, e, wpE_mono M hi h fun _ _ ⟨j, e', h⟩ => ⟨j, e', slW_mono h fun _ => q _ _⟩⟩
  | X, .rev a, ρ, n, Q, Q', h, q => wpE_mono M a h fun _ _ ⟨xs, e, h⟩ => ⟨xs, e, q _ _ h⟩
  | X, .call f l, ρ, n, Q, Q', h, q => wpEs_mono M l h fun _ _ h => M _ _ _ _ _ _ _ h q fun _ _ h => h
  | X, .callk f l pm ks, ρ, n, Q, Q', h, q => wpEs_mono M l h fun _ _ h => wpEs_mono M ks h fun _ _ ⟨ws, e, h⟩ => ⟨ws, e, M _ _ _ _ _ _ _ h q fun _ _ h => h⟩
  | X, .isi a t, ρ, n, Q, Q', h, q => wpE_mono M a h fun _ _ ⟨y, e, h⟩ => ⟨y, e, q _ _ h⟩
  | X, .isi2 a t u, ρ, n, Q, Q', h, q => wpE_mono M a h fun _ _ ⟨y, e, o, h⟩ => ⟨y, e, o, q _ _ h⟩
  | X, .lrg a, ρ, n, Q, Q', h, q => wpE_mono M a h fun _ _ ⟨j, e, o, h⟩ => ⟨j, e, o, q _ _ h⟩
  | X, .bi b l, ρ, n, Q, Q', h, q => wpEs_mono M l h fun _ _ h => biW_mono h fun _ => q _ _
  | X, .mt m a l, ρ, n, Q, Q', h, q => wpE_mono M a h fun _ _ h => ⟨h.1, wpEs_mono M l h.2 fun _ _ h => mtW_mono h fun _ => q _ _⟩
  | X, .lc own tg k src cnd elt, ρ, n, Q, Q', h, q => by
      unfold wpE at h ⊢
      refine wpEs_mono M src h fun _ _ h => srcW_mono h fun ds h => ?_
      refine lcGo_mono (Q := fun acc n => Q ⟨.d (.list acc), true⟩ n) (Q' := fun acc n => Q' ⟨.d (.list acc), true⟩ n)
        (cnd := fun ρ n Q => wpE Φ C (fun _ _ => False) cnd ρ n fun x n => truW x.t fun b => Q b n) (elt := fun ρ n Q => wpE Φ C (fun _ _ => False) elt ρ n Q)
        (fun ρ' n' P P' h p => ?_) (fun ρ' n' P P' h p => wpE_mono M elt h p) (fun l n h => q _ _ h) ds [] _ h
      exact wpE_mono M cnd h fun _ _ h => truW_mono h fun _ => p _ _
  | X, .atm a, ρ, n, Q, Q', h, q => wpE_mono M a h fun _ _ ⟨e, h⟩ => ⟨e, q _ _ h⟩
  | X, .key b i a body, ρ, n, Q, Q', h, q => wpE_mono M a h fun _ _ ⟨xs, ks, e, l, t, h⟩ => ⟨xs, ks, e, l, t, keyW_mono h fun _ => q _ _⟩
  | X, .dzip a b, ρ, n, Q, Q', h, q => wpE_mono M a h fun _ _ h => wpE_mono M b h fun _ _ ⟨xs, ys, e1, e2, k, h⟩ => ⟨xs, ys, e1, e2, k, q _ _ h⟩
theorem wpEs_mono {Φ : Nat → TSp} {C : Nat → PyData} (M : MonoPh Φ) : ∀ {X : XE} (e : Es) {ρ : Ev} {n : Nat} {Q Q' : List T → Nat → Prop}, wpEs Φ C X e ρ n Q → (∀ r n, Q r n → Q' r n) → wpEs Φ C X e ρ n Q'
  | X, .nil, ρ, n, Q, Q', h, q => q _ _ h
  | X, .cons a l, ρ, n, Q, Q', h, q => wpE_mono M a h fun _ _ h => wpEs_mono M l h fun _ _ => q _ _
end
theorem wpEf_mono {Φ : Nat → TSp} {C : Nat → PyData} (M : MonoPh Φ) : ∀ {X : XE} (e : Es) {ρ : Ev} {n : Nat} {Q Q' : List R → Nat → Prop}, wpEf Φ C X e ρ n Q → (∀ r n, Q r n → Q' r n) → wpEf Φ C X e ρ n Q'
  | X, .nil, ρ, n, Q, Q', h, q => q _ _ h
  | X, .cons a l, ρ, n, Q, Q', h, q => wpE_mono M a h fun _ _ h => wpEf_mono M l h fun _ _ => q _ _
end TL

set_option Elab.async false
set_option linter.all false
set_option maxRecDepth 100000
/-! TL3: what a state is to be, what an expression's reading is. -/
namespace TL
open PySem PySem.Spec PyProof.Rows L2

theorem PE.imp {X : Cx} {e : Expr} {t t' : TE} (h : PE X e t) (q : ∀ σ H Q, t' σ H Q → t σ H Q) : PE X e t' :=
  ⟨fun pins s σ H Q I hw => h.run pins s σ H Q I (q σ H Q hw)⟩
theorem PT.imp {X : Cx} {e : Expr} {t t' : TT} (h : PT X e t) (q : ∀ σ H Q, t' σ H Q → t σ H Q) : PT X e t' :=
  ⟨fun pins s σ H Q I hw => h.run pins s σ H Q I (q σ H Q hw)⟩
theorem PI.imp {X : Cx} {tg e : Expr} {t t' : TI} (h : PI X tg e t) (q : ∀ σ H Q, t' σ H Q → t σ H Q) : PI X tg e t' :=
  ⟨fun pins s σ H Q I hw => h.run pins s σ H Q I (q σ H Q hw)⟩
theorem PI.or {X : Cx} {tg e : Expr} {t t' : TI} (h : PI X tg e t) (h' : PI X tg e t') : PI X tg e (fun σ H R => t σ H R ∨ t' σ H R) :=
  ⟨fun pins s σ H Q I hw => hw.elim (h.run pins s σ H Q I) (h'.run pins s σ H Q I)⟩
theorem PS.imp {X : Cx} {e : Stmt} {t t' : TS} (h : PS X e t) (q : ∀ D σ H, t' D σ H → t D σ H) : PS X e t' :=
  ⟨fun pins s σ H Q I hw => h.run pins s σ H Q I (q Q σ H hw)⟩
theorem PA.imp {X : Cx} {e : List Expr} {t t' : TA} (h : PA X e t) (q : ∀ σ H Q, t' σ H Q → t σ H Q) : PA X e t' :=
  ⟨fun pos pins s σ H Q I hw => h.run pos pins s σ H Q I (q σ H Q hw)⟩

theorem PK.imp {X : Cx} {e : List Keyword} {t t' : TA} (h : PK X e t) (q : ∀ σ H Q, t' σ H Q → t σ H Q) : PK X e t' :=
  ⟨fun pos pins s σ H Q I hw => h.run pos pins s σ H Q I (q σ H Q hw)⟩
/-- the text's own tables: what defs mean, what the module's constants are, their names; cn: the classes of errors; bl: built-ins that nothing hides -/
structure TCx where
  Φ : Nat → TSp
  C : Nat → PyData
  nm : Nat → Str
  hf : Nat → Bool
  ar : Nat → Nat
  gm : Nat → Str
  hc : Nat → Bool
  cn : Nat → Str
  bl : List Str
  kw : Nat → List Nat → Nat → List Str → Bool
  /-- lambdas may be made -/
  lm : Bool := false

/-! ### values -/
/-- a list that is read, never written -/
def SqF (K : PySem.W.Frag) (H : Hp) (a : Addr) (xs : List V) : Prop :=
  (∃ o, H a = some (.frz o (.lst xs))) ∨ ∃ (o : Obj) (its : Array Value) (n : Nat), K.lookup a = some o ∧ o.cls = .type "list" ∧ o.dict = none ∧ o.data = .seq its n ∧ its.size ≤ sizeLine ∧ Vals xs its.toList
theorem SqF.seq {K : PySem.W.Frag} {H : Hp} {a : Addr} {xs : List V} (h : SqF K H a xs) : SqL K H a xs := by
  rcases h with h | h
  · exact .inl (.inr h)
  · exact .inr h
def RpT (K : PySem.W.Frag) (H : Hp) (G Z : List Addr) (v : V) : T → Prop
  | .d x => Rp K (mask H Z) v x
  | .gen => ∃ g, g ∈ G ∧ v = .ref g
  | .scr ns => ∃ a, v = .ref a ∧ SqF K H a (ns.map V.int)
/-- a list or dict of one's own: the object may stand in Z, its items don't -/
def OwnAt (K : PySem.W.Frag) (H : Hp) (G Z : List Addr) (v : V) : PyData → Prop
  | .list ds => ∃ p vs, v = .ref p ∧ p ∉ G ∧ H p = some (.lst vs) ∧ RpA K (mask H Z) vs ds
  | .dict ds => ∃ p, v = .ref p ∧ (p ∉ G ∧ p ∈ Z) ∧ ((∃ kvs, H p = some (.dK kvs) ∧ RpK K (mask H Z) kvs ds) ∨ ∃ kvs, H p = some (.dT kvs) ∧ RpTK K (mask H Z) kvs ds)
  | _ => False
def OwnT (K : PySem.W.Frag) (H : Hp) (G Z : List Addr) (v : V) : T → Prop
  | .d x => OwnAt K H G Z v x
  | _ => False
def RW (K : PySem.W.Frag) (H : Hp) (G Z : List Addr) (v : V) (t : T) : Prop := RpT K H G Z v t ∨ OwnT K H G Z v t
def RV (K : PySem.W.Frag) (s : Bool) (H : Hp) (G Z : List Addr) (v : V) (t : T) : Prop := match s with
  | true => RpT K H G Z v t
  | false => RW K H G Z v t
/-- a new object of one's own -/
def Fresh (K : PySem.W.Frag) (H₀ H : Hp) (Z : List Addr) (v : V) : T → Prop
  | .d (.list ds) => ∃ p vs, v = .ref p ∧ H₀ p = none ∧ H p = some (.lst vs) ∧ RpA K (mask H (p :: Z)) vs ds
  | .d (.dict ds) => ∃ p, v = .ref p ∧ H₀ p = none ∧ ((∃ kvs, H p = some (.dK kvs) ∧ RpK K (mask H (p :: Z)) kvs ds) ∨ ∃ kvs, H p = some (.dT kvs) ∧ RpTK K (mask H (p :: Z)) kvs ds)
  | _ => False
def EnvR (K : PySem.W.Frag) (H : Hp) (G Z : List Addr) (σ : L2.St) (ρ : Ev) : Prop :=
  ∀ (i : Nat) (b : Bool) (t : T), ρ[i]? = some (some (b, t)) → ∃ v : V, σ[i]? = some (some v) ∧ (b = false → RpT K H G Z v t) ∧ (b = true → OwnT K H G Z v t)

section
variable {K : PySem.W.Frag} {G Z G' Z' : List Addr} {H H' : Hp} {n n' : Nat} {v : V} {t : T}
theorem SqF.mono [TabsC] {a : Addr} {xs : List V} (g : Gr G Z H G' Z' H') (o : Ok G Z H n) (h : SqF K H a xs) : SqF K H' a xs := by
  rcases h with ⟨ob, h⟩ | h
  · refine .inl ⟨ob, (g.ext a _ (fun z => ?_) h).eq fun z => z⟩
    obtain ⟨_, _, _, e, _⟩ := o.gen a z
    rw [h] at e; cases e
  · exact .inr h
theorem RpT.mono [TabsC] (g : Gr G Z H G' Z' H') (o : Ok G Z H n) (h : RpT K H G Z v t) : RpT K H' G' Z' v t := by
  cases t with
  | d x => exact Rp.le (g.le o.sub) h
  | gen =>
    obtain ⟨L, rfl, _, _⟩ := g.new
    obtain ⟨a, ha, e⟩ := h
    exact ⟨a, List.mem_append_right _ ha, e⟩
  | scr ns =>
    obtain ⟨a, e, h⟩ := h
    exact ⟨a, e, h.mono g o⟩
theorem notG (g : Gr G Z H G' Z' H') {p : Addr} {o : HO} (h : H p = some o) (hp : p ∉ G) : p ∉ G' := by
  obtain ⟨L, rfl, _, hL⟩ := g.new
  intro z
  rcases List.mem_append.mp z with z | z
  · rw [hL p z] at h; cases h
  · exact hp z
theorem _root_.TL.Gr.inZ (g : Gr G Z H G' Z' H') {p : Addr} (h : p ∈ Z) : p ∈ Z' := by
  obtain ⟨L, _, rfl, _⟩ := g.new
  exact List.mem_append_right _ h
theorem OwnT.mono [TabsC] (g : Gr G Z H G' Z' H') (o : Ok G Z H n) (h : OwnT K H G Z v t) : OwnT K H' G' Z' v t := by
  cases t with
  | gen => exact h
  | scr _ => exact h
  | d x =>
    cases x with
    | list ds =>
      obtain ⟨p, vs, e, hp, hH, r⟩ := h
      exact ⟨p, vs, e, notG g hH hp, g.lst hp hH, RpA.le (g.le o.sub) r⟩
    | dict ds =>
      obtain ⟨p, e, hp, ⟨kvs, hH, r⟩ | ⟨kvs, hH, r⟩⟩ := h
      · exact ⟨p, e, ⟨notG g hH hp.1, g.inZ hp.2⟩, .inl ⟨kvs, g.exz p _ hp.1 hp.2 .dK hH, RpK.le (g.le o.sub) r⟩⟩
      · exact ⟨p, e, ⟨notG g hH hp.1, g.inZ hp.2⟩, .inr ⟨kvs, g.exz p _ hp.1 hp.2 .dT hH, RpTK.le (g.le o.sub) r⟩⟩
    | none => exact h
    | bool b => exact h
    | int i => exact h
    | str s => exact h
    | tuple l => exact h
theorem RW.mono [TabsC] (g : Gr G Z H G' Z' H') (o : Ok G Z H n) (h : RW K H G Z v t) : RW K H' G' Z' v t := h.imp (RpT.mono g o) (OwnT.mono g o)
theorem RV.mono [TabsC] {s : Bool} (g : Gr G Z H G' Z' H') (o : Ok G Z H n) (h : RV K s H G Z v t) : RV K s H' G' Z' v t := by
  cases s with
  | true => exact RpT.mono g o h
  | false => exact RW.mono g o h
theorem RV.weak {s : Bool} (h : RV K s H G Z v t) : RW K H G Z v t := by
  cases s with
  | true => exact .inl h
  | false => exact h
theorem EnvR.mono [TabsC] {σ : L2.St} {ρ : Ev} (g : Gr G Z H G' Z' H') (o : Ok G Z H n) (h : EnvR K H G Z σ ρ) : EnvR K H' G' Z' σ ρ := by
  intro i b t e
  obtain ⟨v, h1, h2, h3⟩ := h i b t e
  exact ⟨v, h1, fun z => (h2 z).mono g o, fun z => (h3 z).mono g o⟩
theorem Fresh.back {H0 : Hp} {G0 Z0 : List Addr} (g : Gr G0 Z0 H0 G Z H) (h : Fresh K H H' Z' v t) : Fresh K H0 H' Z' v t := by
  have back : ∀ p, H p = none → H0 p = none := fun p e => by
    cases q : H0 p with
    | none => rfl
    | some o => exact absurd e (g.dom p (by rw [q]; simp))
  cases t with
  | gen => exact h
  | scr _ => exact h
  | d x =>
    cases x with
    | list ds =>
      obtain ⟨p, vs, e, hp, r⟩ := h
      exact ⟨p, vs, e, back p hp, r⟩
    | dict ds =>
      obtain ⟨p, e, hp, r⟩ := h
      exact ⟨p, e, back p hp, r⟩
    | none => exact h
    | bool b => exact h
    | int i => exact h
    | str s => exact h
    | tuple l => exact h
/-- all is read at the mask of the generators alone -/
theorem OwnAt.rp [TabsC] {x : PyData} (o : Ok G Z H n) (h : OwnAt K H G Z v x) : Rp K (mask H G) v x := by
  cases x with
  | list ds =>
    obtain ⟨p, vs, rfl, hp, hH, r⟩ := h
    exact .lst (by rw [mask_of hp]; exact hH) (RpA.le (mask_sub o.sub) r)
  | dict ds =>
    obtain ⟨p, rfl, hp, ⟨kvs, hH, r⟩ | ⟨kvs, hH, r⟩⟩ := h
    · exact .dK (.of (by rw [mask_of hp.1]; exact hH)) (RpK.le (mask_sub o.sub) r)
    · exact .dT (.of (by rw [mask_of hp.1]; exact hH)) (RpTK.le (mask_sub o.sub) r)
  | none => exact h.elim
  | bool b => exact h.elim
  | int i => exact h.elim
  | str s => exact h.elim
  | tuple l => exact h.elim
theorem RW.rp [TabsC] (o : Ok G Z H n) (h : RW K H G Z v t) : RpT K H G G v t := by
  rcases h with h | h
  · cases t with
    | d x => exact Rp.le (mask_sub o.sub) h
    | gen => exact h
    | scr _ => exact h
  · cases t with
    | d x => exact OwnAt.rp o h
    | gen => exact h.elim
    | scr _ => exact h.elim
theorem Rp.up {x : PyData} (h : Rp K (mask H Z) v x) : Rp K H v x := Rp.le mask_le h
theorem RW.data [TabsC] {x : PyData} (o : Ok G Z H n) (h : RW K H G Z v (.d x)) : Rp K H v x := Rp.up (RW.rp o h : Rp K (mask H G) v x)
def isDk : Option HO → Bool
  | some (.dK _) => true
  | some (.dT _) => true
  | _ => false
/-- the generators, and the dicts of one's own -/
def dks (H : Hp) (G Z : List Addr) : List Addr := G ++ Z.filter fun a => isDk (H a)
theorem dks_sub [TabsC] (o : Ok G Z H n) : ∀ a ∈ dks H G Z, a ∈ Z := fun a h => by
  rcases List.mem_append.mp h with h | h
  · exact o.sub a h
  · exact (List.mem_filter.mp h).1
theorem Ok.dks [TabsC] (o : Ok G Z H n) : Ok G (TL.dks H G Z) H n := ⟨fun _ h => List.mem_append_left _ h, fun z hz => o.dom z (dks_sub o z hz), o.gen, o.tab⟩
theorem getElem?_unown {ρ : Ev} {i : Nat} {b : Bool} {t : T} (e : (unown ρ)[i]? = some (some (b, t))) : b = false ∧ (ρ[i]? = some (some (false, t)) ∨ (ρ[i]? = some (some (true, t)) ∧ ∀ kvs, t ≠ .d (.dict kvs))) := by
  unfold unown at e
  rw [List.getElem?_map] at e
  cases q : ρ[i]? with
  | none => rw [q] at e; cases e
  | some w =>
    rw [q] at e
    have e : unown1 w = some (b, t) := by simpa using e
    cases w with
    | none => cases e
    | some p =>
      obtain ⟨c, t'⟩ := p
      cases c with
      | false =>
        have e : some (false, t') = some (b, t) := e
        cases e
        exact ⟨rfl, .inl rfl⟩
      | true =>
        by_cases hd : ∃ kvs, t' = .d (.dict kvs)
        · obtain ⟨kvs, rfl⟩ := hd
          cases e
        · have e2 : unown1 (some (true, t')) = some (false, t') := by
            cases t' with
            | gen => rfl
            | scr _ => rfl
            | d x => cases x <;> first | rfl | exact absurd ⟨_, rfl⟩ hd
          rw [e2] at e
          cases e
          exact ⟨rfl, .inr ⟨rfl, fun kvs z => hd ⟨kvs, z⟩⟩⟩
theorem RpT.sub {Y : List Addr} (h : ∀ a ∈ Y, a ∈ Z) (r : RpT K H G Z v t) : RpT K H G Y v t := by
  cases t with
  | d x => exact Rp.le (mask_sub h) r
  | gen => exact r
  | scr _ => exact r
theorem EnvR.unown [TabsC] {σ : L2.St} {ρ : Ev} (o : Ok G Z H n) (h : EnvR K H G Z σ ρ) : EnvR K H G (TL.dks H G Z) σ (TL.unown ρ) := by
  intro i b t e
  obtain ⟨hb, q⟩ := getElem?_unown e
  subst hb
  clear e
  rcases q with e | ⟨e, nd⟩
  · obtain ⟨v, h1, h2, h3⟩ := h i false t e
    exact ⟨v, h1, fun _ => (h2 rfl).sub (dks_sub o), fun z => nomatch z⟩
  · obtain ⟨v, h1, h2, h3⟩ := h i true t e
    refine ⟨v, h1, fun _ => ?_, fun z => nomatch z⟩
    have h3 := h3 rfl
    cases t with
    | gen => exact h3.elim
    | scr _ => exact h3.elim
    | d x =>
      cases x with
      | list ds =>
        obtain ⟨p, vs, rfl, hp, hH, r⟩ := h3
        have np : p ∉ TL.dks H G Z := fun z => by
          rcases List.mem_append.mp z with z | z
          · exact hp z
          · have := (List.mem_filter.mp z).2
            rw [hH] at this
            cases this
        exact Rp.lst (by rw [mask_of np]; exact hH) (RpA.le (mask_sub (dks_sub o)) r)
      | dict ds => exact absurd rfl (nd ds)
      | none => exact h3.elim
      | bool b => exact h3.elim
      | int i => exact h3.elim
      | str s => exact h3.elim
      | tuple l => exact h3.elim
theorem atom_any {s : Bool} {Y : List Addr} (h : RV K s H G Z v t) (a : atom t = true) : RpT K H' G' Y v t := by
  have key : ∀ x, atomD x = true → Rp K (mask H Z) v x → Rp K (mask H' Y) v x := fun x hx r => by
    cases r with
    | non => exact .non
    | bl b => exact .bl b
    | int i => exact .int i
    | str x => exact .str x
    | lst _ _ => cases hx
    | tup _ _ => cases hx
    | dK _ _ => cases hx
    | dT _ _ => cases hx
  cases t with
  | gen => cases a
  | scr _ => cases a
  | d x =>
    rcases h.weak with h | h
    · exact key x a h
    · cases x with
      | list ds => cases a
      | dict ds => cases a
      | none => exact h.elim
      | bool b => exact h.elim
      | int i => exact h.elim
      | str s => exact h.elim
      | tuple l => exact h.elim
end

/-! ### errors, states, readings -/
def ErAt (mg : Str → Option Value) (cn : Nat → Str) (K : PySem.W.Frag) (H : Hp) (Z : List Addr) (e : Er) (cls : Value) (d : Option Addr) : Prop :=
  mg (cn e.c) = some cls ∧ ∃ a v, d = some a ∧ H a = some (.xd [("value", v)]) ∧ Rp K (mask H Z) v e.x
def Wsh [TabsC] (mg : Str → Option Value) (cn : Nat → Str) (K : PySem.W.Frag) (Xt : XE) (Ew : XK) (G Z : List Addr) (H : Hp) : Prop :=
  ∀ er n' cls d H' G' Z', Xt er n' → Gr G Z H G' Z' H' → Ok G' Z' H' n' → ErAt mg cn K H' Z' er cls d → Ew cls d H'
structure Stt [TabsC] (mg : Str → Option Value) (cn : Nat → Str) (K : PySem.W.Frag) (Xt : XE) (Ew : XK) (G Z : List Addr) (H : Hp) (n : Nat) (σ : L2.St) (ρ : Ev) : Prop where
  ok : Ok G Z H n
  env : EnvR K H G Z σ ρ
  wsh : Wsh mg cn K Xt Ew G Z H
  len : ρ.length = σ.length
def Kq [TabsC] (K : PySem.W.Frag) (s : Bool) (G Z : List Addr) (H : Hp) (Q : VK) : QE := fun r n' =>
  ∀ v H' G' Z', Gr G Z H G' Z' H' → Ok G' Z' H' n' → RV K s H' G' Z' v r.t → (r.fr = true → Fresh K H H' Z' v r.t) → Q v H'
def sg : E → Bool
  | .w _ => false
  | _ => true
section
variable {mg : Str → Option Value} {cn : Nat → Str} {K : PySem.W.Frag} {Xt : XE} {Ew : XK} {G Z G' Z' : List Addr} {H H' : Hp} {n n' : Nat} {σ : L2.St} {ρ : Ev} {Q : VK}
theorem Wsh.mono [TabsC] (g : Gr G Z H G' Z' H') (h : Wsh mg cn K Xt Ew G Z H) : Wsh mg cn K Xt Ew G' Z' H' :=
  fun er n' cls d H2 G2 Z2 x g2 o2 e => h er n' cls d H2 G2 Z2 x (g.trans g2) o2 e
theorem Stt.mono [TabsC] (s : Stt mg cn K Xt Ew G Z H n σ ρ) (g : Gr G Z H G' Z' H') (o : Ok G' Z' H' n') : Stt mg cn K Xt Ew G' Z' H' n' σ ρ :=
  ⟨o, s.env.mono g s.ok, s.wsh.mono g, s.len⟩
theorem ErAt.sub {e : Er} {cls : Value} {d : Option Addr} {Y : List Addr} (h : ∀ a ∈ Y, a ∈ Z) (q : ErAt mg cn K H Z e cls d) : ErAt mg cn K H Y e cls d := by
  obtain ⟨h1, a, v, h2, h3, h4⟩ := q
  exact ⟨h1, a, v, h2, h3, Rp.le (mask_sub h) h4⟩
end
abbrev XS := L2.St → XK
/-- the expression's reading -/
def rd [TabsC] (Γ : TCx) (mg : Str → Option Value) (K : PySem.W.Frag) (Xt : XE) (Ew : XS) (e : E) : TE := fun σ H Q =>
  ∃ G Z n ρ, Stt mg Γ.cn K Xt (Ew σ) G Z H n σ ρ ∧ wpE Γ.Φ Γ.C Xt e ρ n (Kq K (sg e) G Z H Q)
/-- arguments, one by one; a sign tells how strong -/
def ArgR (K : PySem.W.Frag) (H : Hp) (G Z : List Addr) : List Bool → List V → List T → Prop
  | [], [], [] => True
  | s :: ss, v :: vs, t :: ts => RV K s H G Z v t ∧ ArgR K H G Z ss vs ts
  | _, _, _ => False
def sgs : Es → List Bool
  | .nil => []
  | .cons a l => sg a :: sgs l
def Kqs [TabsC] (K : PySem.W.Frag) (ss : List Bool) (G Z : List Addr) (H : Hp) (Q : List V → Hp → Prop) : List T → Nat → Prop := fun ts n' =>
  ∀ vs H' G' Z', Gr G Z H G' Z' H' → Ok G' Z' H' n' → ArgR K H' G' Z' ss vs ts → Q vs H'
def rds [TabsC] (Γ : TCx) (mg : Str → Option Value) (K : PySem.W.Frag) (Xt : XE) (Ew : XS) (l : Es) : TA := fun σ H Q =>
  ∃ G Z n ρ, Stt mg Γ.cn K Xt (Ew σ) G Z H n σ ρ ∧ wpEs Γ.Φ Γ.C Xt l ρ n (Kqs K (sgs l) G Z H Q)
section
variable {K : PySem.W.Frag} {G Z G' Z' : List Addr} {H H' : Hp} {n : Nat}
theorem ArgR.weak : ∀ {ss : List Bool} {vs : List V} {ts : List T}, ArgR K H G Z ss vs ts → Paired (RW K H G Z) vs ts
  | [], [], [], _ => .nil
  | _ :: _, _ :: _, _ :: _, h => .cons h.1.weak (ArgR.weak h.2)
  | [], _ :: _, _, h => h.elim
  | [], [], _ :: _, h => h.elim
  | _ :: _, [], _, h => h.elim
  | _ :: _, _ :: _, [], h => h.elim
theorem ArgR.strong : ∀ {ss : List Bool} {vs : List V} {ts : List T}, ss.all id = true → ArgR K H G Z ss vs ts → Paired (RpT K H G Z) vs ts
  | [], [], [], _, _ => .nil
  | s :: _, _ :: _, _ :: _, a, h => by
    rw [List.all_cons, Bool.and_eq_true] at a
    obtain ⟨a1, a2⟩ := a
    cases s with
    | false => cases a1
    | true => exact .cons h.1 (ArgR.strong a2 h.2)
  | [], _ :: _, _, _, h => h.elim
  | [], [], _ :: _, _, h => h.elim
  | _ :: _, [], _, _, h => h.elim
  | _ :: _, _ :: _, [], _, h => h.elim
theorem ArgR.mono [TabsC] (g : Gr G Z H G' Z' H') (o : Ok G Z H n) : ∀ {ss : List Bool} {vs : List V} {ts : List T}, ArgR K H G Z ss vs ts → ArgR K H' G' Z' ss vs ts
  | [], [], [], _ => trivial
  | _ :: _, _ :: _, _ :: _, h => ⟨h.1.mono g o, ArgR.mono g o h.2⟩
  | [], _ :: _, _, h => h.elim
  | [], [], _ :: _, h => h.elim
  | _ :: _, [], _, h => h.elim
  | _ :: _, _ :: _, [], h => h.elim
end
end TL

set_option Elab.async false
set_option linter.all false
set_option maxRecDepth 100000
/-! TL4: operators, built-ins by values, over trees. -/
namespace TL
open PySem PySem.Spec PyProof.Rows L2

section
variable {X : Cx} {pins : List (Addr × Obj)} {σ : L2.St} {H : Hp} {s : Shared}
theorem dreads (I : Inv X pins σ H s) {v : V} {u : Value} {x : PyData} (h : Rp X.K H v x) (r : RelV v u) : ∃ as, Reads s.heap u x as :=
  Rp.reads I h r
/-- a step that only gives out tokens and keeps all objects -/
theorem ep_tok {Q : VK} {tk : Nat} {v : V} {u : Value} (I : Inv X pins σ H s) (r : RelV v u) (q : Q v H) : EP X pins σ Q u { s with toks := tk } := ⟨v, H, I.tok tk, r, q⟩
theorem ep_keep {Q : VK} {h' : Heap} {tk : Nat} {v : V} {u : Value} (I : Inv X pins σ H s) (k : ∀ b o, s.heap.get? b = some o → h'.get? b = some o) (r : RelV v u) (q : Q v H) :
    EP X pins σ Q u { s with heap := h', toks := tk } := ⟨v, H, I.kept (t' := tk) k, r, q⟩
end

/-! ### truth -/
theorem tru_of {K : PySem.W.Frag} {H : Hp} {v : V} {x : PyData} (h : Rp K H v x) (f : fitD x) (hd : ∀ kvs, x ≠ .dict kvs) : TruV K v H (truD x) := by
  cases h with
  | non => rfl
  | bl b => rfl
  | int i => rfl
  | str x => exact ⟨f, rfl⟩
  | lst h r =>
    refine .inl ⟨_, .of h, ?_⟩
    cases r <;> rfl
  | tup h r =>
    refine .inr (.inl ⟨_, h, ?_⟩)
    cases r <;> rfl
  | dK h r => exact absurd rfl (hd _)
  | dT h r => exact absurd rfl (hd _)

/-! ### what is handed on -/
section
variable {K : PySem.W.Frag} {s : Bool} {G Z : List Addr} {H : Hp} {n : Nat} {Q : VK}
theorem Kq.int [TabsC] {i : Int} (h : Kq K s G Z H Q ⟨.d (.int i), false⟩ n) (o : Ok G Z H n) : Q (.int i) H :=
  h _ _ _ _ Gr.refl o (by cases s; exact .inl (.int i); exact .int i) (fun z => nomatch z)
theorem Kq.str [TabsC] {i : Str} (h : Kq K s G Z H Q ⟨.d (.str i), false⟩ n) (o : Ok G Z H n) : Q (.str i) H :=
  h _ _ _ _ Gr.refl o (by cases s; exact .inl (.str i); exact .str i) (fun z => nomatch z)
theorem Kq.bl [TabsC] {i : Bool} (h : Kq K s G Z H Q ⟨.d (.bool i), false⟩ n) (o : Ok G Z H n) : Q (.bl i) H :=
  h _ _ _ _ Gr.refl o (by cases s; exact .inl (.bl i); exact .bl i) (fun z => nomatch z)
theorem Kq.old [TabsC] {t : T} {v : V} (h : Kq K true G Z H Q ⟨t, false⟩ n) (o : Ok G Z H n) (r : RpT K H G Z v t) : Q v H :=
  h _ _ _ _ Gr.refl o r (fun z => nomatch z)
/-- a new list -/
theorem Kq.lst [TabsC] {ds : List PyData} {b : Bool} {vs : List V} {p : Addr} (h : Kq K true G Z H Q ⟨.d (.list ds), b⟩ n) (o : Ok G Z H n) (r : RpA K (mask H Z) vs ds) (hp : H p = none) : Q (.ref p) (upd H p (.lst vs)) := by
  have hz : p ∉ Z := fun z => o.dom p z hp
  have l1 : Le (mask H Z) (mask (upd H p (.lst vs)) Z) := (Gr.upd (G := G) (Z := Z) hp).le o.sub
  have l2 : Le (mask H Z) (mask (upd H p (.lst vs)) (p :: Z)) := .of fun a u e => by
    obtain ⟨h1, h2⟩ := mask_some e
    have hne : a ≠ p := fun z => by rw [z, hp] at h2; cases h2
    rw [mask_of (by simp [hne, h1]), upd_ne hne]; exact h2
  refine h _ _ _ _ (Gr.upd hp) (o.upd hp) (Rp.lst (by rw [mask_of hz, upd_same]) (RpA.le l1 r)) fun _ => ?_
  exact ⟨p, vs, rfl, hp, upd_same, RpA.le l2 r⟩
theorem Kq.tup [TabsC] {ds : List PyData} {vs : List V} {p : Addr} (h : Kq K true G Z H Q ⟨.d (.tuple ds), false⟩ n) (o : Ok G Z H n) (r : RpA K (mask H Z) vs ds) (hp : H p = none) : Q (.ref p) (upd H p (.tup vs)) := by
  have hz : p ∉ Z := fun z => o.dom p z hp
  have l1 : Le (mask H Z) (mask (upd H p (.tup vs)) Z) := (Gr.upd (G := G) (Z := Z) hp).le o.sub
  exact h _ _ _ _ (Gr.upd hp) (o.upd hp) (Rp.tup (.of (by rw [mask_of hz, upd_same])) (RpA.le l1 r)) fun z => nomatch z
/-- a new dict of constants -/
def cV : PyData → V
  | .bool b => .bl b | .int i => .int i | .str x => .str x | _ => .non
theorem cV_rp {x : PyData} (h : atomD x = true) : Rp K H (cV x) x := by
  cases x <;> first | exact .non | exact .bl _ | exact .int _ | exact .str _ | cases h
theorem cV_rpk : ∀ {kvs : List (Key × PyData)}, kvs.all (fun kv => atomD kv.2) = true → RpK K H (kvs.map fun kv => (kv.1, cV kv.2)) (kvs.map fun kv => (keyD kv.1, kv.2))
  | [], _ => .nil
  | (k, x) :: r, h => by
    rw [List.all_cons, Bool.and_eq_true] at h
    exact .cons (cV_rp h.1) (cV_rpk h.2)
theorem Kq.dct [TabsC] {kvs : List (Key × PyData)} {p : Addr} (h : Kq K true G Z H Q ⟨.d (.dict (kvs.map fun kv => (keyD kv.1, kv.2))), true⟩ n) (o : Ok G Z H n) (ha : kvs.all (fun kv => atomD kv.2) = true) (hp : H p = none) :
    Q (.ref p) (upd H p (.dK (kvs.map fun kv => (kv.1, cV kv.2)))) := by
  have hz : p ∉ Z := fun z => o.dom p z hp
  exact h _ _ _ _ (Gr.upd hp) (o.upd hp) (Rp.dK (.of (by rw [mask_of hz, upd_same])) (cV_rpk ha)) fun _ => ⟨p, rfl, hp, .inl ⟨_, upd_same, cV_rpk ha⟩⟩
/-- the items of a list that is read weakly: they stand outside Z -/
theorem RW.lst {v : V} {ds : List PyData} (h : RW K H G Z v (.d (.list ds))) : ∃ p vs, v = .ref p ∧ H p = some (.lst vs) ∧ RpA K (mask H Z) vs ds := by
  rcases h with h | ⟨p, vs, e, _, h, r⟩
  · cases h with
    | lst h r => exact ⟨_, _, rfl, (mask_some h).2, r⟩
  · exact ⟨p, vs, e, h, r⟩
theorem RW.tup {v : V} {ds : List PyData} (h : RW K H G Z v (.d (.tuple ds))) : ∃ p vs, v = .ref p ∧ SqT K H p vs ∧ RpA K (mask H Z) vs ds := by
  rcases h with h | h
  · cases h with
    | tup h r => exact ⟨_, _, rfl, mask_le.sqT h, r⟩
  · exact h.elim
theorem RW.int {v : V} {i : Int} (h : RW K H G Z v (.d (.int i))) : v = .int i := by
  rcases h with h | h
  · cases h; rfl
  · exact h.elim
theorem RW.str {v : V} {i : Str} (h : RW K H G Z v (.d (.str i))) : v = .str i := by
  rcases h with h | h
  · cases h; rfl
  · exact h.elim
theorem rpa_ints : ∀ {ds : List PyData} {vs : List V} {ns : List Int}, RpA K H vs ds → intsOf ds = some ns → vs = ns.map V.int
  | [], _, _, .nil, e => by cases e; rfl
  | .int i :: ds, _, _, .cons a b, e => by
    cases h : intsOf ds with
    | none => rw [intsOf, h] at e; cases e
    | some ms =>
      rw [intsOf, h] at e
      cases e
      cases a
      rw [rpa_ints b h]; rfl
theorem rpa_strs : ∀ {ds : List PyData} {vs : List V} {ns : List Str}, RpA K H vs ds → strsOf ds = some ns → vs = ns.map V.str
  | [], _, _, .nil, e => by cases e; rfl
  | .str i :: ds, _, _, .cons a b, e => by
    cases h : strsOf ds with
    | none => rw [strsOf, h] at e; cases e
    | some ms =>
      rw [strsOf, h] at e
      cases e
      cases a
      rw [rpa_strs b h]; rfl
theorem rpa_bls : ∀ {ds : List PyData} {vs : List V}, RpA K H vs ds → (∀ x ∈ ds, ∃ b, x = .bool b) → ∃ bs : List Bool, vs = bs.map V.bl ∧ bs.all id = ds.all truD ∧ bs.any id = ds.any truD
  | [], _, .nil, _ => ⟨[], rfl, rfl, rfl⟩
  | d :: ds, _, .cons a b, e => by
    obtain ⟨c, rfl⟩ := e d (List.mem_cons_self ..)
    obtain ⟨bs, rfl, h1, h2⟩ := rpa_bls b fun x hx => e x (List.mem_cons_of_mem _ hx)
    cases a
    exact ⟨c :: bs, rfl, by simp [List.all_cons, h1, truD], by simp [List.any_cons, h2, truD]⟩
theorem rpa_at {vs : List V} {ds : List PyData} {i : Int} {x : PyData} (h : RpA K H vs ds) (e : atI ds i = some x) : ∃ v, atI vs i = some v ∧ Rp K H v x := by
  unfold atI at e ⊢
  rw [h.length]
  cases q : ixN ds.length i with
  | none => rw [q] at e; cases e
  | some j =>
    rw [q] at e
    exact h.get e
theorem rpa_cut {vs : List V} {ds : List PyData} {lo hi : Option Int} (h : RpA K H vs ds) : RpA K H (cutV vs lo hi) (cutD ds lo hi) := by
  unfold cutV cutD
  rw [h.length]
  exact (h.drop _).take _
theorem rpa_rep {vs : List V} {ds : List PyData} (h : RpA K H vs ds) : ∀ k : Nat, RpA K H (List.replicate k vs).flatten (List.replicate k ds).flatten
  | 0 => .nil
  | k + 1 => by
    rw [List.replicate_succ, List.replicate_succ, List.flatten_cons, List.flatten_cons]
    exact h.append (rpa_rep h k)
end

/-! ### dicts -/
section
variable {K : PySem.W.Frag} {G Z : List Addr} {H : Hp}
theorem keyOk_key {x : PyData} (h : keyOk x) : ∃ k : Key, x = keyD k := by
  cases x <;> first | exact h.elim | skip
  · exact ⟨.inl _, rfl⟩
  · exact ⟨.inr _, rfl⟩
theorem keyEq_key {a b : Key} : keyEq (keyD a) (keyD b) = decide (a = b) := by
  cases a <;> cases b <;> simp [keyD, keyEq]
theorem rpk_kOk : ∀ {kvs : List (Key × V)} {ds : List (PyData × PyData)}, RpK K H kvs ds → kOk ds
  | _, _, .nil, _, h => nomatch h
  | _, _, .cons (k := k) a b, p, h => by
    rcases List.mem_cons.mp h with rfl | h
    · cases k <;> trivial
    · exact rpk_kOk b p h
theorem rptk_no {kvs : List (List Key × V)} {ds : List (PyData × PyData)} (r : RpTK K H kvs ds) (h : kOk ds) : False := by
  cases r with
  | one a => exact h _ (List.mem_cons_self ..)
  | cons a b => exact h _ (List.mem_cons_self ..)
theorem rpk_len : ∀ {kvs : List (Key × V)} {ds : List (PyData × PyData)}, RpK K H kvs ds → kvs.length = ds.length
  | _, _, .nil => rfl
  | _, _, .cons a b => by rw [List.length_cons, List.length_cons, rpk_len b]
theorem rpk_keys : ∀ {kvs : List (Key × V)} {ds : List (PyData × PyData)}, RpK K H kvs ds → RpA K H (kvs.map fun kv => kV kv.1) (ds.map (·.1))
  | _, _, .nil => .nil
  | _, _, .cons (k := k) a b => .cons (by cases k; exact .int _; exact .str _) (rpk_keys b)
theorem rpk_get : ∀ {kvs : List (Key × V)} {ds : List (PyData × PyData)} (k : Key), RpK K H kvs ds → match dGet ds (keyD k) with
    | some y => ∃ v, valV kvs k = some v ∧ Rp K H v y
    | none => valV kvs k = none
  | _, _, k, .nil => rfl
  | (k', v') :: kvs, (_, d) :: ds, k, .cons a b => by
    have ih := rpk_get k b
    unfold dGet
    rw [List.find?_cons, keyEq_key]
    by_cases e : k' = k
    · rw [decide_eq_true e]
      exact ⟨v', valV_pos e, a⟩
    · rw [decide_eq_false e, valV_neg (p := (k', v')) e]
      exact ih
theorem rpk_put {k : Key} {v : V} {y : PyData} (r : Rp K H v y) {kvs : List (Key × V)} {ds : List (PyData × PyData)} (h : RpK K H kvs ds) : RpK K H (putK kvs k v) (dPut ds (keyD k) y) := by
  have an : ∀ {kvs : List (Key × V)} {ds : List (PyData × PyData)}, RpK K H kvs ds → (kvs.any fun kv => decide (kv.1 = k)) = ds.any fun p => keyEq p.1 (keyD k) := fun {kvs ds} h => by
    induction kvs generalizing ds with
    | nil => cases h; rfl
    | cons p kvs ih =>
      cases h with
      | cons a b => rw [List.any_cons, List.any_cons, ih b, keyEq_key]
  unfold putK dPut
  rw [an h]
  split
  · clear an
    rename_i c
    clear c
    induction kvs generalizing ds with
    | nil => cases h; exact .nil
    | cons p kvs ih =>
      cases h with
      | cons a b =>
        rename_i k' v' d ds
        rw [List.map_cons, List.map_cons]
        simp only [keyEq_key, decide_eq_true_eq]
        by_cases e : k' = k
        · rw [if_pos e, if_pos e]
          exact .cons r (ih b)
        · rw [if_neg e, if_neg e]
          exact .cons a (ih b)
  · clear an
    rename_i c
    clear c
    induction kvs generalizing ds with
    | nil => cases h; exact .cons r .nil
    | cons p kvs ih =>
      cases h with
      | cons a b => exact .cons a (ih b)
theorem RW.dct {v : V} {ds : List (PyData × PyData)} (h : RW K H G Z v (.d (.dict ds))) (o : kOk ds) : ∃ p kvs, v = .ref p ∧ Rd H p (.dK kvs) ∧ RpK K (mask H Z) kvs ds := by
  rcases h with h | ⟨p, e, _, ⟨kvs, h, r⟩ | ⟨kvs, h, r⟩⟩
  · cases h with
    | dK h r => exact ⟨_, _, rfl, mask_le.rd _ _ .dK h, r⟩
    | dT h r => exact (rptk_no r o).elim
  · exact ⟨p, kvs, e, .inl h, r⟩
  · exact (rptk_no r o).elim
theorem RW.key {v : V} {k : Key} (h : RW K H G Z v (.d (keyD k))) : v = kV k := by
  cases k with
  | inl i => exact h.int
  | inr x => exact h.str
/-- a new dict -/
theorem Kq.dnew [TabsC] {n : Nat} {Q : VK} {ds : List (PyData × PyData)} {kvs : List (Key × V)} {p : Addr} (h : Kq K true G Z H Q ⟨.d (.dict ds), true⟩ n) (o : Ok G Z H n) (r : RpK K (mask H Z) kvs ds) (hp : H p = none) : Q (.ref p) (upd H p (.dK kvs)) := by
  have hz : p ∉ Z := fun z => o.dom p z hp
  have l1 : Le (mask H Z) (mask (upd H p (.dK kvs)) Z) := (Gr.upd (G := G) (Z := Z) hp).le o.sub
  have l2 : Le (mask H Z) (mask (upd H p (.dK kvs)) (p :: Z)) := .of fun a u e => by
    obtain ⟨h1, h2⟩ := mask_some e
    have hne : a ≠ p := fun z => by rw [z, hp] at h2; cases h2
    rw [mask_of (by simp [hne, h1]), upd_ne hne]; exact h2
  exact h _ _ _ _ (Gr.upd hp) (o.upd hp) (Rp.dK (.of (by rw [mask_of hz, upd_same])) (RpK.le l1 r)) fun _ => ⟨p, rfl, hp, .inl ⟨_, upd_same, RpK.le l2 r⟩⟩
end

/-! ### binary operators -/
def bop : BOp → Operator
  | .add => .Add | .sub => .Sub | .mul => .Mult | .fdiv => .FloorDiv | .mod => .Mod | .pow => .Pow
def rBn [TabsC] (K : PySem.W.Frag) (o : BOp) : R2 := fun x y H Q => ∃ G Z n tx ty, Ok G Z H n ∧ RW K H G Z x tx ∧ RW K H G Z y ty ∧ binW o tx ty fun r => Kq K true G Z H Q r n
section
variable {X : Cx}
def CFd (i j : Int) : Prop := j ≠ 0 ∧ j.natAbs.log2 < 9000
def CPw (i j : Int) : Prop := 0 ≤ j ∧ (Builtin.Int.intBits i : Int) * j ≤ 2 ^ 27
theorem op_mulG : OpR X (binaryOp .Mult) (rI mulOk fun i j => .int (i * j)) := opI fun i j _ _ _ _ _ hc q => mul_int q (by
  rcases hc with h | h | ⟨a, b, h1, h2, h3⟩
  · exact (show CMul i j from .inl h).ok
  · exact (show CMul i j from .inr h).ok
  · exact (mulx_ok h1 h2 h3).ok)
theorem op_fdivG : OpR X (binaryOp .FloorDiv) (rI CFd fun i j => .int (i.fdiv j)) := opI fun i j _ _ _ _ _ hc q =>
  floordiv_int hc.1 q (.inl (PyProof.noPylong_of_log2 hc.2))
theorem op_powG : OpR X (binaryOp .Pow) (rI CPw fun i j => .int (i ^ j.toNat)) := opI fun i j _ _ _ _ _ hc q => pow_int hc.1 hc.2 q
theorem str_rep_ok {x : Str} {j : Int} (h1 : 2 ≤ j) (h2 : j < 1000000) (h0 : x.length ≠ 0) (h3 : x.length < 16) (h4 : (strRep x j.toNat).length ≤ sizeLine) :
    OpR X (binaryOp .Mult) (fun a b H Q => a = .str x ∧ b = .int j ∧ Q (.str (strRep x j.toNat)) H) := by
  intro pins s σ H a b v u Q I ra rb h
  obtain ⟨rfl, rfl, q⟩ := h
  obtain ⟨t, rfl⟩ := ra
  obtain ⟨t', rfl⟩ := rb
  have hl : (x.length : Int) < 16 := by omega
  refine P.mul_str (by simp; omega) (fun _ _ => ?_) (fun _ _ => ?_) ?_
  · have : (1000000 : Int) ≤ (2 ^ 63 - 1) / j := Int.le_ediv_of_mul_le (by omega) (by omega)
    omega
  · unfold Builtin.Str.tooLong
    have h4 : x.length * j.toNat ≤ 16 * 1000000 := Nat.mul_le_mul (by omega) (by omega)
    rw [sizeLine_eq]
    simp
    omega
  · rw [if_neg (by omega), if_neg (by simp; omega)]
    exact ⟨h4, ep_tok (v := .str (strRep x j.toNat)) I ⟨_, rfl⟩ q⟩
theorem bin_ok [TabsC] (o : BOp) : OpR X (binaryOp (bop o)) (rBn X.K o) := by
  intro pins s σ H x y v u Q I rx ry h
  obtain ⟨G, Z, n, tx, ty, k, wx, wy, h⟩ := h
  cases tx with
  | gen => cases o <;> exact h.elim
  | scr _ => cases o <;> exact h.elim
  | d a =>
    cases ty with
    | gen => cases o <;> (cases a <;> exact h.elim)
    | scr _ => cases o <;> (cases a <;> exact h.elim)
    | d b =>
      cases o with
      | add =>
        cases a <;> cases b <;> first | exact h.elim | skip
        · obtain rfl := wx.int; obtain rfl := wy.int
          exact op_add pins s σ H _ _ v u Q I rx ry ⟨_, _, rfl, rfl, Kq.int h k⟩
        · obtain rfl := wx.str; obtain rfl := wy.str
          exact op_add_str pins s σ H _ _ v u Q I rx ry ⟨_, _, rfl, rfl, h.1, Kq.str h.2 k⟩
        · obtain ⟨p, vs, rfl, hp, r⟩ := wx.lst
          obtain ⟨q, ws, rfl, hq, r'⟩ := wy.lst
          exact op_cat pins s σ H _ _ v u Q I rx ry ⟨p, q, vs, ws, rfl, rfl, hp, hq, by rw [r.length, r'.length]; exact h.1, fun z hz => Kq.lst h.2 k (r.append r') hz⟩
        · obtain ⟨p, vs, rfl, hp, r⟩ := wx.tup
          obtain ⟨q, ws, rfl, hq, r'⟩ := wy.tup
          obtain ⟨h1, h2⟩ := h
          refine op_catA pins s σ H _ _ v u Q I rx ry ⟨p, q, vs, ws, rfl, rfl, hp, hq, by rw [r.length, r'.length]; exact h1, fun z => ?_, fun _ z => ?_, fun _ _ z hz => Kq.tup h2 k (r.append r') hz⟩
          · subst z
            cases r
            exact Kq.old h2 k (wy.resolve_right fun z => z)
          · subst z
            cases r'
            rw [List.append_nil] at h2
            exact Kq.old h2 k (wx.resolve_right fun z => z)
      | sub =>
        cases a <;> cases b <;> first | exact h.elim | skip
        obtain rfl := wx.int; obtain rfl := wy.int
        exact op_sub pins s σ H _ _ v u Q I rx ry ⟨_, _, rfl, rfl, Kq.int h k⟩
      | mul =>
        cases a <;> cases b <;> first | exact h.elim | skip
        · obtain rfl := wx.int; obtain rfl := wy.int
          exact op_mulG pins s σ H _ _ v u Q I rx ry ⟨_, _, rfl, rfl, h.1, Kq.int h.2 k⟩
        · obtain rfl := wx.str; obtain rfl := wy.int
          obtain ⟨⟨h1, h2, h3, h4, h5⟩, h⟩ := h
          exact str_rep_ok h1 h2 h3 h4 h5 pins s σ H _ _ v u Q I rx ry ⟨rfl, rfl, Kq.str h k⟩
        · obtain ⟨p, vs, rfl, hp, r⟩ := wx.lst
          obtain rfl := wy.int
          obtain ⟨h1, h2, h3, h⟩ := h
          exact op_rep pins s σ H _ _ v u Q I rx ry ⟨p, _, vs, rfl, rfl, hp, h1, h2, by rw [r.length]; exact h3, fun z hz => Kq.lst h k (rpa_rep r _) hz⟩
      | fdiv =>
        cases a <;> cases b <;> first | exact h.elim | skip
        obtain rfl := wx.int; obtain rfl := wy.int
        exact op_fdivG pins s σ H _ _ v u Q I rx ry ⟨_, _, rfl, rfl, ⟨h.1, h.2.1⟩, Kq.int h.2.2 k⟩
      | mod =>
        cases a <;> cases b <;> first | exact h.elim | skip
        obtain rfl := wx.int; obtain rfl := wy.int
        exact op_modN pins s σ H _ _ v u Q I rx ry ⟨_, _, rfl, rfl, h.1, Kq.int h.2 k⟩
      | pow =>
        cases a <;> cases b <;> first | exact h.elim | skip
        obtain rfl := wx.int; obtain rfl := wy.int
        exact op_powG pins s σ H _ _ v u Q I rx ry ⟨_, _, rfl, rfl, ⟨h.1, h.2.1⟩, Kq.int h.2.2 k⟩
end
end TL

set_option Elab.async false
set_option linter.all false
set_option maxRecDepth 100000
/-! TL5: comparisons, subscripts, built-ins. -/
namespace TL
open PySem PySem.Spec PyProof.Rows L2

def cop : COp → CmpOp
  | .eq => .Eq | .ne => .NotEq | .lt => .Lt | .le => .LtE | .gt => .Gt | .ge => .GtE | .is_ => .Is | .isn => .IsNot | .in_ => .In | .nin => .NotIn
def rCm [TabsC] (K : PySem.W.Frag) (o : COp) : R2 := fun x y H Q => ∃ G Z n tx ty, Ok G Z H n ∧ RW K H G Z x tx ∧ RW K H G Z y ty ∧ cmpW o tx ty fun k => Q (.bl k) H
section
variable {X : Cx}
theorem is_lit {pins : List (Addr × Obj)} {σ : L2.St} {H : Hp} {s : Shared} {x : PyData} {v : V} {u : Value} {b : Bool} {Q : VK} (I : Inv X pins σ H s) (r : RelV v u) (h : Rp X.K H v x) (q : Q (.bl (isD x (.bool b))) H) :
    wpAny (model X.prog X.w) X.A (compareOp .Is u (.bool b)) (EP X pins σ Q) X.xe s := by
  refine wpAny_is_plain ?_ ⟨.bl (isD x (.bool b)), H, I, ?_, q⟩
  · cases h <;> first | (cases r; rfl) | (obtain ⟨t, rfl⟩ := r; rfl)
  · show Value.bool _ = Value.bool _
    cases h <;> first | (cases r; cases b <;> rfl) | (obtain ⟨t, rfl⟩ := r; cases b <;> rfl) | skip
    rename_i c
    cases r
    cases b <;> cases c <;> rfl
theorem isn_lit {pins : List (Addr × Obj)} {σ : L2.St} {H : Hp} {s : Shared} {x : PyData} {v : V} {u : Value} {b : Bool} {Q : VK} (I : Inv X pins σ H s) (r : RelV v u) (h : Rp X.K H v x) (q : Q (.bl (!isD x (.bool b))) H) :
    wpAny (model X.prog X.w) X.A (compareOp .IsNot u (.bool b)) (EP X pins σ Q) X.xe s := by
  refine wpAny_isNot_plain ?_ ⟨.bl (!isD x (.bool b)), H, I, ?_, q⟩
  · cases h <;> first | (cases r; rfl) | (obtain ⟨t, rfl⟩ := r; rfl)
  · show Value.bool _ = Value.bool _
    cases h <;> first | (cases r; cases b <;> rfl) | (obtain ⟨t, rfl⟩ := r; cases b <;> rfl) | skip
    rename_i c
    cases r
    cases b <;> cases c <;> rfl
theorem is_none_dec {H : Hp} {x : PyData} {v : V} (h : Rp X.K H v x) : decide (v = .non) = isD x .none := by
  cases h <;> simp [isD]
theorem cmp_ok [TabsC] (hu : X.A.units + 64 < cLine) (o : COp) : OpR X (compareOp (cop o)) (rCm X.K o) := by
  intro pins s σ H x y v u Q I rx ry h
  obtain ⟨G, Z, n, tx, ty, k, wx, wy, h⟩ := h
  cases tx with
  | gen => cases o <;> exact h.elim
  | scr _ => cases o <;> exact h.elim
  | d a =>
    cases ty with
    | gen => cases o <;> (cases a <;> exact h.elim)
    | scr _ => cases o <;> (cases a <;> exact h.elim)
    | d b =>
      have ha := wx.data k
      have hb := wy.data k
      obtain ⟨as, ra⟩ := dreads I ha rx
      obtain ⟨bs, rb⟩ := dreads I hb ry
      cases o with
      | eq => exact PySem.SeqAt.eq_plain ra rb h.1.1 h.1.2.1 (by have := h.1.2.2; omega) ⟨.bl _, H, I, rfl, h.2⟩
      | ne => exact PySem.SeqAt.ne_plain ra rb h.1.1 h.1.2.1 (by have := h.1.2.2; omega) ⟨.bl _, H, I, rfl, h.2⟩
      | lt => exact PySem.W.lt_data ra rb h.1.1 h.1.2.1 (by have := h.1.2.2; omega) ⟨.bl _, H, I, rfl, h.2⟩
      | le => exact PySem.W.le_data ra rb h.1.1 h.1.2.1 (by have := h.1.2.2; omega) ⟨.bl _, H, I, rfl, h.2⟩
      | gt => exact PySem.W.gt_data ra rb h.1.1 h.1.2.1 (by have := h.1.2.2; omega) ⟨.bl _, H, I, rfl, h.2⟩
      | ge => exact PySem.W.ge_data ra rb h.1.1 h.1.2.1 (by have := h.1.2.2; omega) ⟨.bl _, H, I, rfl, h.2⟩
      | is_ =>
        obtain ⟨hl, q⟩ := h
        cases b <;> first | cases hl | skip
        · cases hb
          exact op_isN pins s σ H _ _ v u Q I rx ry ⟨rfl, by rw [is_none_dec ha]; exact q⟩
        · cases hb
          cases ry
          exact is_lit I rx ha q
      | isn =>
        obtain ⟨hl, q⟩ := h
        cases b <;> first | cases hl | skip
        · cases hb
          exact op_notN pins s σ H _ _ v u Q I rx ry ⟨rfl, by rw [is_none_dec ha]; exact q⟩
        · cases hb
          cases ry
          exact isn_lit I rx ha q
      | in_ =>
        cases b <;> first | exact h.elim | skip
        · obtain ⟨z, rfl, h⟩ := h
          cases ha; cases hb
          exact op_in_str pins s σ H _ _ v u Q I rx ry ⟨_, _, rfl, rfl, h⟩
        · obtain ⟨⟨h1, h2, h3⟩, h⟩ := h
          exact PySem.SeqAt.in_list_data rb ra h2 h1 (by omega) ⟨.bl _, H, I, rfl, h⟩
        · obtain ⟨⟨h1, h2, h3⟩, h⟩ := h
          exact PySem.SeqAt.in_tuple_data rb ra h2 h1 (by omega) ⟨.bl _, H, I, rfl, h⟩
        · obtain ⟨⟨h1, h2⟩, h⟩ := h
          obtain ⟨k0, rfl⟩ := keyOk_key h1
          obtain ⟨p, kvs, rfl, hr, rk⟩ := wy.dct h2
          obtain rfl := wx.key
          cases ry
          refine d_in (o := valV kvs k0) (by omega) I (.inl ⟨kvs, k0, hr, rfl, rfl⟩) rx fun s3 I3 => ⟨.bl _, H, I3, rfl, ?_⟩
          have g := rpk_get k0 rk
          cases e : dGet _ (keyD k0) with
          | none =>
            rw [e] at g h
            rw [show valV kvs k0 = none from g]
            exact h
          | some y =>
            rw [e] at g h
            obtain ⟨v, g, _⟩ := g
            rw [g]
            exact h
      | nin =>
        cases b <;> first | exact h.elim | skip
        · obtain ⟨z, rfl, h⟩ := h
          cases ha; cases hb
          exact op_notin_str pins s σ H _ _ v u Q I rx ry ⟨_, _, rfl, rfl, h⟩
        · obtain ⟨⟨h1, h2, h3⟩, h⟩ := h
          exact PySem.SeqAt.notIn_list_data rb ra h2 h1 (by omega) ⟨.bl _, H, I, rfl, h⟩
        · obtain ⟨⟨h1, h2, h3⟩, h⟩ := h
          exact PySem.SeqAt.notIn_tuple_data rb ra h2 h1 (by omega) ⟨.bl _, H, I, rfl, h⟩
        · obtain ⟨⟨h1, h2⟩, h⟩ := h
          obtain ⟨k0, rfl⟩ := keyOk_key h1
          obtain ⟨p, kvs, rfl, hr, rk⟩ := wy.dct h2
          obtain rfl := wx.key
          cases ry
          refine d_notIn (o := valV kvs k0) (by omega) I (.inl ⟨kvs, k0, hr, rfl, rfl⟩) rx fun s3 I3 => ⟨.bl _, H, I3, rfl, ?_⟩
          have g := rpk_get k0 rk
          cases e : dGet _ (keyD k0) with
          | none =>
            rw [e] at g h
            rw [show valV kvs k0 = none from g]
            exact h
          | some y =>
            rw [e] at g h
            obtain ⟨v, g, _⟩ := g
            rw [g]
            exact h

/-! ### subscripts -/
def rIxn [TabsC] (K : PySem.W.Frag) : R2 := fun x y H Q => ∃ G Z n tx ty, Ok G Z H n ∧ RW K H G Z x tx ∧ RW K H G Z y ty ∧ ixW tx ty fun t => Kq K true G Z H Q ⟨t, false⟩ n
theorem RW.scr {K : PySem.W.Frag} {G Z : List Addr} {H : Hp} {v : V} {ns : List Int} (h : RW K H G Z v (.scr ns)) : ∃ a, v = .ref a ∧ SqF K H a (ns.map V.int) := by
  rcases h with h | h
  · exact h
  · exact h.elim
theorem atI_map {ns : List Int} {i z : Int} (h : atI ns i = some z) : atI (ns.map V.int) i = some (.int z) := by
  unfold atI at h ⊢
  rw [List.length_map]
  cases q : ixN ns.length i with
  | none => rw [q] at h; cases h
  | some j =>
    rw [q] at h
    have h : ns[j]? = some z := h
    show (ns.map V.int)[j]? = _
    rw [List.getElem?_map, h]
    rfl
theorem ints_rpa {K : PySem.W.Frag} {H : Hp} : ∀ ns : List Int, RpA K H (ns.map V.int) (ns.map PyData.int)
  | [] => .nil
  | n :: ns => .cons (.int n) (ints_rpa ns)
theorem ix_ok [TabsC] (hu : X.A.units + 1 < cLine) : IxR X (rIxn X.K) := by
  intro va sl pins s σ H x y v u Q I rx ry h hsb
  obtain ⟨G, Z, n, tx, ty, k, wx, wy, h⟩ := h
  cases tx with
  | gen => exact h.elim
  | scr ns =>
    cases ty with
    | gen => exact h.elim
    | scr _ => exact h.elim
    | d b =>
      cases b <;> first | exact h.elim | skip
      obtain ⟨p, rfl, hp⟩ := wx.scr
      obtain rfl := wy.int
      obtain ⟨z, hz, h⟩ := h
      exact ix_list va sl pins s σ H _ _ v u Q I rx ry ⟨p, ns.map V.int, _, .int z, rfl, rfl, hp.seq, atI_map hz, Kq.int h k⟩ hsb
  | d a =>
    cases ty with
    | gen => cases a <;> exact h.elim
    | scr _ => cases a <;> exact h.elim
    | d b =>
      cases a <;> cases b <;> first | exact h.elim | exact h.1.1.elim | skip
      rotate_left 3
      all_goals first
        | (obtain ⟨⟨h1, h2⟩, y, hy, h⟩ := h
           obtain ⟨k0, ek⟩ := keyOk_key h1
           rw [ek] at wy hy
           obtain ⟨p, kvs, rfl, hr, rk⟩ := wx.dct h2
           obtain rfl := wy.key
           cases rx
           have g := rpk_get k0 rk
           rw [hy] at g
           obtain ⟨v, g, rv⟩ := g
           have dg : DGet H p (kV k0) (some v) := .inl ⟨kvs, k0, hr, rfl, g.symm⟩
           exact tail_any (dict_typeIs I dg) PySem.F.slot_dict_getitem.lookup (d_getItem hu I dg ry fun w' s3 I3 rw' => ⟨v, H, I3, rw', Kq.old h k rv⟩) hsb)
        | skip
      · obtain rfl := wx.str; obtain rfl := wy.int
        obtain ⟨hl, c, hc, h⟩ := h
        exact ix_str va sl pins s σ H _ _ v u Q I rx ry ⟨_, _, c, rfl, rfl, hl, hc, Kq.str h k⟩ hsb
      · obtain ⟨p, vs, rfl, hp, r⟩ := wx.lst
        obtain rfl := wy.int
        obtain ⟨z, hz, h⟩ := h
        obtain ⟨w, hw, rw'⟩ := rpa_at r hz
        exact ix_list va sl pins s σ H _ _ v u Q I rx ry ⟨p, vs, _, w, rfl, rfl, .of hp, hw, Kq.old h k rw'⟩ hsb
      · obtain ⟨p, vs, rfl, hp, r⟩ := wx.tup
        obtain rfl := wy.int
        obtain ⟨z, hz, h⟩ := h
        obtain ⟨w, hw, rw'⟩ := rpa_at r hz
        exact ix_tup va sl pins s σ H _ _ v u Q I rx ry ⟨p, vs, _, w, rfl, rfl, hp, hw, Kq.old h k rw'⟩ hsb
theorem cut_whole {K : PySem.W.Frag} {H : Hp} {vs : List V} {ds : List PyData} {lo hi : Option Int} (r : RpA K H vs ds) (h : HT.sIx vs.length 0 lo = 0 ∧ HT.sIx vs.length vs.length hi = vs.length) : cutD ds lo hi = ds := by
  unfold cutD
  rw [← r.length, h.1, h.2, List.drop_zero, Nat.sub_zero, r.length, List.take_length]
def rSln [TabsC] (K : PySem.W.Frag) : V → Option Int → Option Int → Hp → VK → Prop := fun x lo hi H Q => ∃ G Z n tx, Ok G Z H n ∧ RW K H G Z x tx ∧ slW lo hi tx fun r => Kq K true G Z H Q r n
theorem sl_ok [TabsC] : SlR X (rSln X.K) := by
  have key : ∀ (x : V) (lo hi : Option Int) (H : Hp) (Q : VK), rSln X.K x lo hi H Q → (rSlL X.K x lo hi H Q ∨ rSlA X.K x lo hi H Q) ∨ ∃ z, x = .str z ∧ z.length ≤ sizeLine ∧ Q (.str (cutS z lo hi)) H := by
    rintro x lo hi H Q ⟨G, Z, n, tx, k, wx, h⟩
    cases tx with
    | gen => exact h.elim
    | scr ns =>
      obtain ⟨p, rfl, hp⟩ := wx.scr
      exact .inl (.inl ⟨p, _, rfl, hp.seq, fun q hq => Kq.lst h k (rpa_cut (ints_rpa ns)) hq⟩)
    | d a =>
      cases a <;> first | exact h.elim | skip
      · obtain rfl := wx.str
        exact .inr ⟨_, rfl, h.1, Kq.str h.2 k⟩
      · obtain ⟨p, vs, rfl, hp, r⟩ := wx.lst
        exact .inl (.inl ⟨p, vs, rfl, .of hp, fun q hq => Kq.lst h k (rpa_cut r) hq⟩)
      · obtain ⟨p, vs, rfl, hp, r⟩ := wx.tup
        have h : Kq X.K true G Z H Q ⟨.d (.tuple (cutD _ lo hi)), false⟩ n := h
        refine .inl (.inr ⟨p, vs, rfl, hp, fun hw => ?_, fun _ q hq => Kq.tup h k (rpa_cut r) hq⟩)
        have e : cutD _ lo hi = _ := cut_whole r hw
        rw [e] at h
        rcases wx with wx | wx
        · exact Kq.old h k wx
        · exact wx.elim
  intro pins s σ H x v vl vu l u sl Q I rx hs pl pu h
  rcases key x l u H Q h with (h | h) | h
  · exact sl_list pins s σ H x v vl vu l u sl Q I rx hs pl pu h
  · exact sl_tupA pins s σ H x v vl vu l u sl Q I rx hs pl pu h
  · exact sl_str pins s σ H x v vl vu l u sl Q I rx hs pl pu h
end
end TL

set_option Elab.async false
set_option linter.all false
set_option maxRecDepth 100000
/-! TL6: built-in functions by values. -/
namespace TL
open PySem PySem.Spec PyProof.Rows PySem.W L2

def biV : Bi → Value
  | .len => .builtin "len" | .sum => .builtin "sum" | .int => .type "int" | .max2 => .builtin "max" | .min2 => .builtin "min"
  | .repr => .builtin "repr" | .all => .builtin "all" | .any => .builtin "any" | .sorted => .builtin "sorted"
  | .list => .type "list" | .tuple => .type "tuple" | .abs => .builtin "abs" | .str => .type "str" | .dict => .type "dict" | .max1 => .builtin "max" | .min1 => .builtin "min"
def biN : Bi → Str
  | .len => "len" | .sum => "sum" | .int => "int" | .max2 => "max" | .min2 => "min" | .repr => "repr" | .all => "all" | .any => "any" | .sorted => "sorted"
  | .list => "list" | .tuple => "tuple" | .abs => "abs" | .str => "str" | .dict => "dict" | .max1 => "max" | .min1 => "min"
def rBi [TabsC] (K : PySem.W.Frag) (b : Bi) : List V → Hp → VK → Prop := fun vs H Q =>
  ∃ G Z n ts, Ok G Z H n ∧ Paired (RW K H G Z) vs ts ∧ biW b ts fun r => Kq K true G Z H Q r n
section
variable {X : Cx}
theorem pair1 {F : V → T → Prop} {vs : List V} {t : T} (h : Paired F vs [t]) : ∃ v, vs = [v] ∧ F v t := by
  cases h with
  | cons a b => cases b; exact ⟨_, rfl, a⟩
theorem pair2 {F : V → T → Prop} {vs : List V} {t u : T} (h : Paired F vs [t, u]) : ∃ v w, vs = [v, w] ∧ F v t ∧ F w u := by
  cases h with
  | cons a b =>
    obtain ⟨w, rfl, c⟩ := pair1 b
    exact ⟨_, w, rfl, a, c⟩
/-- repr of any tree -/
theorem cr_repr (hg : X.A.guards = some []) (hu : X.A.units + 64 < cLine) : CallR X (.builtin "repr") (fun vs H Q => ∃ v x, vs = [v] ∧ Rp X.K H v x ∧ showOk x ∧ Q (.str x.shown) H) := by
  intro pins s σ H vs us Q I rv h
  obtain ⟨v, x, rfl, r, ⟨h1, h2, h3⟩, q⟩ := h
  obtain ⟨u, rfl, ru⟩ := Vals.one rv
  cases v with
  | ref a =>
    cases ru
    exact (Rp.shows I r rfl h1 h2).2 a rfl X.A X.xe s _ hg (by omega) (fun _ _ e => e) fun h' u tk hk => ⟨.str x.shown, H, I.kept (t' := tk) hk, ⟨u, rfl⟩, q⟩
  | non =>
    cases ru; cases r
    exact P.repr_of_none (ep_tok (v := .str (PyData.shown .none)) I ⟨s.toks, by simp [PyData.shown]⟩ q)
  | bl b =>
    cases ru; cases r
    exact P.repr_of_bool (ep_tok (v := .str (PyData.shown (.bool b))) I ⟨s.toks, by simp [PyData.shown]⟩ q)
  | int i =>
    obtain ⟨t, rfl⟩ := ru
    cases r
    exact P.repr_of_int (by simpa [PyData.showable] using h1) (ep_tok (v := .str (PyData.shown (.int i))) I ⟨s.toks, by simp [PyData.shown]⟩ q)
  | str z =>
    obtain ⟨t, rfl⟩ := ru
    cases r
    exact P.repr_of_str (ep_tok (v := .str (PyData.shown (.str z))) I ⟨s.toks, by simp [PyData.shown]⟩ q) (by simpa [PyData.shown] using h2)
  | byt b => cases r
  | flt b => cases r
  | ty n => cases r
/-- sorted of alike trees -/
theorem each_of {H H0 : Hp} {hp : Heap} {K : PySem.W.Frag} : ∀ {ds : List PyData} {vs : List V} {us : List Value}, RpA K H vs ds → Vals vs us → EachIs (fun u d => ∃ v, RelV v u ∧ Rp K H v d) us ds
  | [], _, _, .nil, r => by cases r; exact .nil
  | d :: ds, _, _, .cons a b, r => by
    cases r with
    | cons r1 r2 => exact .cons ⟨_, r1, a⟩ (each_of (H0 := H0) (hp := hp) b r2)
theorem of_each {H : Hp} {K : PySem.W.Frag} : ∀ {ds : List PyData} {us : List Value}, EachIs (fun u d => ∃ v, RelV v u ∧ Rp K H v d) us ds → ∃ vs, Vals vs us ∧ RpA K H vs ds
  | _, _, .nil => ⟨[], .nil, .nil⟩
  | _, _, .cons ⟨v, r, a⟩ b => by
    obtain ⟨vs, h1, h2⟩ := of_each b
    exact ⟨v :: vs, .cons r h1, .cons a h2⟩
theorem each_reads {pins : List (Addr × Obj)} {σ : L2.St} {H : Hp} {s : Shared} (I : Inv X pins σ H s) : ∀ {ds : List PyData} {us : List Value}, EachIs (fun u d => ∃ v, RelV v u ∧ Rp X.K H v d) us ds → EachIs (fun u d => ∃ as, Reads s.heap u (id d) as) us ds
  | _, _, .nil => .nil
  | _, _, .cons ⟨v, r, a⟩ b => .cons (dreads I a r) (each_reads I b)
theorem cr_sort (hu : X.A.units + 64 < cLine) : CallR X (.builtin "sorted") (fun vs H Q => ∃ p xs ds Z, vs = [.ref p] ∧ H p = some (.lst xs) ∧ RpA X.K (mask H Z) xs ds ∧ sortOk ds ∧
    ∀ ys q, RpA X.K (mask H Z) ys (ds.mergeSort (PySem.W.dataLe false id)) → H q = none → Q (.ref q) (upd H q (.lst ys))) := by
  intro pins s σ H vs us Q I rv h
  obtain ⟨p, xs, ds, Z, rfl, hp, ra, ⟨k1, k2, k3, k4⟩, q⟩ := h
  obtain ⟨its, rvs, hl, _⟩ := I.list (.of hp)
  rw [Vals.ref1 rv]
  have e1 : EachIs (fun u d => ∃ v, RelV v u ∧ Rp X.K (mask H Z) v d) its ds := each_of (H0 := H) (hp := s.heap) ra rvs
  have e2 : EachIs (fun u d => ∃ v, RelV v u ∧ Rp X.K H v d) its ds := e1.mono fun u d ⟨v, r, a⟩ => ⟨v, r, Rp.up a⟩
  refine PySem.W.sorted_data (enc := id) hl.isList e1 (each_reads I e2) (by rw [List.map_id]; exact k1) (by rw [List.map_id]; exact k2) k4 (fun b hb => by have := k3 b hb; show _ + PyData.depth b < _; omega) fun out hlen ho => ?_
  obtain ⟨ys, r1, r2⟩ := of_each ho
  obtain ⟨ep, he⟩ := PyProof.Rows.sortedAll_at s.heap its out.toArray
  have hfr : H (s.heap.objs.size + 1) = none := I.hok.fresh (Nat.le_succ _)
  have hlen2 : ys.length ≤ sizeLine := by rw [r1.length, hlen]; exact k4
  exact ⟨.ref _, upd H (s.heap.objs.size + 1) (.lst ys), I.laid (t' := s.toks) (fun _ _ => PyProof.Rows.sortedAll_old) (Nat.le_succ _) ⟨hlen2, out, ep, r1, by simpa using he⟩, rfl, q ys _ r2 hfr⟩
/-- sorted texts, by one order -/
def leS (a b : Str) : Bool := decide (a.cps.toList ≤ b.cps.toList)
theorem leS_trans (a b c : Str) (h1 : leS a b = true) (h2 : leS b c = true) : leS a c = true := by
  unfold leS at *
  exact decide_eq_true (List.le_trans (of_decide_eq_true h1) (of_decide_eq_true h2))
theorem leS_total (a b : Str) : (leS a b || leS b a) = true := by
  unfold leS
  rcases List.le_total a.cps.toList b.cps.toList with h | h <;> simp [h]
theorem leS_anti {a b : Str} (h1 : leS a b = true) (h2 : leS b a = true) : a = b := by
  unfold leS at *
  exact PySem.W.str_of_cps (List.le_antisymm (of_decide_eq_true h1) (of_decide_eq_true h2))
theorem strs_sort {ks : List Str} : (ks.map PyData.str).mergeSort (PySem.W.dataLe false id) = (ks.mergeSort leS).map .str := by
  rw [List.map_mergeSort]
  intro a _ b _
  show _ = !PySem.W.dataLt (.str b) (.str a)
  rw [PySem.W.dataLt_str, PySem.W.not_lt_str]
  rfl
theorem rising_pair : ∀ (l : List Str) (p : Str), risingS p l = true → (p :: l).Pairwise fun a b => leS a b = true
  | [], p, _ => by simp
  | x :: r, p, h => by
    unfold risingS at h
    rw [Bool.and_eq_true] at h
    have ih := rising_pair r x h.2
    have h1 : leS p x = true := by
      have := h.1
      rw [ltCps_eq] at this
      unfold leS
      simpa [PySem.W.not_lt_str] using this
    refine List.pairwise_cons.mpr ⟨fun y hy => ?_, ih⟩
    rcases List.mem_cons.mp hy with rfl | hy
    · exact h1
    · exact leS_trans _ _ _ h1 ((List.pairwise_cons.mp ih).1 y hy)
theorem strs_one {ys ks : List Str} (h1 : ys.Perm ks) (h2 : sortedS ys = true) : ys.map PyData.str = (ks.map PyData.str).mergeSort (PySem.W.dataLe false id) := by
  rw [strs_sort]
  congr 1
  refine List.Perm.eq_of_pairwise (fun a b _ _ => leS_anti) ?_ (List.pairwise_mergeSort leS_trans leS_total ks) (h1.trans (List.mergeSort_perm _ _).symm)
  cases ys with
  | nil => exact .nil
  | cons x r => exact rising_pair r x h2
theorem keys_strs {H : Hp} {K : PySem.W.Frag} : ∀ {kvs : List (Key × V)} {ds : List (PyData × PyData)} {ks : List Str}, RpK K H kvs ds → strsOf (ds.map (·.1)) = some ks → kvs.map (·.1) = ks.map Sum.inr
  | _, _, ks, .nil, h => by cases h; rfl
  | _, _, ks, .cons (k := k) (kvs := kvs) (ds := ds) a b, h => by
    cases k with
    | inl i => cases h
    | inr z =>
      rw [List.map_cons] at h
      have h : (strsOf (ds.map (·.1))).map (z :: ·) = some ks := h
      obtain ⟨ms, e, rfl⟩ := Option.map_eq_some_iff.mp h
      rw [List.map_cons, List.map_cons, keys_strs b e]
theorem strsOf_eq : ∀ {ds : List PyData} {ks : List Str}, strsOf ds = some ks → ds = ks.map .str
  | [], _, h => by cases h; rfl
  | .str z :: r, ks, h => by
    have h : (strsOf r).map (z :: ·) = some ks := h
    obtain ⟨ms, e, rfl⟩ := Option.map_eq_some_iff.mp h
    rw [List.map_cons, strsOf_eq e]
  | .none :: r, _, h => by cases h
  | .bool _ :: r, _, h => by cases h
  | .int _ :: r, _, h => by cases h
  | .list _ :: r, _, h => by cases h
  | .tuple _ :: r, _, h => by cases h
  | .dict _ :: r, _, h => by cases h
/-- list(text) -/
theorem cr_listS (hc : X.calm = true) : CallR X (.type "list") (fun vs H Q => ∃ z, vs = [.str z] ∧ z.length ≤ sizeLine ∧ ∀ q, H q = none → Q (.ref q) (upd H q (.lst (z.cps.toList.map fun c => .str ⟨#[c]⟩)))) := by
  intro pins s σ H vs us Q I rv h
  obtain ⟨z, rfl, hz, q⟩ := h
  obtain ⟨u, rfl, t, rfl⟩ := Vals.one rv
  refine call_list_str (I.ok.hd hc) z t (fun h' tk acc' c' hk hS hacc => ?_) hz
  have hfr : H s.heap.objs.size = none := I.hok.fresh (Nat.le_refl _)
  refine ⟨.ref _, upd H s.heap.objs.size (.lst (z.cps.toList.map fun c => .str ⟨#[c]⟩)), I.laid (t' := tk) hk (Nat.le_refl _) ⟨by rw [List.length_map]; exact hz, acc'.toList, c', ?_, hS⟩, rfl, q _ hfr⟩
  refine vals_of_at (by rw [List.length_map]; show z.cps.toList.length = _; simpa using hacc.1.symm) fun j x u e1 e2 => ?_
  obtain ⟨c, t', hc', rfl⟩ := hacc.2 j u (by simpa using e2)
  rw [List.getElem?_map] at e1
  have : z.cps.toList[j]? = some c := by simpa using hc'
  rw [this] at e1
  cases e1
  exact ⟨t', rfl⟩

theorem big_4300 : 2 ^ 14000 ≤ 10 ^ 4300 := by decide +kernel
/-- a name that the part at a does not bear -/
theorem ns_none {K : PySem.W.Frag} {h : Heap} {a : Addr} {m : Str → Option Value} {x : Str} (kin : K.In h) (ns : h.Ns a m) (e : PySem.W.nsIn K a x = some none) : m x = none := by
  obtain ⟨o, es, ep, e1, e2, _, e3⟩ := ns
  unfold PySem.W.nsIn at e
  cases q : K.lookup a with
  | none => rw [q] at e; cases e
  | some ob =>
    obtain ⟨c, d, dt, sl⟩ := ob
    have q2 := kin _ _ q
    rw [q] at e
    rw [e1] at q2
    cases q2
    dsimp only at e2
    subst e2
    dsimp only at e
    rw [← e3]
    cases q3 : es.toList.find? (·.key.isStr x) with
    | some en => rw [q3] at e; cases e
    | none =>
      unfold nsFind findBy
      rw [← Array.find?_toList]
      rw [q3]
      rfl
theorem no_digits {pins : List (Addr × Obj)} {σ : L2.St} {H : Hp} {s : Shared} (I : Inv X pins σ H s) (hd : PySem.W.nsIn X.K cStatics "sys.int_max_str_digits" = some none) : s.heap.NoDigits := by
  obtain ⟨mc, h1, _⟩ := I.mod.nolimit.keeps fun b o e => (I.bs b o e).1
  exact ⟨mc, h1, ns_none I.kIn h1 hd⟩
theorem bi_ok [TabsC] (hd : PySem.W.nsIn X.K cStatics "sys.int_max_str_digits" = some none) (hg : X.A.guards = some []) (hu : X.A.units + 64 < cLine) (hc : X.calm = true) (b : Bi) : CallR X (biV b) (rBi X.K b) := by
  intro pins s σ H vs us Q I rv h
  obtain ⟨G, Z, n, ts, k, pa, h⟩ := h
  have one : ∀ {t : T}, ts = [t] → ∃ v, vs = [v] ∧ RW X.K H G Z v t := fun e => by subst e; exact pair1 pa
  have two : ∀ {t u : T}, ts = [t, u] → ∃ v w, vs = [v, w] ∧ RW X.K H G Z v t ∧ RW X.K H G Z w u := fun e => by subst e; exact pair2 pa
  cases b with
  | len =>
    unfold biW at h
    split at h <;> first | exact h.elim | skip
    all_goals first
      | (rename_i he; cases he; done)
      | skip
    · obtain ⟨v, rfl, w⟩ := one rfl
      obtain ⟨p, rfl, hp⟩ := w.scr
      exact call_len pins s σ H _ us Q I rv ⟨_, _, rfl, .inl ⟨_, hp.seq, rfl⟩, by rw [List.length_map]; exact Kq.int h k⟩
    · obtain ⟨v, rfl, w⟩ := one rfl
      obtain ⟨p, ws, rfl, hp, r⟩ := w.lst
      exact call_len pins s σ H _ us Q I rv ⟨_, ws.length, rfl, .inl ⟨ws, .of hp, rfl⟩, by rw [r.length]; exact Kq.int h k⟩
    · obtain ⟨v, rfl, w⟩ := one rfl
      obtain ⟨p, ws, rfl, hp, r⟩ := w.tup
      exact call_len pins s σ H _ us Q I rv ⟨_, ws.length, rfl, .inr ⟨ws, hp, rfl⟩, by rw [r.length]; exact Kq.int h k⟩
    · obtain ⟨v, rfl, w⟩ := one rfl
      obtain rfl := w.str
      exact call_len pins s σ H _ us Q I rv ⟨_, _, rfl, ⟨h.1, rfl⟩, Kq.int h.2 k⟩
    · obtain ⟨v, rfl, w⟩ := one rfl
      obtain ⟨p, kvs, rfl, hp, r⟩ := w.dct h.1
      obtain ⟨u, rfl, ru⟩ := Vals.one rv
      cases ru
      refine d_len I hp fun t s' I' => ⟨.int _, H, I', ⟨_, rfl⟩, ?_⟩
      rw [rpk_len r]
      exact Kq.int h.2 k
  | sum =>
    unfold biW at h
    split at h <;> first | exact h.elim | skip
    all_goals first | (rename_i he; cases he; done) | skip
    obtain ⟨v, rfl, w⟩ := one rfl
    obtain ⟨p, ws, rfl, hp, r⟩ := w.lst
    obtain ⟨ns, e, h⟩ := h
    have := rpa_ints r e
    subst this
    exact cr_sum hc pins s σ H _ us Q I rv ⟨p, ns, rfl, .of hp, Kq.int h k⟩
  | int =>
    unfold biW at h
    split at h <;> first | exact h.elim | skip
    all_goals first | (rename_i he; cases he; done) | skip
    obtain ⟨v, rfl, w⟩ := one rfl
    obtain rfl := w.int
    exact call_int1 pins s σ H _ us Q I rv (.inl ⟨_, rfl, Kq.int h k⟩)
  | max2 =>
    unfold biW at h
    split at h <;> first | exact h.elim | skip
    all_goals first | (rename_i he; cases he; done) | skip
    obtain ⟨v, v', rfl, w, w'⟩ := two rfl
    obtain rfl := w.int; obtain rfl := w'.int
    exact call_max2 hc pins s σ H _ us Q I rv ⟨_, _, rfl, Kq.int h k⟩
  | min2 =>
    unfold biW at h
    split at h <;> first | exact h.elim | skip
    all_goals first | (rename_i he; cases he; done) | skip
    obtain ⟨v, v', rfl, w, w'⟩ := two rfl
    obtain rfl := w.int; obtain rfl := w'.int
    exact call_min2 hc pins s σ H _ us Q I rv ⟨_, _, rfl, Kq.int h k⟩
  | max1 =>
    unfold biW at h
    split at h <;> first | exact h.elim | skip
    all_goals first | (rename_i he; cases he; done) | skip
    obtain ⟨v, rfl, w⟩ := one rfl
    obtain ⟨p, ws, rfl, hp, r⟩ := w.lst
    obtain ⟨ns, e, ne, h⟩ := h
    have := rpa_ints r e
    subst this
    exact cr_max hc pins s σ H _ us Q I rv ⟨p, ns, rfl, .of hp, List.length_pos_iff.mpr ne, fun m h1 h2 => Kq.int (h m h1 h2) k⟩
  | min1 =>
    unfold biW at h
    split at h <;> first | exact h.elim | skip
    all_goals first | (rename_i he; cases he; done) | skip
    obtain ⟨v, rfl, w⟩ := one rfl
    obtain ⟨p, ws, rfl, hp, r⟩ := w.lst
    obtain ⟨ns, e, ne, h⟩ := h
    have := rpa_ints r e
    subst this
    exact cr_min hc pins s σ H _ us Q I rv ⟨p, ns, rfl, .of hp, List.length_pos_iff.mpr ne, fun m h1 h2 => Kq.int (h m h1 h2) k⟩
  | repr =>
    unfold biW at h
    split at h <;> first | exact h.elim | skip
    all_goals first | (rename_i he; cases he; done) | skip
    obtain ⟨v, rfl, w⟩ := one rfl
    exact cr_repr hg hu pins s σ H _ us Q I rv ⟨v, _, rfl, w.data k, h.1, Kq.str h.2 k⟩
  | all =>
    unfold biW at h
    split at h <;> first | exact h.elim | skip
    all_goals first | (rename_i he; cases he; done) | skip
    obtain ⟨v, rfl, w⟩ := one rfl
    obtain ⟨p, ws, rfl, hp, r⟩ := w.lst
    obtain ⟨bs, rfl, e1, e2⟩ := rpa_bls r h.1
    exact cr_all hc pins s σ H _ us Q I rv ⟨p, bs, rfl, .of hp, by rw [e1]; exact Kq.bl h.2 k⟩
  | any =>
    unfold biW at h
    split at h <;> first | exact h.elim | skip
    all_goals first | (rename_i he; cases he; done) | skip
    obtain ⟨v, rfl, w⟩ := one rfl
    obtain ⟨p, ws, rfl, hp, r⟩ := w.lst
    obtain ⟨bs, rfl, e1, e2⟩ := rpa_bls r h.1
    exact cr_any hc pins s σ H _ us Q I rv ⟨p, bs, rfl, .of hp, by rw [e2]; exact Kq.bl h.2 k⟩
  | sorted =>
    unfold biW at h
    split at h <;> first | exact h.elim | skip
    all_goals first | (rename_i he; cases he; done) | skip
    · obtain ⟨v, rfl, w⟩ := one rfl
      obtain ⟨p, ws, rfl, hp, r⟩ := w.lst
      exact cr_sort hu pins s σ H _ us Q I rv ⟨p, ws, _, Z, rfl, hp, r, h.1, fun ys q r2 hq => Kq.lst h.2 k r2 hq⟩
    · obtain ⟨v, rfl, w⟩ := one rfl
      obtain ⟨⟨h1, h2, ks, h3⟩, h⟩ := h
      obtain ⟨p, kvs, rfl, hp, r⟩ := w.dct h1
      have e1 := keys_strs r h3
      have e2 : ks.length < 64 := by
        have := congrArg List.length (strsOf_eq h3)
        rw [List.length_map, List.length_map] at this
        omega
      refine call_sortedD hc pins s σ H _ us Q I rv ⟨p, kvs, ks, rfl, hp, e1, e2, fun ys q g1 g2 hq => Kq.lst h k ?_ hq⟩
      rw [strsOf_eq h3, ← strs_one g1 g2]
      exact RpA.strs ys
  | list =>
    unfold biW at h
    split at h <;> first | exact h.elim | skip
    all_goals first | (rename_i he; cases he; done) | skip
    · obtain ⟨v, rfl, w⟩ := one rfl
      obtain ⟨p, ws, rfl, hp, r⟩ := w.lst
      exact call_list_of pins s σ H _ us Q I rv ⟨p, ws, rfl, .inl (.of hp), fun q hq => Kq.lst h k r hq⟩
    · obtain ⟨v, rfl, w⟩ := one rfl
      obtain ⟨p, ws, rfl, hp, r⟩ := w.tup
      exact call_list_of pins s σ H _ us Q I rv ⟨p, ws, rfl, .inr hp, fun q hq => Kq.lst h k r hq⟩
    · obtain ⟨v, rfl, w⟩ := one rfl
      obtain rfl := w.str
      refine cr_listS hc pins s σ H _ us Q I rv ⟨_, rfl, h.1, fun q hq => Kq.lst h.2 k ?_ hq⟩
      have := RpA.strs (K := X.K) (H := mask H Z) ((‹Str›).cps.toList.map fun c => ⟨#[c]⟩)
      rw [List.map_map, List.map_map] at this
      exact this
    · obtain ⟨v, rfl, w⟩ := one rfl
      obtain ⟨p, kvs, rfl, hp, r⟩ := w.dct h.1
      exact call_listD hc pins s σ H _ us Q I rv ⟨p, kvs, rfl, hp, fun q hq => Kq.lst h.2 k (rpk_keys r) hq⟩
  | dict =>
    unfold biW at h
    split at h <;> first | exact h.elim | skip
    all_goals first | (rename_i he; cases he; done) | skip
    obtain ⟨v, rfl, w⟩ := one rfl
    obtain ⟨p, kvs, rfl, hp, r⟩ := w.dct h.1
    exact call_dictD pins s σ H _ us Q I rv ⟨p, kvs, rfl, hp, fun q hq => Kq.dnew h.2 k r hq⟩
  | tuple =>
    unfold biW at h
    split at h <;> first | exact h.elim | skip
    all_goals first | (rename_i he; cases he; done) | skip
    · obtain ⟨v, rfl, w⟩ := one rfl
      obtain ⟨p, ws, rfl, hp, r⟩ := w.lst
      exact call_tuple_of pins s σ H _ us Q I rv ⟨p, ws, rfl, .inl ⟨.of hp, fun q hq => Kq.tup h k r hq⟩⟩
    · obtain ⟨v, rfl, w⟩ := one rfl
      rcases w with w | w
      · have w' := w
        cases w with
        | tup ht r => exact call_tuple_of pins s σ H _ us Q I rv ⟨_, _, rfl, .inr ⟨mask_le.sqT ht, Kq.old h k w'⟩⟩
      · exact w.elim
  | abs =>
    unfold biW at h
    split at h <;> first | exact h.elim | skip
    all_goals first | (rename_i he; cases he; done) | skip
    obtain ⟨v, rfl, w⟩ := one rfl
    obtain rfl := w.int
    exact call_abs pins s σ H _ us Q I rv ⟨_, rfl, Kq.int h k⟩
  | str =>
    unfold biW at h
    split at h <;> first | exact h.elim | skip
    all_goals first | (rename_i he; cases he; done) | skip
    obtain ⟨v, rfl, w⟩ := one rfl
    obtain rfl := w.int
    obtain ⟨u, rfl, t, rfl⟩ := Vals.one rv
    refine PyProof.Rows.str_of_int_or (I.ok.hd hc) (no_digits I hd) (fun _ => ⟨.str _, H, I.tok _, ⟨_, rfl⟩, Kq.str h.2 k⟩) fun z => ?_
    have h1 : _ < 14000 := h.1
    exact absurd z (Nat.not_le_of_lt (Nat.lt_of_lt_of_le (PyProof.Rows.lt_of_log2 h1) big_4300))
/-- isinstance(x, T) -/
def tyName : TyN → String
  | .int => "int" | .bool => "bool" | .str => "str" | .list => "list" | .tuple => "tuple" | .dict => "dict"
theorem isi_ok [TabsC] (t : TyN) : CallR X (.builtin "isinstance") (fun vs H Q => ∃ v x, vs = [v, .ty (tyName t)] ∧ Rp X.K H v x ∧ Q (.bl (isTy x t)) H) := by
  intro pins s σ H vs us Q I rv h
  obtain ⟨v, x, rfl, r, q⟩ := h
  obtain ⟨u, w, rfl, ru, rw'⟩ := Vals.two rv
  have rw2 : w = Value.type (tyName t) := rw'
  subst rw2
  obtain ⟨as, rd⟩ := dreads I r ru
  have e : ∀ b, b = isTy x t → ∀ tk, EP X pins σ Q (.bool b) { s with toks := tk } := fun b e tk => by subst e; exact ep_tok (v := .bl (isTy x t)) I rfl q
  cases t with
  | int => exact isinstance_int_data rd fun tk _ => e _ (by cases x <;> rfl) tk
  | bool => exact isinstance_bool_data rd fun tk _ => e _ (by cases x <;> rfl) tk
  | str => exact isinstance_str_data rd fun tk _ => e _ (by cases x <;> rfl) tk
  | list => exact isinstance_list_data rd fun tk _ => e _ (by cases x <;> rfl) tk
  | tuple => exact isinstance_tuple_data rd fun tk _ => e _ (by cases x <;> rfl) tk
  | dict => exact isinstance_dict_data rd fun tk _ => e _ (by cases x <;> rfl) tk
/-- isinstance(x, (T, U)) -/
def tyOf : PyData → String
  | .none => "NoneType" | .bool _ => "bool" | .int _ => "int" | .str _ => "str" | .list _ => "list" | .tuple _ => "tuple" | .dict _ => "dict"
theorem kit_is {K : PySem.W.Frag} (x : PyData) (t : TyN) : PySem.W.kitOne K (.type (tyOf x)) (.type (tyName t)) = some (isTy x t) := by
  cases x <;> cases t <;> exact kit_ty (by kernel_rfl)
theorem rd_of {H : Hp} {a : Addr} {u : HO} (h : Rd H a u) : H a = some u ∨ ∃ o, H a = some (.frz o u) := h
theorem tyx_of {K : PySem.W.Frag} {H : Hp} {v : V} {x : PyData} (r : Rp K H v x) (o : isiOk x) : TyX K H v (.type (tyOf x)) := by
  cases r with
  | non => exact .base .non
  | bl b => exact .base (.bl b)
  | int i => exact .base (.int i)
  | str z => exact .base (.str z)
  | lst h _ => exact .base (.lst h)
  | tup h _ =>
    rcases h with (h | ⟨ob, h⟩) | ⟨ob, its, n, h1, h2, _⟩
    · exact .base (.tup h)
    · exact .fTuple h
    · exact .kTuple h1 h2
  | dK h _ =>
    rcases h with h | ⟨ob, h⟩
    · exact .base (.dK h)
    · exact .fDict h
  | dT h r => exact (rptk_no r o).elim
theorem isi2_ok (t u : TyN) : CallR X (.builtin "isinstance") (fun vs H Q => ∃ v x p, vs = [v, .ref p] ∧ Rp X.K H v x ∧ isiOk x ∧ H p = some (.tup [.ty (tyName t), .ty (tyName u)]) ∧ Q (.bl (isTy x t || isTy x u)) H) := by
  intro pins s σ H vs us Q I rv h
  obtain ⟨v, x, p, rfl, r, o, hp, q⟩ := h
  refine call_isiT pins s σ H _ us Q I rv ⟨v, p, _, _, [.type (tyName t), .type (tyName u)], _, rfl, hp, .cons (.ty _) (.cons (.ty _) .nil), tyx_of r o, ?_, q⟩
  refine kitAny_cons (kit_is x t) (fun e => ?_) fun e => by rw [e]; rfl
  rw [e]
  refine kitAny_cons (kit_is x u) (fun e => ?_) fun e => by rw [e]; rfl
  rw [e]
  exact kitAny_nil
end
end TL

set_option Elab.async false
set_option linter.all false
set_option maxRecDepth 100000
/-! TL7: a written expression and the small syntax agree (a check by computing). -/
namespace TL
open PySem PySem.Spec PyProof.Rows L2

def isVis (sc : Scope) (x : Str) : Bool := match sc.names.lookup x with
  | some .local => true | some .cell => true | some .free => true | _ => false
def isGl (sc : Scope) (x : Str) : Bool := match sc.names.lookup x with
  | some .globalImplicit => true | _ => false
def notDbg (x : Str) : Bool := !(x == ("__debug__" : Str)) && !(x == ("__classdict__" : Str))
def notStar : Expr → Bool
  | .Starred _ _ => false | _ => true
def plainIxB : Expr → Bool
  | .Slice _ _ _ _ => false | _ => true
def plainBase : Expr → Bool
  | .Call _ _ _ _ => false | _ => true
def notSet : Expr → Bool
  | .Set _ _ _ => false | _ => true
def cstB : PyData → Const → Bool
  | .none, .none => true
  | .bool b, .bool c => b == c
  | .int i, .int j => i == j
  | .str s, .str t => decide (s = t)
  | _, _ => false
def bopB : BOp → Operator → Bool
  | .add, .Add => true | .sub, .Sub => true | .mul, .Mult => true | .fdiv, .FloorDiv => true | .mod, .Mod => true | .pow, .Pow => true | _, _ => false
theorem bopB_eq {o : BOp} {p : Operator} (h : bopB o p = true) : p = bop o := by
  cases o <;> cases p <;> first | rfl | cases h
def copB : COp → CmpOp → Bool
  | .eq, .Eq => true | .ne, .NotEq => true | .lt, .Lt => true | .le, .LtE => true | .gt, .Gt => true | .ge, .GtE => true
  | .is_, .Is => true | .isn, .IsNot => true | .in_, .In => true | .nin, .NotIn => true | _, _ => false
theorem copB_eq {o : COp} {p : CmpOp} (h : copB o p = true) : p = cop o := by
  cases o <;> cases p <;> first | rfl | cases h
/-- a target of names -/
def tgB (N : List Str) (sc : Scope) : Tg → Expr → Bool
  | .nm i, .Name x _ => decide (N[i]? = some x) && isLoc sc x
  | .tp l, .Tuple es _ _ => tgsB N sc l es
  | _, _ => false
where
  isLoc (sc : Scope) (x : Str) : Bool := match sc.names.lookup x with | some .local => true | some .cell => true | _ => false
  tgsB (N : List Str) (sc : Scope) : List Nat → List Expr → Bool
    | [], [] => true
    | i :: l, .Name x _ :: es => decide (N[i]? = some x) && isLoc sc x && tgsB N sc l es
    | _, _ => false
def bareName (x : Str) : Expr → Bool
  | .Name y _ => decide (y = x)
  | _ => false
def kwB : List Keyword → List Str
  | [] => []
  | ⟨some x, _, _⟩ :: r => x :: kwB r
  | ⟨none, _, _⟩ :: r => kwB r
def kwAll : List Keyword → Bool
  | [] => true
  | ⟨some _, _, _⟩ :: r => kwAll r
  | ⟨none, _, _⟩ :: _ => false
def tgIn (own : List Nat) : Tg → Bool
  | .nm i => own.contains i
  | .tp l => l.all own.contains
def isT : E → Bool
  | .c (.bool true) => true
  | _ => false
def isRev : Expr → Bool
  | .Slice none none (some (.UnaryOp .USub (.Constant (.int i) _ _) _)) _ => decide (i = 1)
  | _ => false
theorem isRev_eq {e : Expr} (h : isRev e = true) : ∃ k p1 p2 p3, e = .Slice none none (some (.UnaryOp .USub (.Constant (.int 1) k p1) p2)) p3 := by
  unfold isRev at h
  split at h
  · have := of_decide_eq_true h
    subst this
    exact ⟨_, _, _, _, rfl⟩
  · cases h
def zipT : SK → Expr → Bool
  | .zip, .Tuple _ _ _ => true
  | .zip, _ => false
  | _, _ => true
/-- a dict's written keys and values -/
def dctB : List (Key × PyData) → List (Option Expr) → List Expr → Bool
  | [], [], [] => true
  | (k, x) :: r, some (.Constant c _ _) :: ks, .Constant d _ _ :: vs => cstB (keyD k) c && cstB x d && dctB r ks vs
  | _, _, _ => false
def kbN : Kb → Str
  | .sorted => "sorted" | .min => "min" | .max => "max"
/-- f(e, k=lambda y: bd) -/
def keyOf : Expr → Option (Str × Expr × Str × Str × Expr × Scope)
  | .Call (.Name x _) [e] [⟨some k, .Lambda ⟨[], [⟨y, none, _⟩], none, [], [], none, []⟩ bd scope _, _⟩] _ => some (x, e, k, y, bd, scope)
  | _ => none
theorem keyOf_eq {pe e bd : Expr} {x k y : Str} {scope : Scope} (h : keyOf pe = some (x, e, k, y, bd, scope)) : ∃ p1 p2 p3 p4 p5, pe = .Call (.Name x p1) [e] [⟨some k, .Lambda ⟨[], [⟨y, none, p2⟩], none, [], [], none, []⟩ bd scope p3, p4⟩] p5 := by
  unfold keyOf at h
  split at h
  · cases h
    exact ⟨_, _, _, _, _, rfl⟩
  · cases h
/-- f(g(e, e')) -/
def zipOf : Expr → Option (Str × Str × Expr × Expr)
  | .Call (.Name x _) [.Call (.Name y _) [e, e'] [] _] [] _ => some (x, y, e, e')
  | _ => none
theorem zipOf_eq {pe e e' : Expr} {x y : Str} (h : zipOf pe = some (x, y, e, e')) : ∃ p1 p2 p3 p4, pe = .Call (.Name x p1) [.Call (.Name y p2) [e, e'] [] p3] [] p4 := by
  unfold zipOf at h
  split at h
  · cases h
    exact ⟨_, _, _, _, rfl⟩
  · cases h
def lamPB (sc scope : Scope) (a : Str) : Bool :=
  decide (scope.kind = .function) && !scope.isCoroutine && !scope.isGenerator && decide (scope.names.lookup a = some .local) &&
    scope.names.all fun y => (!decide (y.2 = .local) || decide (y.1 = a)) && !decide (y.2 = .cell) && (!decide (y.2 = .free) || decide (sc.names.lookup y.1 = some .cell) || decide (sc.names.lookup y.1 = some .free))
mutual
def chkE (Γ : TCx) (N : List Str) : Bool → Scope → E → Expr → Bool
  | lb, sc, .c x, .Constant k _ _ => cstB x k
  | lb, sc, .v i, .Name x _ => decide (N[i]? = some x) && isVis sc x && notDbg x
  | lb, sc, .w i, .Name x _ => decide (N[i]? = some x) && isVis sc x && notDbg x
  | lb, sc, .g k, .Name x _ => Γ.hc k && decide (Γ.gm k = x) && isGl sc x && notDbg x
  | lb, sc, .bin o a b, .BinOp l p r _ => bopB o p && chkE Γ N lb sc a l && chkE Γ N lb sc b r
  | lb, sc, .neg a, .UnaryOp p e _ => (match p with | .USub => true | _ => false) && chkE Γ N lb sc a e
  | lb, sc, .not a, .UnaryOp p e _ => (match p with | .Not => true | _ => false) && chkE Γ N lb sc a e
  | lb, sc, .and a b, .BoolOp p (x :: y :: r) q => (match p with | .And => true | _ => false) && sg a && sg b && chkE Γ N lb sc a x && chkE Γ N lb sc b (match r with | [] => y | _ => .BoolOp .And (y :: r) q)
  | lb, sc, .or a b, .BoolOp p (x :: y :: r) q => (match p with | .Or => true | _ => false) && sg a && sg b && chkE Γ N lb sc a x && chkE Γ N lb sc b (match r with | [] => y | _ => .BoolOp .Or (y :: r) q)
  | lb, sc, .ife c a b, .IfExp t x y _ => sg a && sg b && chkE Γ N lb sc c t && chkE Γ N lb sc a x && chkE Γ N lb sc b y
  | lb, sc, .cmp o a b, .Compare l [p] [r] _ => copB o p && chkE Γ N lb sc a l && chkE Γ N lb sc b r && notSet r
  | lb, sc, .chain o o' a b c, .Compare l [p, p'] [r, r'] _ => copB o p && copB o' p' && chkE Γ N lb sc a l && chkE Γ N lb sc b r && chkE Γ N lb sc c r' && notSet r'
  | lb, sc, .lst l, .List es _ => (sgs l).all id && chkEs Γ N lb sc l es
  | lb, sc, .tup l, .Tuple es _ _ => (sgs l).all id && chkEs Γ N lb sc l es
  | lb, sc, .dct kvs, .Dict ks vs _ => dctB kvs ks vs && decide (ks.length ≤ 15) && decide ((kvs.map (·.1)).Nodup) && kvs.all (fun kv => atomD kv.2)
  | lb, sc, .gix i k, .Subscript (.Name x _) (.Constant (.int j) _ _) _ => decide (N[i]? = some x) && isVis sc x && notDbg x && decide (j = k) && decide (k < 3)
  | lb, sc, .ix a i, .Subscript e s _ => plainIxB s && chkE Γ N lb sc a e && chkE Γ N lb sc i s
  | lb, sc, .sl a lo hi, .Subscript e (.Slice l u none _) _ => chkE Γ N lb sc a e && (match l with | none => isNoB lo | some x => !isNoB lo && chkE Γ N lb sc lo x) && (match u with | none => isNoB hi | some x => !isNoB hi && chkE Γ N lb sc hi x)
  | lb, sc, .rev a, .Subscript e sl _ => isRev sl && chkE Γ N lb sc a e
  | lb, sc, .call f l, .Call (.Name x _) es [] _ => Γ.hf f && decide (Γ.nm f = x) && isGl sc x && notDbg x && (sgs l).all id && chkEs Γ N lb sc l es
  | lb, sc, .callk f l pm ks, .Call (.Name x _) es kws _ => Γ.kw f pm es.length (kwB kws) && decide (Γ.nm f = x) && isGl sc x && notDbg x && kwAll kws && !kws.isEmpty && (sgs l).all id && (sgs ks).all id && chkEs Γ N lb sc l es && chkKs Γ N lb sc ks kws
  | lb, sc, .isi a t, .Call (.Name x _) [e, .Name y _] [] _ => decide (x = ("isinstance" : Str)) && decide (y = Str.ofString (tyName t)) && Γ.bl.contains x && Γ.bl.contains y && isGl sc x && isGl sc y && chkE Γ N lb sc a e && notStar e
  | lb, sc, .isi2 a t u, .Call (.Name x _) [e, .Tuple [.Name y _, .Name z _] _ _] [] _ => decide (x = ("isinstance" : Str)) && decide (y = Str.ofString (tyName t)) && decide (z = Str.ofString (tyName u)) && Γ.bl.contains x && Γ.bl.contains y && Γ.bl.contains z && isGl sc x && isGl sc y && isGl sc z && chkE Γ N lb sc a e && notStar e
  | lb, sc, .lrg a, .Call (.Name x _) [.Call (.Name y _) [e] [] _] [] _ => decide (x = ("list" : Str)) && decide (y = ("range" : Str)) && Γ.bl.contains x && Γ.bl.contains y && isGl sc x && isGl sc y && chkE Γ N lb sc a e && notStar e
  | lb, sc, .bi b l, .Call (.Name x _) (e :: es) [] _ => decide (x = biN b) && Γ.bl.contains x && isGl sc x && chkEs Γ N lb sc l (e :: es)
  | lb, sc, .mt m a l, .Call (.Attribute o x ap) es [] p => plainBase o && decide (ap.endLine = p.line) && chkE Γ N lb sc a o && (match m with
      | .join => decide (x = ("join" : Str)) && decide (es.length = 1)
      | .bitlen => decide (x = ("bit_length" : Str)) && decide (es.length = 0)) && chkEs Γ N lb sc l es
  | lb, sc, .lc own tg k src cnd elt, .ListComp el [⟨t, iter, ifs, as⟩] scope _ => decide (as = 0) &&
      blkC N sc scope (own.map fun i => (N.getD i ⟨#[]⟩, i)) && tgB N scope tg t && tgIn own tg && zipT k t && notSet iter && chkSrc Γ N lb sc k src iter &&
      (match ifs with | [] => isT cnd | [c] => chkE Γ N lb (relS scope sc) cnd c | _ => false) && sg elt && chkE Γ N lb (relS scope sc) elt el
  | lb, sc, .atm a, e => chkE Γ N lb sc a e
  | lb, sc, .key b i a body, pe => (match keyOf pe with
      | some ⟨x, e, k, y, bd, scope⟩ => lb && decide (x = kbN b) && Γ.bl.contains x && isGl sc x && notStar e && chkE Γ N lb sc a e && decide (k = ("key" : Str)) && decide (N[i]? = some y) && lamPB sc scope y && sg body && chkE Γ N false scope body bd
      | none => false)
  | lb, sc, .dzip a b, pe => (match zipOf pe with
      | some ⟨x, y, e, e'⟩ => decide (x = ("dict" : Str)) && decide (y = ("zip" : Str)) && Γ.bl.contains x && Γ.bl.contains y && isGl sc x && isGl sc y && notStar e && notStar e' && chkE Γ N lb sc a e && chkE Γ N lb sc b e'
      | none => false)
  | _, _, _, _ => false
def chkEs (Γ : TCx) (N : List Str) : Bool → Scope → Es → List Expr → Bool
  | _, _, .nil, [] => true
  | lb, sc, .cons a l, e :: es => notStar e && chkE Γ N lb sc a e && chkEs Γ N lb sc l es
  | _, _, _, _ => false
def chkKs (Γ : TCx) (N : List Str) : Bool → Scope → Es → List Keyword → Bool
  | _, _, .nil, [] => true
  | lb, sc, .cons a l, ⟨_, e, _⟩ :: ks => chkE Γ N lb sc a e && chkKs Γ N lb sc l ks
  | _, _, _, _ => false
/-- what is walked -/
def chkSrc (Γ : TCx) (N : List Str) : Bool → Scope → SK → Es → Expr → Bool
  | lb, sc, .seq, .cons a .nil, e => sg a && chkE Γ N lb sc a e
  | lb, sc, .seqw, .cons a .nil, e => chkE Γ N lb sc a e
  | lb, sc, .rng1, .cons a .nil, .Call (.Name x _) [e] [] _ => decide (x = ("range" : Str)) && Γ.bl.contains x && isGl sc x && notStar e && chkE Γ N lb sc a e
  | lb, sc, .rng2, .cons a (.cons b .nil), .Call (.Name x _) [e, e'] [] _ => decide (x = ("range" : Str)) && Γ.bl.contains x && isGl sc x && notStar e && notStar e' && chkE Γ N lb sc a e && chkE Γ N lb sc b e'
  | lb, sc, .zip, .cons a (.cons b .nil), .Call (.Name x _) [e, e'] [] _ => decide (x = ("zip" : Str)) && Γ.bl.contains x && isGl sc x && notStar e && notStar e' && chkE Γ N lb sc a e && chkE Γ N lb sc b e'
  | _, _, _, _, _ => false
end
end TL

set_option Elab.async false
set_option linter.all false
set_option maxRecDepth 100000
/-! TL8: what is walked, over trees. -/
namespace TL
open PySem PySem.Spec PyProof.Rows L2

/-- the walk J gives the trees ds, one a turn, wherever all but Y stands as in H -/
def ItD (K : PySem.W.Frag) (Y : List Addr) (J : It) (Z : List Addr) (H : Hp) (ds : List PyData) : Prop :=
  ∀ H' L, (∀ a o, a ∉ Y → H a = some o → Ex H' a o) → (∀ a ∈ L, H a = none) → (∀ z ∈ L ++ Z, H' z ≠ none) → ∀ i,
    (∀ d, ds[i]? = some d → J.go i H' ∧ ∀ x H'', J.yld i H' x H'' → (H'' = H' ∨ ∃ p o, H' p = none ∧ H'' = upd H' p (.tup o)) ∧ Rp K (mask H'' (L ++ Z)) x d) ∧ (ds.length = i → J.stop i H')
theorem mask_keep {Y Z L : List Addr} {H H' : Hp} (hY : ∀ a ∈ Y, a ∈ Z) (h : ∀ a o, a ∉ Y → H a = some o → Ex H' a o) (hL : ∀ a ∈ L, H a = none) : Le (mask H Z) (mask H' (L ++ Z)) :=
  le_ext (fun a o n e => h a o (fun z => n (hY a z)) e) fun a ha n => by
    rcases List.mem_append.mp ha with z | z
    · exact hL a z
    · exact absurd z n
section
variable {K : PySem.W.Frag} {Y Z : List Addr} {H : Hp}
theorem itd_list {a : Addr} {vs : List V} {ds : List PyData} (hY : ∀ a ∈ Y, a ∈ Z) (ha : a ∉ Y) (h : H a = some (.lst vs)) (r : RpA K (mask H Z) vs ds) : ItD K Y (Itl K a) Z H ds := by
  intro H' L k hL hz i
  have h' := (k a _ ha h).eq fun z => z
  refine ⟨fun d hd => ?_, fun e => ⟨vs, .of h', by rw [r.length, e]; exact Nat.le_refl _⟩⟩
  obtain ⟨v, hv, rv⟩ := r.get hd
  refine ⟨⟨vs, v, .of h', hv⟩, fun x H'' hy => ?_⟩
  obtain ⟨rfl, hx⟩ := hy
  have e := (hx vs (.of h')).symm.trans hv
  cases e
  exact ⟨.inl rfl, Rp.le (mask_keep hY k hL) rv⟩
theorem itd_tup {a : Addr} {vs : List V} {ds : List PyData} (hY : ∀ a ∈ Y, a ∈ Z) (h : SqT K (mask H Z) a vs) (r : RpA K (mask H Z) vs ds) : ItD K Y (Itt K a) Z H ds := by
  intro H' L k hL hz i
  have h' : SqT K H' a vs := mask_le.sqT ((mask_keep hY k hL).sqT h)
  refine ⟨fun d hd => ?_, fun e => ⟨vs, h', by rw [r.length, e]; exact Nat.le_refl _⟩⟩
  obtain ⟨v, hv, rv⟩ := r.get hd
  refine ⟨⟨vs, v, h', hv⟩, fun x H'' hy => ?_⟩
  obtain ⟨rfl, hx⟩ := hy
  have e := (hx vs h').symm.trans hv
  cases e
  exact ⟨.inl rfl, Rp.le (mask_keep hY k hL) rv⟩
theorem itd_str {z : Str} : ItD K Y (Its z) Z H (chars z) := by
  intro H' L k hL hz i
  refine ⟨fun d hd => ?_, fun e => ?_⟩
  · unfold chars at hd
    rw [List.getElem?_map] at hd
    cases q : z.cps.toList[i]? with
    | none => rw [q] at hd; cases hd
    | some c =>
      rw [q] at hd
      cases hd
      have hi : i < z.cps.size := by
        have := (List.getElem?_eq_some_iff.mp q).1
        simpa using this
      refine ⟨hi, fun x H'' hy => ?_⟩
      obtain ⟨rfl, c', hc, rfl⟩ := hy
      have : c = c' := by
        have q' : z.cps[i]? = some c := by simpa using q
        rw [q'] at hc
        exact Option.some.inj hc
      subst this
      exact ⟨.inl rfl, .str _⟩
  · have : (chars z).length = z.cps.size := by unfold chars; rw [List.length_map]; simp
    show z.cps.size ≤ i
    omega
theorem itd_range {lo : Int} {n : Nat} : ItD K Y (Itr lo n) Z H ((List.range n).map fun (m : Nat) => .int (lo + m)) := by
  intro H' L k hL hz i
  refine ⟨fun d hd => ?_, fun e => ?_⟩
  · rw [List.getElem?_map] at hd
    by_cases hi : i < n
    · rw [List.getElem?_range hi] at hd
      cases hd
      refine ⟨hi, fun x H'' hy => ?_⟩
      obtain ⟨rfl, rfl⟩ := hy
      exact ⟨.inl rfl, .int _⟩
    · rw [List.getElem?_eq_none (by simpa using hi)] at hd
      cases hd
  · show n ≤ i
    rw [List.length_map, List.length_range] at e
    omega
theorem itd_zip {a b : Addr} {vs ws : List V} {ds es : List PyData} (hY : ∀ a ∈ Y, a ∈ Z) (ha : a ∉ Y) (hb : b ∉ Y) (h : H a = some (.lst vs)) (h2 : H b = some (.lst ws)) (r : RpA K (mask H Z) vs ds) (r2 : RpA K (mask H Z) ws es) :
    ItD K Y (Itz K a b) Z H (List.zipWith (fun x y => .tuple [x, y]) ds es) := by
  intro H' L k hL hz i
  have h' := (k a _ ha h).eq fun z => z
  have h2' := (k b _ hb h2).eq fun z => z
  refine ⟨fun d hd => ?_, fun e => ?_⟩
  · rw [List.getElem?_zipWith] at hd
    cases q1 : ds[i]? with
    | none => rw [q1] at hd; cases hd
    | some x =>
      cases q2 : es[i]? with
      | none => rw [q1, q2] at hd; cases hd
      | some y =>
        rw [q1, q2] at hd
        cases hd
        obtain ⟨v, hv, rv⟩ := r.get q1
        obtain ⟨w, hw, rw'⟩ := r2.get q2
        refine ⟨⟨vs, ws, v, w, .of h', .of h2', hv, hw⟩, fun z H'' hy => ?_⟩
        obtain ⟨T, x', y', rfl, hT, rfl, f1, f2⟩ := hy
        have e1 := (f1 vs (.of h')).symm.trans hv
        have e2 := (f2 ws (.of h2')).symm.trans hw
        obtain rfl := Option.some.inj e1
        obtain rfl := Option.some.inj e2
        have nT : T ∉ L ++ Z := fun z => hz T z hT
        have l : Le (mask H Z) (mask (upd H' T (.tup [x', y'])) (L ++ Z)) := (mask_keep hY k hL).trans (.of fun c o e => by
          obtain ⟨n1, e⟩ := mask_some e
          have hne : c ≠ T := fun z => by rw [z, hT] at e; cases e
          rw [mask_of n1, upd_ne hne]; exact e)
        refine ⟨.inr ⟨T, _, hT, rfl⟩, .tup (.of (by rw [mask_of nT, upd_same])) (.cons (Rp.le l rv) (.cons (Rp.le l rw') .nil))⟩
  · refine ⟨vs, ws, .of h', .of h2', ?_⟩
    rw [List.length_zipWith] at e
    rw [r.length, r2.length]
    omega
theorem itd_zipT {a b : Addr} {vs ws : List V} {ds es : List PyData} (hY : ∀ a ∈ Y, a ∈ Z) (h : SqT K (mask H Z) a vs) (h2 : SqT K (mask H Z) b ws) (r : RpA K (mask H Z) vs ds) (r2 : RpA K (mask H Z) ws es) :
    ItD K Y (RZ.ItzT K a b) Z H (List.zipWith (fun x y => .tuple [x, y]) ds es) := by
  intro H' L k hL hz i
  have h' : SqT K H' a vs := mask_le.sqT ((mask_keep hY k hL).sqT h)
  have h2' : SqT K H' b ws := mask_le.sqT ((mask_keep hY k hL).sqT h2)
  refine ⟨fun d hd => ?_, fun e => ⟨vs, ws, h', h2', ?_⟩⟩
  · obtain ⟨x, y, q1, q2, rfl⟩ : ∃ x y, ds[i]? = some x ∧ es[i]? = some y ∧ PyData.tuple [x, y] = d := by
      rw [List.getElem?_zipWith] at hd
      cases q1 : ds[i]? with
      | none => rw [q1] at hd; cases hd
      | some x =>
        cases q2 : es[i]? with
        | none => rw [q1, q2] at hd; cases hd
        | some y =>
          rw [q1, q2] at hd
          cases hd
          exact ⟨x, y, rfl, rfl, rfl⟩
    obtain ⟨v, hv, rv⟩ := r.get q1
    obtain ⟨w, hw, rw'⟩ := r2.get q2
    refine ⟨⟨vs, ws, v, w, h', h2', hv, hw⟩, fun z H'' hy => ?_⟩
    obtain ⟨T, x', y', rfl, hT, rfl, f1, f2⟩ := hy
    obtain rfl := Option.some.inj ((f1 vs h').symm.trans hv)
    obtain rfl := Option.some.inj ((f2 ws h2').symm.trans hw)
    have nT : T ∉ L ++ Z := fun z => hz T z hT
    have l : Le (mask H Z) (mask (upd H' T (.tup [x', y'])) (L ++ Z)) := (mask_keep hY k hL).trans (.of fun c o e => by
      obtain ⟨n1, e⟩ := mask_some e
      rw [mask_of n1, upd_ne fun z => by rw [z, hT] at e; cases e]
      exact e)
    exact ⟨.inr ⟨T, _, hT, rfl⟩, .tup (.of (by rw [mask_of nT, upd_same])) (.cons (Rp.le l rv) (.cons (Rp.le l rw') .nil))⟩
  · rw [List.length_zipWith] at e
    rw [r.length, r2.length]
    omega
theorem rpk_at : ∀ {kvs : List (Key × V)} {ds : List (PyData × PyData)} {i : Nat} {d : PyData}, RpK K H kvs ds → (ds.map (·.1))[i]? = some d → ∃ k v, kvs[i]? = some (k, v) ∧ d = keyD k
  | _, _, _, _, .nil, e => by simp at e
  | _, _, 0, _, .cons (k := k) (v := v) a b, e => ⟨k, v, rfl, by simpa using e.symm⟩
  | _, _, i + 1, _, .cons a b, e => by
    obtain ⟨k, v, h1, h2⟩ := rpk_at (i := i) b (by simpa using e)
    exact ⟨k, v, by simpa using h1, h2⟩
theorem itd_keys {d : Addr} {o : Obj} {kvs : List (Key × V)} {ds : List (PyData × PyData)} {H0 : Hp} (hd : d ∉ Y) (h : H d = some (.frz o (.dK kvs))) (r : RpK K H0 kvs ds) : ItD K Y (Itk d o kvs) Z H (ds.map (·.1)) := by
  intro H' L k hL hz i
  have h' := (k d _ hd h).eq fun z => z
  refine ⟨fun x hx => ?_, fun e => ⟨h', by rw [List.length_map] at e; rw [rpk_len r, e]; exact Nat.le_refl _⟩⟩
  obtain ⟨kk, v, e1, rfl⟩ := rpk_at r hx
  refine ⟨⟨h', (List.getElem?_eq_some_iff.mp e1).1⟩, fun x H'' hy => ?_⟩
  obtain ⟨rfl, k2, v2, e2, rfl⟩ := hy
  rw [e1] at e2
  cases e2
  exact ⟨.inl rfl, by cases kk; exact .int _; exact .str _⟩
/-- an iterator just made -/
theorem go_keys {X : Cx} {tg : Expr} {pins : List (Addr × Obj)} {σ : L2.St} {H : Hp} {s : Shared} {d : Addr} {o : Obj} {kvs : List (Key × V)} {R : It → Hp → Prop} (I : Inv X pins σ H s) (hd : H d = some (.frz o (.dK kvs))) (q : R (Itk d o kvs) H) :
    wpAny (model X.prog X.w) X.A (pyIter (.ref d)) (PIE X pins σ tg R) X.xe s := by
  obtain ⟨hs, hgd, hx, es, ep, vs, hdt, hsz, kv, hm⟩ := I.frzK hd
  refine iter_keys hs hgd hx hdt (pi_one (tk := s.toks) I _ (turn_keys _ hdt) ⟨_, Heap.get?_push_size _ rfl, rfl, ?_⟩ q)
  rw [hsz] <;> rfl
theorem go_list {X : Cx} {tg : Expr} {pins : List (Addr × Obj)} {σ : L2.St} {H : Hp} {s : Shared} {a : Addr} {vs : List V} {R : It → Hp → Prop} (I : Inv X pins σ H s) (h : SqL X.K H a vs) (q : R (Itl X.K a) H) :
    wpAny (model X.prog X.w) X.A (pyIter (.ref a)) (PIE X pins σ tg R) X.xe s := by
  obtain ⟨its, rv, p, hz⟩ := I.list h
  refine wpAny_pyIter_list p.isList ?_
  refine ⟨s.heap.objs.size, [s.heap.objs.size], _, _, H, rfl, I.kept (t' := s.toks) fun b o e => Heap.get?_push_of_some _ e, turn_list a _, ⟨_, Heap.get?_push_size _ rfl, rfl, rfl⟩, fun b hb => ?_, q⟩
  have e : b = s.heap.objs.size := by simpa using hb
  subst e
  exact I.fpOk (Nat.le_refl _) (I.hok.fresh (Nat.le_refl _))
theorem go_tup {X : Cx} {tg : Expr} {pins : List (Addr × Obj)} {σ : L2.St} {H : Hp} {s : Shared} {a : Addr} {vs : List V} {R : It → Hp → Prop} (I : Inv X pins σ H s) (h : SqT X.K H a vs) (q : R (Itt X.K a) H) :
    wpAny (model X.prog X.w) X.A (pyIter (.ref a)) (PIE X pins σ tg R) X.xe s := by
  obtain ⟨its, rv, p, hz⟩ := I.tuple h
  refine wpAny_pyIter_tuple (show s.heap.IsTuple a its.toArray from p) ?_
  refine ⟨s.heap.objs.size, [s.heap.objs.size], _, _, H, rfl, I.kept (t' := s.toks) fun b o e => Heap.get?_push_of_some _ e, turn_tuple a _, ⟨_, Heap.get?_push_size _ rfl, rfl, rfl⟩, fun b hb => ?_, q⟩
  have e : b = s.heap.objs.size := by simpa using hb
  subst e
  exact I.fpOk (Nat.le_refl _) (I.hok.fresh (Nat.le_refl _))
theorem go_str {X : Cx} {tg : Expr} {pins : List (Addr × Obj)} {σ : L2.St} {H : Hp} {s : Shared} {x : Str} {t : Tok} {R : It → Hp → Prop} (I : Inv X pins σ H s) (q : R (Its x) H) :
    wpAny (model X.prog X.w) X.A (pyIter (.str x t)) (PIE X pins σ tg R) X.xe s := by
  cases ha : x.cps.all (· < 128)
  · exact wpAny_pyIter_wide ha (pi_one (tk := s.toks) I _ (turn_str _ x t "str_iterator" (.inr rfl)) ⟨_, Heap.get?_push_size _ rfl, rfl, rfl⟩ q)
  · exact wpAny_pyIter_ascii ha (pi_one (tk := s.toks) I _ (turn_str _ x t "str_ascii_iterator" (.inl rfl)) ⟨_, Heap.get?_push_size _ rfl, rfl, rfl⟩ q)
end
/-- what walks: the trees, whoever asks -/
def rdSrc [TabsC] (Γ : TCx) (mg : Str → Option Value) (K : PySem.W.Frag) (Xt : XE) (Ew : XS) (k : SK) (l : Es) : TI := fun σ H R =>
  ∃ G Z n ρ, Stt mg Γ.cn K Xt (Ew σ) G Z H n σ ρ ∧ wpEs Γ.Φ Γ.C Xt l ρ n fun ts n' => srcW k ts fun ds =>
    ∀ J H' G' Z', Gr G Z H G' Z' H' → Ok G' Z' H' n' → (∀ P : List Addr, (∀ p ∈ P, H' p = none) → ItD K G' J (P ++ Z') H' ds) → ((sgs l).all id = true → ItD K Z' J Z' H' ds) → R J H'
theorem mask_new {H : Hp} {Z P : List Addr} (h : ∀ p ∈ P, H p = none) : Le (mask H Z) (mask H (P ++ Z)) := .of fun a o e => by
  obtain ⟨n, e⟩ := mask_some e
  rw [mask_of fun z => ?_]
  · exact e
  · rcases List.mem_append.mp z with z | z
    · rw [h a z] at e; cases e
    · exact n z
/-- from the values of what is walked -/
theorem src_seqw [TabsC] {X : Cx} {tg : Expr} {pins : List (Addr × Obj)} {σ : L2.St} {H : Hp} {s : Shared} {v : V} {u : Value} {t : T} {G Z : List Addr} {n : Nat} {R : It → Hp → Prop} {b : Bool} (I : Inv X pins σ H s) (k : Ok G Z H n) (ru : RelV v u) (w : RV X.K b H G Z v t)
    (h : srcW .seqw [t] fun ds => ∀ J, (∀ P : List Addr, (∀ p ∈ P, H p = none) → ItD X.K G J (P ++ Z) H ds) → (b = true → ItD X.K Z J Z H ds) → R J H) :
    wpAny (model X.prog X.w) X.A (pyIter u) (PIE X pins σ tg R) X.xe s := by
  have sub : ∀ (P : List Addr), ∀ a ∈ G, a ∈ P ++ Z := fun P a h => List.mem_append_right _ (k.sub a h)
  cases t with
  | gen => exact h.elim
  | scr _ => exact h.elim
  | d x =>
    cases x <;> first | exact h.elim | skip
    · obtain rfl := w.weak.str
      obtain ⟨t, rfl⟩ := ru
      exact go_str I (h _ (fun _ _ => itd_str) fun _ => itd_str)
    · obtain ⟨p, vs, rfl, hp, r⟩ := w.weak.lst
      cases ru
      have hg : p ∉ G := by
        rcases w.weak with z | ⟨p', vs', e, h1, _⟩
        · cases z with
          | lst z _ => exact fun y => (mask_some z).1 (k.sub _ y)
        · cases e; exact h1
      refine go_list I (.of hp) (h _ (fun P hP => itd_list (sub P) hg hp (RpA.le (mask_new hP) r)) fun e => ?_)
      subst e
      have w' : Rp X.K (mask H Z) (.ref p) (.list _) := w
      cases w' with
      | lst z r => exact itd_list (fun _ y => y) (mask_some z).1 (mask_some z).2 r
    · rcases w.weak with z | z
      · have z' : Rp X.K (mask H Z) v (.tuple _) := z
        cases z' with
        | tup q r =>
          cases ru
          exact go_tup I (mask_le.sqT q) (h _ (fun P hP => itd_tup (sub P) ((mask_new hP).sqT q) (RpA.le (mask_new hP) r)) fun _ => itd_tup (fun _ y => y) q r)
      · exact z.elim
/-- a dict is locked -/
theorem src_seq [TabsC] {X : Cx} {tg : Expr} {pins : List (Addr × Obj)} {σ : L2.St} {H : Hp} {s : Shared} {v : V} {u : Value} {t : T} {G Z : List Addr} {n : Nat} {R : It → Hp → Prop} (I : Inv X pins σ H s) (k : Ok G Z H n) (ru : RelV v u) (w : RV X.K true H G Z v t)
    (h : srcW .seq [t] fun ds => ∀ J H', Gr G Z H G Z H' → Ok G Z H' n → (∀ P : List Addr, (∀ p ∈ P, H' p = none) → ItD X.K G J (P ++ Z) H' ds) → ItD X.K Z J Z H' ds → R J H') :
    wpAny (model X.prog X.w) X.A (pyIter u) (PIE X pins σ tg R) X.xe s := by
  have old : (srcW .seqw [t] fun ds => ∀ J H', Gr G Z H G Z H' → Ok G Z H' n → (∀ P : List Addr, (∀ p ∈ P, H' p = none) → ItD X.K G J (P ++ Z) H' ds) → ItD X.K Z J Z H' ds → R J H') → wpAny (model X.prog X.w) X.A (pyIter u) (PIE X pins σ tg R) X.xe s := fun h =>
    src_seqw I k ru w (srcW_mono h fun ds q J a b => q J H Gr.refl k a (b rfl))
  cases t with
  | gen => exact h.elim
  | scr _ => exact h.elim
  | d x =>
    cases x <;> first | exact h.elim | exact old h | skip
    rename_i ds
    obtain ⟨hk, h⟩ := h
    have w' : Rp X.K (mask H Z) v (.dict ds) := w
    cases w' with
    | dT _ r => exact (rptk_no r hk).elim
    | dK hd r =>
      cases ru
      rcases hd with hd | ⟨o, hd⟩
      · obtain ⟨nz, hd⟩ := mask_some hd
        obtain ⟨od, I1⟩ := I.lock hd trivial
        exact go_keys I1 upd_same (h _ _ (Gr.lock trivial hd nz) (k.lock hd trivial nz) (fun P hP => itd_keys (fun z => nz (k.sub _ z)) upd_same r) (itd_keys nz upd_same r))
      · obtain ⟨nz, hd⟩ := mask_some hd
        exact go_keys I hd (h _ _ Gr.refl k (fun P hP => itd_keys (fun z => nz (k.sub _ z)) hd r) (itd_keys nz hd r))
end TL

set_option Elab.async false
set_option linter.all false
set_option maxRecDepth 100000
/-! TL9: the context's facts; states handed on; list comprehensions. -/
namespace TL
open PySem PySem.Spec PyProof.Rows L2

def low [TabsC] (mg : Str → Option Value) (cn : Nat → Str) (K : PySem.W.Frag) (ar : Nat) (sp : TSp) : Sp := fun vs H Q Ew => vs.length = ar ∧
  ∃ G Z n ts, Ok G Z H n ∧ Paired (RpT K H G Z) vs ts ∧ sp ts n (Kq K true G Z H Q) fun er n' =>
    ∀ cls d H' G' Z', Gr G Z H G' Z' H' → Ok G' Z' H' n' → ErAt mg cn K H' Z' er cls d → Ew cls d H'
def kwF {α : Type} (pm : List Nat) (us ws : List α) : List α := pm.filterMap fun j => (us ++ ws)[j]?
/-- the parameters' values: n by place, k by name -/
def kwG {α : Type} (n k : Nat) (pm : List Nat) (us ws : List α) : List α := if us.length = n ∧ ws.length = k then kwF pm us ws else []
/-- lambdas may be made here -/
def LamOk [I : TabsC] (X : Cx) : Prop := Room 1 X.A ∧ ∃ c P, X.env.code = .ref c ∧ PySem.W.codeHdIn X.K c P = true ∧ (P, X.env.qual ++ "<lambda>") ∈ I.T ∧ ∀ p ∈ I.T, p.1 = P → p.2 = X.env.qual ++ "<lambda>"
structure Fx [TabsC] (Γ : TCx) (X : Cx) (lb : Bool) : Prop where
  nd : X.N.Nodup
  calm : X.calm = true
  gd : X.A.guards = some []
  un : X.A.units + 64 < cLine
  tba : TbAt X.base X.mg
  lam : lb = true → LamOk X
  dg : PySem.W.nsIn X.K cStatics "sys.int_max_str_digits" = some none
  mono : MonoPh Γ.Φ
  ar : ∀ f ts n Q Xt, Γ.Φ f ts n Q Xt → ts.length = Γ.ar f
  bl : ∀ x, Γ.bl.contains x = true → X.mg x = none
  gc : ∀ k, Γ.hc k = true → ∃ u v, X.mg (Γ.gm k) = some u ∧ RelV v u ∧ ∀ H, Rp X.K H v (Γ.C k)
  fn : ∀ f, Γ.hf f = true → ∃ a fd k ps, FnG X.prog X.w X.K X.mg X.base (L2.CX X.prog X.w) k a fd ps (low X.mg Γ.cn X.K ps.length (Γ.Φ f)) ∧ ps.length = Γ.ar f ∧
    Room (k + lb.toNat) X.A ∧ X.mg (Γ.nm f) = some (.ref a) ∧ PySem.W.keepIn X.K (.ref a) = true ∧ Binds X.K fd ps []
  kw : ∀ f pm n ks, Γ.kw f pm n ks = true → ∃ a fd k ps, FnG X.prog X.w X.K X.mg X.base (L2.CX X.prog X.w) k a fd ps (low X.mg Γ.cn X.K ps.length (Γ.Φ f)) ∧ ps.length = Γ.ar f ∧
    Room (k + lb.toNat) X.A ∧ X.mg (Γ.nm f) = some (.ref a) ∧ PySem.W.keepIn X.K (.ref a) = true ∧ KBinds X.K fd ps ks (kwG n ks.length pm) (kwG n ks.length pm)

section
variable {mg : Str → Option Value} {cn : Nat → Str} {K : PySem.W.Frag} {Xt : XE} {Ew : XK} {G Z G' Z' : List Addr} {H H' : Hp} {n n' : Nat} {σ : L2.St} {ρ : Ev} {Q : VK} {s : Bool}
/-- what is wanted, asked further on -/
theorem Kq.lift [TabsC] {r : R} (g : Gr G Z H G' Z' H') (h : Kq K s G Z H Q r n) : Kq K s G' Z' H' Q r n :=
  fun v H2 G2 Z2 g2 o2 w f => h v H2 G2 Z2 (g.trans g2) o2 w fun e => (f e).back g
/-- a value that was there already -/
theorem Kq.same [TabsC] {t : T} {v : V} (h : Kq K s G Z H Q ⟨t, false⟩ n) (o : Ok G Z H n) (r : RV K s H G Z v t) : Q v H :=
  h _ _ _ _ Gr.refl o r fun z => nomatch z
/-- a generator's state, another mask -/
theorem Gr.undks [TabsC] (g : Gr G (dks H G Z) H G' Z' H') (o : Ok G Z H n) : ∃ L, G' = L ++ G ∧ (∀ x ∈ L, H x = none) ∧ Gr G Z H G' (L ++ Z) H' := by
  obtain ⟨L, e1, e2, hL⟩ := g.new
  refine ⟨L, e1, hL, ⟨g.ext, fun a ob ha hz nt e => ?_, g.dom, L, e1, rfl, hL⟩⟩
  by_cases c : isDk (H a) = true
  · exact g.exz a ob ha (List.mem_append_right _ (List.mem_filter.mpr ⟨hz, c⟩)) nt e
  · refine (g.ext a ob ha e).eq fun k => c ?_
    rw [e]
    cases ob <;> first | rfl | exact (nt _ rfl).elim | exact False.elim k
theorem Gr.other [TabsC] (g : Gr G (dks H G Z) H G' Z' H') (o : Ok G Z H n) (o' : Ok G' Z' H' n') : ∃ L, G' = L ++ G ∧ Gr G Z H G' (L ++ Z) H' ∧ Ok G' (L ++ Z) H' n' := by
  obtain ⟨L, rfl, hL, g2⟩ := g.undks o
  refine ⟨L, rfl, g2, fun a ha => ?_, fun z hz => ?_, o'.gen, o'.tab⟩
  · rcases List.mem_append.mp ha with z | z
    · exact List.mem_append_left _ z
    · exact List.mem_append_right _ (o.sub a z)
  · rcases List.mem_append.mp hz with q | q
    · exact o'.dom z (o'.sub z (List.mem_append_left _ q))
    · exact g.dom z (o.dom z q)
theorem Stt.other [TabsC] (st : Stt mg cn K Xt Ew G Z H n σ ρ) : Stt mg cn K (fun er n => atomD er.x = true ∧ Xt er n) Ew G (dks H G Z) H n σ (unown ρ) := by
  refine ⟨st.ok.dks, st.env.unown st.ok, fun er n' cls d H' G' Z' x g o e => ?_, by unfold unown; rw [List.length_map]; exact st.len⟩
  obtain ⟨L, rfl, g2, o2⟩ := Gr.other g st.ok o
  refine st.wsh er n' cls d H' (L ++ G) (L ++ Z) x.2 g2 o2 ?_
  obtain ⟨h1, a, v, h2, h3, h4⟩ := e
  exact ⟨h1, a, v, h2, h3, (atom_any (s := true) (t := .d er.x) (G := G) (G' := G) (H' := H') (Y := L ++ Z) (show RV K true H' G Z' v (.d er.x) from h4) x.1 : Rp K (mask H' (L ++ Z)) v er.x)⟩
/-- behind a part: the rest's reading -/
theorem stepA [TabsC] {Ew : XS} {Γ : TCx} {a : E} {F : R → Nat → Prop} {R : V → Hp → Prop} (M : MonoPh Γ.Φ) (st : Stt mg Γ.cn K Xt (Ew σ) G Z H n σ ρ) (h : wpE Γ.Φ Γ.C Xt a ρ n F)
    (k : ∀ x n1 v H1 G1 Z1, F x n1 → Gr G Z H G1 Z1 H1 → Stt mg Γ.cn K Xt (Ew σ) G1 Z1 H1 n1 σ ρ → RV K (sg a) H1 G1 Z1 v x.t → (x.fr = true → Fresh K H H1 Z1 v x.t) → R v H1) : rd Γ mg K Xt Ew a σ H R :=
  ⟨G, Z, n, ρ, st, wpE_mono M a h fun x n1 hx v H1 G1 Z1 g o w f => k x n1 v H1 G1 Z1 hx g (st.mono g o) w f⟩
theorem stepAs [TabsC] {Ew : XS} {Γ : TCx} {l : Es} {F : List T → Nat → Prop} {R : List V → Hp → Prop} (M : MonoPh Γ.Φ) (st : Stt mg Γ.cn K Xt (Ew σ) G Z H n σ ρ) (h : wpEs Γ.Φ Γ.C Xt l ρ n F)
    (k : ∀ ts n1 vs H1 G1 Z1, F ts n1 → Gr G Z H G1 Z1 H1 → Stt mg Γ.cn K Xt (Ew σ) G1 Z1 H1 n1 σ ρ → ArgR K H1 G1 Z1 (sgs l) vs ts → R vs H1) : rds Γ mg K Xt Ew l σ H R :=
  ⟨G, Z, n, ρ, st, wpEs_mono M l h fun x n1 hx vs H1 G1 Z1 g o w => k x n1 vs H1 G1 Z1 hx g (st.mono g o) w⟩
end

/-! ### targets -/
def gsOf : List Nat → TGs
  | [] => gNil
  | i :: l => gCons (gName i) (gsOf l)
def gOf (K : PySem.W.Frag) : Tg → TG
  | .nm i => gName i
  | .tp l => fun v σ H Q => gTup K l.length (gsOf l) v σ H Q ∨ gLst K l.length (gsOf l) v σ H Q
section
variable {X : Cx} {sc : Scope}
theorem pgs_of (nd : X.N.Nodup) (hl : ∀ x, tgB.isLoc sc x = true → Loc X.env.scope x ∧ (X.fn x = true ∨ X.env.scope.names.lookup x = some .local)) : ∀ (l : List Nat) (es : List Expr), tgB.tgsB X.N sc l es = true → PGs X es (gsOf l) ∧ (assignEach es X.env).length = l.length ∧ (assignEach es X.env).findIdx? (·.1) = none
  | [], [], _ => ⟨pgs_nil, rfl, rfl⟩
  | i :: l, .Name x _ :: es, h => by
    unfold tgB.tgsB at h
    simp only [Bool.and_eq_true, decide_eq_true_eq] at h
    obtain ⟨⟨h1, h2⟩, h3⟩ := h
    obtain ⟨h4, h5⟩ := hl x h2
    obtain ⟨p, e, e2⟩ := pgs_of nd hl l es h3
    refine ⟨pgs_cons (pg_name nd h1 h4 h5) p, ?_, ?_⟩
    · show (_ :: assignEach es X.env).length = _
      rw [List.length_cons, e, List.length_cons]
    · show (_ :: assignEach es X.env).findIdx? _ = _
      rw [List.findIdx?_cons, e2]
      rfl
theorem pg_or {t : Expr} {a b : TG} (h : PG X t a) (h' : PG X t b) : PG X t fun v σ H Q => a v σ H Q ∨ b v σ H Q :=
  ⟨fun pins s σ H v u Q I r hw => hw.elim (h.run pins s σ H v u Q I r) (h'.run pins s σ H v u Q I r)⟩
theorem pg_of (hc : X.calm = true) (nd : X.N.Nodup) (hl : ∀ x, tgB.isLoc sc x = true → Loc X.env.scope x ∧ (X.fn x = true ∨ X.env.scope.names.lookup x = some .local)) {tg : Tg} {t : Expr} (h : tgB X.N sc tg t = true) : PG X t (gOf X.K tg) := by
  unfold tgB at h
  split at h
  · simp only [Bool.and_eq_true, decide_eq_true_eq] at h
    obtain ⟨h4, h5⟩ := hl _ h.2
    exact pg_name nd h.1 h4 h5
  · obtain ⟨p, e, e2⟩ := pgs_of nd hl _ _ h
    exact pg_or (pg_tup hc p e e2) (pg_lst hc p e e2)
  · cases h
end

section
variable {K : PySem.W.Frag} {H : Hp} {G Z : List Addr}
theorem EnvR.set {σ : L2.St} {ρ : Ev} {i : Nat} {v : V} {t : T} (h : EnvR K H G Z σ ρ) (hl : ρ.length = σ.length) (r : RpT K H G Z v t) : EnvR K H G Z (σ.set i (some v)) (stA false t i ρ) := by
  intro j b u e
  unfold stA at e
  by_cases hj : i = j
  · subst hj
    by_cases hi : i < ρ.length
    · rw [List.getElem?_set_self hi] at e
      cases e
      exact ⟨v, List.getElem?_set_self (by rw [← hl]; exact hi), fun _ => r, fun z => nomatch z⟩
    · rw [List.getElem?_eq_none (by simpa using hi)] at e; cases e
  · rw [List.getElem?_set_ne hj] at e
    obtain ⟨w, h1, h2⟩ := h j b u e
    exact ⟨w, by rw [List.getElem?_set_ne hj]; exact h1, h2⟩
theorem wipe_set {σ : L2.St} {i : Nat} {o : Option V} : ∀ {vs : List Nat}, i ∈ vs → wipe (σ.set i o) vs = wipe σ vs
  | v :: vs, h => by
    unfold wipe
    by_cases hm : i ∈ vs
    · rw [wipe_set hm]
    · have e : i = v := by
        rcases List.mem_cons.mp h with e | e
        · exact e
        · exact absurd e hm
      subst e
      apply List.ext_getElem?
      intro j
      by_cases hj : i = j
      · subst hj
        by_cases hl : i < σ.length
        · rw [List.getElem?_set_self (by rw [wipe_length, List.length_set]; exact hl), List.getElem?_set_self (by rw [wipe_length]; exact hl)]
        · rw [List.getElem?_eq_none (by rw [List.length_set, wipe_length, List.length_set]; omega), List.getElem?_eq_none (by rw [List.length_set, wipe_length]; omega)]
      · rw [List.getElem?_set_ne hj, List.getElem?_set_ne hj]
        have out : ∀ (τ : L2.St) (ws : List Nat), j ∈ ws → (wipe τ ws)[j]? = if j < τ.length then some none else none := by
          intro τ ws
          induction ws with
          | nil => intro h; cases h
          | cons w ws ih =>
            intro h
            unfold wipe
            by_cases hw : w = j
            · subst hw
              by_cases hl : w < τ.length
              · rw [List.getElem?_set_self (by rw [wipe_length]; exact hl), if_pos hl]
              · rw [List.getElem?_eq_none (by rw [List.length_set, wipe_length]; omega), if_neg hl]
            · rw [List.getElem?_set_ne hw]
              refine ih ?_
              rcases List.mem_cons.mp h with e | e
              · exact absurd e.symm hw
              · exact e
        by_cases hjv : j ∈ vs
        · rw [out _ _ hjv, out _ _ hjv, List.length_set]
        · rw [wipe_out hjv, wipe_out hjv, List.getElem?_set_ne hj]
theorem wipe_idem {σ : L2.St} : ∀ (vs ws : List Nat), (∀ x ∈ ws, x ∈ vs) → wipe (wipe σ ws) vs = wipe σ vs
  | vs, [], _ => rfl
  | vs, w :: ws, h => by
    show wipe ((wipe σ ws).set w none) vs = _
    rw [wipe_set (h w (List.mem_cons_self ..)), wipe_idem vs ws fun x hx => h x (List.mem_cons_of_mem _ hx)]
theorem wipeE_length (ρ : Ev) : ∀ vs : List Nat, (wipeE ρ vs).length = ρ.length
  | [] => rfl
  | v :: vs => by unfold wipeE; rw [List.length_set, wipeE_length ρ vs]
theorem EnvR.wipe {σ : L2.St} {ρ : Ev} (h : EnvR K H G Z σ ρ) : ∀ vs : List Nat, EnvR K H G Z (L2.wipe σ vs) (wipeE ρ vs)
  | [] => h
  | v :: vs => by
    intro j b t e
    unfold wipeE at e
    by_cases hj : v = j
    · subst hj
      by_cases hl : v < (wipeE ρ vs).length
      · rw [List.getElem?_set_self hl] at e; cases e
      · rw [List.getElem?_eq_none (by rw [List.length_set]; omega)] at e; cases e
    · rw [List.getElem?_set_ne hj] at e
      obtain ⟨w, h1, h2⟩ := EnvR.wipe h vs j b t e
      exact ⟨w, by unfold L2.wipe; rw [List.getElem?_set_ne hj]; exact h1, h2⟩
/-- a target's names get the tree -/
theorem gs_ok {own : List Nat} {Q : L2.St → Hp → Prop} : ∀ (l : List Nat) (xs : List PyData) (vs : List V) {σ : L2.St} {ρ ρ' : Ev}, setAll l xs ρ = some ρ' → EnvR K H G Z σ ρ → ρ.length = σ.length → RpA K (mask H Z) vs xs → l.all own.contains = true →
    (∀ σ', EnvR K H G Z σ' ρ' → ρ'.length = σ'.length → L2.wipe σ' own = L2.wipe σ own → Q σ' H) → gsOf l vs σ H Q ∧ vs.length = l.length
  | [], [], _, σ, ρ, ρ', e, h, hl, .nil, _, q => by
    cases e
    exact ⟨⟨rfl, q _ h hl rfl⟩, rfl⟩
  | i :: l, x :: xs, _, σ, ρ, ρ', e, h, hl, .cons a b, ho, q => by
    rw [List.all_cons, Bool.and_eq_true] at ho
    unfold setAll at e
    have h2 : EnvR K H G Z (σ.set i (some _)) (stA false (.d x) i ρ) := h.set hl (show RpT K H G Z _ (.d x) from a)
    obtain ⟨r1, r2⟩ := gs_ok (own := own) (Q := Q) l xs _ e h2 (by unfold stA; rw [List.length_set, List.length_set]; exact hl) b ho.2 fun σ' h1 h3 h4 => q σ' h1 h3 (h4.trans (wipe_set (by simpa using ho.1)))
    exact ⟨⟨_, _, rfl, r1⟩, by rw [List.length_cons, r2, List.length_cons]⟩
theorem tg_ok {own : List Nat} {Q : L2.St → Hp → Prop} {tg : Tg} {x : PyData} {v : V} {σ : L2.St} {ρ ρ' : Ev} (e : asgD tg x ρ = some ρ') (h : EnvR K H G Z σ ρ) (hl : ρ.length = σ.length) (r : Rp K (mask H Z) v x) (ho : tgIn own tg = true)
    (q : ∀ σ', EnvR K H G Z σ' ρ' → ρ'.length = σ'.length → L2.wipe σ' own = L2.wipe σ own → Q σ' H) : gOf K tg v σ H Q := by
  cases tg with
  | nm i =>
    cases e
    exact q _ (h.set hl (show RpT K H G Z v (.d x) from r)) (by unfold stA; rw [List.length_set, List.length_set]; exact hl) (wipe_set (by simpa [tgIn] using ho))
  | tp l =>
    cases x <;> first | cases e | skip
    · cases r with
      | lst hs ra =>
        obtain ⟨r1, r2⟩ := gs_ok (own := own) (Q := Q) l _ _ e h hl ra ho q
        exact .inr ⟨_, _, rfl, .of (mask_some hs).2, r2, r1⟩
    · cases r with
      | tup hs ra =>
        obtain ⟨r1, r2⟩ := gs_ok (own := own) (Q := Q) l _ _ e h hl ra ho q
        exact .inl ⟨_, _, rfl, mask_le.sqT hs, r2, r1⟩
end
end TL

set_option Elab.async false
set_option linter.all false
set_option maxRecDepth 100000
/-! TL10: list comprehensions. -/
namespace TL
open PySem PySem.Spec PyProof.Rows L2

def E0x : XE := fun _ _ => False
def E0s : XS := fun _ => L2.E0
theorem passA {X : Cx} : ∀ σ, PassesAt (L2.CX X.prog X.w) X σ (E0s σ) := fun σ pins H s e s' I h => passL pins σ H s e s' I h
def rdT [TabsC] (Γ : TCx) (mg : Str → Option Value) (K : PySem.W.Frag) (Xt : XE) (Ew : XS) (e : E) : TT := fun σ H Q =>
  ∃ G Z n ρ, Stt mg Γ.cn K Xt (Ew σ) G Z H n σ ρ ∧ wpE Γ.Φ Γ.C Xt e ρ n fun r n' => truW r.t fun b => ∀ H' G' Z', Gr G Z H G' Z' H' → Ok G' Z' H' n' → Q b H'
theorem wsh0 [TabsC] {mg : Str → Option Value} {cn : Nat → Str} {K : PySem.W.Frag} {Ew : XK} {G Z : List Addr} {H : Hp} : Wsh mg cn K E0x Ew G Z H := fun _ _ _ _ _ _ _ x => x.elim
/-- masks with the same members -/
theorem mask_iff {H : Hp} {Z Z' : List Addr} (h : ∀ a, a ∈ Z ↔ a ∈ Z') : mask H Z = mask H Z' := by
  funext a
  unfold mask
  by_cases e : a ∈ Z
  · rw [if_pos e, if_pos ((h a).mp e)]
  · rw [if_neg e, if_neg fun z => e ((h a).mpr z)]
theorem EnvR.lock [TabsC] {K : PySem.W.Frag} {G Z G' Z' : List Addr} {H H' : Hp} {n : Nat} {σ : L2.St} {ρ : Ev} {D : Addr} (k : Ok G Z H n) (h : EnvR K H G Z σ ρ) (hD : H D = none) (g : Gr G Z H G' Z' H') : EnvR K H' G' (D :: Z') σ ρ := by
  have l : Le (mask H Z) (mask H' (D :: Z')) := by
    obtain ⟨L, rfl, rfl, hL⟩ := g.new
    refine le_ext (fun a o n e => g.ext a o (fun z => n (k.sub a z)) e) fun a ha n => ?_
    rcases List.mem_cons.mp ha with z | z
    · rw [z]; exact hD
    · rcases List.mem_append.mp z with z | z
      · exact hL a z
      · exact absurd z n
  intro i b t e
  obtain ⟨v, h1, h2, h3⟩ := h i b t e
  refine ⟨v, h1, fun z => ?_, fun z => ?_⟩
  · cases t with
    | d x => exact Rp.le l (h2 z)
    | gen =>
      obtain ⟨L, rfl, _, _⟩ := g.new
      obtain ⟨a, ha, e⟩ := h2 z
      exact ⟨a, List.mem_append_right _ ha, e⟩
    | scr ns =>
      obtain ⟨a, e, h⟩ := h2 z
      exact ⟨a, e, h.mono g k⟩
  · cases t with
    | gen => exact (h3 z).elim
    | scr _ => exact (h3 z).elim
    | d x =>
      have h3 := h3 z
      cases x with
      | list ds =>
        obtain ⟨p, vs, e, hp, hH, r⟩ := h3
        exact ⟨p, vs, e, notG g hH hp, g.lst hp hH, RpA.le l r⟩
      | dict ds =>
        obtain ⟨p, e, hp, ⟨kvs, hH, r⟩ | ⟨kvs, hH, r⟩⟩ := h3
        · exact ⟨p, e, ⟨notG g hH hp.1, List.mem_cons_of_mem _ (g.inZ hp.2)⟩, .inl ⟨kvs, g.exz p _ hp.1 hp.2 .dK hH, RpK.le l r⟩⟩
        · exact ⟨p, e, ⟨notG g hH hp.1, List.mem_cons_of_mem _ (g.inZ hp.2)⟩, .inr ⟨kvs, g.exz p _ hp.1 hp.2 .dT hH, RpTK.le l r⟩⟩
      | none => exact h3.elim
      | bool b => exact h3.elim
      | int i => exact h3.elim
      | str s => exact h3.elim
      | tuple l => exact h3.elim

theorem lc_rd [TabsC] {Γ : TCx} {mg : Str → Option Value} {K : PySem.W.Frag} {Xt : XE} {Ew : XS} {own : List Nat} {tg : Tg} {k : SK} {src : Es} {cnd elt : E} {tt : TT} {te : TE} (M : MonoPh Γ.Φ) (htg : tgIn own tg = true)
    (ht : ∀ σ H Q, rdT Γ mg K E0x E0s cnd σ H Q → tt σ H Q) (he : ∀ σ H Q, rd Γ mg K E0x E0s elt σ H Q → te σ H Q) (hse : sg elt = true) :
    ∀ σ H Q, rd Γ mg K Xt Ew (.lc own tg k src cnd elt) σ H Q → tLc (rdSrc Γ mg K Xt Ew k src) (gOf K tg) tt te own σ H Q := by
  rintro σ H Q ⟨G, Z, n, ρ, st, h⟩
  unfold wpE at h
  show rdSrc Γ mg K Xt Ew k src σ H _
  refine ⟨G, Z, n, ρ, st, wpEs_mono M src h fun ts n1 h => srcW_mono h fun ds h => ?_⟩
  intro J H1 G1 Z1 g1 o1 it _ D hD
  refine ⟨fun i m H2 => m = ds.length - i ∧ i ≤ ds.length ∧ ∃ G2 Z2 n2 acc vs, Gr G1 Z1 H1 G2 Z2 H2 ∧ Ok G2 (D :: Z2) H2 n2 ∧ D ∉ G2 ∧ H2 D = some (.lst vs) ∧ RpA K (mask H2 (D :: Z2)) vs acc ∧
    lcGo tg (wipeE ρ own) (fun ρ n Q => wpE Γ.Φ Γ.C E0x cnd ρ n fun x n => truW x.t fun b => Q b n) (fun ρ n Q => wpE Γ.Φ Γ.C E0x elt ρ n Q)
      (fun acc n => Kq K true G Z H Q ⟨.d (.list acc), true⟩ n) (ds.drop i) acc n2, ⟨ds.length, by simp, Nat.zero_le _, G1, Z1, n1, [], [], Gr.upd hD, ⟨fun g hg => List.mem_cons_of_mem _ (o1.sub g hg), fun z hz => ?_, (o1.upd hD).gen, (o1.upd hD).tab⟩,
      fun z => o1.there' z hD, upd_same, .nil, h⟩, ?_⟩
  · rcases List.mem_cons.mp hz with e | hz
    · rw [e, upd_same]; simp
    · exact (o1.upd hD).dom z hz
  rintro i m H2 ⟨rfl, hi, G2, Z2, n2, acc, vs, g2, o2, nD, hD2, ra, go⟩
  have zD : D ∉ Z1 := fun z => o1.dom D z hD
  obtain ⟨L, eG, eZ, hL⟩ := g2.new
  by_cases hlt : i < ds.length
  · have hd : ds[i]? = some ds[i] := List.getElem?_eq_getElem hlt
    have itD := it [D] (by simpa using hD) H2 L g2.ext hL (fun z hz => ?_) i
    rotate_left
    · refine o2.dom z ?_
      rw [eZ]
      simp only [List.mem_append, List.mem_cons, List.mem_singleton] at hz ⊢
      rcases hz with h | h | h
      · exact .inr (.inl h)
      · exact .inl (by simpa using h)
      · exact .inr (.inr h)
    obtain ⟨hgo, hy⟩ := itD.1 _ hd
    refine .inr ⟨hgo, fun H3 => i + 1 ≤ ds.length ∧ ∃ G2 Z2 n2 acc vs, Gr G1 Z1 H1 G2 Z2 H3 ∧ Ok G2 (D :: Z2) H3 n2 ∧ D ∉ G2 ∧ H3 D = some (.lst vs) ∧ RpA K (mask H3 (D :: Z2)) vs acc ∧
      lcGo tg (wipeE ρ own) (fun ρ n Q => wpE Γ.Φ Γ.C E0x cnd ρ n fun x n => truW x.t fun b => Q b n) (fun ρ n Q => wpE Γ.Φ Γ.C E0x elt ρ n Q)
        (fun acc n => Kq K true G Z H Q ⟨.d (.list acc), true⟩ n) (ds.drop (i + 1)) acc n2, fun H3 h3 => ⟨ds.length - (i + 1), by omega, rfl, h3⟩, fun x H3 y => ?_⟩
    obtain ⟨hH3, rx⟩ := hy x H3 y
    rw [List.drop_eq_getElem_cons hlt] at go
    obtain ⟨ρ', ea, go⟩ := go
    -- the heap behind the yield
    have g3 : Gr G2 (D :: Z2) H2 G2 (D :: Z2) H3 := by
      rcases hH3 with e | ⟨p, o, hp, e⟩
      · rw [e]; exact Gr.refl
      · rw [e]; exact Gr.upd hp
    have o3 : Ok G2 (D :: Z2) H3 n2 := by
      rcases hH3 with e | ⟨p, o, hp, e⟩
      · rw [e]; exact o2
      · rw [e]; exact o2.upd hp
    have g13 : Gr G1 Z1 H1 G2 Z2 H3 := g2.trans (by
      rcases hH3 with e | ⟨p, o, hp, e⟩
      · rw [e]; exact Gr.refl
      · rw [e]; exact Gr.upd hp)
    have rx' : Rp K (mask H3 (D :: Z2)) x ds[i] := by
      rw [mask_iff (Z' := L ++ ([D] ++ Z1)) fun a => by
        rw [eZ]
        simp only [List.mem_append, List.mem_cons, List.mem_singleton]
        constructor
        · rintro (h | h | h)
          · exact .inr (.inl (by simpa using h))
          · exact .inl h
          · exact .inr (.inr h)
        · rintro (h | h | h)
          · exact .inr (.inl h)
          · exact .inl (by simpa using h)
          · exact .inr (.inr h)]
      exact rx
    have env3 : EnvR K H3 G2 (D :: Z2) (wipe σ own) (wipeE ρ own) := ((st.mono g1 o1).env.lock o1 hD g13).wipe own
    have len3 : (wipeE ρ own).length = (wipe σ own).length := by rw [wipeE_length, wipe_length]; exact st.len
    have hD3 : H3 D = some (.lst vs) := g3.lst nD hD2
    have ra3 : RpA K (mask H3 (D :: Z2)) vs acc := RpA.le (g3.le o2.sub) ra
    refine tg_ok ea env3 len3 rx' htg fun σ' e3 l3 w3 => ⟨w3.trans (wipe_idem own own fun _ h => h), ?_⟩
    refine ht σ' H3 _ ⟨G2, D :: Z2, n2, ρ', ⟨o3, e3, wsh0, l3⟩, wpE_mono M cnd go fun r n4 h4 => truW_mono h4 fun b h4 H4 G4 Y4 g4 o4 => ?_⟩
    -- behind the test
    have split : ∀ {G4 Y4 : List Addr} {H4 : Hp} {n4 : Nat}, Gr G2 (D :: Z2) H3 G4 Y4 H4 → Ok G4 Y4 H4 n4 → ∃ Z4, Gr G1 Z1 H1 G4 Z4 H4 ∧ Ok G4 (D :: Z4) H4 n4 ∧ D ∉ G4 ∧ mask H4 Y4 = mask H4 (D :: Z4) := fun {G4 Y4 H4 n4} g4 o4 => by
      obtain ⟨L4, e1, e2, hL4⟩ := g4.new
      have mem : ∀ a, a ∈ Y4 ↔ a ∈ D :: (L4 ++ Z2) := fun a => by
        rw [e2]
        simp only [List.mem_append, List.mem_cons]
        constructor
        · rintro (h | h | h)
          · exact .inr (.inl h)
          · exact .inl h
          · exact .inr (.inr h)
        · rintro (h | h | h)
          · exact .inr (.inl h)
          · exact .inl h
          · exact .inr (.inr h)
      refine ⟨L4 ++ Z2, g13.trans ⟨g4.ext, fun a o h1 h2 => g4.exz a o h1 (List.mem_cons_of_mem _ h2), g4.dom, L4, e1, rfl, hL4⟩, ⟨fun a ha => (mem a).mp (o4.sub a ha), fun z hz => o4.dom z ((mem z).mpr hz), o4.gen, o4.tab⟩, notG g4 hD3 nD, mask_iff mem⟩
    cases b with
    | false =>
      simp only [Bool.false_eq_true, if_false] at h4 ⊢
      obtain ⟨Z4, q1, q2, q3, q4⟩ := split g4 o4
      exact ⟨hlt, G4, Z4, n4, acc, vs, q1, q2, q3, g4.lst nD hD3, by rw [← q4]; exact RpA.le (g4.le o3.sub) ra3, h4⟩
    | true =>
      simp only [if_true] at h4 ⊢
      have e4 : EnvR K H4 G4 Y4 σ' ρ' := e3.mono g4 o3
      refine he σ' H4 _ ⟨G4, Y4, n4, ρ', ⟨o4, e4, wsh0, l3⟩, wpE_mono M elt h4 fun r n5 h5 y H5 G5 Y5 g5 o5 w5 _ => ?_⟩
      obtain ⟨d, ed, hz, h5⟩ := h5
      have g35 := g4.trans g5
      obtain ⟨Z5, q1, q2, q3, q4⟩ := split g35 o5
      have hD5 : H5 D = some (.lst vs) := g35.lst nD hD3
      have ra5 : RpA K (mask H5 (D :: Z5)) vs acc := by rw [← q4]; exact RpA.le (g35.le o3.sub) ra3
      rw [hse] at w5
      have ry : Rp K (mask H5 (D :: Z5)) y d := by
        rw [← q4]
        have w5 : RpT K H5 G5 Y5 y r.t := w5
        rw [ed] at w5
        exact w5
      have me : mask (upd H5 D (.lst (vs ++ [y]))) (D :: Z5) = mask H5 (D :: Z5) := by
        funext a
        unfold mask
        by_cases ha : a ∈ D :: Z5
        · rw [if_pos ha, if_pos ha]
        · rw [if_neg ha, if_neg ha, upd_ne fun z => ha (by rw [z]; exact List.mem_cons_self ..)]
      refine ⟨vs, hD5, by rw [ra5.length]; exact hz, hlt, G5, Z5, n5, acc ++ [d], vs ++ [y], ⟨fun a o ha e => ?_, fun a o ha hz nt e => ?_, fun a e => ?_, q1.new⟩, ⟨q2.sub, fun z hz => ?_, fun g hg => ?_, q2.tab.put hD5 trivial trivial⟩, q3, upd_same, ?_, h5⟩
      · have := q1.ext a o ha e
        unfold Ex at this ⊢
        rw [upd_ne (ne_of_none e hD)]; exact this
      · rw [upd_ne (ne_of_none e hD)]; exact q1.exz a o ha hz nt e
      · by_cases q : a = D
        · rw [q, upd_same]; simp
        · rw [upd_ne q]; exact q1.dom a e
      · by_cases q : z = D
        · rw [q, upd_same]; simp
        · rw [upd_ne q]; exact q2.dom z hz
      · obtain ⟨a, m, c, e, r⟩ := q2.gen g hg
        exact ⟨a, m, c, by rw [upd_ne fun z => q3 (by rw [← z]; exact hg)]; exact e, r⟩
      · rw [me]
        exact ra5.append (.one ry)
  · have e : i = ds.length := by omega
    subst e
    have itD := it [D] (by simpa using hD) H2 L g2.ext hL (fun z hz => ?_) ds.length
    rotate_left
    · refine o2.dom z ?_
      rw [eZ]
      simp only [List.mem_append, List.mem_cons, List.mem_singleton] at hz ⊢
      rcases hz with h | h | h
      · exact .inr (.inl h)
      · exact .inl (by simpa using h)
      · exact .inr (.inr h)
    refine .inl ⟨itD.2 rfl, ?_⟩
    rw [List.drop_length] at go
    have go : Kq K true G Z H Q ⟨.d (.list acc), true⟩ n2 := go
    have ZD : D ∉ Z2 := fun z => by
      rw [eZ] at z
      rcases List.mem_append.mp z with z | z
      · exact nD (by rw [eG]; exact List.mem_append_left _ z)
      · exact zD z
    refine go (.ref D) H2 G2 Z2 (g1.trans g2) ⟨fun g hg => ?_, fun z hz => o2.dom z (List.mem_cons_of_mem _ hz), o2.gen, o2.tab⟩ (Rp.lst (by rw [mask_of ZD]; exact hD2) (RpA.le (mask_sub fun a ha => List.mem_cons_of_mem _ ha) ra)) fun _ => ⟨D, vs, rfl, ?_, hD2, ra⟩
    · rcases List.mem_cons.mp (o2.sub g hg) with z | z
      · exact absurd (z ▸ hg) nD
      · exact z
    · cases q : H D with
      | none => rfl
      | some u => exact absurd hD (g1.dom D (by rw [q]; simp))
end TL

set_option Elab.async false
set_option linter.all false
set_option maxRecDepth 100000
/-! TL11: an expression that agrees has its reading. -/
namespace TL
open PySem PySem.Spec PyProof.Rows L2

theorem vis_of {X : Cx} {sc : Scope} {x : Str} (hs : X.env.scope = sc) (h : isVis sc x = true) : Vis X.env.scope x := by
  rw [hs]
  unfold isVis at h
  unfold Vis
  split at h <;> first | cases h | skip
  · rename_i e; exact .inl e
  · rename_i e; exact .inr (.inl e)
  · rename_i e; exact .inr (.inr e)
theorem gl_of {X : Cx} {sc : Scope} {x : Str} (hs : X.env.scope = sc) (h : isGl sc x = true) : Gl X x := by
  show X.env.scope.names.lookup x = _
  rw [hs]
  unfold isGl at h
  split at h
  · rename_i e; exact e
  · cases h
theorem dbg_of {x : Str} (h : notDbg x = true) : (x == ("__debug__" : Str)) = false ∧ (x == ("__classdict__" : Str)) = false := by
  unfold notDbg at h
  simpa using h
theorem star_of {e : Expr} (h : notStar e = true) (es : List Expr) (env : Env) : starEach (e :: es) env = (false, eval e env) :: starEach es env := by
  cases e <;> first | rfl | cases h
theorem mark_of {e : Expr} (h : notSet e = true) (op : CmpOp) : behindInMarks op e = false := by
  cases e <;> first | rfl | cases h
theorem fold_of {e : Expr} (h : notSet e = true) (env : Env) : ∀ x, foldedSetIterable e env x = pure x := by
  intro x
  cases e <;> first | rfl | cases h
theorem base_of {e : Expr} {f : Str} (h : plainBase e = true) (env : Env) : attributeBase e f env (eval e env) = eval e env := by
  cases e <;> first | rfl | cases h
theorem pix_of {e : Expr} (h : plainIxB e = true) : PlainIx e := by
  intro o i
  cases e <;> first | rfl | cases h
theorem bi_boot (b : Bi) : bootBuiltins (biN b) = some (biV b) := by cases b <;> decide +kernel
theorem bi_dbg (b : Bi) : (biN b == ("__debug__" : Str)) = false ∧ biN b ≠ "__name__" := by cases b <;> decide +kernel
theorem ty_boot (t : TyN) : bootBuiltins (Str.ofString (tyName t)) = some (.type (tyName t)) := by cases t <;> decide +kernel
theorem ty_dbg (t : TyN) : (Str.ofString (tyName t) == ("__debug__" : Str)) = false ∧ Str.ofString (tyName t) ≠ "__name__" := by cases t <;> decide +kernel

/-- built-ins and built-in classes alike -/
theorem pe_bi {X : Cx} {b : Bi} {r : List V → Hp → VK → Prop} {p pos : Pos} {e : Expr} {es : List Expr} {t : TA} (hc : CallR X (biV b) r) (hg : Gl X (biN b)) (hm : X.mg (biN b) = none) (ha : PA X (e :: es) t)
    (he : starEach (e :: es) X.env = (false, eval e X.env) :: starEach es X.env) (hpl : (backTo pos (starEach es X.env)).any (·.1) = false) : PE X (.Call (.Name (biN b) p) (e :: es) [] pos) (tCB r t) := by
  have h1 := (bi_dbg b).1
  have h2 := (bi_dbg b).2
  have h3 := bi_boot b
  cases b <;> first
    | exact pe_callB hc hg hm h3 ha h2 h1 he hpl
    | exact pe_callTy hc hg hm h3 ha h2 h1 he hpl
theorem stars_of {Γ : TCx} {lb : Bool} {N : List Str} {sc : Scope} {env : Env} {pos : Pos} : ∀ {l : Es} {es : List Expr}, chkEs Γ N lb sc l es = true → (backTo pos (starEach es env)).any (·.1) = false
  | .nil, [], _ => rfl
  | .cons a l, e :: es, h => by
    unfold chkEs at h
    simp only [Bool.and_eq_true] at h
    rw [star_of h.1.1]
    show (false || _) = false
    rw [Bool.false_or]
    exact stars_of h.2
  | .nil, _ :: _, h => by unfold chkEs at h; cases h
  | .cons _ _, [], h => by unfold chkEs at h; cases h
theorem datas_rp {K : PySem.W.Frag} {H : Hp} {G Z : List Addr} : ∀ {ts : List T} {vs : List V} {ds : List PyData}, Paired (RpT K H G Z) vs ts → datas ts = some ds → RpA K (mask H Z) vs ds
  | [], _, _, .nil, e => by cases e; exact .nil
  | .d x :: ts, _, ds, .cons a b, e => by
    unfold datas at e
    cases q : datas ts with
    | none => rw [q] at e; cases e
    | some es =>
      rw [q] at e
      cases e
      exact .cons a (datas_rp b q)
theorem kwF_rel {α β : Type} {F : α → β → Prop} {xs ys : List α} {us ws : List β} (h : Paired F xs us) (h' : Paired F ys ws) : ∀ (pm : List Nat), Paired F (kwF pm xs ys) (kwF pm us ws) := by
  have app : Paired F (xs ++ ys) (us ++ ws) := by
    induction h with
    | nil => exact h'
    | cons a b ih => exact .cons a ih
  intro pm
  unfold kwF
  generalize hx : xs ++ ys = zs at app ⊢
  generalize hu : us ++ ws = rs at app ⊢
  have get : ∀ j : Nat, (zs[j]? = none ∧ rs[j]? = none) ∨ ∃ a b, zs[j]? = some a ∧ rs[j]? = some b ∧ F a b := by
    clear hx hu
    induction app with
    | nil => intro j; exact .inl (by simp)
    | cons a b ih =>
      intro j
      cases j with
      | zero => exact .inr ⟨_, _, rfl, rfl, a⟩
      | succ j => simpa using ih j
  induction pm with
  | nil => exact .nil
  | cons j pm ih =>
    rcases get j with ⟨e1, e2⟩ | ⟨a, b, e1, e2, f⟩
    · rw [List.filterMap_cons_none e1, List.filterMap_cons_none e2]
      exact ih
    · rw [List.filterMap_cons_some e1, List.filterMap_cons_some e2]
      exact .cons f ih
theorem kwF_map {α : Type} {us ws : List α} : ∀ (pm : List Nat) (zs : List α), pm.mapM (fun j => (us ++ ws)[j]?) = some zs → kwF pm us ws = zs
  | [], zs, e => by cases e; rfl
  | j :: pm, zs, e => by
    rw [List.mapM_cons] at e
    cases q : (us ++ ws)[j]? with
    | none => rw [q] at e; cases e
    | some a =>
      rw [q] at e
      cases q2 : pm.mapM (fun j => (us ++ ws)[j]?) with
      | none => rw [q2] at e; cases e
      | some r =>
        rw [q2] at e
        cases e
        unfold kwF
        rw [List.filterMap_cons_some q]
        have := kwF_map (us := us) (ws := ws) pm r q2
        unfold kwF at this
        rw [this]
theorem kwG_eq {α : Type} {n k : Nat} {pm : List Nat} {us ws : List α} (h1 : us.length = n) (h2 : ws.length = k) : kwG n k pm us ws = kwF pm us ws := if_pos ⟨h1, h2⟩
theorem argR_len {K : PySem.W.Frag} {H : Hp} {G Z : List Addr} : ∀ {ss : List Bool} {vs : List V} {ts : List T}, ArgR K H G Z ss vs ts → vs.length = ss.length
  | [], [], [], _ => rfl
  | _ :: ss, _ :: vs, _ :: ts, h => by rw [List.length_cons, List.length_cons, argR_len h.2]
  | [], _ :: _, _, h => h.elim
  | [], [], _ :: _, h => h.elim
  | _ :: _, [], _, h => h.elim
  | _ :: _, _ :: _, [], h => h.elim
theorem chkEs_len {Γ : TCx} {lb : Bool} {N : List Str} {sc : Scope} : ∀ {l : Es} {es : List Expr}, chkEs Γ N lb sc l es = true → (sgs l).length = es.length
  | .nil, [], _ => rfl
  | .cons a l, e :: es, h => by
    unfold chkEs at h
    simp only [Bool.and_eq_true] at h
    show (sgs l).length + 1 = _
    rw [chkEs_len h.2, List.length_cons]
  | .nil, _ :: _, h => by unfold chkEs at h; cases h
  | .cons _ _, [], h => by unfold chkEs at h; cases h
theorem chkKs_len {Γ : TCx} {lb : Bool} {N : List Str} {sc : Scope} : ∀ {l : Es} {es : List Keyword}, chkKs Γ N lb sc l es = true → (sgs l).length = es.length
  | .nil, [], _ => rfl
  | .cons a l, ⟨x, e, p⟩ :: es, h => by
    unfold chkKs at h
    simp only [Bool.and_eq_true] at h
    show (sgs l).length + 1 = _
    rw [chkKs_len h.2, List.length_cons]
  | .nil, _ :: _, h => by unfold chkKs at h; cases h
  | .cons _ _, [], h => by unfold chkKs at h; cases h
theorem kwB_len : ∀ {kws : List Keyword}, kwAll kws = true → (kwB kws).length = kws.length
  | [], _ => rfl
  | ⟨some x, e, p⟩ :: r, h => by
    show (kwB r).length + 1 = _
    rw [kwB_len (kws := r) h, List.length_cons]
  | ⟨none, _, _⟩ :: _, h => by cases h
/-- only keywords -/
theorem pg_callK0 {X : Cx} {CX : CXT} {k : Nat} {f : Addr} {fd : FuncData} {ps : List Str} {sp : Sp} {E : L2.St → XK} {x : Str} {p pos : Pos} {tk : TA} {ks : List Str} {g : List Value → List Value → List Value}
    {gV : List V → List V → List V} {kws : List Keyword} (F : FnG X.prog X.w X.K X.mg X.base CX k f fd ps sp) (hr : Room k X.A) (hg : X.A.guards = some []) (hgl : Gl X x) (hm : X.mg x = some (.ref f))
    (hk : PySem.W.keepIn X.K (.ref f) = true) (hb : KBinds X.K fd ps ks g gV) (hx : ∀ σ, PassesAt CX X σ (E σ)) (hkw : PK X kws tk)
    (hall : (backToKw pos (keywordEach kws X.env)).all (·.1.isSome) = true) (hks : (backToKw pos (keywordEach kws X.env)).filterMap (·.1) = ks) (hdb : (x == ("__debug__" : Str)) = false)
    (hpl : ((backTo pos (starEach [] X.env)).any (·.1) || (backToKw pos (keywordEach kws X.env)).any (·.1.isNone)) = false) :
    PE X (.Call (.Name x p) [] kws pos) (fun σ H Q => tk σ H fun zs H2 => sp (gV [] zs) H2 Q (E σ)) := by
  refine ⟨fun pins s σ H Q I h => ?_⟩
  refine wpAny_Call_Name_kw (ld_glob I hgl hm ?_ hdb)
  refine PySem.W.callWith_KW0 (h₀ := X.base) I.ok.mod.kin hk hall (thn (hkw.run pos pins s σ H _ I h) fun ws s2 ⟨zs, H2, I2, rz, q2⟩ => ⟨I2.kIn, ?_⟩) hpl
  rw [hks]
  exact grun (args := ⟨[], ks.zip ws⟩) F hr hg (hx σ) I2 (fun hl => hb.to s2 [] ws I2.kIn hl) (hb.rel .nil rz) q2
theorem kw_names {env : Env} {pos : Pos} : ∀ {kws : List Keyword}, kwAll kws = true → (backToKw pos (keywordEach kws env)).all (·.1.isSome) = true ∧ (backToKw pos (keywordEach kws env)).filterMap (·.1) = kwB kws ∧ (backToKw pos (keywordEach kws env)).any (·.1.isNone) = false
  | [], _ => ⟨rfl, rfl, rfl⟩
  | ⟨some x, e, p⟩ :: r, h => by
    obtain ⟨h1, h2, h3⟩ := kw_names (env := env) (pos := pos) (kws := r) h
    refine ⟨?_, ?_, ?_⟩
    · show (true && _) = true
      rw [Bool.true_and]; exact h1
    · show x :: _ = x :: _
      rw [← h2]; rfl
    · show (false || _) = false
      rw [Bool.false_or]; exact h3
  | ⟨none, _, _⟩ :: _, h => by cases h
end TL

set_option Elab.async false
set_option linter.all false
set_option maxRecDepth 100000
set_option maxHeartbeats 2000000
/-! TLa: a lambda with one parameter; what it is called with. -/
namespace TL
open PySem PySem.Spec PyProof.Rows L2

/-- the lambda's names: its parameter, captured ones, globals -/
structure LamP (sc scope : Scope) (a : Str) : Prop where
  kind : scope.kind = .function
  co : scope.isCoroutine = false
  gen : scope.isGenerator = false
  par : scope.names.lookup a = some .local
  one : ∀ y, scope.names.lookup y = some .local → y = a
  cel : ∀ y ∈ scope.names, y.2 ≠ .cell
  free : ∀ y ∈ scope.names, y.2 = .free → sc.names.lookup y.1 = some .cell ∨ sc.names.lookup y.1 = some .free
theorem lamP_by {sc scope : Scope} {a : Str} (h : lamPB sc scope a = true) : LamP sc scope a := by
  unfold lamPB at h
  simp only [Bool.and_eq_true, Bool.or_eq_true, Bool.not_eq_true', decide_eq_true_eq, decide_eq_false_iff_not, List.all_eq_true] at h
  obtain ⟨⟨⟨⟨k1, k2⟩, k3⟩, k4⟩, k5⟩ := h
  refine ⟨k1, k2, k3, k4, fun y e => ?_, fun y hy => (k5 y hy).1.2, fun y hy e => ?_⟩
  · rcases (k5 _ (PySem.mem_of_lookup e)).1.1 with z | z
    · exact absurd rfl z
    · exact z
  · rcases (k5 y hy).2 with (z | z) | z
    · exact absurd e z
    · exact .inl z
    · exact .inr z
section
variable {X : Cx} {pins : List (Addr × Obj)} {σ σ' : L2.St} {H : Hp} {s : Shared} {scope : Scope} {a : Str} {i : Nat}
theorem LamP.caps (L : LamP X.env.scope scope a) (I : Inv X pins σ H s) : ∀ y ∈ scope.names, y.2 = .free → ∃ c, X.env.cells.lookup y.1 = some c := fun y hy e =>
  (L.free y hy e).elim (fun k => I.ok.has _ (.inl k)) fun k => I.ok.has _ (.inr k)
/-- the lambda's frame, just made -/
theorem lam_in {A : Around} {E : XK} {f c' : Addr} {h₁ : Heap} {tk : Nat} {v : V} {u : Value} (I : Inv X pins σ H s) (L : LamP X.env.scope scope a) (nd : X.N.Nodup) (hA : A.frames = some X.stack) (hd : A.handled = none) (hN : X.N[i]? = some a) (rv : RelV v u)
    (hi : σ'[i]? = some (some v)) (ho : ∀ (j : Nat) (w : V), j ≠ i → σ'[j]? = some (some w) → σ[j]? = some (some w)) (hl : σ'.length = σ.length)
    (ns : h₁.Ns s.heap.objs.size fun y => ([(a, u)] : List (Str × Value)).reverse.lookup y) (kp : ∀ b o, s.heap.get? b = some o → h₁.get? b = some o) :
    Inv (LamX.lamCx X A X.stack s H E scope f c') [] σ' H { s with heap := h₁, toks := tk } := by
  have caps := L.caps I
  have up : ∀ {y c}, (cloFrom X.env.cells scope.names []).lookup y = some c → X.env.cells.lookup y = some c := fun {y c} e => by
    rcases cloFrom_mem (PySem.mem_of_lookup e) with z | ⟨z1, z2⟩
    · cases z
    · obtain ⟨d, hd⟩ := caps _ z1 rfl
      have hd : X.env.cells.lookup y = some d := hd
      have : c = d := by rw [z2, hd] <;> rfl
      rw [this]; exact hd
  have down : ∀ {y}, scope.names.lookup y = some .free → ∃ c, (cloFrom X.env.cells scope.names []).lookup y = some c := fun {y} e =>
    mem_lookup (cloFrom_has (cells := X.env.cells) (acc := []) (show (y, NameKind.free) ∈ scope.names from PySem.mem_of_lookup e))
  have cellK : ∀ {c : Addr} {w : Option Value}, s.heap.IsCell c w → h₁.IsCell c w := fun {c w} ⟨o, e, d⟩ => ⟨o, kp _ _ e, d⟩
  have noex : ∀ b : Addr, b ∉ ([] : List Addr) := fun b z => nomatch z
  refine ⟨⟨I.ok.mod, L.kind, rfl, rfl, Nat.le_refl _, fun y z c e1 e2 => I.ok.inj y z c (up e1) (up e2), fun y hy => ?_, fun y c z _ => Bool.noConfusion (show false = true from z), fun _ => hd, Around.frames_deeper hA, .inr ⟨rfl, rfl⟩, fun b z => absurd z (noex b), I.bs, Nat.le_trans I.ok.bsz I.sz,
      fun b _ _ => noex b, fun b z => absurd z (noex b), I.stack, I.stkFree⟩,
    rfl, I.bare, Un.kept kp, ⟨_, ns, fun j y w e1 e2 e3 => ?_⟩, fun y c e => ?_, I.hok.fresh (Nat.le_refl _), fun y c e => I.freeC y c (up e), fun q hq => absurd (show q ∈ ([] : List (Addr × Obj)) from hq) (by simp), I.hok.kept kp, hl.trans I.len⟩
  · have hy : scope.names.lookup y = some .cell ∨ scope.names.lookup y = some .free := hy
    rcases hy with hy | hy
    · exact absurd rfl (L.cel _ (PySem.mem_of_lookup hy))
    · exact down hy
  · have e3 : Vis scope y := e3
    rcases e3 with k | k | k
    · have ey := L.one y k
      subst ey
      have ej : j = i := nodup_ix nd e1 hN
      subst ej
      rw [hi] at e2
      cases e2
      exact ⟨u, rv, .inl ⟨k, by simp⟩⟩
    · exact absurd rfl (L.cel _ (PySem.mem_of_lookup k))
    · have nj : j ≠ i := fun z => by
        have e1 : X.N[j]? = some y := e1
        rw [z, hN] at e1
        cases e1
        rw [L.par] at k
        cases k
      obtain ⟨m, hn, hl'⟩ := I.loc
      have hv : Vis X.env.scope y := (L.free _ (PySem.mem_of_lookup k) rfl).elim (fun z => .inr (.inl z)) fun z => .inr (.inr z)
      obtain ⟨u', r, q⟩ := hl' j y w e1 (ho j w nj e2) hv
      obtain ⟨c, hc⟩ := down k
      refine ⟨u', r, .inr ⟨.inr k, c, hc, ?_⟩⟩
      rcases q with ⟨z, _⟩ | ⟨_, c2, e4, z⟩
      · have z : X.env.scope.names.lookup y = some .local := z
        rcases L.free _ (PySem.mem_of_lookup k) rfl with z2 | z2
        · rw [show X.env.scope.names.lookup y = _ from z2] at z; cases z
        · rw [show X.env.scope.names.lookup y = _ from z2] at z; cases z
      · rw [up hc] at e4
        cases e4
        exact cellK z
  · obtain ⟨w, z⟩ := I.cell y c (up e)
    exact ⟨w, cellK z⟩
/-- no error is wished for -/
abbrev E00 : XK := fun _ _ _ => False
/-- the lambda is called with one value -/
theorem lam_ce {A : Around} {f c' : Addr} {q : Str} {params : Arguments} {body : Expr} {pm ctv u : Value} {v : V} {tb : TE} {Q : VK} (I : Inv X pins σ H s) (L : LamP X.env.scope scope a) (nd : X.N.Nodup) (hA : A.frames = some X.stack) (hd : A.handled = none) (dp : A.depth < recursionLimit)
    (hN : X.N[i]? = some a) (hf : s.heap.get? f = some (PySem.W.kla_obj "<lambda>" q params body scope (cloFrom X.env.cells scope.names []) pm c' ctv)) (hq : q = X.env.qual ++ "<lambda>") (hc : H c' = some (LamX.CodeO c' q))
    (hb : bindArgs (PySem.W.kla_fn "<lambda>" q params body scope (cloFrom X.env.cells scope.names []) pm (.ref c') ctv) ⟨[u], []⟩ = pure [(a, u)]) (rv : RelV v u)
    (hi : σ'[i]? = some (some v)) (ho : ∀ (j : Nat) (w : V), j ≠ i → σ'[j]? = some (some w) → σ[j]? = some (some w)) (hl : σ'.length = σ.length)
    (pe : PE (LamX.lamCx X A X.stack s H E00 scope f c') body tb) (ht : tb σ' H Q) :
    wpAny (model X.prog X.w) A (call (.ref f) [u]) (CE X.stack X.prog X.w H s Q) (fun _ _ => False) s := by
  obtain ⟨⟨oc, us, t, e1, e2, e3⟩, _, _⟩ := I.hok c' _ hc
  refine wpAny_call (codeAny_mono (?_ : codeAny (model X.prog X.w) A (.call (.ref f) ⟨[u], []⟩) (CR (L2.CX X.prog X.w) X.stack X.prog X.w H s Q E00) s) fun r s' h => ?_)
  · subst hq
    refine PySem.W.kla_callFunE dp hf rfl L.co L.gen rfl ⟨c', oc, us, t, rfl, e1, e2, e3⟩ ?_
    rw [hb]
    refine wpAny_pure (wpAny_newFunctionEnv L.cel (fun y hy => ?_) (fun h₁ hns sb => ⟨I.nolimit.fresh _ sb, ?_⟩) L.kind)
    · obtain rfl : y = (a, u) := by simpa using hy
      exact L.par
    show codeAny _ _ (.expr body (LamX.lamEnv X scope s.heap.objs.size f c')) _ _
    have kp : ∀ b o, s.heap.get? b = some o → h₁.get? b = some o := fun b o e => sb.extBut b o (Nat.ne_of_lt (Heap.lt_size e)) (Heap.get?_push_of_some _ e)
    have J := lam_in (E := E00) (f := f) (c' := c') (tk := s.toks + ([(a, u)] : List (Str × Value)).length) I L nd hA hd hN rv hi ho hl hns kp
    refine PySem.W.kla_codeExpr (wpAny_mono (pe.run [] _ _ H Q J ht) (fun w s' hw => ?_) fun e s' he => he)
    obtain ⟨w', H', J', r, hw⟩ := hw
    exact ⟨w', H', J'.os, J'.bare, J'.base, J'.hok, r, hw⟩
  · cases r with
    | error e =>
      obtain ⟨_, _, _, _, _, _, _, _, _, _, _, _, z⟩ := h
      exact z.elim
    | ok fl =>
      cases fl with
      | ret w => exact h
      | next => exact False.elim h
      | brk => exact False.elim h
      | cont => exact False.elim h
end
end TL

set_option Elab.async false
set_option linter.all false
set_option maxRecDepth 100000
set_option maxHeartbeats 2000000
/-! TLb: sorted(xs, key=a lambda). -/
namespace TL
open PySem PySem.Spec PyProof.Rows L2
open PySem.W (EachIs sortVals)

def keySortV (vs : List V) (ks : List PyData) : List V := ((vs.zip ks).mergeSort (PySem.W.dataLe false (·.2))).map (·.1)
theorem rpa_mem {K : PySem.W.Frag} {M : Hp} : ∀ {vs : List V} {xs : List PyData}, RpA K M vs xs → ∀ p ∈ vs.zip xs, Rp K M p.1 p.2
  | _, _, .nil, p, h => by simp at h
  | _, _, .cons a b, p, h => by
    rw [List.zip_cons_cons] at h
    rcases List.mem_cons.mp h with rfl | h
    · exact a
    · exact rpa_mem b p h
theorem rpa_of {K : PySem.W.Frag} {M : Hp} {α : Type} {f : α → V} {g : α → PyData} : ∀ (l : List α), (∀ t ∈ l, Rp K M (f t) (g t)) → RpA K M (l.map f) (l.map g)
  | [], _ => .nil
  | t :: l, h => .cons (h t (List.mem_cons_self ..)) (rpa_of l fun u hu => h u (List.mem_cons_of_mem _ hu))
theorem zip_l {α β γ : Type} : ∀ (vs : List α) (xs : List β) (ks : List γ), vs.length = xs.length → ((vs.zip xs).zip ks).map (fun t => (t.1.1, t.2)) = vs.zip ks
  | [], [], ks, _ => by simp
  | v :: vs, x :: xs, [], _ => by simp
  | v :: vs, x :: xs, k :: ks, h => by
    simp only [List.zip_cons_cons, List.map_cons]
    rw [zip_l vs xs ks (by simpa using h)]
theorem zip_r {α β γ : Type} : ∀ (vs : List α) (xs : List β) (ks : List γ), vs.length = xs.length → ((vs.zip xs).zip ks).map (fun t => (t.1.2, t.2)) = xs.zip ks
  | [], [], ks, _ => by simp
  | v :: vs, x :: xs, [], _ => by simp
  | v :: vs, x :: xs, k :: ks, h => by
    simp only [List.zip_cons_cons, List.map_cons]
    rw [zip_r vs xs ks (by simpa using h)]
/-- sorted alike -/
theorem rpa_sort {K : PySem.W.Frag} {M : Hp} {vs : List V} {xs ks : List PyData} (h : RpA K M vs xs) : RpA K M (keySortV vs ks) (keySort xs ks) := by
  unfold keySortV keySort
  rw [← zip_l vs xs ks h.length, ← zip_r vs xs ks h.length]
  rw [← List.map_mergeSort (f := fun t : (V × PyData) × PyData => (t.1.1, t.2)) (r := PySem.W.dataLe false (·.2)) (fun a _ b _ => rfl), ← List.map_mergeSort (f := fun t : (V × PyData) × PyData => (t.1.2, t.2)) (r := PySem.W.dataLe false (·.2)) (fun a _ b _ => rfl), List.map_map, List.map_map]
  refine rpa_of _ fun t ht => ?_
  have m : t ∈ (vs.zip xs).zip ks := (List.mergeSort_perm _ _).mem_iff.mp ht
  exact rpa_mem h t.1 (List.of_mem_zip (show (t.1, t.2) ∈ _ from m)).1
theorem keySort_len {xs ks : List PyData} (h : xs.length = ks.length) : (keySort xs ks).length = xs.length := by
  unfold keySort
  rw [List.length_map, List.length_mergeSort, List.length_zip, h, Nat.min_self]
/-- by a function of the item -/
theorem keySort_map {f : PyData → PyData} {xs : List PyData} : keySort xs (xs.map f) = xs.mergeSort (PySem.W.dataLe false f) := by
  unfold keySort
  have e : xs.zip (xs.map f) = xs.map fun x => (x, f x) := by
    induction xs with
    | nil => rfl
    | cons x xs ih => rw [List.map_cons, List.zip_cons_cons, ih, List.map_cons]
  rw [e, ← List.map_mergeSort (f := fun x : PyData => (x, f x)) (r := PySem.W.dataLe false f) (fun a _ b _ => rfl), List.map_map]
  exact List.map_id' _
theorem vals_of_each {β : Type} {k : β → V} : ∀ {us : List Value} {bs : List β}, EachIs (fun u b => RelV (k b) u) us bs → Vals (bs.map k) us
  | _, _, .nil => .nil
  | _, _, .cons a b => .cons a (vals_of_each b)
theorem each_of_vals : ∀ {vs : List V} {us : List Value} (ks : List PyData), Vals vs us → ks.length = vs.length → EachIs (fun (u : Value) (b : V × PyData) => RelV b.1 u) us (vs.zip ks)
  | _, _, [], .nil, _ => .nil
  | _, _, k :: ks, .cons r t, h => by
    rw [List.zip_cons_cons]
    exact .cons r (each_of_vals ks t (by simpa using h))
  | _, _, [], .cons _ _, h => by cases h
  | _, _, _ :: _, .nil, h => by cases h
theorem zip_snd : ∀ (vs : List V) (ks : List PyData), vs.length = ks.length → (vs.zip ks).map (·.2) = ks
  | [], [], _ => rfl
  | v :: vs, k :: ks, h => by rw [List.zip_cons_cons, List.map_cons, zip_snd vs ks (by simpa using h)]
theorem each_reads2 {X : Cx} {pins : List (Addr × Obj)} {σ : L2.St} {H : Hp} {s : Shared} (I : Inv X pins σ H s) : ∀ {vs : List V} {us : List Value} {ds : List PyData}, Vals vs us → RpA X.K H vs ds → EachIs (fun v k => ∃ as, Reads s.heap v k as) us ds
  | _, _, _, .nil, .nil => .nil
  | _, _, _, .cons r t, .cons a b => .cons (dreads I a r) (each_reads2 I t b)
section
variable {X : Cx} {pins : List (Addr × Obj)} {σ : L2.St} {H : Hp} {s : Shared}
/-- sorted(xs, key=f): the keys one after another, W tells what is known behind each -/
theorem sorted_lam {l f : Addr} {us : List Value} {vs : List V} {Q : VK} (I : Inv X pins σ H s) (hl : s.heap.IsList l us.toArray) (rv : Vals vs us) (hz : us.length ≤ sizeLine) (W : Nat → List V → Hp → Prop) (w0 : W 0 [] H)
    (turn : ∀ (j : Nat) (u : Value) (v : V) (kvs : List V) (s' : Shared) (H' : Hp) (pl : List (Addr × Obj)), us[j]? = some u → vs[j]? = some v → RelV v u → Inv X (pins ++ pl) σ H' s' → W j kvs H' →
      wpAny (model X.prog X.w) X.A.in1.in1 (call (.ref f) [u]) (EP X (pins ++ pl) σ fun k H2 => W (j + 1) (kvs ++ [k]) H2) (fun _ _ => False) s')
    (fin : ∀ (kvs : List V) (H' : Hp), kvs.length = vs.length → W vs.length kvs H' → ∃ ks, RpA X.K H' kvs ks ∧ PySem.W.AllAlike ks ∧ PySem.W.Sortable ks ∧ (∀ d ∈ ks, X.A.units + 2 + d.depth < cLine) ∧ ∀ D, H' D = none → Q (.ref D) (upd H' D (.lst (keySortV vs ks)))) :
    wpAny (model X.prog X.w) X.A (call (.builtin "sorted") [.ref l] [(Str.ofString "key", .ref f)]) (EP X pins σ Q) X.xe s := by
  have lv := rv.length
  have fA : FpOk X pins H (s.heap.objs.size + 1) := I.fpOk (Nat.le_succ _) (I.hok.fresh (Nat.le_succ _))
  refine PySem.W.sorted_of_sort hl hz (ksk_s1 _ _) (fun _ => ksk_l1 _ _) fun E' => ?_
  rw [ksk_t1]
  unfold ksk_tree
  have at0 := PySem.W.copyHeap_at s.heap us
  generalize hA : s.heap.objs.size + 1 = A at fA at0
  have hA' : s.heap.objs.size ≤ A := by rw [← hA]; exact Nat.le_succ _
  generalize hC : PySem.W.copyHeap s.heap us = C at at0
  have old : ∀ b o, s.heap.get? b = some o → C.get? b = some o := fun b o e => by rw [← hC]; exact PySem.W.copyHeap_old e
  refine wpAny_bind (listItems_at at0 rfl ?_)
  refine wpAny_bind (listUpdate_at at0 rfl ?_ (by rw [List.size_toArray]; exact hz) (Nat.zero_le _))
  obtain ⟨ep, at1⟩ : ∃ ep, (C.update A (Obj.mapSeq fun _ => (#[] : Array Value))).get? A = some (seqObj "list" #[] ep) := ⟨_, get?_update_seq at0 fun _ => #[]⟩
  refine wpAny_bind (seqEpoch_at at1 rfl ?_)
  refine wpAny_bind (wpAny_newTuple ?_ (by show us.length ≤ _; exact hz))
  refine wpAny_bind (wpAny_newList ?_ (Nat.zero_le _))
  refine wpAny_holding ?_
  have lA : A < C.objs.size := Heap.lt_size at0
  have sz1 : (C.update A (Obj.mapSeq fun _ => (#[] : Array Value))).objs.size = C.objs.size := by rw [Heap.size_update]
  have lC : s.heap.objs.size ≤ C.objs.size := Nat.le_trans hA' (Nat.le_of_lt lA)
  -- the keys' own list
  generalize hS : ((C.update A (Obj.mapSeq fun _ => (#[] : Array Value))).push (seqObj "tuple" us.toArray 0)).objs.size = S
  have eS : S = C.objs.size + 1 := by rw [← hS, size_push', sz1]
  have fS : FpOk X pins H S := I.fpOk (by omega) (I.hok.fresh (by omega))
  have AS : A ≠ S := by omega
  generalize hG : ((C.update A (Obj.mapSeq fun _ => (#[] : Array Value))).push (seqObj "tuple" us.toArray 0)).push (seqObj "list" #[] 0) = G
  have gS : G.get? S = some (seqObj "list" #[] 0) := by rw [← hG, ← hS]; exact Heap.get?_push_size _ rfl
  have gA : G.get? A = some (seqObj "list" #[] ep) := by rw [← hG]; exact Heap.get?_push_of_some _ (Heap.get?_push_of_some _ at1)
  have oldG : ∀ b o, s.heap.get? b = some o → G.get? b = some o := fun b o e => by
    have e1 := old b o e
    have nb : b ≠ A := Nat.ne_of_lt (Nat.lt_of_lt_of_le (Heap.lt_size e) hA')
    rw [← hG]
    refine Heap.get?_push_of_some _ (Heap.get?_push_of_some _ ?_)
    rw [Heap.get?_update_ne _ _ _ _ nb]
    exact e1
  have IG : Inv X pins σ H { s with heap := G } := I.kept (t' := s.toks) oldG
  unfold ksk_rest
  refine wpAny_bind (wpAny_rule ?_)
  first
    | rw [List.forIn_toArray]
    | (rw [← Array.forIn_toList]; simp only [List.toList_toArray])
  refine wpAny_bind (ksk_fold (fun j s' => ∃ H' kvs kA e, Inv X pins σ H' s' ∧ s'.heap.get? S = some (seqObj "list" kA e) ∧ s'.heap.get? A = some (seqObj "list" #[] ep) ∧ H' S = none ∧ H' A = none ∧ Vals kvs kA.toList ∧ kvs.length = j ∧ j ≤ us.length ∧ W j kvs H') us 0 _
    ⟨H, [], #[], 0, IG, gS, gA, fS.1, fA.1, .nil, rfl, Nat.zero_le _, w0⟩ (fun j u s' hu hI => ?_) fun s' hI => ?_)
  · obtain ⟨H', kvs, kA, e, I', nS, nA, hS', hA2, rk, lk, hj, w⟩ := hI
    simp only [Nat.zero_add] at lk hj w ⊢
    have lj : j < us.length := (List.getElem?_eq_some_iff.mp hu).1
    obtain ⟨v, hv⟩ : ∃ v, vs[j]? = some v := ⟨_, List.getElem?_eq_getElem (by omega)⟩
    obtain ⟨u', hu', ruv⟩ := rv.get hv
    rw [hu] at hu'
    cases hu'
    have I2 : Inv X (pins ++ [(S, seqObj "list" kA e), (A, seqObj "list" #[] ep)]) σ H' s' := I'.pins_of fun p hp => by
      rcases List.mem_append.mp hp with z | z
      · exact I'.pin p (List.mem_append_right _ z)
      · simp only [List.mem_cons, List.not_mem_nil, or_false] at z
        rcases z with rfl | rfl
        · exact ⟨nS, hS', fS.2.1, fS.2.2.1, fun v z => nomatch z⟩
        · exact ⟨nA, hA2, fA.2.1, fA.2.2.1, fun v z => nomatch z⟩
    refine wpAny_bind (wpAny_attempt (wpAny_mono (turn j u v kvs s' H' _ hu hv ruv I2 w) (fun k s2 h2 => ?_) fun _ _ z => z.elim))
    obtain ⟨kv, H2, I3, rkv, w2⟩ := h2
    have pS := I3.pin (S, seqObj "list" kA e) (by simp)
    have pA := I3.pin (A, seqObj "list" #[] ep) (by simp)
    try dsimp only
    have kl : kA.size ≤ us.length := by
      have e3 : kvs.length = kA.size := by rw [← Array.length_toList]; exact rk.length
      rw [← e3, lk]
      exact Nat.le_of_lt lj
    refine wpAny_bind (listUpdate_at pS.1 rfl ?_ (Nat.le_trans kl hz) (Nat.le_trans (Nat.le_of_eq (Array.size_push ..)) (Nat.succ_le_succ (Nat.le_trans kl hz))))
    have ch := Heap.SameBut.update s2.heap S (Obj.mapSeq (·.push k))
    obtain ⟨e2, he2⟩ : ∃ e2, (s2.heap.update S (Obj.mapSeq (·.push k))).get? S = some (seqObj "list" (kA.push k) e2) := ⟨_, get?_update_seq pS.1 (·.push k)⟩
    refine wpAny_pure ⟨rfl, H2, kvs ++ [kv], kA.push k, e2, ?_, he2, (ch.2 A AS).trans pA.1, pS.2.1, pA.2.1, ?_, by rw [List.length_append, lk]; rfl, lj, w2⟩
    · exact (Inv.unpinned I3).turnedL (t' := s2.toks) (ch := [S]) (fun b o nb e => (ch.2 b (by simpa using nb)).trans e) fun b hb => by
        obtain rfl : b = S := by simpa using hb
        exact ⟨pS.2.1, fS.2⟩
    · have : (kA.push k).toList = kA.toList ++ [k] := by simp
      rw [this]
      exact rk.append (.cons rkv .nil)
  · obtain ⟨H', kvs, kA, e, I', nS, nA, hS', hA2, rk, lk, hj, w⟩ := hI
    simp only [Nat.zero_add] at lk hj w
    obtain ⟨ks, ra, al, so, un, q⟩ := fin kvs H' (by omega) (by rw [lv]; exact w)
    have lks : ks.length = vs.length := by rw [← ra.length]; omega
    refine wpAny_bind (listItems_at nS rfl ?_)
    let N : Hp := fun b => if b = S then some (.tbl #[]) else none
    have hk : EachIs (fun v k => ∃ as, Reads s'.heap v k as) kA.toList ks := each_reads2 I' rk ra
    have lka : kA.size = us.length := by
      have := hk.length
      rw [Array.length_toList] at this
      omega
    refine PySem.W.keyH_end (κ := PySem.W.dataKind s'.heap ks) (h₁ := hidT s'.heap N) (a := A) (kS := S) (fun b o _ e => (of_hidT e).1) ?_ nS nA AS.symm (PySem.W.SortsAt.data hk al so un) lka hz fun h' tk c kp na => ⟨rfl, ?_⟩
    · cases z : (hidT s'.heap N).get? S with
      | none => rfl
      | some o =>
        have := (of_hidT z).2
        have e2 : N S = some (.tbl #[]) := if_pos rfl
        rw [e2] at this
        cases this
    have ko : PySem.W.KeyedOut false ((vs.zip ks).map (·.2)) us (sortVals (PySem.W.dataKind s'.heap ks) false kA.toList us) := by
      rw [zip_snd vs ks lks.symm]
      exact ⟨s'.heap, kA.toList, al, rfl, hk⟩
    have out := PySem.W.keyedOut_each (fun b : V × PyData => b.2) ko (each_of_vals ks rv lks)
    have ov : Vals (keySortV vs ks) (sortVals (PySem.W.dataKind s'.heap ks) false kA.toList us) := vals_of_each (k := fun b : V × PyData => b.1) (bs := (vs.zip ks).mergeSort (PySem.W.dataLe false (·.2))) out
    have J : Inv X pins σ H' { s' with heap := h', toks := tk } := I'.turnedL (ch := [S, A]) (fun b o nb e => by
        simp only [List.mem_cons, List.not_mem_nil, or_false, not_or] at nb
        exact kp b o nb.2 (hidT_get e (if_neg nb.1))) fun b hb => by
      simp only [List.mem_cons, List.not_mem_nil, or_false] at hb
      rcases hb with rfl | rfl
      · exact ⟨hS', fS.2⟩
      · exact ⟨hA2, fA.2⟩
    refine ⟨.ref A, upd H' A (.lst (keySortV vs ks)), J.take (h' := h') (t' := tk) (fun b o _ e => e) ⟨hA2, fA.2⟩ ⟨?_, _, c, ov, na⟩, rfl, q A hA2⟩
    unfold keySortV
    rw [List.length_map, List.length_mergeSort, List.length_zip, lks, Nat.min_self]
    omega
end
end TL

set_option Elab.async false
set_option linter.all false
set_option maxRecDepth 100000
set_option maxHeartbeats 2000000
/-! TLc: min(xs, key=a lambda), max(xs, key=a lambda), by ints. -/
namespace TL
open PySem PySem.Spec PyProof.Rows L2
section
variable {X : Cx} {pins : List (Addr × Obj)} {σ : L2.St} {H : Hp} {s : Shared}
/-- what stays -/
def KJ (X : Cx) (pins : List (Addr × Obj)) (σ : L2.St) (s0 : Shared) (H0 : Hp) (J : Hp → Prop) (s : Shared) : Prop := s0.heap.objs.size ≤ s.heap.objs.size ∧ ∃ H, Inv X pins σ H s ∧ J H ∧ ∀ b, H0 b = none → b < s0.heap.objs.size + 2 → H b = none
end
theorem argBest_lt (bt : Nat → Nat → Bool) : ∀ k, argBest bt k ≤ k
  | 0 => Nat.le_refl _
  | k + 1 => by
    unfold argBest
    split
    · exact Nat.le_refl _
    · exact Nat.le_succ_of_le (argBest_lt bt k)
section
variable {X : Cx} {pins : List (Addr × Obj)} {σ : L2.St} {H : Hp} {s : Shared}
/-- the walk over a tracked list, whatever its numbers' tokens -/
theorem walk_lst {A : Around} {l it : Addr} {vs : List V} (hd : A.handled = none) (ne : l ≠ it) : WalksS X.prog X.w A it [it, l] [it] (fun a b => b = a) vs.length (fun i u => ∃ v, vs[i]? = some v ∧ RelV v u)
    (fun i s' => s'.heap.IsListIter it l i ∧ ∃ its : List Value, s'.heap.IsList l its.toArray ∧ Vals vs its) where
  sub := fun b h => List.mem_cons.mpr (.inl (by simpa using h))
  grefl := fun _ => rfl
  gtrans := fun _ _ _ a b => b.trans a
  frame := fun i t h' tk st _ k => by
    obtain ⟨s1, its, s2, rv⟩ := st
    exact ⟨s1.at fun o e => k it (by simp) o e, its, s2.at fun o e => k l (by simp) o e, rv⟩
  item := fun i t Q E hi st hQ => by
    obtain ⟨s1, its, s2, rv⟩ := st
    have W := (Walks.list (prog := X.prog) (w := X.w) hd it l ne its.toArray).toS
    have li : its.toArray.size = vs.length := by rw [List.size_toArray, rv.length]
    refine W.item i t Q E (by rw [li]; exact hi) ⟨s1, s2⟩ fun u t' hu st' mv => ?_
    obtain ⟨v, hv⟩ : ∃ v, vs[i]? = some v := ⟨_, List.getElem?_eq_getElem hi⟩
    obtain ⟨u', e, r⟩ := rv.get hv
    have hu : its[i]? = some u := by simpa using hu
    rw [hu] at e
    cases e
    exact hQ u t' ⟨v, hv, r⟩ ⟨st'.1, its, st'.2, rv⟩ mv
  done := fun t Q E st hQ => by
    obtain ⟨s1, its, s2, rv⟩ := st
    have W := (Walks.list (prog := X.prog) (w := X.w) hd it l ne its.toArray).toS
    have li : its.toArray.size = vs.length := by rw [List.size_toArray, rv.length]
    exact W.done t Q E (by rw [li]; exact ⟨s1, s2⟩) hQ
  self := fun i t Q E st hQ => by
    obtain ⟨s1, its, s2, rv⟩ := st
    exact (Walks.list (prog := X.prog) (w := X.w) hd it l ne its.toArray).toS.self i t Q E ⟨s1, s2⟩ hQ
/-- what min and max by key ask -/
theorem key_run {op : CmpOp} {p f : Addr} {vs : List V} {ns : List Int} {bt : Nat → Nat → Bool} {J : Hp → Prop} {S it : Addr} {A : Around} (hn : ns.length = vs.length) (fS : FpOk X pins H S) (fI : FpOk X pins H it) (pI : p ≠ it) (SI : S ≠ it)
    (hp : ∀ H', J H' → H' p = some (.lst vs))
    (turn : ∀ (i : Nat) (v : V) (u : Value) (n : Int) (s' : Shared) (H' : Hp), vs[i]? = some v → ns[i]? = some n → RelV v u → Inv X pins σ H' s' → J H' →
      wpAny (model X.prog X.w) A (call (.ref f) [u]) (CE X.stack X.prog X.w H' s' fun k H2 => k = .int n ∧ J H2) (fun _ _ => False) s')
    (cmp : ∀ (i j : Nat) (a b : Int) (x y : Value) (s' : Shared) (Q : Value → Shared → Prop) (E : Value → Shared → Prop), ns[i]? = some a → ns[j]? = some b → RelV (.int a) x → RelV (.int b) y → Q (.bool (bt i j)) s' → wpAny (model X.prog X.w) A (richCompare op x y) Q E s') :
    KeyRun X.prog X.w A (.ref f) op S [it] (fun a b => b = a) vs.length (fun i u => ∃ v, vs[i]? = some v ∧ RelV v u) (fun i s' => s'.heap.IsListIter it p i ∧ ∃ its : List Value, s'.heap.IsList p its.toArray ∧ Vals vs its)
      (fun s' => ∃ H', Inv X pins σ H' s' ∧ J H' ∧ H' S = none ∧ H' it = none) (fun i k _ => ∃ n : Int, ns[i]? = some n ∧ RelV (.int n) k) bt where
  keep := fun t t' hJ mv => by
    obtain ⟨H', I, j, n1, n2⟩ := hJ
    obtain ⟨h, g, d, tk, os⟩ := t'
    obtain ⟨h0, g0, d0, tk0, os0⟩ := t
    have e1 : g = g0 := mv.gens
    have e2 : d = d0 := mv.drawn
    have e3 : os = os0 := mv.os
    subst e1 e2 e3
    exact ⟨H', I.turnedL (h' := h) (t' := tk) (ch := [S, it]) (fun b o nb e => mv.heap b o nb e) fun b hb => by
      simp only [List.mem_cons, List.not_mem_nil, or_false] at hb
      rcases hb with rfl | rfl
      · exact ⟨n1, fS.2⟩
      · exact ⟨n2, fI.2⟩, j, n1, n2⟩
  keepV := fun _ _ _ _ h _ => h
  turn := fun i u t o Q E hi hP hJ st hS hQ => by
    obtain ⟨H', I, j, n1, n2⟩ := hJ
    obtain ⟨v, hv, rv⟩ := hP
    obtain ⟨n, hn'⟩ : ∃ n, ns[i]? = some n := ⟨_, List.getElem?_eq_getElem (by omega)⟩
    refine wpAny_mono (turn i v u n t H' hv hn' rv I j) (fun k t' hk => ?_) fun _ _ z => z.elim
    have hk0 := hk
    obtain ⟨kv, H2, os, bare, un, hok, rk, e, j2⟩ := hk
    subst e
    have notF : ∀ {b : Addr}, FpOk X pins H b → b ∉ frs X.stack := fun {b} fb z => by
      rcases List.mem_cons.mp (I.stkSub b z) with z | z
      · exact fb.2.1 z
      · exact fb.2.2.1 z
    have kp : ∀ b ob, FpOk X pins H b → H' b = none → t.heap.get? b = some ob → t'.heap.get? b = some ob ∧ H2 b = none := fun b ob fb nb e =>
      ⟨un.keep b ob e nb (notF fb) (fun z => nomatch z), un.free b ob e nb (fun z => nomatch z)⟩
    obtain ⟨oI, hI⟩ : ∃ oI, t.heap.get? it = some oI := by
      obtain ⟨oI, e, _⟩ := st.1
      exact ⟨oI, e⟩
    obtain ⟨k1, m1⟩ := kp S o fS n1 hS
    obtain ⟨k2, m2⟩ := kp it oI fI n2 hI
    obtain ⟨v2, H3, I3, _, ⟨_, j3⟩, m3, m4⟩ : EP X pins σ (fun k H3 => (k = V.int n ∧ J H3) ∧ H3 S = none ∧ H3 it = none) k t' := I.after ⟨_, H2, os, bare, un, hok, rk, ⟨rfl, j2⟩, m1, m2⟩
    obtain ⟨its, q1, q2, q3⟩ := I3.list (.inl (.inl (hp H3 j3)))
    exact hQ k t' ⟨H3, I3, j3, m3, m4⟩ ⟨st.1.at fun o' e => by rw [hI] at e; cases e; exact k2, its, q2.isList, q1⟩ k1 ⟨n, hn', rk⟩ fun _ _ h => h
  cmp := fun i j ki kj t Q E _ hi hj hQ => by
    obtain ⟨a, ha, ra⟩ := hi
    obtain ⟨b, hb, rb⟩ := hj
    exact cmp i j a b ki kj t Q E ha hb ra rb hQ
theorem cmp_lt {A : Around} {ns : List Int} : ∀ (i j : Nat) (a b : Int) (x y : Value) (s' : Shared) (Q : Value → Shared → Prop) (E : Value → Shared → Prop), ns[i]? = some a → ns[j]? = some b → RelV (.int a) x → RelV (.int b) y →
    Q (.bool (decide (ns.getD i 0 < ns.getD j 0))) s' → wpAny (model X.prog X.w) A (richCompare .Lt x y) Q E s' := fun i j a b x y s' Q E ha hb ra rb hQ => by
  obtain ⟨t1, rfl⟩ := ra
  obtain ⟨t2, rfl⟩ := rb
  have e1 : ns.getD i 0 = a := by rw [List.getD_eq_getElem?_getD, ha]; rfl
  have e2 : ns.getD j 0 = b := by rw [List.getD_eq_getElem?_getD, hb]; rfl
  exact CmpOf.ints_lt (P := fun i v => ∃ t, v = .int (ns.getD i 0) t) (fun i => ns.getD i 0) (fun i v h => h) i j _ _ _ _ _ ⟨t1, by rw [e1]⟩ ⟨t2, by rw [e2]⟩ hQ
theorem cmp_gt {A : Around} {ns : List Int} : ∀ (i j : Nat) (a b : Int) (x y : Value) (s' : Shared) (Q : Value → Shared → Prop) (E : Value → Shared → Prop), ns[i]? = some a → ns[j]? = some b → RelV (.int a) x → RelV (.int b) y →
    Q (.bool (decide (ns.getD i 0 > ns.getD j 0))) s' → wpAny (model X.prog X.w) A (richCompare .Gt x y) Q E s' := fun i j a b x y s' Q E ha hb ra rb hQ => by
  obtain ⟨t1, rfl⟩ := ra
  obtain ⟨t2, rfl⟩ := rb
  have e1 : ns.getD i 0 = a := by rw [List.getD_eq_getElem?_getD, ha]; rfl
  have e2 : ns.getD j 0 = b := by rw [List.getD_eq_getElem?_getD, hb]; rfl
  exact CmpOf.ints_gt (P := fun i v => ∃ t, v = .int (ns.getD i 0) t) (fun i => ns.getD i 0) (fun i v h => h) i j _ _ _ _ _ ⟨t1, by rw [e1]⟩ ⟨t2, by rw [e2]⟩ hQ
theorem min_lam {p f : Addr} {vs : List V} {ns : List Int} {J : Hp → Prop} {Q : VK} (I : Inv X pins σ H s) (hd : X.A.handled = none) (hn : ns.length = vs.length) (h0 : 0 < vs.length) (j0 : J H) (hp : ∀ H', J H' → H' p = some (.lst vs))
    (turn : ∀ (i : Nat) (v : V) (u : Value) (n : Int) (s' : Shared) (H' : Hp), vs[i]? = some v → ns[i]? = some n → RelV v u → Inv X pins σ H' s' → J H' →
      wpAny (model X.prog X.w) X.A.in1 (call (.ref f) [u]) (CE X.stack X.prog X.w H' s' fun k H2 => k = .int n ∧ J H2) (fun _ _ => False) s')
    (fin : ∀ x H', vs[minAt ns]? = some x → J H' → Q x H') : wpAny (model X.prog X.w) X.A (call (.builtin "min") [.ref p] [(Str.ofString "key", .ref f)]) (EP X pins σ Q) X.xe s := by
  obtain ⟨its, q1, q2, q3⟩ := I.list (.inl (.inl (hp H j0)))
  refine call_min_walkK (wpAny_pyIter_list q2.isList ?_)
  have pl : p < s.heap.objs.size := I.hok.lt (hp H j0)
  have fI : FpOk X pins H s.heap.objs.size := I.fpOk (Nat.le_refl _) (I.hok.fresh (Nat.le_refl _))
  have I1 : Inv X pins σ H { s with heap := s.heap.push { cls := .type "list_iterator", data := .fields #[.ref p, .int 0 0] } } := I.kept (t' := s.toks) fun b o e => Heap.get?_push_of_some _ e
  have z1 : (s.heap.push { cls := .type "list_iterator", data := .fields #[.ref p, .int 0 0] }).objs.size = s.heap.objs.size + 1 := size_push' _ _
  have fS : FpOk X pins H (s.heap.push { cls := .type "list_iterator", data := .fields #[.ref p, .int 0 0] }).objs.size := I.fpOk (by rw [z1]; exact Nat.le_succ _) (I.hok.fresh (by rw [z1]; exact Nat.le_succ _))
  refine ⟨s.heap.objs.size, [s.heap.objs.size, p], [s.heap.objs.size], _, vs.length, _, _, _, _, _, rfl, walk_lst (X := X) (vs := vs) hd (Nat.ne_of_lt pl), ⟨⟨_, Heap.get?_push_size _ rfl, rfl, rfl⟩, its, q2.isList.at fun o e => Heap.get?_push_of_some _ e, q1⟩, fun b hb => ?_, h0,
    key_run (A := X.A.in1) (f := f) (J := J) hn fS fI (Nat.ne_of_lt pl) (by rw [z1]; exact Nat.ne_of_gt (Nat.lt_succ_self _)) hp turn cmp_lt, ⟨H, I1, j0, fS.1, fI.1⟩, fun u s' hu hJ => ?_⟩
  · simp only [List.mem_cons, List.not_mem_nil, or_false] at hb
    show b < (s.heap.push { cls := .type "list_iterator", data := .fields #[.ref p, .int 0 0] }).objs.size
    rw [z1]
    rcases hb with rfl | rfl
    · exact Nat.lt_succ_self _
    · exact Nat.lt_succ_of_lt pl
  · obtain ⟨H', I', j, _, _⟩ := hJ
    obtain ⟨x, hx, rx⟩ := hu
    exact ⟨x, H', I', rx, fin x H' (by unfold minAt; rw [hn]; exact hx) j⟩
theorem max_lam {p f : Addr} {vs : List V} {ns : List Int} {J : Hp → Prop} {Q : VK} (I : Inv X pins σ H s) (hd : X.A.handled = none) (hn : ns.length = vs.length) (h0 : 0 < vs.length) (j0 : J H) (hp : ∀ H', J H' → H' p = some (.lst vs))
    (turn : ∀ (i : Nat) (v : V) (u : Value) (n : Int) (s' : Shared) (H' : Hp), vs[i]? = some v → ns[i]? = some n → RelV v u → Inv X pins σ H' s' → J H' →
      wpAny (model X.prog X.w) X.A.in1 (call (.ref f) [u]) (CE X.stack X.prog X.w H' s' fun k H2 => k = .int n ∧ J H2) (fun _ _ => False) s')
    (fin : ∀ x H', vs[maxAt ns]? = some x → J H' → Q x H') : wpAny (model X.prog X.w) X.A (call (.builtin "max") [.ref p] [(Str.ofString "key", .ref f)]) (EP X pins σ Q) X.xe s := by
  obtain ⟨its, q1, q2, q3⟩ := I.list (.inl (.inl (hp H j0)))
  refine call_max_walkK (wpAny_pyIter_list q2.isList ?_)
  have pl : p < s.heap.objs.size := I.hok.lt (hp H j0)
  have fI : FpOk X pins H s.heap.objs.size := I.fpOk (Nat.le_refl _) (I.hok.fresh (Nat.le_refl _))
  have I1 : Inv X pins σ H { s with heap := s.heap.push { cls := .type "list_iterator", data := .fields #[.ref p, .int 0 0] } } := I.kept (t' := s.toks) fun b o e => Heap.get?_push_of_some _ e
  have z1 : (s.heap.push { cls := .type "list_iterator", data := .fields #[.ref p, .int 0 0] }).objs.size = s.heap.objs.size + 1 := size_push' _ _
  have fS : FpOk X pins H (s.heap.push { cls := .type "list_iterator", data := .fields #[.ref p, .int 0 0] }).objs.size := I.fpOk (by rw [z1]; exact Nat.le_succ _) (I.hok.fresh (by rw [z1]; exact Nat.le_succ _))
  refine ⟨s.heap.objs.size, [s.heap.objs.size, p], [s.heap.objs.size], _, vs.length, _, _, _, _, _, rfl, walk_lst (X := X) (vs := vs) hd (Nat.ne_of_lt pl), ⟨⟨_, Heap.get?_push_size _ rfl, rfl, rfl⟩, its, q2.isList.at fun o e => Heap.get?_push_of_some _ e, q1⟩, fun b hb => ?_, h0,
    key_run (A := X.A.in1) (f := f) (J := J) hn fS fI (Nat.ne_of_lt pl) (by rw [z1]; exact Nat.ne_of_gt (Nat.lt_succ_self _)) hp turn cmp_gt, ⟨H, I1, j0, fS.1, fI.1⟩, fun u s' hu hJ => ?_⟩
  · simp only [List.mem_cons, List.not_mem_nil, or_false] at hb
    show b < (s.heap.push { cls := .type "list_iterator", data := .fields #[.ref p, .int 0 0] }).objs.size
    rw [z1]
    rcases hb with rfl | rfl
    · exact Nat.lt_succ_self _
    · exact Nat.lt_succ_of_lt pl
  · obtain ⟨H', I', j, _, _⟩ := hJ
    obtain ⟨x, hx, rx⟩ := hu
    exact ⟨x, H', I', rx, fin x H' (by unfold maxAt; rw [hn]; exact hx) j⟩
end
end TL

set_option Elab.async false
set_option linter.all false
set_option maxRecDepth 100000
set_option maxHeartbeats 2000000
/-! TLd: a lambda is made; sorted, min, max by it. -/
namespace TL
open PySem PySem.Spec PyProof.Rows L2

theorem rv_list [TabsC] {b : Bool} {K : PySem.W.Frag} {H : Hp} {G Z : List Addr} {n : Nat} {v : V} {xs : List PyData} (k : Ok G Z H n) (w : RV K b H G Z v (.d (.list xs))) :
    ∃ p vs, v = .ref p ∧ H p = some (.lst vs) ∧ RpA K (mask H Z) vs xs ∧ p ∉ G ∧ (b = true → p ∉ Z) := by
  obtain ⟨p, vs, rfl, hp, r⟩ := w.weak.lst
  refine ⟨p, vs, rfl, hp, r, ?_, fun e => ?_⟩
  · rcases w.weak with z | ⟨p', vs', e, h1, _⟩
    · cases z with
      | lst z _ => exact fun y => (mask_some z).1 (k.sub _ y)
    · cases e; exact h1
  · subst e
    have w' : Rp K (mask H Z) (.ref p) (.list _) := w
    cases w' with
    | lst z r => exact (mask_some z).1

section
variable {X : Cx} {pins : List (Addr × Obj)} {σ : L2.St} {G Z : List Addr} {H : Hp} {n : Nat} {s : Shared}
/-- a table has grown by a new code object -/
theorem ok_grown [I : TabsC] {P c : Addr} {q : Str} {ps more : Array Value} {pos : Pos} (k : Ok G Z H n) (hP : H P = some (.tbl ps)) (hc : H c = none) (hq : ∀ p ∈ I.T, p.1 = P → p.2 = q) (em : more = #[rawInt pos.line, rawInt pos.col, .ref c]) :
    Ok G Z (upd (upd H P (.tbl (ps ++ more))) c (LamX.CodeO c q)) n ∧ Gr G Z H G Z (upd (upd H P (.tbl (ps ++ more))) c (LamX.CodeO c q)) := by
  have ne : P ≠ c := ne_of_none hP hc
  have atP : upd (upd H P (.tbl (ps ++ more))) c (LamX.CodeO c q) P = some (.tbl (ps ++ more)) := by rw [upd_ne ne, upd_same]
  have at_ : ∀ a o, a ≠ P → H a = some o → upd (upd H P (.tbl (ps ++ more))) c (LamX.CodeO c q) a = some o := fun a o h e => by
    rw [upd_ne (ne_of_none e hc), upd_ne h]; exact e
  have nP : ∀ a o, NT o → H a = some o → a ≠ P := fun a o h e z => by
    rw [z, hP] at e
    exact h ps (Option.some.inj e).symm
  have dom : ∀ a, H a ≠ none → upd (upd H P (.tbl (ps ++ more))) c (LamX.CodeO c q) a ≠ none := fun a h => by
    cases e : H a with
    | none => exact absurd e h
    | some o =>
      by_cases z : a = P
      · rw [z, atP]; simp
      · rw [at_ a o z e]; simp
  refine ⟨⟨k.sub, fun z hz => dom z (k.dom z hz), fun g hg => ?_, fun p hp => ?_, fun a qs e => ?_⟩, fun a o _ e => ?_, fun a o _ _ h e => at_ a o (nP a o h e) e, dom, [], rfl, rfl, by simp⟩
  · obtain ⟨x, m, d, e, r⟩ := k.gen g hg
    exact ⟨x, m, d, at_ g _ (nP g _ NT.lst e) e, r⟩
  · obtain ⟨qs, e, ht, ha⟩ := k.tab.at_ p hp
    have keep : ∀ d r, H d = some (LamX.CodeO d r) → upd (upd H P (.tbl (ps ++ more))) c (LamX.CodeO c q) d = some (LamX.CodeO d r) := fun d r e => at_ d _ (nP d _ (fun _ => LamX.codeO_ne _) e) e
    by_cases z : p.1 = P
    · rw [z, hP] at e
      cases e
      have el : (ps ++ more).toList = ps.toList ++ [rawInt pos.line, rawInt pos.col, .ref c] := by rw [em]; simp
      refine ⟨ps ++ more, by rw [z]; exact atP, by rw [el]; exact PySem.TriplesOk_snoc _ _ _ _ ht, fun pos' cv hcv => ?_⟩
      rw [el] at hcv
      rcases LamX.among_app _ ht hcv with y | y
      · obtain ⟨d, e1, e2⟩ := ha pos' cv y
        exact ⟨d, e1, keep d _ e2⟩
      · exact ⟨c, y, by rw [hq p hp z, upd_same]⟩
    · refine ⟨qs, at_ _ _ z e, ht, fun pos' cv hcv => ?_⟩
      obtain ⟨d, e1, e2⟩ := ha pos' cv hcv
      exact ⟨d, e1, keep d _ e2⟩
  · by_cases z : a = c
    · rw [z, upd_same] at e
      exact (LamX.codeO_ne _ (Option.some.inj e)).elim
    · rw [upd_ne z] at e
      by_cases z2 : a = P
      · exact k.tab.only P ps hP |> fun h => by rw [z2]; exact h
      · rw [upd_ne z2] at e
        exact k.tab.only a qs e
  · by_cases z : a = P
    · rw [z, hP] at e
      cases e
      exact .inr (.inr ⟨ps, _, rfl, by rw [z]; exact atP⟩)
    · exact .inl (at_ a o z e)
/-- a lambda is made -/
theorem lam_mk [I : TabsC] {params : Arguments} {body : Expr} {scope : Scope} {lpos : Pos} {a : Str} {E : Value → Shared → Prop} {Q : Value → Shared → Prop} (J : Inv X pins σ H s) (k : Ok G Z H n) (tb : TbAt X.base X.mg) (lo : LamOk X) (L : LamP X.env.scope scope a) (hdef : defaultsOf params X.env = ([], []))
    (h : ∀ (f c : Addr) (pm ctv : Value) (H1 : Hp) (s1 : Shared), Inv X pins σ H1 s1 → Gr G Z H G Z H1 → Ok G Z H1 n → s1.heap.get? f = some (PySem.W.kla_obj "<lambda>" (X.env.qual ++ "<lambda>") params body scope (cloFrom X.env.cells scope.names []) pm c ctv) →
      H1 c = some (LamX.CodeO c (X.env.qual ++ "<lambda>")) → FpOk X pins H1 f → Q (.ref f) s1) :
    wpAny (model X.prog X.w) X.A (eval (.Lambda params body scope lpos) X.env) Q E s := by
  obtain ⟨_, c0, P, hcode, hk, hm, hu⟩ := lo
  obtain ⟨bmb, gP⟩ := tb _ hm
  have CB := PySem.W.codeHd_of_K J.kIn hk
  obtain ⟨ps, hP, ht, ha⟩ := k.tab.at_ _ hm
  have oP : s.heap.get? P = some { cls := .none, data := .fields ps } := J.hok P _ hP
  refine PySem.W.kla_eval hdef ?_
  have caps := closure_ok (L.caps J)
  have ns := J.mod.glob.keeps J.bk
  cases hc : codeAmong lpos ps.toList with
  | some cv =>
    obtain ⟨c, rfl, e⟩ := ha lpos cv hc
    refine PySem.W.kla_makeFunctionHit (mg := X.mg) caps J.ok.glob ns hcode CB oP ht hc (bmb.keeps J.bk) fun ctv h' tk up sz => ?_
    refine h _ c _ ctv H _ (J.kept (t' := tk) fun b o e => Heap.get?_push_of_some _ (up b o e)) Gr.refl k (Heap.get?_push_size _ rfl) e (J.fpOk sz (J.hok.fresh sz))
  | none =>
    refine PySem.W.kla_makeFunction (mg := X.mg) caps J.ok.glob ns hcode CB oP ht hc gP (bmb.keeps J.bk) fun c ctv h' tk ex ge lt rec htb => ?_
    obtain ⟨c2, oc, vs, t, e2, ho, hd, hv⟩ := rec
    cases e2
    have sz : s.heap.objs.size ≤ h'.objs.size := Nat.le_trans ge (Nat.le_of_lt lt)
    have nc : H c = none := J.hok.fresh ge
    have J1 := LamX.inv_table (t' := tk) (q := X.env.qual ++ "<lambda>") (c := c) (more := #[rawInt lpos.line, rawInt lpos.col, .ref c]) (h' := h'.push (PySem.W.kla_obj "<lambda>" (X.env.qual ++ "<lambda>") params body scope (cloFrom X.env.cells scope.names []) ((X.mg "__name__").getD .none) c ctv)) J hP
      (fun b o nb e => Heap.get?_push_of_some _ (ex b o nb e)) (Heap.get?_push_of_some _ htb) ge ⟨oc, vs, t, Heap.get?_push_of_some _ ho, hd, hv⟩
    obtain ⟨k1, g1⟩ := ok_grown (pos := lpos) k hP nc hu rfl
    refine h h'.objs.size c _ ctv _ _ J1 g1 k1 (Heap.get?_push_size _ rfl) upd_same (J.fpOk sz ?_)
    have n1 : h'.objs.size ≠ c := Nat.ne_of_gt lt
    have n2 : h'.objs.size ≠ P := Nat.ne_of_gt (Nat.lt_of_lt_of_le (Heap.lt_size oP) sz)
    rw [upd_ne n1, upd_ne n2]
    exact J.hok.fresh sz
end
theorem bind1 {q y : Str} {ap : Pos} {bd : Expr} {scope : Scope} {cl : List (Str × Addr)} {pm cd ctv u : Value} :
    bindArgs (PySem.W.kla_fn "<lambda>" q ⟨[], [⟨y, none, ap⟩], none, [], [], none, []⟩ bd scope cl pm cd ctv) ⟨[u], []⟩ = (pure [(y, u)] : Sem (List (Str × Value))) := by
  have e : List.lookup y [(y, u)] = some u := by simp
  unfold bindArgs
  simp only [List.map_cons, List.map_nil, List.nil_append, List.zip_cons_cons, List.zip_nil_right, List.length_cons, List.length_nil]
  simp [e, seqItems?]
  rfl
def kbI : Kb → String
  | .sorted => "sorted" | .min => "min" | .max => "max"
theorem kb_boot (b : Kb) : bootBuiltins (kbN b) = some (.builtin (kbI b)) := by cases b <;> decide +kernel
theorem kb_dbg (b : Kb) : kbN b ≠ "__name__" ∧ (kbN b == ("__debug__" : Str)) = false := by cases b <;> decide +kernel
theorem ints_of : ∀ {ks : List PyData} {ns : List Int}, intsOf ks = some ns → ks = ns.map .int
  | [], ns, h => by cases h; rfl
  | .int i :: r, ns, h => by
    have h : (intsOf r).map (i :: ·) = some ns := h
    obtain ⟨ms, e, rfl⟩ := Option.map_eq_some_iff.mp h
    rw [List.map_cons, ← ints_of e]
  | .none :: r, ns, h => by cases h
  | .bool _ :: r, ns, h => by cases h
  | .str _ :: r, ns, h => by cases h
  | .list _ :: r, ns, h => by cases h
  | .tuple _ :: r, ns, h => by cases h
  | .dict _ :: r, ns, h => by cases h
/-- the lambda's own side -/
theorem fx_lam [TabsC] {Γ : TCx} {X : Cx} {A : Around} {s : Shared} {H : Hp} {scope : Scope} {f c : Addr} (fx : Fx Γ X true) (hA : A = X.A.in1 ∨ A = X.A.in1.in1) : Fx Γ (LamX.lamCx X A X.stack s H E00 scope f c) false := by
  have room : ∀ {k : Nat} {env : Env}, Room (k + 1) X.A → Room k (A.deeper env) := fun {k env} r => by
    rcases hA with rfl | rfl
    · exact ⟨r.hd, by have := r.dp; show X.A.depth + 1 + 3 * k + 5 < _; omega, by have := r.un; show X.A.units + 1 + 3 + 16 * k + 200 < _; omega⟩
    · exact ⟨r.hd, by have := r.dp; show X.A.depth + 1 + 3 * k + 5 < _; omega, by have := r.un; show X.A.units + 1 + 1 + 3 + 16 * k + 200 < _; omega⟩
  refine ⟨fx.nd, rfl, ?_, (room (fx.lam rfl).1).units, fx.tba, (fun h => nomatch h), fx.dg, fx.mono, fx.ar, fx.bl, fx.gc, fun g e => ?_, fun g pm n ks e => ?_⟩
  · have := fx.gd
    rcases hA with rfl | rfl <;> exact this
  · obtain ⟨b, fd, k, ps, F, e1, r, e2⟩ := fx.fn g e
    exact ⟨b, fd, k, ps, F, e1, room r, e2⟩
  · obtain ⟨b, fd, k, ps, F, e1, r, e2⟩ := fx.kw g pm n ks e
    exact ⟨b, fd, k, ps, F, e1, room r, e2⟩
/-- sorted, min, max by a lambda -/
theorem pe_key [TabsC] {Γ : TCx} {X : Cx} {b : Kb} {i : Nat} {a body : E} {e bd : Expr} {scope : Scope} {y : Str} {Xt : XE} {Ew : XS} {p pos ap lpos kp : Pos} (fx : Fx Γ X true) (hg : Gl X (kbN b)) (hm : X.mg (kbN b) = none) (ha : PE X e (rd Γ X.mg X.K Xt Ew a))
    (hs : starEach [e] X.env = (false, eval e X.env) :: starEach [] X.env) (hN : X.N[i]? = some y) (L : LamP X.env.scope scope y) (sb : sg body = true)
    (hb : ∀ (A : Around) (s : Shared) (H : Hp) (f c : Addr), (A = X.A.in1 ∨ A = X.A.in1.in1) → PE (LamX.lamCx X A X.stack s H E00 scope f c) bd (rd Γ X.mg X.K E0x E0s body)) :
    PE X (.Call (.Name (kbN b) p) [e] [⟨some "key", .Lambda ⟨[], [⟨y, none, ap⟩], none, [], [], none, []⟩ bd scope lpos, kp⟩] pos) (rd Γ X.mg X.K Xt Ew (.key b i a body)) := by
  refine ⟨fun pins s σ H Q I h => ?_⟩
  obtain ⟨G, Z, n, ρ, st, h⟩ := h
  unfold wpE at h
  obtain ⟨rm, _⟩ := fx.lam rfl
  have un := fx.un
  refine wpAny_Call_Name_kw (ld_blt I hg hm (kb_boot b) ?_ (kb_dbg b).1 (kb_dbg b).2)
  refine PyProof.Rows.callWith_kw (thn ((pa_cons ha pa_nil hs).run pos pins s σ H (fun vs H1 => ∃ (v : V) (x : R) (n1 : Nat) (G1 Z1 : List Addr), vs = [v] ∧ (∃ xs ks, x.t = .d (.list xs) ∧ (ks.length = xs.length ∧ xs.length ≤ sizeLine) ∧
      (∀ (j : Nat) (d k : PyData), xs[j]? = some d → ks[j]? = some k → wpE Γ.Φ Γ.C (fun _ _ => False) body (stA false (.d d) i (wipeE ρ [i])) n1 fun r n' => n' = n1 ∧ r.t = .d k) ∧ keyW b xs ks fun r => Kq X.K true G Z H Q r n1) ∧
      Gr G Z H G1 Z1 H1 ∧ Stt X.mg Γ.cn X.K Xt (Ew σ) G1 Z1 H1 n1 σ ρ ∧ RV X.K (sg a) H1 G1 Z1 v x.t) I ?_) fun us s1 h1 => ?_) (by rw [hs]; rfl) (by rw [hs]; rfl) rfl rfl
  · show rd Γ X.mg X.K Xt Ew a σ H _
    exact stepA fx.mono st h fun x n1 v H1 G1 Z1 hx g1 s1 w1 _ => ⟨v, x, n1, G1, Z1, rfl, hx, g1, s1, w1⟩
  obtain ⟨vs0, H1, I1, r1, v, x, n1, G1, Z1, rfl, ⟨xs, ks, ex, ⟨lk, lx⟩, turn, hk⟩, g1, st1, w1⟩ := h1
  rw [ex] at w1
  obtain ⟨l, vs, rfl, hl, ra, nl, _⟩ := rv_list st1.ok w1
  obtain ⟨u, rfl, ru⟩ := vals1 r1
  cases ru
  show wpAny _ _ (evalAll [do let v ← eval _ X.env; standAt pos; pure v]) _ _ s1
  refine wpAny_evalAll_cons (wpAny_bind (lam_mk I1 st1.ok fx.tba (fx.lam rfl) L rfl fun f c pm ctv H2 s2 I2 g2 k2 hf hc fo => wpAny_bind (wpAny_standAt (wpAny_pure (wpAny_evalAll_nil ?_)))))
  show wpAny _ _ (call (.builtin (kbI b)) [.ref l] [(Str.ofString "key", .ref f)]) _ _ s2
  have hl2 : H2 l = some (.lst vs) := g2.lst nl hl
  have lvs : vs.length = xs.length := ra.length
  generalize hfo : PySem.W.kla_obj "<lambda>" (X.env.qual ++ "<lambda>") ⟨[], [⟨y, none, ap⟩], none, [], [], none, []⟩ bd scope (cloFrom X.env.cells scope.names []) pm c ctv = fob at hf
  have I3 : Inv X (pins ++ [(f, fob)]) σ H2 s2 := I2.pins_of fun q hq => by
    rcases List.mem_append.mp hq with z | z
    · exact I2.pin q (List.mem_append_right _ z)
    · obtain rfl : q = (f, fob) := by simpa using z
      exact ⟨hf, fo.1, fo.2.1, fo.2.2.1, fun v z => by rw [← hfo] at z; exact nomatch z⟩
  have nc : c ∉ G1 := fun z => by
    obtain ⟨_, _, _, e, _⟩ := k2.gen c z
    rw [hc] at e
    cases e
  have li : i < σ.length := by
    rw [I.len]
    exact (List.getElem?_eq_some_iff.mp hN).1
  -- one call
  have one : ∀ (A : Around), (A = X.A.in1 ∨ A = X.A.in1.in1) → ∀ (j : Nat) (w : V) (d k : PyData) (u : Value) (s' : Shared) (H' : Hp) (pl : List (Addr × Obj)) (P : VK) (G' Z' : List Addr), Gr G1 Z1 H2 G' Z' H' → Ok G' Z' H' n1 → vs[j]? = some w → xs[j]? = some d → ks[j]? = some k → RelV w u → Inv X ((pins ++ [(f, fob)]) ++ pl) σ H' s' →
      (∀ kv H3 G3 Z3, Gr G' Z' H' G3 Z3 H3 → Ok G3 Z3 H3 n1 → Rp X.K (mask H3 Z3) kv k → P kv H3) → wpAny (model X.prog X.w) A (call (.ref f) [u]) (CE X.stack X.prog X.w H' s' P) (fun _ _ => False) s' := by
    intro A hA j w d k u s' H' pl P G' Z' g' k' hw hd hk' rw' I4 hP
    have pf := I4.pin (f, fob) (by simp)
    have hc' : H' c = some (LamX.CodeO c (X.env.qual ++ "<lambda>")) := (g'.ext c _ nc hc).eq fun z => by unfold LamX.CodeO at z; exact z
    have gA : Gr G1 Z1 H1 G' Z' H' := g2.trans g'
    have env := ((st1.env.mono gA st1.ok).wipe [i]).set (i := i) (v := w) (t := .d d) (by rw [wipeE_length, wipe_length]; exact st1.len) (show RpT X.K H' G' Z' w (.d d) from by
      obtain ⟨w2, e2, r2⟩ := ra.get hd
      rw [hw] at e2
      cases e2
      exact Rp.le (gA.le st1.ok.sub) r2)
    refine lam_ce (A := A) (i := i) (σ' := (wipe σ [i]).set i (some w)) (q := X.env.qual ++ "<lambda>") (pm := pm) (ctv := ctv) (params := ⟨[], [⟨y, none, ap⟩], none, [], [], none, []⟩) (body := bd) (tb := rd Γ X.mg X.K E0x E0s body) I4 L fx.nd ?_ ?_ ?_ hN (by rw [hfo]; exact pf.1) rfl hc' bind1 rw' ?_ (fun jj w' nj e => ?_) ?_ (hb A s' H' f c hA) ?_
    · rcases hA with rfl | rfl <;> exact I4.ok.frames
    · rcases hA with rfl | rfl <;> exact rm.hd
    · rcases hA with rfl | rfl <;> exact rm.depth
    · exact List.getElem?_set_self (by rw [wipe_length]; exact li)
    · rw [List.getElem?_set_ne (Ne.symm nj), wipe_out (by simpa using nj)] at e
      exact e
    · rw [List.length_set, wipe_length]
    · refine ⟨G', Z', n1, _, ⟨k', env, wsh0, by unfold stA; rw [List.length_set, List.length_set, wipeE_length, wipe_length]; exact st1.len⟩, wpE_mono fx.mono body (turn j d k hd hk') fun r n' hr => ?_⟩
      obtain ⟨rfl, er⟩ := hr
      intro kv H3 G3 Z3 g3 o3 w3 _
      rw [sb, er] at w3
      exact hP kv H3 G3 Z3 g3 o3 w3
  cases b with
  | sorted =>
    obtain ⟨⟨al, so, dp⟩, hQ⟩ := hk
    obtain ⟨its, rv, q2, hz⟩ := I3.list (.inl (.inl hl2))
    refine thn (sorted_lam (pins := pins ++ [(f, fob)]) (Q := Q) I3 q2.isList rv (by rw [← rv.length]; exact hz) (fun j kvs H' => ∃ G' Z', Gr G1 Z1 H2 G' Z' H' ∧ Ok G' Z' H' n1 ∧ RpA X.K (mask H' Z') kvs (ks.take j)) ⟨G1, Z1, Gr.refl, k2, .nil⟩
      (fun j u w kvs s' H' pl hu hw rwu I4 hW => ?_) fun kvs H' lkv hW => ?_) fun u s' h' => ?_
    · obtain ⟨G', Z', g', k', rk⟩ := hW
      have lj : j < vs.length := (List.getElem?_eq_some_iff.mp hw).1
      have hd : xs[j]? = some (xs[j]'(by omega)) := List.getElem?_eq_getElem (by omega)
      have hk' : ks[j]? = some (ks[j]'(by omega)) := List.getElem?_eq_getElem (by omega)
      refine thn (one X.A.in1.in1 (.inr rfl) j w _ _ u s' H' pl (fun kv H3 => ∃ G' Z', Gr G1 Z1 H2 G' Z' H3 ∧ Ok G' Z' H3 n1 ∧ RpA X.K (mask H3 Z') (kvs ++ [kv]) (ks.take (j + 1))) G' Z' g' k' hw hd hk' rwu I4 fun kv H3 G3 Z3 g3 o3 r3 => ?_) fun k s3 hk => I4.after hk
      refine ⟨G3, Z3, g'.trans g3, o3, ?_⟩
      rw [List.take_add_one, hk']
      exact (RpA.le (g3.le k'.sub) rk).append (.one r3)
    · obtain ⟨G', Z', g', k', rk⟩ := hW
      rw [List.take_of_length_le (by omega)] at rk
      exact ⟨ks, RpA.le mask_le rk, al, so, fun d hd => by have := dp d hd; omega, fun D hD => Kq.lst (Kq.lift (g1.trans (g2.trans g')) hQ) k' (rpa_sort (RpA.le ((g2.trans g').le st1.ok.sub) ra)) hD⟩
    · obtain ⟨v', H', I', r, q⟩ := h'
      exact ⟨v', H', I'.unpinned, r, q⟩
  | min =>
    obtain ⟨ns, m, en, em, hQ⟩ := hk
    obtain rfl := ints_of en
    have h0 : 0 < vs.length := by
      have := (List.getElem?_eq_some_iff.mp em).1
      omega
    refine thn (min_lam (pins := pins ++ [(f, fob)]) (ns := ns) (J := fun H' => ∃ G' Z', Gr G1 Z1 H2 G' Z' H' ∧ Ok G' Z' H' n1) (Q := Q) I3 rm.hd (by rw [List.length_map] at lk; omega) h0 ⟨G1, Z1, Gr.refl, k2⟩ (fun H' hJ => by
        obtain ⟨G', Z', g', _⟩ := hJ
        exact g'.lst nl hl2) (fun j w u k s' H' hw hn rwu I4 hJ => ?_) fun x H' hx hJ => ?_) fun u s' h' => ?_
    · obtain ⟨G', Z', g', k'⟩ := hJ
      have lj : j < vs.length := (List.getElem?_eq_some_iff.mp hw).1
      have hd : xs[j]? = some (xs[j]'(by omega)) := List.getElem?_eq_getElem (by omega)
      refine one X.A.in1 (.inl rfl) j w _ (.int k) u s' H' [] _ G' Z' g' k' hw hd (by rw [List.getElem?_map, hn]; rfl) rwu (by rw [List.append_nil]; exact I4) fun kv H3 G3 Z3 g3 o3 r3 => ?_
      cases r3
      exact ⟨rfl, G3, Z3, g'.trans g3, o3⟩
    · obtain ⟨G', Z', g', k'⟩ := hJ
      obtain ⟨w, e2, r2⟩ := ra.get em
      rw [hx] at e2
      cases e2
      exact Kq.old (Kq.lift (g1.trans (g2.trans g')) hQ) k' (show RpT X.K H' G' Z' x (.d m) from Rp.le ((g2.trans g').le st1.ok.sub) r2)
    · obtain ⟨v', H', I', r, q⟩ := h'
      exact ⟨v', H', I'.unpinned, r, q⟩
  | max =>
    obtain ⟨ns, m, en, em, hQ⟩ := hk
    obtain rfl := ints_of en
    have h0 : 0 < vs.length := by
      have := (List.getElem?_eq_some_iff.mp em).1
      omega
    refine thn (max_lam (pins := pins ++ [(f, fob)]) (ns := ns) (J := fun H' => ∃ G' Z', Gr G1 Z1 H2 G' Z' H' ∧ Ok G' Z' H' n1) (Q := Q) I3 rm.hd (by rw [List.length_map] at lk; omega) h0 ⟨G1, Z1, Gr.refl, k2⟩ (fun H' hJ => by
        obtain ⟨G', Z', g', _⟩ := hJ
        exact g'.lst nl hl2) (fun j w u k s' H' hw hn rwu I4 hJ => ?_) fun x H' hx hJ => ?_) fun u s' h' => ?_
    · obtain ⟨G', Z', g', k'⟩ := hJ
      have lj : j < vs.length := (List.getElem?_eq_some_iff.mp hw).1
      have hd : xs[j]? = some (xs[j]'(by omega)) := List.getElem?_eq_getElem (by omega)
      refine one X.A.in1 (.inl rfl) j w _ (.int k) u s' H' [] _ G' Z' g' k' hw hd (by rw [List.getElem?_map, hn]; rfl) rwu (by rw [List.append_nil]; exact I4) fun kv H3 G3 Z3 g3 o3 r3 => ?_
      cases r3
      exact ⟨rfl, G3, Z3, g'.trans g3, o3⟩
    · obtain ⟨G', Z', g', k'⟩ := hJ
      obtain ⟨w, e2, r2⟩ := ra.get em
      rw [hx] at e2
      cases e2
      exact Kq.old (Kq.lift (g1.trans (g2.trans g')) hQ) k' (show RpT X.K H' G' Z' x (.d m) from Rp.le ((g2.trans g').le st1.ok.sub) r2)
    · obtain ⟨v', H', I', r, q⟩ := h'
      exact ⟨v', H', I'.unpinned, r, q⟩
end TL

set_option Elab.async false
set_option linter.all false
set_option maxRecDepth 100000
set_option maxHeartbeats 2000000
/-! TLe: dict(zip(a, b)) of two lists. -/
namespace TL
open PySem PySem.Spec PyProof.Rows L2

section
variable {X : Cx}
/-- keys by place -/
theorem kvs_at (X : Cx) : ∀ {xs ys : List V} {us ws : List Value} {kvs : List (Key × V)}, Vals xs us → Vals ys ws → (List.zipWith (fun x y => (x, y)) xs ys) = kvs.map (fun kv => (kV kv.1, kv.2)) →
    ∃ prs : List (Key × Value), KV kvs prs ∧ prs.length = min us.length ws.length ∧ ∀ (i : Nat) (k v : Value), us[i]? = some k → ws[i]? = some v → ∃ q, prs[i]? = some (q, v) ∧ (mixKind X.prog X.w).is q k = true
  | [], _, _, _, kvs, .nil, _, e => by
    cases kvs with
    | nil => exact ⟨[], .nil, by simp, fun i k v h => by simp at h⟩
    | cons _ _ => simp at e
  | _ :: _, [], _, _, kvs, _, .nil, e => by
    cases kvs with
    | nil => exact ⟨[], .nil, by simp, fun i k v _ h => by simp at h⟩
    | cons _ _ => simp at e
  | _ :: _, _ :: _, _, _, kvs, .cons a b, .cons c d, e => by
    cases kvs with
    | nil => simp at e
    | cons kv kvs =>
      simp only [List.zipWith_cons_cons, List.map_cons, List.cons.injEq, Prod.mk.injEq] at e
      obtain ⟨⟨rfl, rfl⟩, e⟩ := e
      obtain ⟨prs, r, l, h⟩ := kvs_at X b d e
      refine ⟨(kv.1, _) :: prs, .cons ⟨rfl, c⟩ r, by simp [l, Nat.succ_min_succ], fun i k v h1 h2 => ?_⟩
      cases i with
      | zero =>
        simp at h1 h2
        subst h1 h2
        exact ⟨kv.1, rfl, kV_is (P := X.prog) (w := X.w) a⟩
      | succ i =>
        obtain ⟨q, e1, e2⟩ := h i k v (by simpa using h1) (by simpa using h2)
        exact ⟨q, by simpa using e1, e2⟩
theorem zip_rp {K : PySem.W.Frag} {H : Hp} : ∀ {vs us : List V} {xs ys : List PyData}, RpA K H vs xs → RpA K H us ys → (∀ k ∈ xs, keyOk k) →
    ∃ kvs : List (Key × V), List.zipWith (fun x y => (x, y)) vs us = kvs.map (fun kv => (kV kv.1, kv.2)) ∧ RpK K H kvs (xs.zip ys)
  | _, _, _, _, .nil, _, _ => ⟨[], rfl, .nil⟩
  | _, _, _, _, .cons a b, .nil, _ => ⟨[], rfl, .nil⟩
  | _, _, d :: ds, e :: es, .cons a b, .cons c f, h => by
    obtain ⟨kvs, e1, r⟩ := zip_rp b f fun k hk => h k (List.mem_cons_of_mem _ hk)
    obtain ⟨k, rfl⟩ := keyOk_key (h d (List.mem_cons_self ..))
    cases k with
    | inl z => cases a; exact ⟨(.inl z, _) :: kvs, by rw [List.zipWith_cons_cons, List.map_cons, e1]; rfl, .cons c r⟩
    | inr z => cases a; exact ⟨(.inr z, _) :: kvs, by rw [List.zipWith_cons_cons, List.map_cons, e1]; rfl, .cons c r⟩
theorem rpk_merge {K : PySem.W.Frag} {H : Hp} : ∀ {kvs acc : List (Key × V)} {ds das : List (PyData × PyData)}, RpK K H kvs ds → RpK K H acc das → RpK K H (mergeK acc kvs) (ds.foldl (fun acc p => dPut acc p.1 p.2) das)
  | _, _, _, _, .nil, h => h
  | _, _, _, _, .cons (k := k) (v := v) a b, h => by
    have := rpk_merge b (rpk_put (k := k) a h)
    exact this
/-- dict(zip(e, e2)) -/
theorem pe_dzip {e e2 : Expr} {ta : TA} {p p2 pos pos2 : Pos} (hcalm : X.calm = true) (hg : Gl X "dict") (hm : X.mg "dict" = none) (hg2 : Gl X "zip") (hm2 : X.mg "zip" = none) (ha : PA X [e, e2] ta)
    (hs : starEach [e, e2] X.env = (false, eval e X.env) :: starEach [e2] X.env) (hpl : (backTo pos2 (starEach [e2] X.env)).any (·.1) = false) :
    PE X (.Call (.Name "dict" p) [.Call (.Name "zip" p2) [e, e2] [] pos2] [] pos) (fun σ H Q => ta σ H fun vs H1 => ∃ a b xs ys kvs, vs = [.ref a, .ref b] ∧ SqL X.K H1 a xs ∧ SqL X.K H1 b ys ∧
      (List.zipWith (fun x y => (x, y)) xs ys) = kvs.map (fun kv => (kV kv.1, kv.2)) ∧ ∀ q, H1 q = none → Q (.ref q) (upd H1 q (.dK (mergeK [] kvs)))) := by
  refine ⟨fun pins s σ H Q I h => ?_⟩
  refine Call_ (ld_blt I hg hm (show bootBuiltins "dict" = some (.type "dict") by decide +kernel) (PyProof.Rows.callWith_type1 ?_))
  show wpAny _ _ (spliced ((false, eval (.Call (.Name "zip" p2) [e, e2] [] pos2) X.env) :: backTo pos [])) _ _ s
  refine Calls.spliced_cons ?_
  refine Call_ (ld_blt I hg2 hm2 PyProof.Rows.boot_zip (PyProof.Rows.callWith_type1 (thn (ha.run pos2 pins s σ H _ I h) fun us s1 ⟨vs, H1, I1, r1, q1⟩ => ?_) hs hpl))
  obtain ⟨a, b, xs, ys, kvs, ex, hqx, hqy, ek, q⟩ := q1
  subst ex
  obtain ⟨ua, ub, eu, ra, rb⟩ := vals2 r1
  subst eu
  cases ra
  cases rb
  obtain ⟨its, rv, p1, hz1⟩ := I1.list hqx
  obtain ⟨its2, rv2, p3, hz2⟩ := I1.list hqy
  refine call_zip_2 p1.isList p3.isList fun h' hz hTI hTO h1 h2 hsz hk => ?_
  refine Calls.spliced_nil ?_
  obtain ⟨prs, rel, lp, hp⟩ := kvs_at X rv rv2 ek
  have D := PySem.W.ktu_apart s1.heap.objs.size a b p1.lt p3.lt
  have P := PairArg.zip (prog := X.prog) (w := X.w) (s1.heap.objs.size + 4) (s1.heap.objs.size + 2) (s1.heap.objs.size + 3) s1.heap.objs.size (s1.heap.objs.size + 1) a b D its.toArray its2.toArray
  have l1 := rv.length
  have I2 : Inv X pins σ H1 { s1 with heap := h' } := I1.kept (t' := s1.toks) hk
  refine PySem.call_dict_pairs (knd := mixKind X.prog X.w) (kvs := prs) P (I1.ok.hd hcalm) ⟨hz, hTI, ⟨_, _, hTO⟩, h1, h2, p1.isList.at fun o e => hk _ o e, p3.isList.at fun o e => hk _ o e⟩
    ⟨by rw [lp]; simp, fun i k v hr => hp i k v (by simpa using hr.1) (by simpa using hr.2)⟩ (Nat.le_trans (Nat.min_le_left _ _) (by simpa [← l1] using hz1)) fun h2' tk hd' hk' => ?_
  have hm : ((h'.objs.size) == sysModules) = false := beq_eq_false_iff_ne.mpr (Nat.ne_of_gt I2.big)
  have hlen : (mergeK [] kvs).length ≤ sizeLine := by
    refine Nat.le_trans (length_mergeK kvs []) ?_
    rw [List.length_nil, Nat.zero_add, rel.length, lp]
    exact Nat.le_trans (Nat.min_le_left _ _) (by simpa [← l1] using hz1)
  have kp : ∀ b o, s1.heap.get? b = some o → h2'.get? b = some o := fun b o z => by
    have lt := Heap.lt_size z
    refine hk' b o ?_ (hk _ _ z)
    simp only [List.mem_cons, List.not_mem_nil, or_false, not_or]
    refine ⟨?_, ?_, ?_, ?_⟩ <;> (intro w; rw [w] at lt; first | exact absurd lt (Nat.lt_irrefl _) | exact absurd lt (Nat.not_lt_of_le (Nat.le_add_right _ _)))
  have ge : s1.heap.objs.size ≤ h'.objs.size := by rw [hsz]; exact Nat.le_add_right _ _
  exact ⟨.ref h'.objs.size, upd H1 h'.objs.size (.dK (mergeK [] kvs)), I1.laid (t' := tk) kp ge (show ObjOk X.prog X.w _ _ _ (.dK (mergeK [] kvs)) from ⟨hlen, hm, merged [] prs, KV.merge rel .nil, hd'⟩), rfl, q _ (I1.hok.fresh ge)⟩
end
end TL

set_option Elab.async false
set_option linter.all false
set_option maxRecDepth 100000
set_option maxHeartbeats 2000000
/-! TL12: the theorem about expressions. -/
namespace TL
open PySem PySem.Spec PyProof.Rows L2

def bV : Bool → V → Option (Option Int)
  | true, _ => some none
  | false, .int i => some (some i)
  | _, _ => none
theorem bV_of {b : Bool} {K : PySem.W.Frag} {H : Hp} {G Z : List Addr} {v : V} {t : T} {i : Option Int} (w : RW K H G Z v t) (h : bnd b t = some i) : bV b v = some i := by
  cases b with
  | true => exact h
  | false =>
    cases t with
    | gen => cases h
    | scr _ => cases h
    | d x =>
      cases x <;> cases h
      obtain rfl := w.int
      rfl
theorem rcv_join {t : T} (h : rcv .join t) : ∃ z, t = .d (.str z) := by
  cases t with
  | gen => exact h.elim
  | scr _ => exact h.elim
  | d x => cases x <;> first | exact ⟨_, rfl⟩ | exact h.elim
theorem rcv_bitlen {t : T} (h : rcv .bitlen t) : ∃ z, t = .d (.int z) := by
  cases t with
  | gen => exact h.elim
  | scr _ => exact h.elim
  | d x => cases x <;> first | exact ⟨_, rfl⟩ | exact h.elim
theorem mtW_join {z : Str} {t : T} {P : R → Prop} (h : mtW .join (.d (.str z)) [t] P) : ∃ xs ys, t = .d (.list xs) ∧ strsOf xs = some ys ∧ (ys.map (·.length)).sum + ys.length * z.length ≤ 16777216 ∧ P ⟨.d (.str (Txt.join z ys)), false⟩ := by
  cases t with
  | gen => exact h.elim
  | scr _ => exact h.elim
  | d x =>
    cases x <;> first | exact h.elim | skip
    obtain ⟨ys, a, b, c⟩ := h
    exact ⟨_, ys, rfl, a, b, c⟩
theorem merge_nd : ∀ (kvs acc : List (Key × V)), ((acc ++ kvs).map (·.1)).Nodup → mergeK acc kvs = acc ++ kvs
  | [], acc, _ => by show acc = _; rw [List.append_nil]
  | kv :: kvs, acc, h => by
    have e : putK acc kv.1 kv.2 = acc ++ [kv] := by
      unfold putK
      rw [if_neg]
      intro z
      rw [List.any_eq_true] at z
      obtain ⟨q, hq, e⟩ := z
      have e := of_decide_eq_true e
      rw [List.map_append, List.nodup_append] at h
      exact h.2.2 q.1 (List.mem_map_of_mem hq) kv.1 (by simp) e
    show mergeK (putK acc kv.1 kv.2) kvs = _
    rw [e, merge_nd kvs (acc ++ [kv]) (by simpa using h)]
    simp
theorem dctB_len : ∀ {kvs : List (Key × PyData)} {ks : List (Option Expr)} {vs : List Expr}, dctB kvs ks vs = true → ks.length = kvs.length
  | [], [], [], _ => rfl
  | [], [], _ :: _, h => by cases h
  | [], _ :: _, _, h => by cases h
  | (k, x) :: r, [], _, h => by cases h
  | (k, x) :: r, none :: ks, vs, h => by cases h
  | (k, x) :: r, some e :: ks, [], h => by cases e <;> cases h
  | (k, x) :: r, some e :: ks, v :: vs, h => by
    cases e <;> first | cases h | skip
    cases v <;> first | cases h | skip
    unfold dctB at h
    simp only [Bool.and_eq_true] at h
    rw [List.length_cons, List.length_cons, dctB_len h.2]
theorem pe_cst {X : Cx} {x : PyData} {k : Const} {j : Nat} {q : Pos} (h : cstB x k = true) : PE X (.Constant k j q) (tC (cV x)) := by
  cases x <;> cases k <;> first | cases h | skip
  · exact pe_non
  · have e := eq_of_beq (show (_ == _) = true from h)
    subst e
    exact pe_bl
  · have e := eq_of_beq (show (_ == _) = true from h)
    subst e
    exact pe_int
  · have e := of_decide_eq_true (show decide _ = true from h)
    subst e
    exact pe_str
theorem cV_key (k : Key) : cV (keyD k) = kV k := by cases k <;> rfl
theorem dct_pps {X : Cx} {pos : Pos} : ∀ (kvs : List (Key × PyData)) {ks : List (Option Expr)} {vs : List Expr}, dctB kvs ks vs = true →
    PPs X pos ks vs (kvs.map fun kv => (tC (kV kv.1), tC (cV kv.2))) ∧ ks.all (·.isSome) = true ∧ ks.length = vs.length ∧
      ∀ (σ : L2.St) (H : Hp) (Q : List (V × V) → Hp → Prop), Q (kvs.map fun kv => (kV kv.1, cV kv.2)) H → tPairs (kvs.map fun kv => (tC (kV kv.1), tC (cV kv.2))) σ H Q
  | [], [], [], _ => ⟨pps_nil, rfl, rfl, fun _ _ _ h => h⟩
  | [], [], _ :: _, h => by cases h
  | [], _ :: _, _, h => by cases h
  | (k, x) :: r, [], _, h => by cases h
  | (k, x) :: r, none :: ks, vs, h => by cases h
  | (k, x) :: r, some e :: ks, [], h => by cases e <;> cases h
  | (k, x) :: r, some e :: ks, v :: vs, h => by
    cases e <;> first | cases h | skip
    cases v <;> first | cases h | skip
    unfold dctB at h
    simp only [Bool.and_eq_true] at h
    obtain ⟨⟨h1, h2⟩, h3⟩ := h
    obtain ⟨p1, p2, p3, p4⟩ := dct_pps (X := X) (pos := pos) r h3
    refine ⟨pps_cons (by rw [← cV_key]; exact pe_cst h1) (pe_cst h2) p1, by rw [List.all_cons, p2]; rfl, by rw [List.length_cons, List.length_cons, p3], fun σ H Q h => ?_⟩
    exact p4 σ H _ h
def plainT : Expr → Bool
  | .UnaryOp .Not _ _ => false
  | .BoolOp _ _ _ => false
  | .IfExp _ _ _ _ => false
  | .Compare _ _ _ _ => false
  | _ => true
theorem plain_true {e : Expr} {env : Env} (h : plainT e = true) : ∀ whole, isTrue e env whole = (do let v ← whole; standAt e.pos; holding [v] (truthy v)) := by
  intro whole
  cases e <;> first | rfl | cases h | skip
  rename_i op _ _
  cases op <;> first | rfl | cases h
section
variable {X : Cx} {a b c : Expr} {pos : Pos}
def tIfT (t ta tb : TT) : TT := fun σ H Q => t σ H fun c H1 => if c = true then ta σ H1 Q else tb σ H1 Q
theorem pt_ife {tA ta tb : TT} (hc : PT X c tA) (ha : PT X a ta) (hb : PT X b tb) : PT X (.IfExp c a b pos) (tIfT tA ta tb) := by
  refine ⟨fun pins s σ H Q I h => ?_⟩
  show wpAny _ _ (do
    if ← isTrue c X.env (eval c X.env) then isTrue a X.env (eval a X.env) else isTrue b X.env (eval b X.env)) _ _ s
  refine wpAny_bind (thn (hc.run pins s σ H _ I h) fun d s1 ⟨H1, I1, q1⟩ => ?_)
  cases d with
  | true => exact ha.run pins s1 σ H1 Q I1 q1
  | false => exact hb.run pins s1 σ H1 Q I1 q1
theorem pw_of {op : BoolOp} {vs : List Expr} {t : TT} (h : PT X (.BoolOp op vs pos) t) : PW X (.BoolOp op vs pos) t :=
  ⟨fun _ pins s σ H Q I q => h.run pins s σ H Q I q⟩
theorem pw_and2 {y : Expr} {r : List Expr} {t : TT} (h : PT X (match r with | [] => y | _ => .BoolOp .And (y :: r) pos) t) : PW X (.BoolOp .And (y :: r) pos) t := by
  cases r with
  | nil => exact pw_and1 h
  | cons z r => exact pw_of h
theorem pw_or2 {y : Expr} {r : List Expr} {t : TT} (h : PT X (match r with | [] => y | _ => .BoolOp .Or (y :: r) pos) t) : PW X (.BoolOp .Or (y :: r) pos) t := by
  cases r with
  | nil => exact pw_or1 h
  | cons z r => exact pw_of h
end
section
variable {Γ : TCx}
/-- from truth: a test's wish -/
theorem tru_step [TabsC] {K : PySem.W.Frag} {H1 : Hp} {G1 Z1 : List Addr} {n1 : Nat} {v : V} {t : T} {P : Bool → Prop} (o : Ok G1 Z1 H1 n1) (w : RW K H1 G1 Z1 v t) (h : truW t P) : ∃ k, TruV K v H1 k ∧ P k := by
  cases t with
  | gen => exact h.elim
  | scr _ => exact h.elim
  | d x =>
    refine ⟨truD x, tru_of (w.data o) h.1 (fun kvs e => ?_), h.2⟩
    subst e
    exact h.1
theorem src_rng1 {t : T} {P : List PyData → Prop} (h : srcW .rng1 [t] P) : ∃ j, t = .d (.int j) ∧ -(2 ^ 62) ≤ j ∧ j < 2 ^ 62 ∧ P ((List.range j.toNat).map fun (m : Nat) => .int m) := by
  cases t with
  | gen => exact h.elim
  | scr _ => exact h.elim
  | d x => cases x <;> first | exact ⟨_, rfl, h⟩ | exact h.elim
theorem src_rng2 {t u : T} {P : List PyData → Prop} (h : srcW .rng2 [t, u] P) : ∃ i j, t = .d (.int i) ∧ u = .d (.int j) ∧ (-(2 ^ 62) ≤ i ∧ i < 2 ^ 62 ∧ -(2 ^ 62) ≤ j ∧ j < 2 ^ 62) ∧ P ((List.range (j - i).toNat).map fun (m : Nat) => .int (i + m)) := by
  cases t with
  | gen => exact h.elim
  | scr _ => exact h.elim
  | d x => cases u with
    | gen => cases x <;> exact h.elim
    | scr _ => cases x <;> exact h.elim
    | d y => cases x <;> cases y <;> first | exact ⟨_, _, rfl, rfl, h⟩ | exact h.elim
theorem src_zip {t u : T} {P : List PyData → Prop} (h : srcW .zip [t, u] P) : ∃ xs ys, ((t = .d (.list xs) ∧ u = .d (.list ys)) ∨ (t = .d (.tuple xs) ∧ u = .d (.tuple ys))) ∧ P (List.zipWith (fun x y => .tuple [x, y]) xs ys) := by
  cases t with
  | gen => exact h.elim
  | scr _ => exact h.elim
  | d x => cases u with
    | gen => cases x <;> exact h.elim
    | scr _ => cases x <;> exact h.elim
    | d y => cases x <;> cases y <;> first | exact ⟨_, _, .inl ⟨rfl, rfl⟩, h⟩ | exact ⟨_, _, .inr ⟨rfl, rfl⟩, h⟩ | exact h.elim
theorem rv_tup {b : Bool} {K : PySem.W.Frag} {H : Hp} {G Z : List Addr} {v : V} {xs : List PyData} (w : RV K b H G Z v (.d (.tuple xs))) : ∃ p vs, v = .ref p ∧ SqT K (mask H Z) p vs ∧ RpA K (mask H Z) vs xs := by
  rcases w.weak with z | z
  · have y : Rp K (mask H Z) v (.tuple xs) := z
    cases y with
    | tup q r => exact ⟨_, _, rfl, q, r⟩
  · exact z.elim
/-- a test by its value -/
theorem plain_pt [TabsC] {X : Cx} {Xt : XE} {Ew : XS} {e : E} {pe : Expr} (M : MonoPh Γ.Φ) (hp : plainT pe = true) (h : PE X pe (rd Γ X.mg X.K Xt Ew e)) : PT X pe (rdT Γ X.mg X.K Xt Ew e) := by
  refine PT.imp (pt_truth h (plain_true hp)) ?_
  rintro σ H Q ⟨G, Z, n, ρ, st, h⟩
  show rd Γ X.mg X.K Xt Ew e σ H _
  refine stepA M st h fun x n1 v H1 G1 Z1 h g1 s1 w1 _ => ?_
  obtain ⟨k, tk, h⟩ := tru_step s1.ok w1.weak h
  exact ⟨k, tk, h H1 G1 Z1 g1 s1.ok⟩
theorem truW_get {t : T} {P : Bool → Prop} (h : truW t P) : ∃ x, t = .d x ∧ fitD x ∧ P (truD x) := by
  cases t with
  | gen => exact h.elim
  | scr _ => exact h.elim
  | d x => exact ⟨x, rfl, h.1, h.2⟩
mutual
theorem sndE [TabsC] : ∀ (e : E) {X : Cx} {lb : Bool} {sc : Scope} {pe : Expr} (Xt : XE) (Ew : XS), Fx Γ X lb → X.env.scope = sc → (∀ σ, PassesAt (L2.CX X.prog X.w) X σ (Ew σ)) → chkE Γ X.N lb sc e pe = true → PE X pe (rd Γ X.mg X.K Xt Ew e)
  | .c x, X, lb, sc, pe, Xt, Ew, fx, hsc, hp, h => by
    unfold chkE at h
    cases pe <;> first | cases h | skip
    rename_i k _ _
    have h : cstB x k = true := h
    have key : ∀ (v : V) {j : Nat} {q : Pos}, Rp X.K (fun _ => none) v x → PE X (.Constant k j q) (tC v) → PE X (.Constant k j q) (rd Γ X.mg X.K Xt Ew (.c x)) := fun v _ _ r p => PE.imp p fun σ H Q hh => by
      obtain ⟨G, Z, n, ρ, st, h⟩ := hh
      unfold wpE at h
      exact Kq.same h st.ok (Rp.le (Le.of fun _ _ e => by cases e) r)
    cases x <;> cases k <;> first | cases h | skip
    · exact key _ .non pe_non
    · have e := eq_of_beq (show (_ == _) = true from h)
      subst e
      exact key _ (.bl _) pe_bl
    · have e := eq_of_beq (show (_ == _) = true from h)
      subst e
      exact key _ (.int _) pe_int
    · have e := of_decide_eq_true (show decide _ = true from h)
      subst e
      exact key _ (.str _) pe_str
  | .v i, X, lb, sc, pe, Xt, Ew, fx, hsc, hp, h => by
    unfold chkE at h
    cases pe <;> first | cases h | skip
    simp only [Bool.and_eq_true, decide_eq_true_eq] at h
    refine PE.imp (pe_var h.1.1 (vis_of hsc h.1.2) (dbg_of h.2).1 (dbg_of h.2).2) ?_
    rintro σ H Q ⟨G, Z, n, ρ, st, h⟩
    unfold wpE at h
    obtain ⟨t, e, h⟩ := h
    obtain ⟨v, e1, e2, _⟩ := st.env i false t e
    exact ⟨v, e1, Kq.same h st.ok (e2 rfl)⟩
  | .w i, X, lb, sc, pe, Xt, Ew, fx, hsc, hp, h => by
    unfold chkE at h
    cases pe <;> first | cases h | skip
    simp only [Bool.and_eq_true, decide_eq_true_eq] at h
    refine PE.imp (pe_var h.1.1 (vis_of hsc h.1.2) (dbg_of h.2).1 (dbg_of h.2).2) ?_
    rintro σ H Q ⟨G, Z, n, ρ, st, h⟩
    unfold wpE at h
    obtain ⟨b, t, e, h⟩ := h
    obtain ⟨v, e1, e2, e3⟩ := st.env i b t e
    refine ⟨v, e1, Kq.same (s := false) h st.ok ?_⟩
    cases b with
    | false => exact .inl (e2 rfl)
    | true => exact .inr (e3 rfl)
  | .g k, X, lb, sc, pe, Xt, Ew, fx, hsc, hp, h => by
    unfold chkE at h
    cases pe <;> first | cases h | skip
    simp only [Bool.and_eq_true, decide_eq_true_eq] at h
    obtain ⟨⟨⟨h1, h2⟩, h3⟩, h4⟩ := h
    obtain ⟨u, v, m, r, a⟩ := fx.gc k h1
    refine PE.imp (pe_glob (gl_of hsc h3) (h2 ▸ m) r (dbg_of h4).1) ?_
    rintro σ H Q ⟨G, Z, n, ρ, st, h⟩
    unfold wpE at h
    exact Kq.same h st.ok (a _)
  | .bin o a b, X, lb, sc, pe, Xt, Ew, fx, hsc, hp, h => by
    unfold chkE at h
    cases pe <;> first | cases h | skip
    simp only [Bool.and_eq_true] at h
    obtain rfl := bopB_eq h.1.1
    refine PE.imp (pe_op (bin_ok o) (sndE a Xt Ew fx hsc hp h.1.2) (sndE b Xt Ew fx hsc hp h.2)) ?_
    rintro σ H Q ⟨G, Z, n, ρ, st, h⟩
    unfold wpE at h
    show rd Γ X.mg X.K Xt Ew a σ H _
    refine stepA fx.mono st h fun x n1 v H1 G1 Z1 h g1 s1 w1 _ => stepA fx.mono s1 h fun y n2 v2 H2 G2 Z2 h g2 s2 w2 _ => ?_
    exact ⟨G2, Z2, n2, x.t, y.t, s2.ok, (w1.mono g2 s1.ok).weak, w2.weak, binW_mono h fun r hr => Kq.lift (g1.trans g2) hr⟩
  | .neg a, X, lb, sc, pe, Xt, Ew, fx, hsc, hp, h => by
    unfold chkE at h
    cases pe <;> first | cases h | skip
    simp only [Bool.and_eq_true] at h
    rename_i op _ _
    cases op <;> first | cases h.1 | skip
    refine PE.imp (pe_un un_neg (sndE a Xt Ew fx hsc hp h.2)) ?_
    rintro σ H Q ⟨G, Z, n, ρ, st, h⟩
    unfold wpE at h
    show rd Γ X.mg X.K Xt Ew a σ H _
    refine stepA fx.mono st h fun x n1 v H1 G1 Z1 h g1 s1 w1 _ => ?_
    obtain ⟨i, e, h⟩ := h
    have w := w1.weak
    rw [e] at w
    obtain rfl := w.int
    exact ⟨i, rfl, Kq.int (Kq.lift g1 h) s1.ok⟩
  | .not a, X, lb, sc, pe, Xt, Ew, fx, hsc, hp, h => by
    unfold chkE at h
    cases pe <;> first | cases h | skip
    simp only [Bool.and_eq_true] at h
    rename_i op _ _
    cases op <;> first | cases h.1 | skip
    refine PE.imp (pe_notT (sndE a Xt Ew fx hsc hp h.2)) ?_
    rintro σ H Q ⟨G, Z, n, ρ, st, h⟩
    unfold wpE at h
    show rd Γ X.mg X.K Xt Ew a σ H _
    refine stepA fx.mono st h fun x n1 v H1 G1 Z1 h g1 s1 w1 _ => ?_
    obtain ⟨k, tk, h⟩ := tru_step s1.ok w1.weak h
    exact ⟨k, tk, Kq.bl (Kq.lift g1 h) s1.ok⟩
  | .and a b, X, lb, sc, pe, Xt, Ew, fx, hsc, hp, h => by
    unfold chkE at h
    cases pe <;> first | cases h | skip
    rename_i op vs q
    cases vs with
    | nil => cases h
    | cons x vs =>
      cases vs with
      | nil => cases h
      | cons y r =>
        simp only [Bool.and_eq_true] at h
        obtain ⟨⟨⟨⟨h0, ha⟩, hb⟩, h1⟩, h2⟩ := h
        cases op <;> first | cases h0 | skip
        have hb' : PE X (.BoolOp .And (y :: r) q) (rd Γ X.mg X.K Xt Ew b) := by
          cases r with
          | nil => exact pe_one (sndE b Xt Ew fx hsc hp h2)
          | cons z r => exact sndE b Xt Ew fx hsc hp h2
        refine PE.imp (pe_andT (sndE a Xt Ew fx hsc hp h1) hb') ?_
        rintro σ H Q ⟨G, Z, n, ρ, st, h⟩
        unfold wpE at h
        show rd Γ X.mg X.K Xt Ew a σ H _
        refine stepA fx.mono st h fun x n1 v H1 G1 Z1 h g1 s1 w1 _ => ?_
        obtain ⟨k, tk, h⟩ := tru_step s1.ok w1.weak h
        refine ⟨k, tk, ?_⟩
        rw [ha] at w1
        cases k with
        | true =>
          simp only [if_true] at h ⊢
          refine ⟨G1, Z1, n1, ρ, s1, wpE_mono fx.mono b h fun r n2 h => ?_⟩
          rw [hb]
          exact Kq.lift g1 h
        | false =>
          simp only [Bool.false_eq_true, if_false] at h ⊢
          exact Kq.same (Kq.lift g1 h) s1.ok w1
  | .or a b, X, lb, sc, pe, Xt, Ew, fx, hsc, hp, h => by
    unfold chkE at h
    cases pe <;> first | cases h | skip
    rename_i op vs q
    cases vs with
    | nil => cases h
    | cons x vs =>
      cases vs with
      | nil => cases h
      | cons y r =>
        simp only [Bool.and_eq_true] at h
        obtain ⟨⟨⟨⟨h0, ha⟩, hb⟩, h1⟩, h2⟩ := h
        cases op <;> first | cases h0 | skip
        have hb' : PE X (.BoolOp .Or (y :: r) q) (rd Γ X.mg X.K Xt Ew b) := by
          cases r with
          | nil => exact pe_one (sndE b Xt Ew fx hsc hp h2)
          | cons z r => exact sndE b Xt Ew fx hsc hp h2
        refine PE.imp (pe_orT (sndE a Xt Ew fx hsc hp h1) hb') ?_
        rintro σ H Q ⟨G, Z, n, ρ, st, h⟩
        unfold wpE at h
        show rd Γ X.mg X.K Xt Ew a σ H _
        refine stepA fx.mono st h fun x n1 v H1 G1 Z1 h g1 s1 w1 _ => ?_
        obtain ⟨k, tk, h⟩ := tru_step s1.ok w1.weak h
        refine ⟨k, tk, ?_⟩
        rw [ha] at w1
        cases k with
        | true =>
          simp only [if_true] at h ⊢
          exact Kq.same (Kq.lift g1 h) s1.ok w1
        | false =>
          simp only [Bool.false_eq_true, if_false] at h ⊢
          refine ⟨G1, Z1, n1, ρ, s1, wpE_mono fx.mono b h fun r n2 h => ?_⟩
          rw [hb]
          exact Kq.lift g1 h
  | .ife c a b, X, lb, sc, pe, Xt, Ew, fx, hsc, hp, h => by
    unfold chkE at h
    cases pe <;> first | cases h | skip
    simp only [Bool.and_eq_true] at h
    obtain ⟨⟨⟨⟨ha, hb⟩, h0⟩, h1⟩, h2⟩ := h
    refine PE.imp (pe_ifExp (sndT c Xt Ew fx hsc hp h0 (sndE c Xt Ew fx hsc hp h0)) (sndE a Xt Ew fx hsc hp h1) (sndE b Xt Ew fx hsc hp h2)) ?_
    rintro σ H Q ⟨G, Z, n, ρ, st, h⟩
    unfold wpE at h
    show rdT Γ X.mg X.K Xt Ew c σ H _
    refine ⟨G, Z, n, ρ, st, wpE_mono fx.mono c h fun r n1 h => truW_mono h fun k h H1 G1 Z1 g1 o1 => ?_⟩
    have s1 := st.mono g1 o1
    cases k with
    | true =>
      simp only [if_true] at h ⊢
      refine ⟨G1, Z1, n1, ρ, s1, wpE_mono fx.mono a h fun r n2 h => ?_⟩
      rw [ha]
      exact Kq.lift g1 h
    | false =>
      simp only [Bool.false_eq_true, if_false] at h ⊢
      refine ⟨G1, Z1, n1, ρ, s1, wpE_mono fx.mono b h fun r n2 h => ?_⟩
      rw [hb]
      exact Kq.lift g1 h
  | .cmp o a b, X, lb, sc, pe, Xt, Ew, fx, hsc, hp, h => by
    unfold chkE at h
    cases pe <;> first | cases h | skip
    rename_i l ops rs _
    cases ops with
    | nil => cases h
    | cons p ops =>
      cases ops with
      | cons _ _ => cases h
      | nil =>
        cases rs with
        | nil => cases h
        | cons r rs =>
          cases rs with
          | cons _ _ => cases h
          | nil =>
            simp only [Bool.and_eq_true] at h
            obtain ⟨⟨⟨h0, h1⟩, h2⟩, h3⟩ := h
            obtain rfl := copB_eq h0
            refine PE.imp (pe_cmpR (cmp_ok fx.un o) (sndE a Xt Ew fx hsc hp h1) (sndE b Xt Ew fx hsc hp h2) (mark_of h3 _)) ?_
            rintro σ H Q ⟨G, Z, n, ρ, st, h⟩
            unfold wpE at h
            show rd Γ X.mg X.K Xt Ew a σ H _
            refine stepA fx.mono st h fun x n1 v H1 G1 Z1 h g1 s1 w1 _ => stepA fx.mono s1 h fun y n2 v2 H2 G2 Z2 h g2 s2 w2 _ => ?_
            exact ⟨G2, Z2, n2, x.t, y.t, s2.ok, (w1.mono g2 s1.ok).weak, w2.weak, cmpW_mono h fun k hk => Kq.bl (Kq.lift (g1.trans g2) hk) s2.ok⟩
  | .chain o o' a b c, X, lb, sc, pe, Xt, Ew, fx, hsc, hp, h => by
    unfold chkE at h
    cases pe <;> first | cases h | skip
    rename_i l ops rs _
    cases ops with
    | nil => cases h
    | cons p ops =>
      cases ops with
      | nil => cases h
      | cons p' ops =>
        cases ops with
        | cons _ _ => cases h
        | nil =>
          cases rs with
          | nil => cases h
          | cons r rs =>
            cases rs with
            | nil => cases h
            | cons r' rs =>
              cases rs with
              | cons _ _ => cases h
              | nil =>
                simp only [Bool.and_eq_true] at h
                obtain ⟨⟨⟨⟨⟨h0, h0'⟩, h1⟩, h2⟩, h3⟩, h4⟩ := h
                obtain rfl := copB_eq h0
                obtain rfl := copB_eq h0'
                refine PE.imp (pe_chain (cmp_ok fx.un o) (cmp_ok fx.un o') (sndE a Xt Ew fx hsc hp h1) (sndE b Xt Ew fx hsc hp h2) (sndE c Xt Ew fx hsc hp h3) (by show behindInMarks _ r' = false; exact mark_of h4 _)) ?_
                rintro σ H Q ⟨G, Z, n, ρ, st, h⟩
                unfold wpE at h
                show rd Γ X.mg X.K Xt Ew a σ H _
                refine stepA fx.mono st h fun x n1 v H1 G1 Z1 h g1 s1 w1 _ => stepA fx.mono s1 h fun y n2 v2 H2 G2 Z2 h g2 s2 w2 _ => ?_
                refine ⟨G2, Z2, n2, x.t, y.t, s2.ok, (w1.mono g2 s1.ok).weak, w2.weak, cmpW_mono h fun k hk => ⟨k, rfl, ?_⟩⟩
                cases k with
                | false =>
                  simp only [Bool.false_eq_true, if_false] at hk ⊢
                  exact Kq.bl (Kq.lift (g1.trans g2) hk) s2.ok
                | true =>
                  simp only [if_true] at hk ⊢
                  refine stepA fx.mono s2 hk fun z n3 v3 H3 G3 Z3 h g3 s3 w3 _ => ?_
                  exact ⟨G3, Z3, n3, y.t, z.t, s3.ok, (w2.mono g3 s2.ok).weak, w3.weak, cmpW_mono h fun k hk => Kq.bl (Kq.lift ((g1.trans g2).trans g3) hk) s3.ok⟩
  | .lst l, X, lb, sc, pe, Xt, Ew, fx, hsc, hp, h => by
    unfold chkE at h
    cases pe <;> first | cases h | skip
    simp only [Bool.and_eq_true] at h
    refine PE.imp (pe_lst (sndEs l Xt Ew fx hsc hp h.2)) ?_
    rintro σ H Q ⟨G, Z, n, ρ, st, hw⟩
    unfold wpE at hw
    show rds Γ X.mg X.K Xt Ew l σ H _
    refine stepAs fx.mono st hw fun ts n1 vs H1 G1 Z1 h1 g1 s1 w1 => ?_
    obtain ⟨ds, e, hz, h1⟩ := h1
    have ra := datas_rp (w1.strong h.1) e
    exact ⟨by rw [ra.length]; exact hz, fun p hp => Kq.lst (Kq.lift g1 h1) s1.ok ra hp⟩
  | .tup l, X, lb, sc, pe, Xt, Ew, fx, hsc, hp, h => by
    unfold chkE at h
    cases pe <;> first | cases h | skip
    simp only [Bool.and_eq_true] at h
    refine PE.imp (pe_tup (sndEs l Xt Ew fx hsc hp h.2)) ?_
    rintro σ H Q ⟨G, Z, n, ρ, st, hw⟩
    unfold wpE at hw
    show rds Γ X.mg X.K Xt Ew l σ H _
    refine stepAs fx.mono st hw fun ts n1 vs H1 G1 Z1 h1 g1 s1 w1 => ?_
    obtain ⟨ds, e, hz, h1⟩ := h1
    have ra := datas_rp (w1.strong h.1) e
    exact ⟨by rw [ra.length]; exact hz, fun p hp => Kq.tup (Kq.lift g1 h1) s1.ok ra hp⟩
  | .dct kvs, X, lb, sc, pe, Xt, Ew, fx, hsc, hp, h => by
    unfold chkE at h
    cases pe <;> first | cases h | skip
    rename_i ks vs q
    simp only [Bool.and_eq_true, decide_eq_true_eq] at h
    obtain ⟨⟨⟨h0, h1⟩, h2⟩, h3⟩ := h
    cases kvs with
    | nil =>
      cases ks with
      | cons _ _ => cases h0
      | nil =>
        cases vs with
        | cons _ _ => cases h0
        | nil =>
          refine PE.imp pe_dnewK ?_
          rintro σ H Q ⟨G, Z, n, ρ, st, h⟩
          unfold wpE at h
          exact fun p hp => Kq.dct (kvs := []) h st.ok rfl hp
    | cons kv kvs =>
      obtain ⟨p1, p2, p3, p4⟩ := dct_pps (X := X) (pos := q) (kv :: kvs) h0
      refine PE.imp (pe_disp p1 p2 p3 (fun z => by rw [z] at h0; cases h0) h1) ?_
      rintro σ H Q ⟨G, Z, n, ρ, st, h⟩
      unfold wpE at h
      refine fun p hp => p4 σ _ _ ⟨upd_same, (kv :: kvs).map (fun kv => (kv.1, cV kv.2)), by rw [List.map_map]; rfl, ?_, ?_⟩
      · rw [List.length_map, ← dctB_len h0]; exact h1
      · rw [upd_upd, merge_nd _ [] (by simpa [List.map_map, Function.comp_def] using h2)]
        exact Kq.dct h st.ok h3 hp
  | .gix i k, X, lb, sc, pe, Xt, Ew, fx, hsc, hp, h => by
    unfold chkE at h
    cases pe <;> first | cases h | skip
    rename_i e s q
    cases e <;> first | (cases s <;> cases h; done) | skip
    cases s <;> first | cases h | skip
    rename_i x xp c kk cp
    cases c <;> first | cases h | skip
    simp only [Bool.and_eq_true, decide_eq_true_eq] at h
    obtain ⟨⟨⟨⟨h0, h1⟩, h2⟩, h3⟩, h4⟩ := h
    subst h3
    refine PE.imp (pe_ix ix_list (pe_var h0 (vis_of hsc h1) (dbg_of h2).1 (dbg_of h2).2) pe_int (fun _ _ => rfl)) ?_
    rintro σ H Q ⟨G, Z, n, ρ, st, h⟩
    unfold wpE at h
    obtain ⟨b, e, h⟩ := h
    obtain ⟨v, e1, e2, e3⟩ := st.env i b .gen e
    cases b with
    | true => exact (e3 rfl).elim
    | false =>
      obtain ⟨g, hg, rfl⟩ := e2 rfl
      obtain ⟨a, m, c, hG, b1, b2, b3, b4, b5, b6⟩ := st.ok.gen g hg
      refine ⟨_, e1, ?_⟩
      match k, h4 with
      | 0, _ => exact ⟨g, _, 0, .int a, rfl, rfl, .of hG, rfl, Kq.int (h a ⟨b1, b2⟩) st.ok⟩
      | 1, _ => exact ⟨g, _, 1, .int m, rfl, rfl, .of hG, rfl, Kq.int (h m ⟨b3, b4⟩) st.ok⟩
      | 2, _ => exact ⟨g, _, 2, .int c, rfl, rfl, .of hG, rfl, Kq.int (h c ⟨b5, b6⟩) st.ok⟩
  | .ix a i, X, lb, sc, pe, Xt, Ew, fx, hsc, hp, h => by
    unfold chkE at h
    cases pe <;> first | cases h | skip
    rename_i e s _
    have h' : (plainIxB s && chkE Γ X.N lb sc a e && chkE Γ X.N lb sc i s) = true := by
      cases s <;> exact h
    simp only [Bool.and_eq_true] at h'
    refine PE.imp (pe_ix (ix_ok (by have := fx.un; omega)) (sndE a Xt Ew fx hsc hp h'.1.2) (sndE i Xt Ew fx hsc hp h'.2) (pix_of h'.1.1)) ?_
    rintro σ H Q ⟨G, Z, n, ρ, st, h⟩
    unfold wpE at h
    show rd Γ X.mg X.K Xt Ew a σ H _
    refine stepA fx.mono st h fun x n1 v H1 G1 Z1 h g1 s1 w1 _ => stepA fx.mono s1 h fun y n2 v2 H2 G2 Z2 h g2 s2 w2 _ => ?_
    exact ⟨G2, Z2, n2, x.t, y.t, s2.ok, (w1.mono g2 s1.ok).weak, w2.weak, ixW_mono h fun t ht => Kq.lift (g1.trans g2) ht⟩
  | .sl a lo hi, X, lb, sc, pe, Xt, Ew, fx, hsc, hp, h => by
    unfold chkE at h
    cases pe <;> first | cases h | skip
    rename_i e sl _
    cases sl <;> first | cases h | skip
    rename_i l u st _
    cases st <;> first | (cases l <;> cases u <;> cases h; done) | skip
    simp only [Bool.and_eq_true] at h
    obtain ⟨⟨h0, h1⟩, h2⟩ := h
    have part : ∀ (b : E) (o : Option Expr), (∀ {pe : Expr}, chkE Γ X.N lb sc b pe = true → PE X pe (rd Γ X.mg X.K Xt Ew b)) → (match o with | none => isNoB b | some x => !isNoB b && chkE Γ X.N lb sc b x) = true →
        PO X o (fun σ H Q => rd Γ X.mg X.K Xt Ew b σ H fun v H1 => ∃ i, bV (isNoB b) v = some i ∧ Q i H1) := fun b o ih hb => by
      cases o with
      | none =>
        have hb : isNoB b = true := hb
        refine ⟨fun pins s σ H Q I hh => ?_⟩
        obtain ⟨G, Z, n, ρ, st, h⟩ := hh
        have hb' := hb
        unfold isNoB at hb
        split at hb
        · unfold wpE at h
          obtain ⟨i, e, q⟩ := h .non H G Z Gr.refl st.ok .non (fun z => nomatch z)
          rw [hb'] at e
          cases e
          exact (po_none (X := X)).run pins s σ H Q I q
        · cases hb
      | some x =>
        have hb : (!isNoB b && chkE Γ X.N lb sc b x) = true := hb
        rw [Bool.and_eq_true] at hb
        have p := po_some (ih hb.2)
        refine ⟨fun pins s σ H Q I hh => p.run pins s σ H Q I ?_⟩
        obtain ⟨G, Z, n, ρ, st, h⟩ := hh
        show rd Γ X.mg X.K Xt Ew b σ H _
        refine ⟨G, Z, n, ρ, st, wpE_mono fx.mono b h fun r n1 h v H1 G1 Z1 g1 o1 w1 f1 => ?_⟩
        obtain ⟨i, e, q⟩ := h v H1 G1 Z1 g1 o1 w1 f1
        have nb : isNoB b = false := by simpa using hb.1
        rw [nb] at e
        cases v <;> cases e
        exact ⟨_, rfl, q⟩
    have pl := part lo l (fun hc => sndE lo Xt Ew fx hsc hp hc) h1
    have pu := part hi u (fun hc => sndE hi Xt Ew fx hsc hp hc) h2
    refine PE.imp (pe_slice sl_ok (sndE a Xt Ew fx hsc hp h0) pl pu) ?_
    rintro σ H Q ⟨G, Z, n, ρ, st, h⟩
    unfold wpE at h
    show rd Γ X.mg X.K Xt Ew a σ H _
    refine stepA fx.mono st h fun x n1 v H1 G1 Z1 h g1 s1 w1 _ => ?_
    show rd Γ X.mg X.K Xt Ew lo σ H1 _
    refine stepA fx.mono s1 h fun y n2 v2 H2 G2 Z2 h g2 s2 w2 _ => ?_
    obtain ⟨i, ei, h⟩ := h
    refine ⟨i, bV_of w2.weak ei, ?_⟩
    show rd Γ X.mg X.K Xt Ew hi σ H2 _
    refine stepA fx.mono s2 h fun z n3 v3 H3 G3 Z3 h g3 s3 w3 _ => ?_
    obtain ⟨j, ej, h⟩ := h
    exact ⟨j, bV_of w3.weak ej, G3, Z3, n3, x.t, s3.ok, ((w1.mono g2 s1.ok).mono g3 s2.ok).weak, slW_mono h fun r hr => Kq.lift ((g1.trans g2).trans g3) hr⟩
  | .rev a, X, lb, sc, pe, Xt, Ew, fx, hsc, hp, h => by
    unfold chkE at h
    cases pe <;> first | cases h | skip
    rename_i e sl _
    have h : (isRev sl && chkE Γ X.N lb sc a e) = true := by cases sl <;> exact h
    rw [Bool.and_eq_true] at h
    obtain ⟨k, p1, p2, p3, rfl⟩ := isRev_eq h.1
    refine PE.imp (pe_revL (sndE a Xt Ew fx hsc hp h.2)) ?_
    rintro σ H Q ⟨G, Z, n, ρ, st, h⟩
    unfold wpE at h
    show rd Γ X.mg X.K Xt Ew a σ H _
    refine stepA fx.mono st h fun x n1 v H1 G1 Z1 h g1 s1 w1 _ => ?_
    obtain ⟨xs, e, h⟩ := h
    have w := w1.weak
    rw [e] at w
    obtain ⟨p, vs, rfl, hp, r⟩ := w.lst
    exact ⟨p, vs, rfl, .of hp, fun q hq => Kq.lst (Kq.lift g1 h) s1.ok r.reverse hq⟩
  | .call f l, X, lb, sc, pe, Xt, Ew, fx, hsc, hp, h => by
    unfold chkE at h
    cases pe <;> first | cases h | skip
    rename_i fn es ks pos
    cases fn <;> first | cases h | skip
    cases ks <;> first | cases h | skip
    simp only [Bool.and_eq_true, decide_eq_true_eq] at h
    obtain ⟨⟨⟨⟨⟨h0, h1⟩, h2⟩, h3⟩, h4⟩, h5⟩ := h
    obtain ⟨a, fd, k, ps, F, ha, hr, hm, hk, hb⟩ := fx.fn f h0
    have hr := hr.mono (Nat.le_add_right k _)
    subst h1
    have fin : ∀ {G Z G1 Z1 : List Addr} {H H1 : Hp} {n1 : Nat} {σ : L2.St} {ρ : Ev} {ts : List T} {vs : List V} {Q : VK}, Γ.Φ f ts n1 (Kq X.K true G Z H Q) Xt → Gr G Z H G1 Z1 H1 → Stt X.mg Γ.cn X.K Xt (Ew σ) G1 Z1 H1 n1 σ ρ → Paired (RpT X.K H1 G1 Z1) vs ts →
        low X.mg Γ.cn X.K ps.length (Γ.Φ f) vs H1 Q (Ew σ) := fun h g s w => by
      exact ⟨by rw [Paired.length w, fx.ar _ _ _ _ _ h, ha], _, _, _, _, s.ok, w, fx.mono _ _ _ _ _ _ _ h (fun r n' hr => Kq.lift g hr) fun er n' hx cls d H' G' Z' g' o' e => s.wsh er n' cls d H' G' Z' hx g' o' e⟩
    cases es with
    | nil =>
      refine PE.imp (pg_call0 F hr fx.gd (gl_of hsc h2) hm hk hb hp (dbg_of h3).1) ?_
      rintro σ H Q ⟨G, Z, n, ρ, st, h⟩
      cases l with
      | cons _ _ => unfold chkEs at h5; cases h5
      | nil =>
        unfold wpE wpEs at h
        exact fin h Gr.refl st .nil
    | cons e es =>
      have h5' := h5
      cases l with
      | nil => unfold chkEs at h5; cases h5
      | cons b l =>
        unfold chkEs at h5'
        simp only [Bool.and_eq_true] at h5'
        refine PE.imp (pg_call F hr fx.gd (gl_of hsc h2) hm hk hb hp (sndEs _ Xt Ew fx hsc hp h5) (dbg_of h3).1 (star_of h5'.1.1 _ _) (stars_of h5'.2)) ?_
        rintro σ H Q ⟨G, Z, n, ρ, st, h⟩
        unfold wpE at h
        show rds Γ X.mg X.K Xt Ew (.cons b l) σ H _
        refine stepAs fx.mono st h fun ts n1 vs H1 G1 Z1 h1 g1 s1 w1 => ?_
        exact fin h1 g1 s1 (w1.strong h4)
  | .callk f l pm ks, X, lb, sc, pe, Xt, Ew, fx, hsc, hp, h => by
    unfold chkE at h
    cases pe <;> first | cases h | skip
    rename_i fn es kws pos
    cases fn <;> first | cases h | skip
    simp only [Bool.and_eq_true, decide_eq_true_eq] at h
    obtain ⟨⟨⟨⟨⟨⟨⟨⟨⟨h0, h1⟩, h2⟩, h3⟩, h4⟩, h5⟩, h6⟩, h7⟩, h8⟩, h9⟩ := h
    obtain ⟨a, fd, k, ps, F, ha, hr, hm, hk, hb⟩ := fx.kw f pm _ _ h0
    have hr := hr.mono (Nat.le_add_right k _)
    subst h1
    obtain ⟨k1, k2, k3⟩ := kw_names (env := X.env) (pos := pos) h4
    have fin : ∀ {G Z G1 Z1 : List Addr} {H H1 : Hp} {n1 : Nat} {σ : L2.St} {ρ : Ev} {ts : List T} {vs : List V} {Q : VK}, Γ.Φ f ts n1 (Kq X.K true G Z H Q) Xt → Gr G Z H G1 Z1 H1 → Stt X.mg Γ.cn X.K Xt (Ew σ) G1 Z1 H1 n1 σ ρ → Paired (RpT X.K H1 G1 Z1) vs ts →
        low X.mg Γ.cn X.K ps.length (Γ.Φ f) vs H1 Q (Ew σ) := fun h g s w =>
      ⟨by rw [Paired.length w, fx.ar _ _ _ _ _ h, ha], _, _, _, _, s.ok, w, fx.mono _ _ _ _ _ _ _ h (fun r n' hr => Kq.lift g hr) fun er n' hx cls d H' G' Z' g' o' e => s.wsh er n' cls d H' G' Z' hx g' o' e⟩
    cases es with
    | nil =>
      refine PE.imp (pg_callK0 F hr fx.gd (gl_of hsc h2) hm hk hb hp (sndKs ks Xt Ew fx hsc hp h9) k1 k2 (dbg_of h3).1 (by rw [k3]; rfl)) ?_
      rintro σ H Q ⟨G, Z, n, ρ, st, h⟩
      cases l with
      | cons _ _ => unfold chkEs at h8; cases h8
      | nil =>
        unfold wpE wpEs at h
        show rds Γ X.mg X.K Xt Ew ks σ H _
        refine stepAs fx.mono st h fun us n1 vs H1 G1 Z1 h1 g1 s1 w1 => ?_
        obtain ⟨ws, e, h1⟩ := h1
        have w := kwF_rel (Paired.nil : Paired (RpT X.K H1 G1 Z1) [] []) (w1.strong h7) pm
        rw [kwF_map pm ws e, ← kwG_eq (n := 0) (k := (kwB kws).length) rfl (by rw [argR_len w1, chkKs_len h9, kwB_len h4])] at w
        exact fin h1 g1 s1 w
    | cons e es =>
      have h8' := h8
      cases l with
      | nil => unfold chkEs at h8; cases h8
      | cons b l =>
        unfold chkEs at h8'
        simp only [Bool.and_eq_true] at h8'
        refine PE.imp (pg_callK F hr fx.gd (gl_of hsc h2) hm hk hb hp (sndEs _ Xt Ew fx hsc hp h8) (sndKs ks Xt Ew fx hsc hp h9) k1 k2 (dbg_of h3).1 (star_of h8'.1.1 _ _) (by rw [stars_of h8, k3]; rfl)) ?_
        rintro σ H Q ⟨G, Z, n, ρ, st, h⟩
        unfold wpE at h
        show rds Γ X.mg X.K Xt Ew (.cons b l) σ H _
        refine stepAs fx.mono st h fun ts n1 vs H1 G1 Z1 h1 g1 s1 w1 => ?_
        show rds Γ X.mg X.K Xt Ew ks σ H1 _
        refine stepAs fx.mono s1 h1 fun us n2 zs H2 G2 Z2 h2 g2 s2 w2 => ?_
        obtain ⟨ws, e', h2⟩ := h2
        have w := kwF_rel ((w1.mono g2 s1.ok).strong h6) (w2.strong h7) pm
        rw [kwF_map pm ws e', ← kwG_eq (n := (e :: es).length) (k := (kwB kws).length) (by rw [argR_len w1, chkEs_len h8]) (by rw [argR_len w2, chkKs_len h9, kwB_len h4])] at w
        exact fin h2 (g1.trans g2) s2 w
  | .isi a t, X, lb, sc, pe, Xt, Ew, fx, hsc, hp, h => by
    unfold chkE at h
    cases pe <;> first | cases h | skip
    rename_i fn es kws pos
    cases fn <;> first | cases h | skip
    cases es with
    | nil => cases h
    | cons e es =>
      cases es with
      | nil => cases h
      | cons y es =>
        cases y <;> first | cases h | skip
        cases es with
        | cons _ _ => cases h
        | nil =>
          cases kws with
          | cons _ _ => cases h
          | nil =>
            simp only [Bool.and_eq_true, decide_eq_true_eq] at h
            obtain ⟨⟨⟨⟨⟨⟨⟨h0, h1⟩, h2⟩, h3⟩, h4⟩, h5⟩, h6⟩, h7⟩ := h
            subst h0 h1
            have pt : ∀ q : Pos, PE X (.Name (Str.ofString (tyName t)) q) (tC (.ty (tyName t))) := fun q => pe_bltn (pos := q) (gl_of hsc h5) (fx.bl _ h3) (ty_boot t) rfl (ty_dbg t).2 (ty_dbg t).1
            refine PE.imp (pe_callB (isi_ok t) (gl_of hsc h4) (fx.bl _ h2) (by decide +kernel) (pa_cons (sndE a Xt Ew fx hsc hp h6) (pa_cons (pt _) pa_nil) (star_of h7 _ _)) (by decide) (by decide) (star_of h7 _ _) rfl) ?_
            rintro σ H Q ⟨G, Z, n, ρ, st, h⟩
            unfold wpE at h
            show rd Γ X.mg X.K Xt Ew a σ H _
            refine stepA fx.mono st h fun x n1 v H1 G1 Z1 h g1 s1 w1 _ => ?_
            obtain ⟨y, e, h⟩ := h
            have w := w1.weak
            rw [e] at w
            exact ⟨v, y, rfl, w.data s1.ok, Kq.bl (Kq.lift g1 h) s1.ok⟩
  | .isi2 a t u, X, lb, sc, pe, Xt, Ew, fx, hsc, hp, h => by
    unfold chkE at h
    split at h <;> first | contradiction | skip
    all_goals first | (rename_i he _; cases he; done) | skip
    rename_i he
    cases he
    rename_i x p e y py z pz kk ptp pos
    simp only [Bool.and_eq_true, decide_eq_true_eq] at h
    obtain ⟨⟨⟨⟨⟨⟨⟨⟨⟨⟨h0, h1⟩, h1'⟩, h2⟩, h3⟩, h3'⟩, h4⟩, h5⟩, h5'⟩, h6⟩, h7⟩ := h
    subst h0 h1 h1'
    have pt : PE X (.Name (Str.ofString (tyName t)) py) (tC (.ty (tyName t))) := pe_bltn (gl_of hsc h5) (fx.bl _ h3) (ty_boot t) rfl (ty_dbg t).2 (ty_dbg t).1
    have pu : PE X (.Name (Str.ofString (tyName u)) pz) (tC (.ty (tyName u))) := pe_bltn (gl_of hsc h5') (fx.bl _ h3') (ty_boot u) rfl (ty_dbg u).2 (ty_dbg u).1
    refine PE.imp (pe_callB (isi2_ok t u) (gl_of hsc h4) (fx.bl _ h2) (by decide +kernel) (pa_cons (sndE a Xt Ew fx hsc hp h6) (pa_cons (pe_tup (pa_cons pt (pa_cons pu pa_nil))) pa_nil) (star_of h7 _ _)) (by decide) (by decide) (star_of h7 _ _) rfl) ?_
    rintro σ H Q ⟨G, Z, n, ρ, st, h⟩
    unfold wpE at h
    show rd Γ X.mg X.K Xt Ew a σ H _
    refine stepA fx.mono st h fun x n1 v H1 G1 Z1 h g1 s1 w1 _ => ?_
    obtain ⟨y, e, ok, h⟩ := h
    have w := w1.weak
    rw [e] at w
    refine ⟨by rw [sizeLine_eq]; show 2 ≤ _; omega, fun q hq => ?_⟩
    exact ⟨v, y, q, rfl, Rp.le (.of fun b o e => by rw [upd_ne (ne_of_none e hq)]; exact e) (w.data s1.ok), ok, upd_same, Kq.bl (Kq.lift (g1.trans (Gr.upd hq)) h) (s1.ok.upd hq)⟩
  | .lrg a, X, lb, sc, pe, Xt, Ew, fx, hsc, hp, h => by
    unfold chkE at h
    split at h <;> first | contradiction | skip
    all_goals first | (rename_i he _; cases he; done) | skip
    rename_i he
    cases he
    rename_i x p y q e qp pos
    simp only [Bool.and_eq_true, decide_eq_true_eq] at h
    obtain ⟨⟨⟨⟨⟨⟨⟨h0, h1⟩, h2⟩, h3⟩, h4⟩, h5⟩, h6⟩, h7⟩ := h
    subst h0 h1
    refine PE.imp (pe_listRg fx.calm (gl_of hsc h4) (fx.bl _ h2) (prg_1 (gl_of hsc h5) (fx.bl _ h3) (sndE a Xt Ew fx hsc hp h6) (star_of h7 _ _)) rfl) ?_
    rintro σ H Q ⟨G, Z, n, ρ, st, h⟩
    unfold wpE at h
    show rd Γ X.mg X.K Xt Ew a σ H _
    refine stepA fx.mono st h fun x n1 v H1 G1 Z1 h g1 s1 w1 _ => ?_
    obtain ⟨j, e, ⟨j0, j1⟩, h⟩ := h
    have w := w1.weak
    rw [e] at w
    obtain rfl := w.int
    refine ⟨j, rfl, ⟨by decide, by decide, by omega, by omega, by omega⟩, fun q hq => ?_⟩
    refine Kq.lst (Kq.lift g1 h) s1.ok ?_ hq
    have e2 : rgV 0 j = ((List.range j.toNat).map fun (m : Nat) => (m : Int)).map V.int := by
      unfold rgV
      rw [List.map_map, Int.sub_zero]
      exact List.map_congr_left fun m _ => by show V.int (0 + (m : Int)) = V.int m; rw [Int.zero_add]
    have e3 : ((List.range j.toNat).map fun (m : Nat) => PyData.int m) = ((List.range j.toNat).map fun (m : Nat) => (m : Int)).map PyData.int := by rw [List.map_map]; rfl
    rw [e2, e3]
    exact RpA.ints _
  | .bi b l, X, lb, sc, pe, Xt, Ew, fx, hsc, hp, h => by
    unfold chkE at h
    cases pe <;> first | cases h | skip
    rename_i fn es kws pos
    cases fn <;> first | cases h | skip
    cases es with
    | nil => cases h
    | cons e es =>
      cases kws with
      | cons _ _ => cases h
      | nil =>
        simp only [Bool.and_eq_true, decide_eq_true_eq] at h
        obtain ⟨⟨⟨h0, h1⟩, h2⟩, h3⟩ := h
        subst h0
        have h3' := h3
        cases l with
        | nil => unfold chkEs at h3; cases h3
        | cons c l =>
          unfold chkEs at h3'
          simp only [Bool.and_eq_true] at h3'
          refine PE.imp (pe_bi (bi_ok fx.dg fx.gd fx.un fx.calm b) (gl_of hsc h2) (fx.bl _ h1) (sndEs _ Xt Ew fx hsc hp h3) (star_of h3'.1.1 _ _) (stars_of h3'.2)) ?_
          rintro σ H Q ⟨G, Z, n, ρ, st, h⟩
          unfold wpE at h
          show rds Γ X.mg X.K Xt Ew (.cons c l) σ H _
          refine stepAs fx.mono st h fun ts n1 vs H1 G1 Z1 h1 g1 s1 w1 => ?_
          exact ⟨G1, Z1, n1, ts, s1.ok, w1.weak, biW_mono h1 fun r hr => Kq.lift g1 hr⟩
  | .mt m a l, X, lb, sc, pe, Xt, Ew, fx, hsc, hp, h => by
    unfold chkE at h
    cases pe <;> first | cases h | skip
    rename_i fn es kws pos
    cases fn <;> first | cases h | skip
    rename_i o x ap
    cases kws with
    | cons _ _ => cases h
    | nil =>
      simp only [Bool.and_eq_true, decide_eq_true_eq] at h
      obtain ⟨⟨⟨⟨h0, h1⟩, h2⟩, h3⟩, h4⟩ := h
      have h1 : (ap.endLine == pos.line) = true := by simpa using h1
      cases m with
      | join =>
        simp only [Bool.and_eq_true, decide_eq_true_eq] at h3
        obtain ⟨h3, h5⟩ := h3
        subst h3
        cases es with
        | nil => cases h5
        | cons e es =>
          cases es with
          | cons _ _ => simp at h5
          | nil =>
            cases l with
            | nil => unfold chkEs at h4; cases h4
            | cons c l =>
              unfold chkEs at h4
              simp only [Bool.and_eq_true] at h4
              cases l with
              | cons _ _ => have := h4.2; unfold chkEs at this; cases this
              | nil =>
                refine PE.imp (pe_join (sndE a Xt Ew fx hsc hp h2) (sndE c Xt Ew fx hsc hp h4.1.2) (star_of h4.1.1 _ _) (base_of h0 _) h1) ?_
                rintro σ H Q ⟨G, Z, n, ρ, st, h⟩
                unfold wpE wpEs wpEs at h
                show rd Γ X.mg X.K Xt Ew a σ H _
                refine stepA fx.mono st h fun x n1 v H1 G1 Z1 h g1 s1 w1 _ => ?_
                obtain ⟨hr, h⟩ := h
                obtain ⟨z, ez⟩ := rcv_join hr
                have w := w1.weak
                rw [ez] at w
                obtain rfl := w.str
                refine ⟨⟨_, rfl⟩, ?_⟩
                show rd Γ X.mg X.K Xt Ew c σ H1 _
                refine stepA fx.mono s1 h fun y n2 v2 H2 G2 Z2 h g2 s2 w2 _ => ?_
                rw [ez] at h
                obtain ⟨xs, ys, e2, ey, hz, h⟩ := mtW_join h
                have w := w2.weak
                rw [e2] at w
                obtain ⟨p, vs, rfl, hp', r⟩ := w.lst
                have := rpa_strs r ey
                subst this
                exact ⟨_, p, ys, rfl, rfl, .inl (.of hp'), hz, Kq.str (Kq.lift (g1.trans g2) h) s2.ok⟩
      | bitlen =>
        simp only [Bool.and_eq_true, decide_eq_true_eq] at h3
        obtain ⟨h3, h5⟩ := h3
        subst h3
        cases es with
        | cons _ _ => simp at h5
        | nil =>
          cases l with
          | cons _ _ => unfold chkEs at h4; cases h4
          | nil =>
            refine PE.imp (pe_bits (sndE a Xt Ew fx hsc hp h2) (base_of h0 _) h1) ?_
            rintro σ H Q ⟨G, Z, n, ρ, st, h⟩
            unfold wpE wpEs at h
            show rd Γ X.mg X.K Xt Ew a σ H _
            refine stepA fx.mono st h fun x n1 v H1 G1 Z1 h g1 s1 w1 _ => ?_
            obtain ⟨hr, h⟩ := h
            obtain ⟨z, ez⟩ := rcv_bitlen hr
            have w := w1.weak
            rw [ez] at w h
            obtain rfl := w.int
            exact ⟨z, rfl, Kq.int (Kq.lift g1 h) s1.ok⟩
  | .lc own tg k src cnd elt, X, lb, sc, pe, Xt, Ew, fx, hsc, hp, h => by
    unfold chkE at h
    cases pe <;> first | cases h | skip
    rename_i el gs scope pos
    cases gs with
    | nil => cases h
    | cons g gs =>
      obtain ⟨t, iter, ifs, ka⟩ := g
      cases gs with
      | cons _ _ => cases h
      | nil =>
        simp only [Bool.and_eq_true, decide_eq_true_eq] at h
        obtain ⟨⟨⟨⟨⟨⟨⟨⟨⟨hka, h0⟩, h1⟩, h2⟩, h3⟩, h4⟩, h5⟩, h6⟩, h7⟩, h8⟩ := h
        subst hka
        have bo := blkOk_by h0
        rw [← hsc] at bo
        have fb : ∀ (s : Shared) (H : Hp) (C : Addr) (cl : List (Str × Addr)) (fp : List Addr), Fx Γ (X.blk s H scope (compEnvC scope cl C X.env) fp) lb := fun s H C cl fp =>
          ⟨fx.nd, fx.calm, fx.gd, fx.un, fx.tba, fx.lam, fx.dg, fx.mono, fx.ar, fx.bl, fx.gc, fx.fn, fx.kw⟩
        have sb : ∀ (s : Shared) (H : Hp) (C : Addr) (cl : List (Str × Addr)) (fp : List Addr), (X.blk s H scope (compEnvC scope cl C X.env) fp).env.scope = relS scope sc := fun s H C cl fp => by rw [← hsc]; rfl
        have lo : ∀ x, tgB.isLoc scope x = true → Loc (relS scope X.env.scope) x ∧ ((scope.names.lookup x == some .cell) = true ∨ (relS scope X.env.scope).names.lookup x = some .local) := fun x hx => by
          unfold tgB.isLoc at hx
          split at hx <;> first | cases hx | skip
          · rename_i e
            have e2 := lookup_relS_keep (sc := X.env.scope) (by decide) e
            exact ⟨.inl e2, .inr e2⟩
          · rename_i e
            have e2 := lookup_relS_keep (sc := X.env.scope) (by decide) e
            exact ⟨.inr e2, .inl (by rw [e]; rfl)⟩
        have pt : ∀ (s : Shared) (H : Hp) (C : Addr) (cl : List (Str × Addr)) (fp : List Addr), PTs (X.blk s H scope (compEnvC scope cl C X.env) fp) ifs (rdT Γ X.mg X.K E0x E0s cnd) := fun s H C cl fp => by
          cases ifs with
          | nil =>
            refine ⟨fun pins s σ H Q I hh => ?_⟩
            obtain ⟨G, Z, n, ρ, st, h⟩ := hh
            have h6 : isT cnd = true := h6
            unfold isT at h6
            split at h6
            · unfold wpE at h
              exact (pts_nil).run pins s σ H Q I (h.2 H G Z Gr.refl st.ok)
            · cases h6
          | cons c ifs =>
            cases ifs with
            | cons _ _ => cases h6
            | nil => exact pts_one (sndT cnd E0x E0s (fb s H C cl fp) (sb s H C cl fp) passA h6 (sndE cnd E0x E0s (fb s H C cl fp) (sb s H C cl fp) passA h6))
        have ow : (own.map fun i => (X.N.getD i ⟨#[]⟩, i)).map (·.2) = own := by
          rw [List.map_map]
          exact List.map_id' _
        have P := pe_lc (pos := pos) (wi := rdSrc Γ X.mg X.K Xt Ew k src) (g := gOf X.K tg) (tt := rdT Γ X.mg X.K E0x E0s cnd) (te := rd Γ X.mg X.K E0x E0s elt) fx.calm fx.nd (sndSrc k src Xt Ew fx hsc hp h3 h5) bo
          (fun s H C cl fp => pg_of (X := X.blk s H scope (compEnvC scope cl C X.env) fp) fx.calm fx.nd lo h1) pt (fun s H C cl fp => sndE elt E0x E0s (fb s H C cl fp) (sb s H C cl fp) passA h8) (fold_of h4 _)
        rw [ow] at P
        exact PE.imp P (lc_rd fx.mono h2 (fun _ _ _ h => h) (fun _ _ _ h => h) h7)
  | .atm a, X, lb, sc, pe, Xt, Ew, fx, hsc, hp, h => by
    unfold chkE at h
    have h : chkE Γ X.N lb sc a pe = true := by cases pe <;> exact h
    refine PE.imp (sndE a (fun er n => atomD er.x = true ∧ Xt er n) Ew fx hsc hp h) ?_
    rintro σ H Q ⟨G, Z, n, ρ, st, h⟩
    unfold wpE at h
    refine ⟨G, dks H G Z, n, unown ρ, st.other, wpE_mono fx.mono a h fun r n1 h v H1 G1 Z1 g1 o1 w1 f1 => ?_⟩
    obtain ⟨L, e, g, o⟩ := Gr.other g1 st.ok o1
    exact h.2 v H1 G1 _ g o (atom_any w1 h.1) fun z => nomatch z
  | .key b i a body, X, lb, sc, pe, Xt, Ew, fx, hsc, hp, h => by
    unfold chkE at h
    replace h : (match keyOf pe with
      | some ⟨x, e, k, y, bd, scope⟩ => lb && decide (x = kbN b) && Γ.bl.contains x && isGl sc x && notStar e && chkE Γ X.N lb sc a e && decide (k = ("key" : Str)) && decide (X.N[i]? = some y) && lamPB sc scope y && sg body && chkE Γ X.N false scope body bd
      | none => false) = true := by cases pe <;> exact h
    cases ek : keyOf pe with
    | none =>
      rw [ek] at h
      cases h
    | some r =>
      obtain ⟨x, e, k, y, bd, scope⟩ := r
      rw [ek] at h
      obtain ⟨p1, p2, p3, p4, p5, rfl⟩ := keyOf_eq ek
      simp only [Bool.and_eq_true, decide_eq_true_eq] at h
      obtain ⟨⟨⟨⟨⟨⟨⟨⟨⟨⟨h0, h1⟩, h2⟩, h3⟩, h4⟩, h5⟩, h6⟩, h7⟩, h8⟩, h9⟩, h10⟩ := h
      subst h0 h1 h6
      rw [← hsc] at h8
      exact pe_key fx (gl_of hsc h3) (fx.bl _ h2) (sndE a Xt Ew fx hsc hp h5) (star_of h4 _ _) h7 (lamP_by h8) h9 fun A s H f c hA => sndE body E0x E0s (fx_lam fx hA) rfl passA h10
  | .dzip a b, X, lb, sc, pe, Xt, Ew, fx, hsc, hp, h => by
    unfold chkE at h
    replace h : (match zipOf pe with
      | some ⟨x, y, e, e'⟩ => decide (x = ("dict" : Str)) && decide (y = ("zip" : Str)) && Γ.bl.contains x && Γ.bl.contains y && isGl sc x && isGl sc y && notStar e && notStar e' && chkE Γ X.N lb sc a e && chkE Γ X.N lb sc b e'
      | none => false) = true := by cases pe <;> exact h
    cases ek : zipOf pe with
    | none =>
      rw [ek] at h
      cases h
    | some r =>
      obtain ⟨x, y, e, e'⟩ := r
      rw [ek] at h
      obtain ⟨p1, p2, p3, p4, rfl⟩ := zipOf_eq ek
      simp only [Bool.and_eq_true, decide_eq_true_eq] at h
      obtain ⟨⟨⟨⟨⟨⟨⟨⟨⟨h0, h1⟩, h2⟩, h3⟩, h4⟩, h5⟩, h6⟩, h7⟩, h8⟩, h9⟩ := h
      subst h0 h1
      refine PE.imp (pe_dzip fx.calm (gl_of hsc h4) (fx.bl _ h2) (gl_of hsc h5) (fx.bl _ h3) (pa_cons (sndE a Xt Ew fx hsc hp h8) (pa_cons (sndE b Xt Ew fx hsc hp h9) pa_nil (star_of h7 _ _)) (star_of h6 _ _)) (star_of h6 _ _) (stars_of (Γ := Γ) (lb := lb) (N := X.N) (sc := sc) (l := .cons b .nil) (by unfold chkEs; simp [h7, h9, chkEs]))) ?_
      rintro σ H Q ⟨G, Z, n, ρ, st, h⟩
      unfold wpE at h
      show rd Γ X.mg X.K Xt Ew a σ H _
      refine stepA fx.mono st h fun x n1 v H1 G1 Z1 h g1 s1 w1 _ => stepA fx.mono s1 h fun y n2 v2 H2 G2 Z2 h g2 s2 w2 _ => ?_
      obtain ⟨xs, ys, e1, e2, hk, h⟩ := h
      have w1 := (w1.mono g2 s1.ok).weak
      have w2 := w2.weak
      rw [e1] at w1
      rw [e2] at w2
      obtain ⟨p, vs, rfl, hp1, r1⟩ := w1.lst
      obtain ⟨q, us, rfl, hq1, r2⟩ := w2.lst
      obtain ⟨kvs, ek, rk⟩ := zip_rp r1 r2 hk
      exact ⟨p, q, vs, us, kvs, rfl, .of hp1, .of hq1, ek, fun z hz => Kq.dnew (Kq.lift (g1.trans g2) h) s2.ok (rpk_merge rk .nil) hz⟩
theorem sndT [TabsC] : ∀ (e : E) {X : Cx} {lb : Bool} {sc : Scope} {pe : Expr} (Xt : XE) (Ew : XS), Fx Γ X lb → X.env.scope = sc → (∀ σ, PassesAt (L2.CX X.prog X.w) X σ (Ew σ)) → chkE Γ X.N lb sc e pe = true → PE X pe (rd Γ X.mg X.K Xt Ew e) → PT X pe (rdT Γ X.mg X.K Xt Ew e)
  | .not a, X, lb, sc, pe, Xt, Ew, fx, hsc, hp, h, hq => by
    unfold chkE at h
    cases pe <;> first | cases h | skip
    simp only [Bool.and_eq_true] at h
    rename_i op _ _
    cases op <;> first | cases h.1 | skip
    refine PT.imp (pt_not (sndT a Xt Ew fx hsc hp h.2 (sndE a Xt Ew fx hsc hp h.2))) ?_
    rintro σ H Q ⟨G, Z, n, ρ, st, h⟩
    unfold wpE at h
    show rdT Γ X.mg X.K Xt Ew a σ H _
    exact ⟨G, Z, n, ρ, st, wpE_mono fx.mono a h fun r n1 h => truW_mono h fun b h => h.2⟩
  | .and a b, X, lb, sc, pe, Xt, Ew, fx, hsc, hp, h, hq => by
    unfold chkE at h
    cases pe <;> first | cases h | skip
    rename_i op vs q
    cases vs with
    | nil => cases h
    | cons x vs =>
      cases vs with
      | nil => cases h
      | cons y r =>
        simp only [Bool.and_eq_true] at h
        obtain ⟨⟨⟨⟨h0, ha⟩, hb⟩, h1⟩, h2⟩ := h
        cases op <;> first | cases h0 | skip
        refine PT.imp (pw_and (sndT a Xt Ew fx hsc hp h1 (sndE a Xt Ew fx hsc hp h1)) (pw_and2 (sndT b Xt Ew fx hsc hp h2 (sndE b Xt Ew fx hsc hp h2)))).pt ?_
        rintro σ H Q ⟨G, Z, n, ρ, st, h⟩
        unfold wpE at h
        show rdT Γ X.mg X.K Xt Ew a σ H _
        refine ⟨G, Z, n, ρ, st, wpE_mono fx.mono a h fun r n1 h => ?_⟩
        obtain ⟨x, e, hf, h⟩ := truW_get h
        rw [e] at h ⊢
        refine ⟨hf, fun H1 G1 Z1 g1 o1 => ?_⟩
        cases ek : truD x with
        | true =>
          rw [ek] at h
          simp only [if_true] at h ⊢
          exact ⟨G1, Z1, n1, ρ, st.mono g1 o1, wpE_mono fx.mono b h fun r n2 h => truW_mono h fun k h H2 G2 Z2 g2 o2 => h H2 G2 Z2 (g1.trans g2) o2⟩
        | false =>
          rw [ek] at h
          simp only [Bool.false_eq_true, if_false] at h ⊢
          have := h.2 H1 G1 Z1 g1 o1
          rw [ek] at this
          exact this
  | .or a b, X, lb, sc, pe, Xt, Ew, fx, hsc, hp, h, hq => by
    unfold chkE at h
    cases pe <;> first | cases h | skip
    rename_i op vs q
    cases vs with
    | nil => cases h
    | cons x vs =>
      cases vs with
      | nil => cases h
      | cons y r =>
        simp only [Bool.and_eq_true] at h
        obtain ⟨⟨⟨⟨h0, ha⟩, hb⟩, h1⟩, h2⟩ := h
        cases op <;> first | cases h0 | skip
        refine PT.imp (pw_or (sndT a Xt Ew fx hsc hp h1 (sndE a Xt Ew fx hsc hp h1)) (pw_or2 (sndT b Xt Ew fx hsc hp h2 (sndE b Xt Ew fx hsc hp h2)))).pt ?_
        rintro σ H Q ⟨G, Z, n, ρ, st, h⟩
        unfold wpE at h
        show rdT Γ X.mg X.K Xt Ew a σ H _
        refine ⟨G, Z, n, ρ, st, wpE_mono fx.mono a h fun r n1 h => ?_⟩
        obtain ⟨x, e, hf, h⟩ := truW_get h
        rw [e] at h ⊢
        refine ⟨hf, fun H1 G1 Z1 g1 o1 => ?_⟩
        cases ek : truD x with
        | true =>
          rw [ek] at h
          simp only [if_true] at h ⊢
          have := h.2 H1 G1 Z1 g1 o1
          rw [ek] at this
          exact this
        | false =>
          rw [ek] at h
          simp only [Bool.false_eq_true, if_false] at h ⊢
          exact ⟨G1, Z1, n1, ρ, st.mono g1 o1, wpE_mono fx.mono b h fun r n2 h => truW_mono h fun k h H2 G2 Z2 g2 o2 => h H2 G2 Z2 (g1.trans g2) o2⟩
  | .ife c a b, X, lb, sc, pe, Xt, Ew, fx, hsc, hp, h, hq => by
    unfold chkE at h
    cases pe <;> first | cases h | skip
    simp only [Bool.and_eq_true] at h
    obtain ⟨⟨⟨⟨ha, hb⟩, h0⟩, h1⟩, h2⟩ := h
    refine PT.imp (pt_ife (sndT c Xt Ew fx hsc hp h0 (sndE c Xt Ew fx hsc hp h0)) (sndT a Xt Ew fx hsc hp h1 (sndE a Xt Ew fx hsc hp h1)) (sndT b Xt Ew fx hsc hp h2 (sndE b Xt Ew fx hsc hp h2))) ?_
    rintro σ H Q ⟨G, Z, n, ρ, st, h⟩
    unfold wpE at h
    show rdT Γ X.mg X.K Xt Ew c σ H _
    refine ⟨G, Z, n, ρ, st, wpE_mono fx.mono c h fun r n1 h => truW_mono h fun k h H1 G1 Z1 g1 o1 => ?_⟩
    have s1 := st.mono g1 o1
    cases k with
    | true =>
      simp only [if_true] at h ⊢
      exact ⟨G1, Z1, n1, ρ, s1, wpE_mono fx.mono a h fun r n2 h => truW_mono h fun k h H2 G2 Z2 g2 o2 => h H2 G2 Z2 (g1.trans g2) o2⟩
    | false =>
      simp only [Bool.false_eq_true, if_false] at h ⊢
      exact ⟨G1, Z1, n1, ρ, s1, wpE_mono fx.mono b h fun r n2 h => truW_mono h fun k h H2 G2 Z2 g2 o2 => h H2 G2 Z2 (g1.trans g2) o2⟩
  | .cmp o a b, X, lb, sc, pe, Xt, Ew, fx, hsc, hp, h, hq => by
    unfold chkE at h
    cases pe <;> first | cases h | skip
    rename_i l ops rs _
    cases ops with
    | nil => cases h
    | cons p ops =>
      cases ops with
      | cons _ _ => cases h
      | nil =>
        cases rs with
        | nil => cases h
        | cons r rs =>
          cases rs with
          | cons _ _ => cases h
          | nil =>
            simp only [Bool.and_eq_true] at h
            obtain ⟨⟨⟨h0, h1⟩, h2⟩, h3⟩ := h
            obtain rfl := copB_eq h0
            refine PT.imp (pt_cmpR (cmp_ok fx.un o) (sndE a Xt Ew fx hsc hp h1) (sndE b Xt Ew fx hsc hp h2) (mark_of h3 _)) ?_
            rintro σ H Q ⟨G, Z, n, ρ, st, h⟩
            unfold wpE at h
            show rd Γ X.mg X.K Xt Ew a σ H _
            refine stepA fx.mono st h fun x n1 v H1 G1 Z1 h g1 s1 w1 _ => stepA fx.mono s1 h fun y n2 v2 H2 G2 Z2 h g2 s2 w2 _ => ?_
            exact ⟨G2, Z2, n2, x.t, y.t, s2.ok, (w1.mono g2 s1.ok).weak, w2.weak, cmpW_mono h fun k hk => ⟨k, rfl, hk.2 H2 G2 Z2 (g1.trans g2) s2.ok⟩⟩
  | .chain o o' a b c, X, lb, sc, pe, Xt, Ew, fx, hsc, hp, h, hq => by
    unfold chkE at h
    cases pe <;> first | cases h | skip
    rename_i l ops rs _
    cases ops with
    | nil => cases h
    | cons p ops =>
      cases ops with
      | nil => cases h
      | cons p' ops =>
        cases ops with
        | cons _ _ => cases h
        | nil =>
          cases rs with
          | nil => cases h
          | cons r rs =>
            cases rs with
            | nil => cases h
            | cons r' rs =>
              cases rs with
              | cons _ _ => cases h
              | nil =>
                simp only [Bool.and_eq_true] at h
                obtain ⟨⟨⟨⟨⟨h0, h0'⟩, h1⟩, h2⟩, h3⟩, h4⟩ := h
                obtain rfl := copB_eq h0
                obtain rfl := copB_eq h0'
                refine PT.imp (pt_chain (cmp_ok fx.un o) (cmp_ok fx.un o') (sndE a Xt Ew fx hsc hp h1) (sndE b Xt Ew fx hsc hp h2) (sndE c Xt Ew fx hsc hp h3) (by show behindInMarks _ r' = false; exact mark_of h4 _)) ?_
                rintro σ H Q ⟨G, Z, n, ρ, st, h⟩
                unfold wpE at h
                show rd Γ X.mg X.K Xt Ew a σ H _
                refine stepA fx.mono st h fun x n1 v H1 G1 Z1 h g1 s1 w1 _ => stepA fx.mono s1 h fun y n2 v2 H2 G2 Z2 h g2 s2 w2 _ => ?_
                refine ⟨G2, Z2, n2, x.t, y.t, s2.ok, (w1.mono g2 s1.ok).weak, w2.weak, cmpW_mono h fun k hk => ⟨k, rfl, ?_⟩⟩
                cases k with
                | false =>
                  simp only [Bool.false_eq_true, if_false] at hk ⊢
                  exact ⟨false, rfl, hk.2 H2 G2 Z2 (g1.trans g2) s2.ok⟩
                | true =>
                  simp only [if_true] at hk ⊢
                  refine stepA fx.mono s2 hk fun z n3 v3 H3 G3 Z3 h g3 s3 w3 _ => ?_
                  exact ⟨G3, Z3, n3, y.t, z.t, s3.ok, (w2.mono g3 s2.ok).weak, w3.weak, cmpW_mono h fun k hk => ⟨k, rfl, hk.2 H3 G3 Z3 ((g1.trans g2).trans g3) s3.ok⟩⟩
  | .atm a, X, lb, sc, pe, Xt, Ew, fx, hsc, hp, h, hq => by
    unfold chkE at h
    have h : chkE Γ X.N lb sc a pe = true := by cases pe <;> exact h
    refine PT.imp (sndT a (fun er n => atomD er.x = true ∧ Xt er n) Ew fx hsc hp h (sndE a (fun er n => atomD er.x = true ∧ Xt er n) Ew fx hsc hp h)) ?_
    rintro σ H Q ⟨G, Z, n, ρ, st, h⟩
    unfold wpE at h
    refine ⟨G, dks H G Z, n, unown ρ, st.other, wpE_mono fx.mono a h fun r n1 h => truW_mono h.2 fun b h H1 G1 Z1 g1 o1 => ?_⟩
    obtain ⟨L, e, g, o⟩ := Gr.other g1 st.ok o1
    exact h H1 G1 _ g o
  | .c x, X, lb, sc, pe, Xt, Ew, fx, hsc, hp, h, hq => plain_pt fx.mono (by unfold chkE at h; cases pe <;> first | cases h | rfl) hq
  | .v i, X, lb, sc, pe, Xt, Ew, fx, hsc, hp, h, hq => plain_pt fx.mono (by unfold chkE at h; cases pe <;> first | cases h | rfl) hq
  | .w i, X, lb, sc, pe, Xt, Ew, fx, hsc, hp, h, hq => plain_pt fx.mono (by unfold chkE at h; cases pe <;> first | cases h | rfl) hq
  | .g k, X, lb, sc, pe, Xt, Ew, fx, hsc, hp, h, hq => plain_pt fx.mono (by unfold chkE at h; cases pe <;> first | cases h | rfl) hq
  | .bin o a b, X, lb, sc, pe, Xt, Ew, fx, hsc, hp, h, hq => plain_pt fx.mono (by unfold chkE at h; cases pe <;> first | cases h | rfl) hq
  | .lst l, X, lb, sc, pe, Xt, Ew, fx, hsc, hp, h, hq => plain_pt fx.mono (by unfold chkE at h; cases pe <;> first | cases h | rfl) hq
  | .tup l, X, lb, sc, pe, Xt, Ew, fx, hsc, hp, h, hq => plain_pt fx.mono (by unfold chkE at h; cases pe <;> first | cases h | rfl) hq
  | .dct kvs, X, lb, sc, pe, Xt, Ew, fx, hsc, hp, h, hq => plain_pt fx.mono (by unfold chkE at h; cases pe <;> first | cases h | rfl) hq
  | .gix i k, X, lb, sc, pe, Xt, Ew, fx, hsc, hp, h, hq => plain_pt fx.mono (by unfold chkE at h; cases pe <;> first | cases h | rfl) hq
  | .ix a i, X, lb, sc, pe, Xt, Ew, fx, hsc, hp, h, hq => plain_pt fx.mono (by unfold chkE at h; cases pe <;> first | cases h | rfl) hq
  | .sl a lo hi, X, lb, sc, pe, Xt, Ew, fx, hsc, hp, h, hq => plain_pt fx.mono (by unfold chkE at h; cases pe <;> first | cases h | rfl) hq
  | .rev a, X, lb, sc, pe, Xt, Ew, fx, hsc, hp, h, hq => plain_pt fx.mono (by unfold chkE at h; cases pe <;> first | cases h | rfl) hq
  | .call f l, X, lb, sc, pe, Xt, Ew, fx, hsc, hp, h, hq => plain_pt fx.mono (by unfold chkE at h; cases pe <;> first | cases h | rfl) hq
  | .callk f l pm ks, X, lb, sc, pe, Xt, Ew, fx, hsc, hp, h, hq => plain_pt fx.mono (by unfold chkE at h; cases pe <;> first | cases h | rfl) hq
  | .key b i a body, X, lb, sc, pe, Xt, Ew, fx, hsc, hp, h, hq => plain_pt fx.mono (by
      unfold chkE at h
      cases pe <;> first | (cases h; done) | rfl) hq
  | .dzip a b, X, lb, sc, pe, Xt, Ew, fx, hsc, hp, h, hq => plain_pt fx.mono (by
      unfold chkE at h
      cases pe <;> first | (cases h; done) | rfl) hq
  | .isi a t, X, lb, sc, pe, Xt, Ew, fx, hsc, hp, h, hq => plain_pt fx.mono (by unfold chkE at h; cases pe <;> first | cases h | rfl) hq
  | .lrg a, X, lb, sc, pe, Xt, Ew, fx, hsc, hp, h, hq => plain_pt fx.mono (by unfold chkE at h; cases pe <;> first | cases h | rfl) hq
  | .isi2 a t u, X, lb, sc, pe, Xt, Ew, fx, hsc, hp, h, hq => plain_pt fx.mono (by unfold chkE at h; cases pe <;> first | cases h | rfl) hq
  | .bi b l, X, lb, sc, pe, Xt, Ew, fx, hsc, hp, h, hq => plain_pt fx.mono (by unfold chkE at h; cases pe <;> first | cases h | rfl) hq
  | .mt m a l, X, lb, sc, pe, Xt, Ew, fx, hsc, hp, h, hq => plain_pt fx.mono (by unfold chkE at h; cases pe <;> first | cases h | rfl) hq
  | .lc own tg k src cnd elt, X, lb, sc, pe, Xt, Ew, fx, hsc, hp, h, hq => plain_pt fx.mono (by unfold chkE at h; cases pe <;> first | cases h | rfl) hq
  | .neg a, X, lb, sc, pe, Xt, Ew, fx, hsc, hp, h, hq => plain_pt fx.mono (by
      unfold chkE at h
      cases pe <;> first | cases h | skip
      rename_i op _ _
      cases op <;> first | cases h | rfl) hq
theorem sndSrc [TabsC] : ∀ (k : SK) (l : Es) {X : Cx} {lb : Bool} {sc : Scope} {t pe : Expr} (Xt : XE) (Ew : XS), Fx Γ X lb → X.env.scope = sc → (∀ σ, PassesAt (L2.CX X.prog X.w) X σ (Ew σ)) → zipT k t = true → chkSrc Γ X.N lb sc k l pe = true → PI X t pe (rdSrc Γ X.mg X.K Xt Ew k l)
  | .seq, .cons a .nil, X, lb, sc, t, pe, Xt, Ew, fx, hsc, hp, hz, h => by
    unfold chkSrc at h
    have h : (sg a && chkE Γ X.N lb sc a pe) = true := by cases pe <;> exact h
    rw [Bool.and_eq_true] at h
    obtain ⟨hs, h⟩ := h
    refine ⟨fun pins s σ H R I hh => ?_⟩
    obtain ⟨G, Z, n, ρ, st, hh⟩ := hh
    unfold wpEs wpEs at hh
    have key := stepA (R := fun v H1 => ∃ G1 Z1 n1 t, Ok G1 Z1 H1 n1 ∧ RV X.K true H1 G1 Z1 v t ∧ srcW .seq [t] fun ds => ∀ J H2, Gr G1 Z1 H1 G1 Z1 H2 → Ok G1 Z1 H2 n1 → (∀ P : List Addr, (∀ p ∈ P, H2 p = none) → ItD X.K G1 J (P ++ Z1) H2 ds) → ItD X.K Z1 J Z1 H2 ds → R J H2) fx.mono st hh
      fun x n1 v H1 G1 Z1 h g1 s1 w1 _ => ⟨G1, Z1, n1, x.t, s1.ok, by rw [hs] at w1; exact w1, srcW_mono h fun ds h J H2 g2 o2 a1 a2 => h J H2 G1 Z1 (g1.trans g2) o2 a1 fun _ => a2⟩
    exact thn ((sndE a Xt Ew fx hsc hp h).run pins s σ H _ I key) fun u s1 ⟨v, H1, I1, r1, G1, Z1, n1, t, o1, w1, q1⟩ => src_seq I1 o1 r1 w1 q1
  | .seqw, .cons a .nil, X, lb, sc, t, pe, Xt, Ew, fx, hsc, hp, hz, h => by
    unfold chkSrc at h
    have h : chkE Γ X.N lb sc a pe = true := by cases pe <;> exact h
    refine ⟨fun pins s σ H R I hh => ?_⟩
    obtain ⟨G, Z, n, ρ, st, hh⟩ := hh
    unfold wpEs wpEs at hh
    have key := stepA (R := fun v H1 => ∃ G1 Z1 n1 t, Ok G1 Z1 H1 n1 ∧ RV X.K (sg a) H1 G1 Z1 v t ∧ srcW .seqw [t] fun ds => ∀ J, (∀ P : List Addr, (∀ p ∈ P, H1 p = none) → ItD X.K G1 J (P ++ Z1) H1 ds) → (sg a = true → ItD X.K Z1 J Z1 H1 ds) → R J H1) fx.mono st hh
      fun x n1 v H1 G1 Z1 h g1 s1 w1 _ => ⟨G1, Z1, n1, x.t, s1.ok, w1, srcW_mono h fun ds h J a1 a2 => h J H1 G1 Z1 g1 s1.ok a1 fun e => a2 (by simpa [sgs] using e)⟩
    exact thn ((sndE a Xt Ew fx hsc hp h).run pins s σ H _ I key) fun u s1 ⟨v, H1, I1, r1, G1, Z1, n1, t, o1, w1, q1⟩ => src_seqw I1 o1 r1 w1 q1
  | .rng1, .cons a .nil, X, lb, sc, t, pe, Xt, Ew, fx, hsc, hp, hz, h => by
    unfold chkSrc at h
    cases pe <;> first | cases h | skip
    rename_i fn es kws pos
    cases fn <;> first | cases h | skip
    cases es with
    | nil => cases h
    | cons e es =>
      cases es with
      | cons _ _ => cases h
      | nil =>
        cases kws with
        | cons _ _ => cases h
        | nil =>
          simp only [Bool.and_eq_true, decide_eq_true_eq] at h
          obtain ⟨⟨⟨⟨h0, h1⟩, h2⟩, h3⟩, h4⟩ := h
          subst h0
          refine PI.imp (pi_range1 (gl_of hsc h2) (fx.bl _ h1) (pa_cons (sndE a Xt Ew fx hsc hp h4) pa_nil (star_of h3 _ _)) (star_of h3 _ _)) ?_
          rintro σ H R ⟨G, Z, n, ρ, st, h⟩
          unfold wpEs wpEs at h
          show rd Γ X.mg X.K Xt Ew a σ H _
          refine stepA fx.mono st h fun x n1 v H1 G1 Z1 h g1 s1 w1 _ => ?_
          obtain ⟨z, ez, h⟩ := src_rng1 h
          have w := w1.weak
          rw [ez] at w
          obtain rfl := w.int
          exact ⟨z, rfl, h.1, h.2.1, h.2.2 _ H1 G1 Z1 g1 s1.ok (fun P _ => by simpa using itd_range (lo := 0)) fun _ => by simpa using itd_range (lo := 0)⟩
  | .rng2, .cons a (.cons b .nil), X, lb, sc, t, pe, Xt, Ew, fx, hsc, hp, hz, h => by
    unfold chkSrc at h
    cases pe <;> first | cases h | skip
    rename_i fn es kws pos
    cases fn <;> first | cases h | skip
    cases es with
    | nil => cases h
    | cons e es =>
      cases es with
      | nil => cases h
      | cons e' es =>
        cases es with
        | cons _ _ => cases h
        | nil =>
          cases kws with
          | cons _ _ => cases h
          | nil =>
            simp only [Bool.and_eq_true, decide_eq_true_eq] at h
            obtain ⟨⟨⟨⟨⟨⟨h0, h1⟩, h2⟩, h3⟩, h3'⟩, h4⟩, h5⟩ := h
            subst h0
            refine PI.imp (pi_range2 (gl_of hsc h2) (fx.bl _ h1) (pa_cons (sndE a Xt Ew fx hsc hp h4) (pa_cons (sndE b Xt Ew fx hsc hp h5) pa_nil (star_of h3' _ _)) (star_of h3 _ _)) (by rw [star_of h3, star_of h3']; rfl) (star_of h3' _ _)) ?_
            rintro σ H R ⟨G, Z, n, ρ, st, h⟩
            unfold wpEs wpEs wpEs at h
            show rd Γ X.mg X.K Xt Ew a σ H _
            refine stepA fx.mono st h fun x n1 v H1 G1 Z1 h g1 s1 w1 _ => ?_
            show rd Γ X.mg X.K Xt Ew b σ H1 _
            refine stepA fx.mono s1 h fun y n2 v2 H2 G2 Z2 h g2 s2 w2 _ => ?_
            obtain ⟨i, j, ez, ez2, h⟩ := src_rng2 h
            have w := w1.weak
            rw [ez] at w
            obtain rfl := w.int
            have w := w2.weak
            rw [ez2] at w
            obtain rfl := w.int
            exact ⟨i, j, rfl, h.1, h.2 _ H2 G2 Z2 (g1.trans g2) s2.ok (fun P _ => itd_range) fun _ => itd_range⟩
  | .zip, .cons a (.cons b .nil), X, lb, sc, t, pe, Xt, Ew, fx, hsc, hp, hz, h => by
    unfold chkSrc at h
    cases pe <;> first | cases h | skip
    rename_i fn es kws pos
    cases fn <;> first | cases h | skip
    cases es with
    | nil => cases h
    | cons e es =>
      cases es with
      | nil => cases h
      | cons e' es =>
        cases es with
        | cons _ _ => cases h
        | nil =>
          cases kws with
          | cons _ _ => cases h
          | nil =>
            simp only [Bool.and_eq_true, decide_eq_true_eq] at h
            obtain ⟨⟨⟨⟨⟨⟨h0, h1⟩, h2⟩, h3⟩, h3'⟩, h4⟩, h5⟩ := h
            subst h0
            cases t <;> first | cases hz | skip
            refine PI.imp (RZ.pi_zipA (gl_of hsc h2) (fx.bl _ h1) (pa_cons (sndE a Xt Ew fx hsc hp h4) (pa_cons (sndE b Xt Ew fx hsc hp h5) pa_nil (star_of h3' _ _)) (star_of h3 _ _)) (star_of h3 _ _) (by rw [star_of h3']; rfl)) ?_
            rintro σ H R ⟨G, Z, n, ρ, st, h⟩
            unfold wpEs wpEs wpEs at h
            show rd Γ X.mg X.K Xt Ew a σ H _
            refine stepA fx.mono st h fun x n1 v H1 G1 Z1 h g1 s1 w1 _ => ?_
            show rd Γ X.mg X.K Xt Ew b σ H1 _
            refine stepA fx.mono s1 h fun y n2 v2 H2 G2 Z2 h g2 s2 w2 _ => ?_
            obtain ⟨xs, ys, ⟨ez, ez2⟩ | ⟨ez, ez2⟩, h⟩ := src_zip h
            · have w1' := w1.mono g2 s1.ok
              rw [ez] at w1'
              rw [ez2] at w2
              obtain ⟨p, vs, rfl, hp1, r1, np, f1⟩ := rv_list s2.ok w1'
              obtain ⟨q, ws, rfl, hq1, r2, nq, f2⟩ := rv_list s2.ok w2
              refine ⟨p, q, vs, ws, rfl, .inl ⟨.of hp1, .of hq1, h _ H2 G2 Z2 (g1.trans g2) s2.ok (fun P hP => itd_zip (fun a h => List.mem_append_right _ (s2.ok.sub a h)) np nq hp1 hq1 (RpA.le (mask_new hP) r1) (RpA.le (mask_new hP) r2)) fun e => ?_⟩⟩
              simp only [sgs, List.all_cons, List.all_nil, Bool.and_true, Bool.and_eq_true, id] at e
              exact itd_zip (fun _ y => y) (f1 e.1) (f2 e.2) hp1 hq1 r1 r2
            · have w1' := w1.mono g2 s1.ok
              rw [ez] at w1'
              rw [ez2] at w2
              obtain ⟨p, vs, rfl, hp1, r1⟩ := rv_tup w1'
              obtain ⟨q, ws, rfl, hq1, r2⟩ := rv_tup w2
              refine ⟨p, q, vs, ws, rfl, .inr ⟨mask_le.sqT hp1, mask_le.sqT hq1, h _ H2 G2 Z2 (g1.trans g2) s2.ok (fun P hP => itd_zipT (fun a h => List.mem_append_right _ (s2.ok.sub a h)) ((mask_new hP).sqT hp1) ((mask_new hP).sqT hq1) (RpA.le (mask_new hP) r1) (RpA.le (mask_new hP) r2)) fun e => ?_⟩⟩
              exact itd_zipT (fun _ y => y) hp1 hq1 r1 r2
  | .seq, .nil, X, lb, sc, t, pe, Xt, Ew, fx, hsc, hp, hz, h => by unfold chkSrc at h; cases h
  | .seqw, .nil, X, lb, sc, t, pe, Xt, Ew, fx, hsc, hp, hz, h => by unfold chkSrc at h; cases h
  | .rng1, .nil, X, lb, sc, t, pe, Xt, Ew, fx, hsc, hp, hz, h => by unfold chkSrc at h; cases h
  | .rng2, .nil, X, lb, sc, t, pe, Xt, Ew, fx, hsc, hp, hz, h => by unfold chkSrc at h; cases h
  | .zip, .nil, X, lb, sc, t, pe, Xt, Ew, fx, hsc, hp, hz, h => by unfold chkSrc at h; cases h
  | .seq, .cons _ (.cons _ _), X, lb, sc, t, pe, Xt, Ew, fx, hsc, hp, hz, h => by unfold chkSrc at h; cases h
  | .seqw, .cons _ (.cons _ _), X, lb, sc, t, pe, Xt, Ew, fx, hsc, hp, hz, h => by unfold chkSrc at h; cases h
  | .rng1, .cons _ (.cons _ _), X, lb, sc, t, pe, Xt, Ew, fx, hsc, hp, hz, h => by unfold chkSrc at h; cases h
  | .rng2, .cons _ .nil, X, lb, sc, t, pe, Xt, Ew, fx, hsc, hp, hz, h => by unfold chkSrc at h; cases h
  | .zip, .cons _ .nil, X, lb, sc, t, pe, Xt, Ew, fx, hsc, hp, hz, h => by unfold chkSrc at h; cases h
  | .rng2, .cons _ (.cons _ (.cons _ _)), X, lb, sc, t, pe, Xt, Ew, fx, hsc, hp, hz, h => by unfold chkSrc at h; cases h
  | .zip, .cons _ (.cons _ (.cons _ _)), X, lb, sc, t, pe, Xt, Ew, fx, hsc, hp, hz, h => by unfold chkSrc at h; cases h
theorem sndEs [TabsC] : ∀ (l : Es) {X : Cx} {lb : Bool} {sc : Scope} {pe : List Expr} (Xt : XE) (Ew : XS), Fx Γ X lb → X.env.scope = sc → (∀ σ, PassesAt (L2.CX X.prog X.w) X σ (Ew σ)) → chkEs Γ X.N lb sc l pe = true → PA X pe (rds Γ X.mg X.K Xt Ew l)
  | .nil, X, lb, sc, pe, Xt, Ew, fx, hsc, hp, h => by
    cases pe with
    | cons _ _ => unfold chkEs at h; cases h
    | nil =>
      refine PA.imp pa_nil ?_
      rintro σ H Q ⟨G, Z, n, ρ, st, h⟩
      unfold wpEs at h
      exact h [] H G Z Gr.refl st.ok trivial
  | .cons a l, X, lb, sc, pe, Xt, Ew, fx, hsc, hp, h => by
    cases pe with
    | nil => unfold chkEs at h; cases h
    | cons e es =>
      unfold chkEs at h
      simp only [Bool.and_eq_true] at h
      refine PA.imp (pa_cons (sndE a Xt Ew fx hsc hp h.1.2) (sndEs l Xt Ew fx hsc hp h.2) (star_of h.1.1 _ _)) ?_
      rintro σ H Q ⟨G, Z, n, ρ, st, h⟩
      unfold wpEs at h
      show rd Γ X.mg X.K Xt Ew a σ H _
      refine stepA fx.mono st h fun x n1 v H1 G1 Z1 h g1 s1 w1 _ => ?_
      show rds Γ X.mg X.K Xt Ew l σ H1 _
      refine stepAs fx.mono s1 h fun ts n2 vs H2 G2 Z2 h g2 s2 w2 => ?_
      exact h _ H2 G2 Z2 (g1.trans g2) s2.ok ⟨w1.mono g2 s1.ok, w2⟩
theorem sndKs [TabsC] : ∀ (l : Es) {X : Cx} {lb : Bool} {sc : Scope} {pe : List Keyword} (Xt : XE) (Ew : XS), Fx Γ X lb → X.env.scope = sc → (∀ σ, PassesAt (L2.CX X.prog X.w) X σ (Ew σ)) → chkKs Γ X.N lb sc l pe = true → PK X pe (rds Γ X.mg X.K Xt Ew l)
  | .nil, X, lb, sc, pe, Xt, Ew, fx, hsc, hp, h => by
    cases pe with
    | cons _ _ => unfold chkKs at h; cases h
    | nil =>
      refine PK.imp pk_nil ?_
      rintro σ H Q ⟨G, Z, n, ρ, st, h⟩
      unfold wpEs at h
      exact h [] H G Z Gr.refl st.ok trivial
  | .cons a l, X, lb, sc, pe, Xt, Ew, fx, hsc, hp, h => by
    cases pe with
    | nil => unfold chkKs at h; cases h
    | cons e es =>
      obtain ⟨nm, e, p⟩ := e
      unfold chkKs at h
      simp only [Bool.and_eq_true] at h
      refine PK.imp (pk_cons (sndE a Xt Ew fx hsc hp h.1) (sndKs l Xt Ew fx hsc hp h.2)) ?_
      rintro σ H Q ⟨G, Z, n, ρ, st, h⟩
      unfold wpEs at h
      show rd Γ X.mg X.K Xt Ew a σ H _
      refine stepA fx.mono st h fun x n1 v H1 G1 Z1 h g1 s1 w1 _ => ?_
      show rds Γ X.mg X.K Xt Ew l σ H1 _
      refine stepAs fx.mono s1 h fun ts n2 vs H2 G2 Z2 h g2 s2 w2 => ?_
      exact h _ H2 G2 Z2 (g1.trans g2) s2.ok ⟨w1.mono g2 s1.ok, w2⟩
end
end
end TL

set_option Elab.async false
set_option linter.all false
set_option maxRecDepth 100000
/-! TL13: statements: the small syntax, its meaning over trees. -/
namespace TL
open PySem PySem.Spec PyProof.Rows L2

mutual
inductive S where
  | ret (e : E) | retO (i : Nat) | set (i : Nat) (e : E) | upk (l : List Nat) (e : E) | par (l : List Nat) (es : Es)
  | app (i : Nat) (e : E) | ex (e : E) | gst (i k : Nat) (e : E)
  | ite (c : E) (a b : Ss) | for_ (tg : Tg) (k : SK) (src : Es) (b : Ss) | whl (c : E) (b : Ss)
  | ins (i : Nat) (a b : E) | ext (i : Nat) (e : E) | pset (j i : Nat) (l : Es) | papp (j i : Nat) (l : Es) | sub (i : Nat) (a e : E)
  | pass | brk | cont | raise (c : Nat) (e : E) | no
inductive Ss where
  | nil | cons (fz : List Nat) (s : S) (l : Ss)
end

/-- x.pop(), x.pop(z) -/
def popW (ds : List PyData) : List T → (PyData → List PyData → Prop) → Prop
  | [], Q => ∃ y, ds[ds.length - 1]? = some y ∧ Q y ds.dropLast
  | [.d (.int z)], Q => (-(2 ^ 62) ≤ z ∧ z < 2 ^ 62) ∧ ∃ k y, L2.ixN ds.length z = some k ∧ ds[k]? = some y ∧ Q y (ds.eraseIdx k)
  | _, _ => False
/-- x[a] = y -/
def subW : PyData → T → PyData → (PyData → Prop) → Prop
  | .list ds, .d (.int z), y, Q => ∃ k, L2.ixN ds.length z = some k ∧ Q (.list (ds.set k y))
  | .dict kvs, .d k, y, Q => (keyOk k ∧ kOk kvs ∧ kvs.length < sizeLine) ∧ Q (.dict (dPut kvs k y))
  | _, _, _, _ => False
theorem popW_mono {ds : List PyData} {ts : List T} {Q Q' : PyData → List PyData → Prop} (h : popW ds ts Q) (q : ∀ a b, Q a b → Q' a b) : popW ds ts Q' := by
  unfold popW at h ⊢
  split at h <;> first
    | exact h.elim
    | (obtain ⟨a, b, c⟩ := h; exact ⟨a, b, q _ _ c⟩)
    | (obtain ⟨o, k, a, b, c, d⟩ := h; exact ⟨o, k, a, b, c, q _ _ d⟩)
theorem subW_mono {c : PyData} {x : T} {y : PyData} {Q Q' : PyData → Prop} (h : subW c x y Q) (q : ∀ a, Q a → Q' a) : subW c x y Q' := by
  unfold subW at h ⊢
  split at h <;> first
    | exact h.elim
    | (obtain ⟨a, b, c⟩ := h; exact ⟨a, b, q _ c⟩)
    | exact ⟨h.1, q _ h.2⟩
theorem pop_int {ds : List PyData} {t : T} {Q : PyData → List PyData → Prop} (h : popW ds [t] Q) : ∃ z k y, t = .d (.int z) ∧ (-(2 ^ 62) ≤ z ∧ z < 2 ^ 62) ∧ L2.ixN ds.length z = some k ∧ ds[k]? = some y ∧ Q y (ds.eraseIdx k) := by
  cases t with
  | gen => exact h.elim
  | scr _ => exact h.elim
  | d x =>
    cases x <;> first | exact h.elim | skip
    obtain ⟨o, k, y, h⟩ := h
    exact ⟨_, k, y, rfl, o, h⟩
theorem sub_cases {c : PyData} {x : T} {y : PyData} {Q : PyData → Prop} (h : subW c x y Q) : (∃ ds z k, c = .list ds ∧ x = .d (.int z) ∧ L2.ixN ds.length z = some k ∧ Q (.list (ds.set k y))) ∨
    ∃ kvs k, c = .dict kvs ∧ x = .d k ∧ (keyOk k ∧ kOk kvs ∧ kvs.length < sizeLine) ∧ Q (.dict (dPut kvs k y)) := by
  cases c with
  | list ds =>
    cases x with
    | gen => exact h.elim
    | scr _ => exact h.elim
    | d x =>
      cases x <;> first | exact h.elim | skip
      obtain ⟨k, e, h⟩ := h
      exact .inl ⟨ds, _, k, rfl, rfl, e, h⟩
  | dict kvs =>
    cases x with
    | gen => exact h.elim
    | scr _ => exact h.elim
    | d x => exact .inr ⟨kvs, x, rfl, rfl, h.1, h.2⟩
  | none => cases x <;> exact h.elim
  | bool b => cases x <;> exact h.elim
  | int i => cases x <;> exact h.elim
  | str s => cases x <;> exact h.elim
  | tuple l => cases x <;> exact h.elim
structure EndT where
  nx : Ev → Nat → Prop
  rt : R → Nat → Prop
  bk : Ev → Nat → Prop := fun _ _ => False
  ct : Ev → Nat → Prop := fun _ _ => False

/-- a name's list is no more its own -/
def frz1 (ρ : Ev) (i : Nat) : Ev := match ρ[i]? with
  | some (some (_, t)) => ρ.set i (some (false, t))
  | _ => ρ
def frz : List Nat → Ev → Ev
  | [], ρ => ρ
  | i :: l, ρ => frz l (frz1 ρ i)

def forGo (tg : Tg) (body : EndT → Ev → Nat → Prop) (D : EndT) : List PyData → Ev → Nat → Prop
  | [], ρ, n => D.nx ρ n
  | x :: xs, ρ, n => ∃ ρ', asgD tg x ρ = some ρ' ∧ body { D with nx := forGo tg body D xs, ct := forGo tg body D xs, bk := D.nx } ρ' n
def whlGo (test : Ev → Nat → (Bool → Nat → Prop) → Prop) (body : EndT → Ev → Nat → Prop) (D : EndT) (ρ : Ev) (n : Nat) : Prop :=
  ∃ W : Nat → Ev → Nat → Prop, (∃ m, W m ρ n) ∧ ∀ m ρ n, W m ρ n → test ρ n fun k n =>
    if k = true then body { D with nx := fun ρ n => ∃ m', m' < m ∧ W m' ρ n, ct := fun ρ n => ∃ m', m' < m ∧ W m' ρ n, bk := D.nx } ρ n else D.nx ρ n

mutual
def wpS (Φ : Nat → TSp) (C : Nat → PyData) (X : XE) : S → EndT → Ev → Nat → Prop
  | .ret e, D, ρ, n => wpE Φ C X e ρ n D.rt
  | .retO i, D, ρ, n => ∃ t, ρ[i]? = some (some (true, t)) ∧ D.rt ⟨t, true⟩ n
  | .set i e, D, ρ, n => wpE Φ C X e ρ n fun r n => D.nx (ρ.set i (some (r.fr, r.t))) n
  | .upk l e, D, ρ, n => wpE Φ C X e ρ n fun r n => ∃ x ρ', r.t = .d x ∧ asgD (.tp l) x ρ = some ρ' ∧ D.nx ρ' n
  | .par l es, D, ρ, n => wpEf Φ C X es ρ n fun rs n => D.nx (setR l rs ρ) n
  | .app i e, D, ρ, n => ∃ ds, ρ[i]? = some (some (true, .d (.list ds))) ∧ wpE Φ C X e ρ n fun r n => ∃ y, r.t = .d y ∧ ds.length < sizeLine ∧ D.nx (ρ.set i (some (true, .d (.list (ds ++ [y]))))) n
  | .ins i a b, D, ρ, n => ∃ ds, ρ[i]? = some (some (true, .d (.list ds))) ∧ wpE Φ C X a ρ n fun x n => wpE Φ C X b ρ n fun r n => ∃ z y, x.t = .d (.int z) ∧ r.t = .d y ∧ (0 ≤ z ∧ z < 2 ^ 62 ∧ ds.length < sizeLine) ∧ D.nx (ρ.set i (some (true, .d (.list (ds.take z.toNat ++ [y] ++ ds.drop z.toNat))))) n
  | .ext i e, D, ρ, n => ∃ ds, ρ[i]? = some (some (true, .d (.list ds))) ∧ wpE Φ C X e ρ n fun r n => ∃ ys, r.t = .d (.list ys) ∧ ds.length + ys.length ≤ sizeLine ∧ D.nx (ρ.set i (some (true, .d (.list (ds ++ ys))))) n
  | .pset j i l, D, ρ, n => ∃ ds, ρ[i]? = some (some (true, .d (.list ds))) ∧ wpEs Φ C X l ρ n fun ts n => popW ds ts fun y ds' => D.nx ((ρ.set i (some (true, .d (.list ds')))).set j (some (false, .d y))) n
  | .papp j i l, D, ρ, n => ∃ ds es, ρ[i]? = some (some (true, .d (.list ds))) ∧ ρ[j]? = some (some (true, .d (.list es))) ∧ es.length < sizeLine ∧ wpEs Φ C X l ρ n fun ts n => popW ds ts fun y ds' => D.nx ((ρ.set i (some (true, .d (.list ds')))).set j (some (true, .d (.list (es ++ [y]))))) n
  | .sub i a e, D, ρ, n => ∃ c, ρ[i]? = some (some (true, .d c)) ∧ wpE Φ C X e ρ n fun r n => ∃ y, r.t = .d y ∧ wpE Φ C X a ρ n fun x n => subW c x.t y fun c' => D.nx (ρ.set i (some (true, .d c'))) n
  | .ex e, D, ρ, n => wpE Φ C X e ρ n fun _ n => D.nx ρ n
  | .gst i k e, D, ρ, n => wpE Φ C X e ρ n fun r n => ∃ b, ρ[i]? = some (some (b, .gen)) ∧ ∃ z n', r.t = .d (.int z) ∧ n ≤ n' ∧ genB k n' z ∧ D.nx ρ n'
  | .ite c a b, D, ρ, n => wpE Φ C X c ρ n fun r n => truW r.t fun k => if k = true then wpSs Φ C X a D ρ n else wpSs Φ C X b D ρ n
  | .for_ tg k src b, D, ρ, n => wpEs Φ C X src ρ n fun ts n => srcW k ts fun ds => forGo tg (fun D ρ n => wpSs Φ C X b D ρ n) D ds ρ n
  | .whl c b, D, ρ, n => whlGo (fun ρ n Q => wpE Φ C X c ρ n fun r n => truW r.t fun k => Q k n) (fun D ρ n => wpSs Φ C X b D ρ n) D ρ n
  | .pass, D, ρ, n => D.nx ρ n
  | .brk, D, ρ, n => D.bk ρ n
  | .cont, D, ρ, n => D.ct ρ n
  | .raise c e, D, ρ, n => wpE Φ C X e ρ n fun r n => ∃ x, r.t = .d x ∧ X ⟨c, x⟩ n
  | .no, _, _, _ => False
def wpSs (Φ : Nat → TSp) (C : Nat → PyData) (X : XE) : Ss → EndT → Ev → Nat → Prop
  | .nil, D, ρ, n => D.nx ρ n
  | .cons fz s l, D, ρ, n => wpS Φ C X s { D with nx := wpSs Φ C X l D } (frz fz ρ) n
end

structure EndT.le (D D' : EndT) : Prop where
  nx : ∀ ρ n, D.nx ρ n → D'.nx ρ n
  rt : ∀ r n, D.rt r n → D'.rt r n
  bk : ∀ ρ n, D.bk ρ n → D'.bk ρ n
  ct : ∀ ρ n, D.ct ρ n → D'.ct ρ n
theorem EndT.le.refl {D : EndT} : D.le D := ⟨fun _ _ h => h, fun _ _ h => h, fun _ _ h => h, fun _ _ h => h⟩
theorem forGo_mono {tg : Tg} {body : EndT → Ev → Nat → Prop} (hb : ∀ D D' ρ n, D.le D' → body D ρ n → body D' ρ n) {D D' : EndT} (l : D.le D') : ∀ (ds : List PyData) (ρ : Ev) (n : Nat), forGo tg body D ds ρ n → forGo tg body D' ds ρ n
  | [], ρ, n, h => l.nx _ _ h
  | x :: xs, ρ, n, h => by
    obtain ⟨ρ', e, h⟩ := h
    refine ⟨ρ', e, hb _ _ _ _ ?_ h⟩
    exact ⟨fun _ _ => forGo_mono hb l xs _ _, l.rt, l.nx, fun _ _ => forGo_mono hb l xs _ _⟩
theorem whlGo_mono {test : Ev → Nat → (Bool → Nat → Prop) → Prop} {body : EndT → Ev → Nat → Prop} (ht : ∀ ρ n (Q Q' : Bool → Nat → Prop), test ρ n Q → (∀ k n, Q k n → Q' k n) → test ρ n Q') (hb : ∀ D D' ρ n, D.le D' → body D ρ n → body D' ρ n) {D D' : EndT} (l : D.le D')
    {ρ : Ev} {n : Nat} (h : whlGo test body D ρ n) : whlGo test body D' ρ n := by
  obtain ⟨W, h0, h⟩ := h
  refine ⟨W, h0, fun m ρ n w => ht _ _ _ _ (h m ρ n w) fun k n q => ?_⟩
  cases k with
  | true =>
    simp only [if_true] at q ⊢
    refine hb _ _ _ _ ?_ q
    exact ⟨fun _ _ h => h, l.rt, l.nx, fun _ _ h => h⟩
  | false =>
    simp only [Bool.false_eq_true, if_false] at q ⊢
    exact l.nx _ _ q
mutual
theorem wpS_mono {Φ : Nat → TSp} {C : Nat → PyData} (M : MonoPh Φ) : ∀ {X : XE} (s : S) {D D' : EndT} {ρ : Ev} {n : Nat}, D.le D' → wpS Φ C X s D ρ n → wpS Φ C X s D' ρ n
  | X, .ret e, D, D', ρ, n, l, h => wpE_mono M e h l.rt
  | X, .retO i, D, D', ρ, n, l, ⟨t, e, h⟩ => ⟨t, e, l.rt _ _ h⟩
  | X, .set i e, D, D', ρ, n, l, h => wpE_mono M e h fun _ _ h => l.nx _ _ h
  | X, .upk v e, D, D', ρ, n, l, h => wpE_mono M e h fun _ _ ⟨x, ρ', e1, e2, h⟩ => ⟨x, ρ', e1, e2, l.nx _ _ h⟩
  | X, .par v es, D, D', ρ, n, l, h => wpEf_mono M es h fun _ _ h => l.nx _ _ h
  | X, .app i e, D, D', ρ, n, l, ⟨ds, e1, h⟩ => ⟨ds, e1, wpE_mono M e h fun _ _ ⟨y, e1, e2, h⟩ => ⟨y, e1, e2, l.nx _ _ h⟩⟩
  | X, .ins i a b, D, D', ρ, n, l, ⟨ds, e1, h⟩ => ⟨ds, e1, wpE_mono M a h fun _ _ h => wpE_mono M b h fun _ _ ⟨z, y, e2, e3, o, h⟩ => ⟨z, y, e2, e3, o, l.nx _ _ h⟩⟩
  | X, .ext i e, D, D', ρ, n, l, ⟨ds, e1, h⟩ => ⟨ds, e1, wpE_mono M e h fun _ _ ⟨ys, e2, o, h⟩ => ⟨ys, e2, o, l.nx _ _ h⟩⟩
  | X, .pset j i es, D, D', ρ, n, l, ⟨ds, e1, h⟩ => ⟨ds, e1, wpEs_mono M es h fun _ _ h => popW_mono h fun _ _ => l.nx _ _⟩
  | X, .papp j i es, D, D', ρ, n, l, ⟨ds, ds2, e1, e2, e3, h⟩ => ⟨ds, ds2, e1, e2, e3, wpEs_mono M es h fun _ _ h => popW_mono h fun _ _ => l.nx _ _⟩
  | X, .sub i a e, D, D', ρ, n, l, ⟨c, e1, h⟩ => ⟨c, e1, wpE_mono M e h fun _ _ ⟨y, e2, h⟩ => ⟨y, e2, wpE_mono M a h fun _ _ h => subW_mono h fun _ => l.nx _ _⟩⟩
  | X, .ex e, D, D', ρ, n, l, h => wpE_mono M e h fun _ _ h => l.nx _ _ h
  | X, .gst i k e, D, D', ρ, n, l, h => wpE_mono M e h fun _ _ ⟨b, e1, z, n', e2, e3, e4, h⟩ => ⟨b, e1, z, n', e2, e3, e4, l.nx _ _ h⟩
  | X, .ite c a b, D, D', ρ, n, l, h => wpE_mono M c h fun _ _ h => truW_mono h fun k h => by
      cases k with
      | true =>
        simp only [if_true] at h ⊢
        exact wpSs_mono M a l h
      | false =>
        simp only [Bool.false_eq_true, if_false] at h ⊢
        exact wpSs_mono M b l h
  | X, .for_ tg k src b, D, D', ρ, n, l, h => by
      unfold wpS at h ⊢
      exact wpEs_mono M src h fun _ _ h => srcW_mono h fun ds h => forGo_mono (body := fun D ρ n => wpSs Φ C X b D ρ n) (fun _ _ _ _ l h => wpSs_mono M b l h) l ds _ _ h
  | X, .whl c b, D, D', ρ, n, l, h => by
      unfold wpS at h ⊢
      exact whlGo_mono (test := fun ρ n Q => wpE Φ C X c ρ n fun r n => truW r.t fun k => Q k n) (body := fun D ρ n => wpSs Φ C X b D ρ n) (fun _ _ _ _ h q => wpE_mono M c h fun _ _ h => truW_mono h fun k h => q _ _ h) (fun _ _ _ _ l h => wpSs_mono M b l h) l h
  | X, .pass, D, D', ρ, n, l, h => l.nx _ _ h
  | X, .brk, D, D', ρ, n, l, h => l.bk _ _ h
  | X, .cont, D, D', ρ, n, l, h => l.ct _ _ h
  | X, .raise c e, D, D', ρ, n, l, h => h
  | X, .no, D, D', ρ, n, l, h => h
theorem wpSs_mono {Φ : Nat → TSp} {C : Nat → PyData} (M : MonoPh Φ) : ∀ {X : XE} (s : Ss) {D D' : EndT} {ρ : Ev} {n : Nat}, D.le D' → wpSs Φ C X s D ρ n → wpSs Φ C X s D' ρ n
  | X, .nil, D, D', ρ, n, l, h => l.nx _ _ h
  | X, .cons fz s r, D, D', ρ, n, l, h => by
      unfold wpSs at h ⊢
      refine wpS_mono M s ?_ h
      exact ⟨fun _ _ h => wpSs_mono M r l h, l.rt, l.bk, l.ct⟩
end

/-! ### the state between statements -/
/-- what stays true of the heap and the mask, whatever is done -/
structure Iv [TabsC] (I : Hp → List Addr → Prop) : Prop where
  grow : ∀ {H Zm G G1 Y1 H1 n}, I H Zm → Ok G Zm H n → Gr G Zm H G1 Y1 H1 → I H1 Y1
  new : ∀ {H Zm G G1 Y1 H1 n p}, I H Zm → Ok G Zm H n → Gr G Zm H G1 Y1 H1 → H p = none → I H1 (p :: Y1)
  wr : ∀ {H Zm p o}, I H Zm → p ∈ Zm → H p ≠ none → I (upd H p o) Zm
  sub : ∀ {H Zm Z'}, I H Zm → (∀ a ∈ Z', a ∈ Zm) → I H Z'
/-- own: the lists of the names' own at O; nothing of O is reached otherwise -/
structure Sm [TabsC] (K : PySem.W.Frag) (I : Hp → List Addr → Prop) (G0 Z0 : List Addr) (H0 : Hp) (σ : L2.St) (ρ : Ev) (H : Hp) (n : Nat) (G Z Zm O : List Addr) : Prop where
  g : Gr G0 Z0 H0 G Z H
  mem : ∀ a, a ∈ Zm ↔ a ∈ O ∨ a ∈ Z
  ok : Ok G Zm H n
  own : ∀ p ∈ O, H0 p = none ∧ p ∉ G
  env : EnvR K H G Zm σ ρ
  at_ : ∀ (i : Nat) (t : T), ρ[i]? = some (some (true, t)) → ∃ p, p ∈ O ∧ σ[i]? = some (some (V.ref p))
  inj : ∀ (i j : Nat) (t u : T) (p : Addr), ρ[i]? = some (some (true, t)) → ρ[j]? = some (some (true, u)) → σ[i]? = some (some (V.ref p)) → σ[j]? = some (some (V.ref p)) → i = j
  len : ρ.length = σ.length
  inv : I H Zm
def SmE [TabsC] (K : PySem.W.Frag) (I : Hp → List Addr → Prop) (G0 Z0 : List Addr) (H0 : Hp) (σ : L2.St) (ρ : Ev) (H : Hp) (n : Nat) : Prop := ∃ G Z Zm O, Sm K I G0 Z0 H0 σ ρ H n G Z Zm O
section
variable {mg : Str → Option Value} {cn : Nat → Str} {K : PySem.W.Frag} {Xt : XE} {Ew : XK} {G0 Z0 G Z Zm O G1 Y1 : List Addr} {H0 H H1 : Hp} {n0 n n1 : Nat} {σ : L2.St} {ρ : Ev} {I : Hp → List Addr → Prop}
theorem Ok.ofZ [TabsC] (o : Ok G Zm H n) (s : ∀ a ∈ Z, a ∈ Zm) (g : ∀ a ∈ G, a ∈ Z) : Ok G Z H n := ⟨g, fun z hz => o.dom z (s z hz), o.gen, o.tab⟩
theorem Gr.subGZ [TabsC] (o : Ok G0 Z0 H0 n0) (g : Gr G0 Z0 H0 G Z H) : ∀ a ∈ G, a ∈ Z := by
  obtain ⟨L, rfl, rfl, _⟩ := g.new
  intro a h
  rcases List.mem_append.mp h with h | h
  · exact List.mem_append_left _ h
  · exact List.mem_append_right _ (o.sub a h)
/-- a write where nothing stood at the entry, or at a generator -/
theorem Gr.wrG {p : Addr} {o : HO} (g : Gr G0 Z0 H0 G Z H) (h : H0 p ≠ none → p ∈ G0) : Gr G0 Z0 H0 G Z (L2.upd H p o) := by
  have ne : ∀ {a : Addr} {u : HO}, a ∉ G0 → H0 a = some u → a ≠ p := fun {a u} h1 h2 z => by
    subst z
    exact h1 (h (by rw [h2]; simp))
  refine ⟨fun a u h1 h2 => ?_, fun a u h1 hz nt h2 => by rw [upd_ne (ne h1 h2)]; exact g.exz a u h1 hz nt h2, fun a h1 => ?_, g.new⟩
  · have := g.ext a u h1 h2
    unfold Ex at this ⊢
    rw [upd_ne (ne h1 h2)]
    exact this
  · by_cases z : a = p
    · subst z; rw [upd_same]; simp
    · rw [upd_ne z]; exact g.dom a h1
theorem Sm.subZ [TabsC] (s : Sm K I G0 Z0 H0 σ ρ H n G Z Zm O) : ∀ a ∈ Z, a ∈ Zm := fun a h => (s.mem a).mpr (.inr h)
theorem Sm.okZ [TabsC] (o0 : Ok G0 Z0 H0 n0) (s : Sm K I G0 Z0 H0 σ ρ H n G Z Zm O) : Ok G Z H n := s.ok.ofZ s.subZ (s.g.subGZ o0)
/-- a growth seen from the entry: the mask less what is one's own -/
theorem Sm.grow [TabsC] (o0 : Ok G0 Z0 H0 n0) (s : Sm K I G0 Z0 H0 σ ρ H n G Z Zm O) (g : Gr G Zm H G1 Y1 H1) (o : Ok G1 Y1 H1 n1) : ∃ Z1, Gr G Z H G1 Z1 H1 ∧ Gr G0 Z0 H0 G1 Z1 H1 ∧ Ok G1 Z1 H1 n1 ∧ (∀ a, a ∈ Y1 ↔ a ∈ O ∨ a ∈ Z1) ∧ (∀ a ∈ Z1, a ∈ Y1) := by
  obtain ⟨L, rfl, rfl, hL⟩ := g.new
  have mem : ∀ a, a ∈ L ++ Zm ↔ a ∈ O ∨ a ∈ L ++ Z := fun a => by
    rw [List.mem_append, List.mem_append, s.mem]
    constructor
    · rintro (h | h | h)
      · exact .inr (.inl h)
      · exact .inl h
      · exact .inr (.inr h)
    · rintro (h | h | h)
      · exact .inr (.inl h)
      · exact .inl h
      · exact .inr (.inr h)
  have gz : Gr G Z H (L ++ G) (L ++ Z) H1 := ⟨g.ext, fun a o h1 h2 => g.exz a o h1 (s.subZ a h2), g.dom, L, rfl, rfl, hL⟩
  have g2 := s.g.trans gz
  refine ⟨L ++ Z, gz, g2, o.ofZ (fun a h => (mem a).mpr (.inr h)) (g2.subGZ o0), mem, fun a h => (mem a).mpr (.inr h)⟩
theorem Sm.stt [TabsC] (o0 : Ok G0 Z0 H0 n0) (s : Sm K I G0 Z0 H0 σ ρ H n G Z Zm O) (w : Wsh mg cn K Xt Ew G0 Z0 H0) : Stt mg cn K Xt Ew G Zm H n σ ρ := by
  refine ⟨s.ok, s.env, fun er n' cls d H' G' Z' x g o e => ?_, s.len⟩
  obtain ⟨Z1, _, g1, o1, _, sub⟩ := s.grow o0 g o
  exact w er n' cls d H' G' Z1 x g1 o1 (e.sub sub)
theorem own_new [TabsC] (s : Sm K I G0 Z0 H0 σ ρ H n G Z Zm O) (g : Gr G Zm H G1 Y1 H1) : ∀ p ∈ O, H0 p = none ∧ p ∉ G1 := fun p hp => by
  refine ⟨(s.own p hp).1, ?_⟩
  obtain ⟨L, rfl, rfl, hL⟩ := g.new
  intro h
  rcases List.mem_append.mp h with h | h
  · exact s.ok.dom p ((s.mem p).mpr (.inl hp)) (hL p h)
  · exact (s.own p hp).2 h
/-- behind an expression -/
theorem Sm.mono [TabsC] (iv : Iv I) (o0 : Ok G0 Z0 H0 n0) (s : Sm K I G0 Z0 H0 σ ρ H n G Z Zm O) (g : Gr G Zm H G1 Y1 H1) (o : Ok G1 Y1 H1 n1) : ∃ Z1, Sm K I G0 Z0 H0 σ ρ H1 n1 G1 Z1 Y1 O := by
  obtain ⟨Z1, _, g1, o1, mem, sub⟩ := s.grow o0 g o
  exact ⟨Z1, g1, mem, o, own_new s g, s.env.mono g s.ok, s.at_, s.inj, s.len, iv.grow s.inv s.ok g⟩
end
end TL

set_option Elab.async false
set_option linter.all false
set_option maxRecDepth 100000
/-! TL14: the steps from state to state. -/
namespace TL
open PySem PySem.Spec PyProof.Rows L2
section
variable {mg : Str → Option Value} {cn : Nat → Str} {K : PySem.W.Frag} {Xt : XE} {Ew : XK} {G0 Z0 G Z Zm O G1 Y1 : List Addr} {H0 H H1 : Hp} {n0 n n1 : Nat} {σ : L2.St} {ρ : Ev} {v : V} {t : T} {i : Nat} {I : Hp → List Addr → Prop}
theorem set_get {α : Type} {l : List α} {i j : Nat} {a b : α} (e : (l.set i a)[j]? = some b) : (i = j ∧ a = b) ∨ (i ≠ j ∧ l[j]? = some b) := by
  by_cases h : i = j
  · subst h
    by_cases hl : i < l.length
    · rw [List.getElem?_set_self hl] at e
      cases e
      exact .inl ⟨rfl, rfl⟩
    · rw [List.getElem?_eq_none (by simpa using hl)] at e; cases e
  · rw [List.getElem?_set_ne h] at e
    exact .inr ⟨h, e⟩
theorem set_at {α : Type} {l : List α} {i j : Nat} {a : α} (h : i ≠ j) : (l.set i a)[j]? = l[j]? := List.getElem?_set_ne h
/-- a name gets a value -/
theorem Sm.setv [TabsC] (s : Sm K I G0 Z0 H0 σ ρ H n G Z Zm O) (r : RpT K H G Zm v t) : Sm K I G0 Z0 H0 (σ.set i (some v)) (ρ.set i (some (false, t))) H n G Z Zm O := by
  refine ⟨s.g, s.mem, s.ok, s.own, s.env.set s.len r, fun j u e => ?_, fun j k u u' p e1 e2 e3 e4 => ?_, by rw [List.length_set, List.length_set]; exact s.len, s.inv⟩
  · rcases set_get e with ⟨_, e⟩ | ⟨h, e⟩
    · cases e
    · obtain ⟨p, hp, e2⟩ := s.at_ j u e
      exact ⟨p, hp, by rw [set_at h]; exact e2⟩
  · rcases set_get e1 with ⟨_, e⟩ | ⟨h, e1⟩
    · cases e
    · rcases set_get e2 with ⟨_, e⟩ | ⟨h', e2⟩
      · cases e
      · rw [set_at h] at e3
        rw [set_at h'] at e4
        exact s.inj j k u u' p e1 e2 e3 e4
theorem Sm.notZ [TabsC] (o0 : Ok G0 Z0 H0 n0) (s : Sm K I G0 Z0 H0 σ ρ H n G Z Zm O) {p : Addr} (hp : p ∈ O) : p ∉ Z := by
  obtain ⟨L, e1, e2, _⟩ := s.g.new
  obtain ⟨h1, h2⟩ := s.own p hp
  intro z
  rw [e2] at z
  rcases List.mem_append.mp z with z | z
  · exact h2 (by rw [e1]; exact List.mem_append_left _ z)
  · exact o0.dom p z h1
/-- a name gets a new object of its own -/
theorem Sm.setF [TabsC] (iv : Iv I) (s : Sm K I G0 Z0 H0 σ ρ H n G Z Zm O) (o0 : Ok G0 Z0 H0 n0) (g : Gr G Zm H G1 Y1 H1) (o : Ok G1 Y1 H1 n1) (r : RpT K H1 G1 Y1 v t) (f : Fresh K H H1 Y1 v t) : SmE K I G0 Z0 H0 (σ.set i (some v)) (ρ.set i (some (true, t))) H1 n1 := by
  obtain ⟨Z1, _, g1, o1, mem, sub⟩ := s.grow o0 g o
  have key : ∃ p, v = .ref p ∧ H p = none ∧ H1 p ≠ none ∧ p ∉ G1 ∧ OwnT K H1 G1 (p :: Y1) v t := by
    cases t with
    | gen => exact f.elim
    | scr _ => exact f.elim
    | d x =>
      have r : Rp K (mask H1 Y1) v x := r
      cases x with
      | list ds =>
        obtain ⟨p, vs, rfl, h1, h2, h3⟩ := f
        have nY : p ∉ Y1 := by cases r with | lst h _ => exact (mask_some h).1
        exact ⟨p, rfl, h1, by rw [h2]; simp, fun z => nY (o.sub p z), p, vs, rfl, fun z => nY (o.sub p z), h2, h3⟩
      | dict ds =>
        obtain ⟨p, rfl, h1, h2⟩ := f
        have nY : p ∉ G1 := fun z => by
          obtain ⟨a, m, c, hg, _⟩ := o.gen p z
          rcases h2 with ⟨kvs, h2, _⟩ | ⟨kvs, h2, _⟩ <;> (rw [h2] at hg; cases hg)
        refine ⟨p, rfl, h1, ?_, nY, p, rfl, ⟨nY, List.mem_cons_self ..⟩, h2⟩
        rcases h2 with ⟨kvs, h2, _⟩ | ⟨kvs, h2, _⟩ <;> (rw [h2]; simp)
      | none => exact f.elim
      | bool b => exact f.elim
      | int i => exact f.elim
      | str s => exact f.elim
      | tuple l => exact f.elim
  obtain ⟨p, rfl, hp, hp1, pG, ow⟩ := key
  have h0 : H0 p = none := by
    cases q : H0 p with
    | none => rfl
    | some ob => exact absurd hp (s.g.dom p (by rw [q]; simp))
  have nO : p ∉ O := fun z => s.ok.dom p ((s.mem p).mpr (.inl z)) hp
  have env := s.env.lock s.ok hp g
  refine ⟨G1, Z1, p :: Y1, p :: O, g1, fun a => ?_, ⟨fun a h => List.mem_cons_of_mem _ (o.sub a h), fun z h => ?_, o.gen, o.tab⟩, fun q hq => ?_, fun j b u e => ?_, fun j u e => ?_, fun j k u u' q e1 e2 e3 e4 => ?_, by rw [List.length_set, List.length_set]; exact s.len, iv.new s.inv s.ok g hp⟩
  · rw [List.mem_cons, List.mem_cons, mem]
    constructor
    · rintro (h | h | h)
      · exact .inl (.inl h)
      · exact .inl (.inr h)
      · exact .inr h
    · rintro ((h | h) | h)
      · exact .inl h
      · exact .inr (.inl h)
      · exact .inr (.inr h)
  · rcases List.mem_cons.mp h with rfl | h
    · exact hp1
    · exact o.dom z h
  · rcases List.mem_cons.mp hq with rfl | hq
    · exact ⟨h0, pG⟩
    · exact own_new s g q hq
  · rcases set_get e with ⟨rfl, e'⟩ | ⟨h, e⟩
    · have hl : i < ρ.length := by
        have := (List.getElem?_eq_some_iff.mp e).1
        simpa using this
      cases e'
      exact ⟨.ref p, List.getElem?_set_self (by rw [← s.len]; exact hl), (fun z => nomatch z), fun _ => ow⟩
    · obtain ⟨w, e1, e2⟩ := env j b u e
      exact ⟨w, by rw [set_at h]; exact e1, e2⟩
  · rcases set_get e with ⟨rfl, _⟩ | ⟨h, e⟩
    · have hl : i < ρ.length := by
        have := (List.getElem?_eq_some_iff.mp e).1
        simpa using this
      exact ⟨p, List.mem_cons_self .., List.getElem?_set_self (by rw [← s.len]; exact hl)⟩
    · obtain ⟨q, hq, e2⟩ := s.at_ j u e
      exact ⟨q, List.mem_cons_of_mem _ hq, by rw [set_at h]; exact e2⟩
  · have no : ∀ j u, i ≠ j → ρ[j]? = some (some (true, u)) → (σ.set i (some (V.ref p)))[j]? = some (some (V.ref p)) → False := fun j u h e e2 => by
      obtain ⟨q, hq, e3⟩ := s.at_ j u e
      rw [set_at h, e3] at e2
      cases e2
      exact nO hq
    have me : ∀ {q : Addr}, (σ.set i (some (V.ref p)))[i]? = some (some (V.ref q)) → q = p := fun {q} e => by
      rcases set_get e with ⟨_, e⟩ | ⟨h, _⟩
      · cases e; rfl
      · exact absurd rfl h
    rcases set_get e1 with ⟨rfl, _⟩ | ⟨h, e1⟩
    · rcases set_get e2 with ⟨rfl, _⟩ | ⟨h', e2⟩
      · rfl
      · rw [me e3] at e4
        exact (no k u' h' e2 e4).elim
    · rcases set_get e2 with ⟨rfl, _⟩ | ⟨h', e2⟩
      · rw [me e4] at e3
        exact (no j u h e1 e3).elim
      · rw [set_at h] at e3
        rw [set_at h'] at e4
        exact s.inj j k u u' q e1 e2 e3 e4
/-- a list of one's own gets an item more -/
theorem Sm.app [TabsC] (iv : Iv I) {ds : List PyData} {y : PyData} (s : Sm K I G0 Z0 H0 σ ρ H n G Z Zm O) (e : ρ[i]? = some (some (true, .d (.list ds)))) (r : Rp K (mask H Zm) v y) :
    ∃ p vs, σ[i]? = some (some (V.ref p)) ∧ H p = some (.lst vs) ∧ vs.length = ds.length ∧ Sm K I G0 Z0 H0 σ (ρ.set i (some (true, .d (.list (ds ++ [y]))))) (upd H p (.lst (vs ++ [v]))) n G Z Zm O := by
  obtain ⟨w, e1, _, e2⟩ := s.env i true _ e
  obtain ⟨p, vs, rfl, pG, hp, ra⟩ := e2 rfl
  obtain ⟨p', hO, e3⟩ := s.at_ i _ e
  have ep : p' = p := by rw [e1] at e3; cases e3; rfl
  subst ep
  have pZ : p' ∈ Zm := (s.mem p').mpr (.inl hO)
  have em : mask (upd H p' (.lst (vs ++ [v]))) Zm = mask H Zm := by
    funext a
    by_cases ha : a ∈ Zm
    · unfold mask; rw [if_pos ha, if_pos ha]
    · rw [mask_of ha, mask_of ha, upd_ne fun (z : a = p') => ha (by rw [z]; exact pZ)]
  have hl : i < ρ.length := (List.getElem?_eq_some_iff.mp e).1
  refine ⟨p', vs, e1, hp, ra.length, s.g.wrG (fun e => absurd (s.own p' hO).1 e), s.mem, ⟨s.ok.sub, fun z hz h => ?_, fun g hg => ?_, s.ok.tab.put hp trivial trivial⟩, s.own, fun j b u e4 => ?_, fun j u e4 => ?_, fun j k u u' q f1 f2 f3 f4 => ?_, by rw [List.length_set]; exact s.len, iv.wr s.inv pZ (by rw [hp]; simp)⟩
  · by_cases q : z = p'
    · subst q; rw [upd_same] at h; cases h
    · rw [upd_ne q] at h; exact s.ok.dom z hz h
  · obtain ⟨a, m, c, h1, h2⟩ := s.ok.gen g hg
    exact ⟨a, m, c, by rw [upd_ne fun (z : g = p') => pG (by rw [← z]; exact hg)]; exact h1, h2⟩
  · rcases set_get e4 with ⟨rfl, e4'⟩ | ⟨h, e4⟩
    · cases e4'
      refine ⟨.ref p', e1, (fun z => nomatch z), fun _ => ⟨p', _, rfl, pG, upd_same, ?_⟩⟩
      rw [em]
      exact ra.append (.one r)
    · obtain ⟨w, h1, h2, h3⟩ := s.env j b u e4
      refine ⟨w, h1, fun z => ?_, fun z => ?_⟩
      · have := h2 z
        cases u with
        | gen => exact this
        | scr ns =>
          obtain ⟨a, e, h⟩ := this
          refine ⟨a, e, ?_⟩
          rcases h with ⟨ob, h⟩ | h
          · exact .inl ⟨ob, by rw [upd_ne fun (z : a = p') => ?_]; exact h; rw [z, hp] at h; cases h⟩
          · exact .inr h
        | d x =>
          show Rp K (mask _ Zm) w x
          rw [em]
          exact this
      · subst z
        have own := h3 rfl
        obtain ⟨q, hq, e5⟩ := s.at_ j u e4
        have ne : q ≠ p' := fun (z : q = p') => h (s.inj i j _ _ p' e e4 e1 (by rw [← z]; exact e5))
        cases u with
        | gen => exact own
        | scr _ => exact own
        | d x =>
          cases x with
          | list xs =>
            obtain ⟨q', ws, rfl, a1, a2, a3⟩ := own
            have : q' = q := by rw [h1] at e5; cases e5; rfl
            subst this
            exact ⟨q', ws, rfl, a1, by rw [upd_ne ne]; exact a2, by rw [em]; exact a3⟩
          | dict xs =>
            obtain ⟨q', rfl, a1, a2⟩ := own
            have : q' = q := by rw [h1] at e5; cases e5; rfl
            subst this
            refine ⟨q', rfl, a1, ?_⟩
            rcases a2 with ⟨kvs, a2, a3⟩ | ⟨kvs, a2, a3⟩
            · exact .inl ⟨kvs, by rw [upd_ne ne]; exact a2, by rw [em]; exact a3⟩
            · exact .inr ⟨kvs, by rw [upd_ne ne]; exact a2, by rw [em]; exact a3⟩
          | none => exact own.elim
          | bool b => exact own.elim
          | int i => exact own.elim
          | str s => exact own.elim
          | tuple l => exact own.elim
  · rcases set_get e4 with ⟨rfl, _⟩ | ⟨h, e4⟩
    · exact ⟨p', hO, e1⟩
    · exact s.at_ j u e4
  · have bk : ∀ {j : Nat} {u : T}, (ρ.set i (some (true, .d (.list (ds ++ [y])))))[j]? = some (some (true, u)) → ∃ u', ρ[j]? = some (some (true, u')) := fun {j u} h => by
      rcases set_get h with ⟨rfl, _⟩ | ⟨_, h⟩
      · exact ⟨_, e⟩
      · exact ⟨_, h⟩
    obtain ⟨_, f1⟩ := bk f1
    obtain ⟨_, f2⟩ := bk f2
    exact s.inj j k _ _ q f1 f2 f3 f4
/-- what stands at one's own address, with its items -/
def OwnC (K : PySem.W.Frag) (M : Hp) (u : HO) : PyData → Prop
  | .list ds => ∃ vs, u = .lst vs ∧ RpA K M vs ds
  | .dict ds => (∃ kvs, u = .dK kvs ∧ RpK K M kvs ds) ∨ (∃ kvs, u = .dT kvs ∧ RpTK K M kvs ds)
  | _ => False
theorem OwnC.ne {K : PySem.W.Frag} {M : Hp} {u : HO} {t : PyData} (h : OwnC K M u t) : ∀ ob w, u ≠ .frz ob w := fun ob w e => by
  subst e
  cases t with
  | list ds => obtain ⟨_, e, _⟩ := h; cases e
  | dict ds => rcases h with ⟨_, e, _⟩ | ⟨_, e, _⟩ <;> cases e
  | none => exact h.elim
  | bool b => exact h.elim
  | int i => exact h.elim
  | str s => exact h.elim
  | tuple l => exact h.elim
theorem OwnC.pln {K : PySem.W.Frag} {M : Hp} {u : HO} {t : PyData} (h : OwnC K M u t) : Pln u := by
  cases t with
  | list ds => obtain ⟨_, rfl, _⟩ := h; trivial
  | dict ds => rcases h with ⟨_, rfl, _⟩ | ⟨_, rfl, _⟩ <;> trivial
  | none => exact h.elim
  | bool b => exact h.elim
  | int i => exact h.elim
  | str s => exact h.elim
  | tuple l => exact h.elim
/-- a list or dict of one's own is written -/
theorem Sm.wrO [TabsC] (iv : Iv I) {t : PyData} (s : Sm K I G0 Z0 H0 σ ρ H n G Z Zm O) (e : ρ[i]? = some (some (true, .d t))) :
    ∃ p u, σ[i]? = some (some (V.ref p)) ∧ H p = some u ∧ OwnC K (mask H Zm) u t ∧ (∀ u', mask (upd H p u') Zm = mask H Zm) ∧ ∀ u' t', OwnC K (mask H Zm) u' t' → Sm K I G0 Z0 H0 σ (ρ.set i (some (true, .d t'))) (upd H p u') n G Z Zm O := by
  obtain ⟨w, e1, _, e2⟩ := s.env i true _ e
  obtain ⟨p', hO, e3⟩ := s.at_ i _ e
  obtain ⟨p, u, rfl, pG, hp, oc⟩ : ∃ p u, w = .ref p ∧ p ∉ G ∧ H p = some u ∧ OwnC K (mask H Zm) u t := by
    have own := e2 rfl
    cases t with
    | list ds =>
      obtain ⟨p, vs, e, pG, hp, ra⟩ := own
      exact ⟨p, _, e, pG, hp, vs, rfl, ra⟩
    | dict ds =>
      obtain ⟨p, e, pG, ⟨kvs, hp, ra⟩ | ⟨kvs, hp, ra⟩⟩ := own
      · exact ⟨p, _, e, pG.1, hp, .inl ⟨kvs, rfl, ra⟩⟩
      · exact ⟨p, _, e, pG.1, hp, .inr ⟨kvs, rfl, ra⟩⟩
    | none => exact own.elim
    | bool b => exact own.elim
    | int i => exact own.elim
    | str s => exact own.elim
    | tuple l => exact own.elim
  have ep : p' = p := by rw [e1] at e3; cases e3; rfl
  subst ep
  have pZ : p' ∈ Zm := (s.mem p').mpr (.inl hO)
  have em : ∀ u', mask (upd H p' u') Zm = mask H Zm := fun u' => by
    funext a
    by_cases ha : a ∈ Zm
    · unfold mask; rw [if_pos ha, if_pos ha]
    · rw [mask_of ha, mask_of ha, upd_ne fun (z : a = p') => ha (by rw [z]; exact pZ)]
  have hl : i < ρ.length := (List.getElem?_eq_some_iff.mp e).1
  refine ⟨p', u, e1, hp, oc, em, fun uN tN oN => ⟨s.g.wrG (fun e => absurd (s.own p' hO).1 e), s.mem, ⟨s.ok.sub, fun z hz h => ?_, fun g hg => ?_, s.ok.tab.put hp oc.pln oN.pln⟩, s.own, fun j b u e4 => ?_, fun j u e4 => ?_, fun j k u u' q f1 f2 f3 f4 => ?_, by rw [List.length_set]; exact s.len, iv.wr s.inv pZ (by rw [hp]; simp)⟩⟩
  · by_cases q : z = p'
    · subst q; rw [upd_same] at h; cases h
    · rw [upd_ne q] at h; exact s.ok.dom z hz h
  · obtain ⟨a, m, c, h1, h2⟩ := s.ok.gen g hg
    exact ⟨a, m, c, by rw [upd_ne fun (z : g = p') => pG (by rw [← z]; exact hg)]; exact h1, h2⟩
  · rcases set_get e4 with ⟨rfl, e4'⟩ | ⟨h, e4⟩
    · cases e4'
      refine ⟨.ref p', e1, (fun z => nomatch z), fun _ => ?_⟩
      cases tN with
      | list ds =>
        obtain ⟨vs, rfl, ra⟩ := oN
        exact ⟨p', vs, rfl, pG, upd_same, by rw [em]; exact ra⟩
      | dict ds =>
        refine ⟨p', rfl, ⟨pG, pZ⟩, ?_⟩
        rcases oN with ⟨kvs, rfl, ra⟩ | ⟨kvs, rfl, ra⟩
        · exact .inl ⟨kvs, upd_same, by rw [em]; exact ra⟩
        · exact .inr ⟨kvs, upd_same, by rw [em]; exact ra⟩
      | none => exact oN.elim
      | bool b => exact oN.elim
      | int i => exact oN.elim
      | str s => exact oN.elim
      | tuple l => exact oN.elim
    · obtain ⟨w, h1, h2, h3⟩ := s.env j b u e4
      refine ⟨w, h1, fun z => ?_, fun z => ?_⟩
      · have := h2 z
        cases u with
        | gen => exact this
        | scr ns =>
          obtain ⟨a, e, h⟩ := this
          refine ⟨a, e, ?_⟩
          rcases h with ⟨ob, h⟩ | h
          · exact .inl ⟨ob, by rw [upd_ne fun (z : a = p') => ?_]; exact h; rw [z, hp] at h; exact absurd (Option.some.inj h) (oc.ne _ _)⟩
          · exact .inr h
        | d x =>
          show Rp K (mask _ Zm) w x
          rw [em]
          exact this
      · subst z
        have own := h3 rfl
        obtain ⟨q, hq, e5⟩ := s.at_ j u e4
        have ne : q ≠ p' := fun (z : q = p') => h (s.inj i j _ _ p' e e4 e1 (by rw [← z]; exact e5))
        cases u with
        | gen => exact own
        | scr _ => exact own
        | d x =>
          cases x with
          | list xs =>
            obtain ⟨q', ws, rfl, a1, a2, a3⟩ := own
            have : q' = q := by rw [h1] at e5; cases e5; rfl
            subst this
            exact ⟨q', ws, rfl, a1, by rw [upd_ne ne]; exact a2, by rw [em]; exact a3⟩
          | dict xs =>
            obtain ⟨q', rfl, a1, a2⟩ := own
            have : q' = q := by rw [h1] at e5; cases e5; rfl
            subst this
            refine ⟨q', rfl, a1, ?_⟩
            rcases a2 with ⟨kvs, a2, a3⟩ | ⟨kvs, a2, a3⟩
            · exact .inl ⟨kvs, by rw [upd_ne ne]; exact a2, by rw [em]; exact a3⟩
            · exact .inr ⟨kvs, by rw [upd_ne ne]; exact a2, by rw [em]; exact a3⟩
          | none => exact own.elim
          | bool b => exact own.elim
          | int i => exact own.elim
          | str s => exact own.elim
          | tuple l => exact own.elim
  · rcases set_get e4 with ⟨rfl, _⟩ | ⟨h, e4⟩
    · exact ⟨p', hO, e1⟩
    · exact s.at_ j u e4
  · have bk : ∀ {j : Nat} {u : T}, (ρ.set i (some (true, .d tN)))[j]? = some (some (true, u)) → ∃ u', ρ[j]? = some (some (true, u')) := fun {j u} h => by
      rcases set_get h with ⟨rfl, _⟩ | ⟨_, h⟩
      · exact ⟨_, e⟩
      · exact ⟨_, h⟩
    obtain ⟨_, f1⟩ := bk f1
    obtain ⟨_, f2⟩ := bk f2
    exact s.inj j k _ _ q f1 f2 f3 f4
/-- a generator turns -/
theorem Sm.gset [TabsC] {g : Addr} {n' : Nat} {a m c : Int} (iv : Iv I) (o0 : Ok G0 Z0 H0 n0) (s : Sm K I G0 Z0 H0 σ ρ H n G Z Zm O) (hg : g ∈ G) (hn : n ≤ n') (b : 0 ≤ a ∧ a < 2 ^ 2000 ∧ 0 ≤ m ∧ m < 2147483647 ∧ 0 ≤ c ∧ c ≤ 1000000 + n') :
    Sm K I G0 Z0 H0 σ ρ (upd H g (.lst [.int a, .int m, .int c])) n' G Z Zm O := by
  have gZ : g ∈ Zm := s.ok.sub g hg
  have em : mask (upd H g (.lst [.int a, .int m, .int c])) Zm = mask H Zm := by
    funext x
    by_cases ha : x ∈ Zm
    · unfold mask; rw [if_pos ha, if_pos ha]
    · rw [mask_of ha, mask_of ha, upd_ne fun (z : x = g) => ha (by rw [z]; exact gZ)]
  have hHg : H g ≠ none := s.ok.dom g gZ
  have gG : H0 g ≠ none → g ∈ G0 := fun q => by
    obtain ⟨L, e1, _, hL⟩ := s.g.new
    rw [e1] at hg
    rcases List.mem_append.mp hg with z | z
    · exact absurd (hL g z) q
    · exact z
  refine ⟨s.g.wrG gG, s.mem, ⟨s.ok.sub, fun z hz h => ?_, fun q hq => ?_, (let ⟨_, _, _, e, _⟩ := s.ok.gen g hg; s.ok.tab.put e trivial trivial)⟩, s.own, fun j b u e4 => ?_, s.at_, s.inj, s.len, iv.wr s.inv gZ hHg⟩
  · by_cases q : z = g
    · subst q; rw [upd_same] at h; cases h
    · rw [upd_ne q] at h; exact s.ok.dom z hz h
  · by_cases z : q = g
    · subst z
      exact ⟨a, m, c, upd_same, b⟩
    · obtain ⟨a', m', c', h1, h2, h3, h4, h5, h6, h7⟩ := s.ok.gen q hq
      exact ⟨a', m', c', by rw [upd_ne z]; exact h1, h2, h3, h4, h5, h6, by omega⟩
  · obtain ⟨w, h1, h2, h3⟩ := s.env j b u e4
    refine ⟨w, h1, fun z => ?_, fun z => ?_⟩
    · have := h2 z
      cases u with
      | gen => exact this
      | scr ns =>
        obtain ⟨p, e, h⟩ := this
        refine ⟨p, e, ?_⟩
        rcases h with ⟨ob, h⟩ | h
        · refine .inl ⟨ob, ?_⟩
          rw [upd_ne fun (z : p = g) => ?_]
          · exact h
          · obtain ⟨_, _, _, hG, _⟩ := s.ok.gen g hg
            rw [z, hG] at h; cases h
        · exact .inr h
      | d x =>
        show Rp K (mask _ Zm) w x
        rw [em]
        exact this
    · have own := h3 z
      cases u with
      | gen => exact own
      | scr _ => exact own
      | d x =>
        cases x with
        | list xs =>
          obtain ⟨q', ws, rfl, a1, a2, a3⟩ := own
          exact ⟨q', ws, rfl, a1, by rw [upd_ne fun (z : q' = g) => a1 (by rw [z]; exact hg)]; exact a2, by rw [em]; exact a3⟩
        | dict xs =>
          obtain ⟨q', rfl, a1, a2⟩ := own
          refine ⟨q', rfl, a1, ?_⟩
          rcases a2 with ⟨kvs, a2, a3⟩ | ⟨kvs, a2, a3⟩
          · exact .inl ⟨kvs, by rw [upd_ne fun (z : q' = g) => a1.1 (by rw [z]; exact hg)]; exact a2, by rw [em]; exact a3⟩
          · exact .inr ⟨kvs, by rw [upd_ne fun (z : q' = g) => a1.1 (by rw [z]; exact hg)]; exact a2, by rw [em]; exact a3⟩
        | none => exact own.elim
        | bool b => exact own.elim
        | int i => exact own.elim
        | str s => exact own.elim
        | tuple l => exact own.elim
/-- .. is no more its own -/
theorem Sm.frz1 [TabsC] (iv : Iv I) (o0 : Ok G0 Z0 H0 n0) (s : Sm K I G0 Z0 H0 σ ρ H n G Z Zm O) (i : Nat) : SmE K I G0 Z0 H0 σ (frz1 ρ i) H n := by
  unfold TL.frz1
  split
  · rename_i b t e
    cases b with
    | false =>
      have : ρ.set i (some (false, t)) = ρ := by
        apply List.ext_getElem?
        intro j
        by_cases hj : i = j
        · subst hj
          rw [List.getElem?_set_self (List.getElem?_eq_some_iff.mp e).1, e]
        · rw [set_at hj]
      rw [this]
      exact ⟨G, Z, Zm, O, s⟩
    | true =>
      obtain ⟨p, hO, e1⟩ := s.at_ i t e
      obtain ⟨w, e2, _, ow⟩ := s.env i true t e
      have ow := ow rfl
      rw [e1] at e2
      cases e2
      have pZ := s.notZ o0 hO
      have sub : ∀ a ∈ Zm.filter (fun a => decide (a ≠ p)), a ∈ Zm := fun a h => (List.mem_filter.mp h).1
      have pN : p ∉ Zm.filter (fun a => decide (a ≠ p)) := fun h => by simpa using (List.mem_filter.mp h).2
      have gp : ∀ g ∈ G, g ≠ p := fun g hg (z : g = p) => (s.own p hO).2 (by rw [← z]; exact hg)
      have rp : ∀ {w : V} {u : T}, RpT K H G Zm w u → RpT K H G (Zm.filter (fun a => decide (a ≠ p))) w u := fun {w u} h => by
        cases u with
        | gen => exact h
        | scr _ => exact h
        | d x => exact Rp.le (mask_sub sub) h
      refine ⟨G, Z, Zm.filter (fun a => decide (a ≠ p)), O.filter (fun a => decide (a ≠ p)), s.g, fun a => ?_, ⟨fun a h => List.mem_filter.mpr ⟨s.ok.sub a h, by simpa using gp a h⟩, fun z h => s.ok.dom z (sub z h), s.ok.gen, s.ok.tab⟩,
        fun q hq => s.own q ((List.mem_filter.mp hq).1), fun j b u e3 => ?_, fun j u e3 => ?_, fun j k u u' q f1 f2 f3 f4 => ?_, by rw [List.length_set]; exact s.len, iv.sub s.inv sub⟩
      · rw [List.mem_filter, List.mem_filter, s.mem]
        constructor
        · rintro ⟨h | h, h2⟩
          · exact .inl ⟨h, h2⟩
          · exact .inr h
        · rintro (⟨h, h2⟩ | h)
          · exact ⟨.inl h, h2⟩
          · exact ⟨.inr h, by simpa using fun (z : a = p) => pZ (by rw [← z]; exact h)⟩
      · rcases set_get e3 with ⟨rfl, e3'⟩ | ⟨h, e3⟩
        · cases e3'
          refine ⟨_, e1, fun _ => ?_, (fun z => nomatch z)⟩
          cases t with
          | gen => exact ow.elim
          | scr _ => exact ow.elim
          | d x =>
            show Rp K (mask H _) _ x
            cases x with
            | list ds =>
              obtain ⟨p', vs, ep, hp, hH, r⟩ := ow
              cases ep
              exact .lst (by rw [mask_of pN]; exact hH) (RpA.le (mask_sub sub) r)
            | dict ds =>
              obtain ⟨p', ep, hp, ⟨kvs, hH, r⟩ | ⟨kvs, hH, r⟩⟩ := ow
              · cases ep
                exact .dK (.of (by rw [mask_of pN]; exact hH)) (RpK.le (mask_sub sub) r)
              · cases ep
                exact .dT (.of (by rw [mask_of pN]; exact hH)) (RpTK.le (mask_sub sub) r)
            | none => exact ow.elim
            | bool b => exact ow.elim
            | int i => exact ow.elim
            | str s => exact ow.elim
            | tuple l => exact ow.elim
        · obtain ⟨w, h1, h2, h3⟩ := s.env j b u e3
          refine ⟨w, h1, fun z => rp (h2 z), fun z => ?_⟩
          have own := h3 z
          cases u with
          | gen => exact own
          | scr _ => exact own
          | d x =>
            cases x with
            | list xs =>
              obtain ⟨q', ws, rfl, a1, a2, a3⟩ := own
              exact ⟨q', ws, rfl, a1, a2, RpA.le (mask_sub sub) a3⟩
            | dict xs =>
              obtain ⟨q', rfl, a1, a2⟩ := own
              have ne : q' ≠ p := fun zz => h (s.inj i j _ _ p e (by rw [z] at e3; exact e3) e1 (by rw [← zz]; exact h1))
              have a1 : q' ∉ G ∧ q' ∈ Zm.filter (fun a => decide (a ≠ p)) := ⟨a1.1, List.mem_filter.mpr ⟨a1.2, by simpa using ne⟩⟩
              rcases a2 with ⟨kvs, a2, a3⟩ | ⟨kvs, a2, a3⟩
              · exact ⟨q', rfl, a1, .inl ⟨kvs, a2, RpK.le (mask_sub sub) a3⟩⟩
              · exact ⟨q', rfl, a1, .inr ⟨kvs, a2, RpTK.le (mask_sub sub) a3⟩⟩
            | none => exact own.elim
            | bool b => exact own.elim
            | int i => exact own.elim
            | str s => exact own.elim
            | tuple l => exact own.elim
      · rcases set_get e3 with ⟨_, e3⟩ | ⟨h, e3⟩
        · cases e3
        · obtain ⟨q, hq, e4⟩ := s.at_ j u e3
          refine ⟨q, List.mem_filter.mpr ⟨hq, ?_⟩, e4⟩
          simpa using fun (z : q = p) => h (s.inj i j _ _ p e e3 e1 (by rw [← z]; exact e4))
      · rcases set_get f1 with ⟨_, f1⟩ | ⟨h, f1⟩
        · cases f1
        · rcases set_get f2 with ⟨_, f2⟩ | ⟨h', f2⟩
          · cases f2
          · exact s.inj j k u u' q f1 f2 f3 f4
  · exact ⟨G, Z, Zm, O, s⟩
theorem SmE.frz [TabsC] (iv : Iv I) (o0 : Ok G0 Z0 H0 n0) : ∀ (l : List Nat) {ρ : Ev}, SmE K I G0 Z0 H0 σ ρ H n → SmE K I G0 Z0 H0 σ (frz l ρ) H n
  | [], _, h => h
  | i :: l, _, ⟨_, _, _, _, s⟩ => SmE.frz iv o0 l (s.frz1 iv o0 i)
/-- a value leaves the def -/
theorem Sm.out [TabsC] {Q : VK} {r : R} (o0 : Ok G0 Z0 H0 n0) (s : Sm K I G0 Z0 H0 σ ρ H n G Z Zm O) (h : Kq K true G0 Z0 H0 Q r n1) : Kq K true G Zm H Q r n1 := by
  intro v H1 G1 Y1 g o w f
  obtain ⟨Z1, gz, g1, o1, mem, sub⟩ := s.grow o0 g o
  refine h v H1 G1 Z1 g1 o1 ?_ fun e => ?_
  · have w : RpT K H1 G1 Y1 v r.t := w
    show RpT K H1 G1 Z1 v r.t
    cases e : r.t with
    | gen => rw [e] at w; exact w
    | scr _ => rw [e] at w; exact w
    | d x =>
      rw [e] at w
      exact Rp.le (mask_sub sub) w
  · have f := Fresh.back s.g (f e)
    have sub' : ∀ p, ∀ a ∈ p :: Z1, a ∈ p :: Y1 := fun p a h => (List.mem_cons.mp h).elim (fun (z : a = p) => by rw [z]; exact List.mem_cons_self ..) fun z => List.mem_cons_of_mem _ (sub a z)
    cases et : r.t with
    | gen => rw [et] at f; exact f
    | scr _ => rw [et] at f; exact f
    | d x =>
      rw [et] at f
      cases x with
      | list ds =>
        obtain ⟨p, vs, rfl, h1, h2, h3⟩ := f
        exact ⟨p, vs, rfl, h1, h2, RpA.le (mask_sub (sub' p)) h3⟩
      | dict ds =>
        obtain ⟨p, rfl, h1, ⟨kvs, h2, h3⟩ | ⟨kvs, h2, h3⟩⟩ := f
        · exact ⟨p, rfl, h1, .inl ⟨kvs, h2, RpK.le (mask_sub (sub' p)) h3⟩⟩
        · exact ⟨p, rfl, h1, .inr ⟨kvs, h2, RpTK.le (mask_sub (sub' p)) h3⟩⟩
      | none => exact f
      | bool b => exact f
      | int i => exact f
      | str s => exact f
      | tuple l => exact f
/-- a name's own list leaves -/
theorem Sm.outO [TabsC] {Q : VK} (o0 : Ok G0 Z0 H0 n0) (s : Sm K I G0 Z0 H0 σ ρ H n G Z Zm O) (e : ρ[i]? = some (some (true, t))) (h : Kq K true G0 Z0 H0 Q ⟨t, true⟩ n) : ∃ v, σ[i]? = some (some v) ∧ Q v H := by
  obtain ⟨p, hO, e1⟩ := s.at_ i t e
  obtain ⟨w, e2, _, ow⟩ := s.env i true t e
  have ow := ow rfl
  rw [e1] at e2
  cases e2
  have pZ := s.notZ o0 hO
  have h0 := (s.own p hO).1
  have subp : ∀ a ∈ p :: Z, a ∈ Zm := fun a h => (List.mem_cons.mp h).elim (fun (z : a = p) => by rw [z]; exact (s.mem p).mpr (.inl hO)) fun z => s.subZ a z
  refine ⟨_, e1, h _ H G Z s.g (s.okZ o0) ?_ fun _ => ?_⟩
  · show RpT K H G Z _ t
    cases t with
    | gen => exact ow.elim
    | scr _ => exact ow.elim
    | d x =>
      show Rp K (mask H Z) _ x
      cases x with
      | list ds =>
        obtain ⟨p', vs, ep, hp, hH, r⟩ := ow
        cases ep
        exact .lst (by rw [mask_of pZ]; exact hH) (RpA.le (mask_sub s.subZ) r)
      | dict ds =>
        obtain ⟨p', ep, hp, ⟨kvs, hH, r⟩ | ⟨kvs, hH, r⟩⟩ := ow
        · cases ep
          exact .dK (.of (by rw [mask_of pZ]; exact hH)) (RpK.le (mask_sub s.subZ) r)
        · cases ep
          exact .dT (.of (by rw [mask_of pZ]; exact hH)) (RpTK.le (mask_sub s.subZ) r)
      | none => exact ow.elim
      | bool b => exact ow.elim
      | int i => exact ow.elim
      | str s => exact ow.elim
      | tuple l => exact ow.elim
  · cases t with
    | gen => exact ow.elim
    | scr _ => exact ow.elim
    | d x =>
      cases x with
      | list ds =>
        obtain ⟨p', vs, ep, hp, hH, r⟩ := ow
        cases ep
        exact ⟨p, vs, rfl, h0, hH, RpA.le (mask_sub subp) r⟩
      | dict ds =>
        obtain ⟨p', ep, hp, ⟨kvs, hH, r⟩ | ⟨kvs, hH, r⟩⟩ := ow
        · cases ep
          exact ⟨p, rfl, h0, .inl ⟨kvs, hH, RpK.le (mask_sub subp) r⟩⟩
        · cases ep
          exact ⟨p, rfl, h0, .inr ⟨kvs, hH, RpTK.le (mask_sub subp) r⟩⟩
      | none => exact ow.elim
      | bool b => exact ow.elim
      | int i => exact ow.elim
      | str s => exact ow.elim
      | tuple l => exact ow.elim
end
section
variable {mg : Str → Option Value} {cn : Nat → Str} {K : PySem.W.Frag} {Xt : XE} {Ew : XK} {G0 Z0 G Z Zm O G1 Y1 : List Addr} {H0 H H1 : Hp} {n0 n n1 : Nat} {σ σ' τ : L2.St} {ρ ρ' θ : Ev} {v : V} {t : T} {i : Nat} {I : Hp → List Addr → Prop}
/-- names taken anew -/
theorem Sm.sel [TabsC] (s : Sm K I G0 Z0 H0 σ ρ H n G Z Zm O) (f : Nat → Nat) (hl : ρ'.length = σ'.length) (h : ∀ k x, ρ'[k]? = some (some x) → ρ[f k]? = some (some x) ∧ σ'[k]? = σ[f k]?) (inj : ∀ j k, f j = f k → j = k) : Sm K I G0 Z0 H0 σ' ρ' H n G Z Zm O := by
  refine ⟨s.g, s.mem, s.ok, s.own, fun k b t e => ?_, fun k t e => ?_, fun j k t u p e1 e2 e3 e4 => ?_, hl, s.inv⟩
  · obtain ⟨h1, h2⟩ := h k _ e
    obtain ⟨v, q1, q2⟩ := s.env (f k) b t h1
    exact ⟨v, h2.trans q1, q2⟩
  · obtain ⟨h1, h2⟩ := h k _ e
    obtain ⟨p, hp, q⟩ := s.at_ (f k) t h1
    exact ⟨p, hp, h2.trans q⟩
  · obtain ⟨h1, h2⟩ := h j _ e1
    obtain ⟨h3, h4⟩ := h k _ e2
    exact inj j k (s.inj (f j) (f k) t u p h1 h3 (h2 ▸ e3) (h4 ▸ e4))
theorem get_app {α : Type} {l r : List α} {k : Nat} : (l ++ r)[k]? = if k < l.length then l[k]? else r[k - l.length]? := by
  by_cases h : k < l.length
  · rw [if_pos h, List.getElem?_append_left h]
  · rw [if_neg h, List.getElem?_append_right (by omega)]
/-- a place more -/
theorem Sm.push [TabsC] (s : Sm K I G0 Z0 H0 σ ρ H n G Z Zm O) : Sm K I G0 Z0 H0 (σ ++ [none]) (ρ ++ [none]) H n G Z Zm O := by
  refine s.sel id (by simp [s.len]) (fun k x e => ?_) fun j k e => e
  have hk : k < ρ.length := by
    rw [get_app] at e
    by_cases h : k < ρ.length
    · exact h
    · rw [if_neg h] at e
      cases q : k - ρ.length with
      | zero => rw [q] at e; cases e
      | succ m => rw [q] at e; cases e
  rw [List.getElem?_append_left hk] at e
  exact ⟨e, by rw [List.getElem?_append_left (by rw [← s.len]; exact hk)]; rfl⟩
/-- the first of the places behind goes to a name -/
theorem Sm.move [TabsC] {x : Option V} {y : Option (Bool × T)} (hl : ρ.length = σ.length) (s : Sm K I G0 Z0 H0 (σ ++ x :: τ) (ρ ++ y :: θ) H n G Z Zm O) (i : Nat) : Sm K I G0 Z0 H0 (σ.set i x ++ τ) (ρ.set i y ++ θ) H n G Z Zm O := by
  have ht : θ.length = τ.length := by have := s.len; simp at this; omega
  refine s.sel (fun k => if k < ρ.length then (if k = i then ρ.length else k) else k + 1) (by simp [hl, ht]) (fun k z e => ?_) fun j k e => ?_
  · rw [get_app, List.length_set] at e
    by_cases hk : k < ρ.length
    · have hk' : k < σ.length := by omega
      rw [if_pos hk] at e
      rw [if_pos hk, get_app (l := σ.set i x), List.length_set, if_pos hk']
      by_cases hi : k = i
      · subst hi
        rw [List.getElem?_set_self hk] at e
        rw [if_pos rfl, List.getElem?_set_self hk', get_app, if_neg (Nat.lt_irrefl _), Nat.sub_self, get_app, if_neg (by omega), show ρ.length - σ.length = 0 by omega]
        exact ⟨e, rfl⟩
      · rw [List.getElem?_set_ne (Ne.symm hi)] at e
        rw [if_neg hi, List.getElem?_set_ne (Ne.symm hi), get_app, if_pos hk, get_app, if_pos hk']
        exact ⟨e, rfl⟩
    · have hk' : ¬ k < σ.length := by omega
      rw [if_neg hk] at e
      rw [if_neg hk, get_app (l := σ.set i x), List.length_set, if_neg hk', get_app, if_neg (by omega), get_app, if_neg (by omega), show k + 1 - ρ.length = (k - ρ.length) + 1 by omega, show k + 1 - σ.length = (k - σ.length) + 1 by omega]
      exact ⟨e, rfl⟩
  · have e : (if j < ρ.length then (if j = i then ρ.length else j) else j + 1) = (if k < ρ.length then (if k = i then ρ.length else k) else k + 1) := e
    by_cases a : j < ρ.length <;> by_cases b : k < ρ.length <;> by_cases c : j = i <;> by_cases d : k = i <;> (first | rw [if_pos a] at e | rw [if_neg a] at e) <;> (first | rw [if_pos b] at e | rw [if_neg b] at e) <;>
      (try first | rw [if_pos c] at e | rw [if_neg c] at e) <;> (try first | rw [if_pos d] at e | rw [if_neg d] at e) <;> omega
end
end TL

set_option Elab.async false
set_option linter.all false
set_option maxRecDepth 100000
set_option maxHeartbeats 2000000
/-! TL15: the theorem about statements. -/
namespace TL
open PySem PySem.Spec PyProof.Rows L2

def notComp : Expr → Bool
  | .ListComp _ _ _ _ => false | .SetComp _ _ _ _ => false | .DictComp _ _ _ _ _ => false | _ => true
/-- stores aren't swapped -/
def noSwap : Expr → Bool
  | .Tuple vs _ _ => vs.all (foldedForSure 8) | _ => true
def isLocal (sc : Scope) (x : Str) : Bool := match sc.names.lookup x with
  | some .local => true | _ => false
/-- a name among the targets that an inner block holds, too -/
def cellAny (sc : Scope) (ts : List Expr) : Bool := ts.any fun | .Name x _ => !isLocal sc x | _ => true
/-- a comprehension stored into a name on its line -/
def swB (sc : Scope) (x : Str) (p : Pos) : Expr → Bool
  | .ListComp _ _ scope q => isLocal sc x && (p.line == q.line) && !(scope.names.any fun (n, k) => n == x && (k == .local || k == .cell))
  | .DictComp _ _ _ scope q => isLocal sc x && (p.line == q.line) && !(scope.names.any fun (n, k) => n == x && (k == .local || k == .cell))
  | .SetComp _ _ scope q => isLocal sc x && (p.line == q.line) && !(scope.names.any fun (n, k) => n == x && (k == .local || k == .cell))
  | _ => false
def lcSet : Expr → Bool
  | .ListComp _ [_] _ _ => true
  | e => notComp e
def isLc : E → Bool
  | .lc _ _ _ _ _ _ => true | _ => false
/-- plain local names of one line, all unlike; the values are neither folded nor constants alone -/
def parOk (sc : Scope) (N : List Str) : List Nat → List Expr → List Expr → Bool
  | [i, j], [.Name x px, .Name y py], [a, b] => decide (N[i]? = some x) && decide (N[j]? = some y) && isLocal sc x && isLocal sc y && !(x == y) && (py.line == px.line) && !(foldedForSure 8 a && foldedForSure 8 b) && !(constantsAlone 8 a && constantsAlone 8 b)
  | [i, j, k], [.Name x px, .Name y py, .Name z pz], [a, b, c] => decide (N[i]? = some x) && decide (N[j]? = some y) && decide (N[k]? = some z) && isLocal sc x && isLocal sc y && isLocal sc z && !(x == y) && !(x == z) && !(y == z) && (py.line == px.line) && (pz.line == px.line) &&
    !(foldedForSure 8 a && (foldedForSure 8 b && foldedForSure 8 c)) && !(constantsAlone 8 a && (constantsAlone 8 b && constantsAlone 8 c))
  | _, _, _ => false
mutual
def chkS (Γ : TCx) (N : List Str) : Scope → S → Stmt → Bool
  | sc, .ret e, .Return (some x) _ => sg e && chkE Γ N Γ.lm sc e x
  | sc, .retO i, .Return (some (.Name x _)) _ => decide (N[i]? = some x) && isVis sc x && notDbg x
  | sc, .set i e, .Assign [.Name x p] v _ => decide (N[i]? = some x) && tgB.isLoc sc x && sg e && lcSet v && (notComp v || isLc e) && chkE Γ N Γ.lm sc e v
  | sc, .upk l e, .Assign [.Tuple es k p] v _ => tgB N sc (.tp l) (.Tuple es k p) && sg e && notComp v && (noSwap v || cellAny sc es) && chkE Γ N Γ.lm sc e v
  | sc, .par l es, .Assign [.Tuple ts _ _] (.Tuple vs _ _) _ => parOk sc N l ts vs && (sgs es).all id && vs.all notStar && chkEs Γ N Γ.lm sc es vs
  | sc, .app i e, .Expr (.Call (.Attribute (.Name x _) m ap) [v] [] cp) _ => decide (m = ("append" : Str)) && decide (ap.endLine = cp.line) && decide (N[i]? = some x) && isVis sc x && notDbg x && sg e && notStar v && chkE Γ N Γ.lm sc e v
  | sc, .ins i a b, .Expr (.Call (.Attribute (.Name x _) m ap) [v, w] [] cp) _ => decide (m = ("insert" : Str)) && decide (ap.endLine = cp.line) && decide (N[i]? = some x) && isVis sc x && notDbg x && sg b && notStar v && notStar w && chkE Γ N Γ.lm sc a v && chkE Γ N Γ.lm sc b w
  | sc, .ext i e, .Expr (.Call (.Attribute (.Name x _) m ap) [v] [] cp) _ => decide (m = ("extend" : Str)) && decide (ap.endLine = cp.line) && decide (N[i]? = some x) && isVis sc x && notDbg x && sg e && notStar v && chkE Γ N Γ.lm sc e v
  | sc, .pset j i l, .Assign [.Name x p] (.Call (.Attribute (.Name y _) m ap) vs [] cp) _ => decide (N[j]? = some x) && tgB.isLoc sc x && decide (m = ("pop" : Str)) && decide (ap.endLine = cp.line) && decide (N[i]? = some y) && isVis sc y && notDbg y && decide (vs.length ≤ 1) && chkEs Γ N Γ.lm sc l vs
  | sc, .papp j i l, .Expr (.Call (.Attribute (.Name x _) mx apx) [.Call (.Attribute (.Name y _) m ap) vs [] cp] [] cpx) _ => decide (N[j]? = some x) && isVis sc x && notDbg x && decide (mx = ("append" : Str)) && decide (apx.endLine = cpx.line) && decide (m = ("pop" : Str)) && decide (ap.endLine = cp.line) && decide (N[i]? = some y) && isVis sc y && notDbg y && decide (vs.length ≤ 1) && decide (i ≠ j) && chkEs Γ N Γ.lm sc l vs
  | sc, .sub i a e, .Assign [.Subscript (.Name x _) s _] v _ => plainIxB s && decide (N[i]? = some x) && isVis sc x && notDbg x && sg e && notComp v && chkE Γ N Γ.lm sc e v && chkE Γ N Γ.lm sc a s
  | sc, .gst i k e, .Assign [.Subscript (.Name x _) (.Constant (.int j) _ _) _] v _ => decide (N[i]? = some x) && isVis sc x && notDbg x && decide (j = k) && decide (k < 3) && sg e && notComp v && chkE Γ N Γ.lm sc e v
  | sc, .ex e, .Expr v _ => notComp v && chkE Γ N Γ.lm sc e v
  | sc, .ite c a b, .If t x y _ => chkE Γ N Γ.lm sc c t && chkSs Γ N sc a x && chkSs Γ N sc b y
  | sc, .for_ tg k src b, .For t iter body [] _ => tgB N sc tg t && zipT k t && notSet iter && (sgs src).all id && chkSrc Γ N Γ.lm sc k src iter && chkSs Γ N sc b body
  | sc, .whl c b, .While t body [] _ => chkE Γ N Γ.lm sc c t && chkSs Γ N sc b body
  | _, .pass, .Pass _ => true
  | _, .brk, .Break _ => true
  | _, .cont, .Continue _ => true
  | _, .no, _ => true
  | _, _, _ => false
def chkSs (Γ : TCx) (N : List Str) : Scope → Ss → List Stmt → Bool
  | _, .nil, [] => true
  | sc, .cons _ s l, st :: sts => chkS Γ N sc s st && chkSs Γ N sc l sts
  | _, _, _ => false
end

def endR [TabsC] (K : PySem.W.Frag) (I : Hp → List Addr → Prop) (G0 Z0 : List Addr) (H0 : Hp) (D : Ends) : EndT where
  nx := fun ρ n => ∀ σ H, SmE K I G0 Z0 H0 σ ρ H n → D.nx σ H
  rt := fun r n => Kq K true G0 Z0 H0 D.rt r n
  bk := fun ρ n => ∀ σ H, SmE K I G0 Z0 H0 σ ρ H n → D.bk σ H
  ct := fun ρ n => ∀ σ H, SmE K I G0 Z0 H0 σ ρ H n → D.ct σ H
/-- the statement's reading -/
def rs [TabsC] (K : PySem.W.Frag) (G0 Z0 : List Addr) (H0 : Hp) (wp : EndT → Ev → Nat → Prop) : TS := fun D σ H =>
  ∃ I, Iv I ∧ ∃ n ρ, SmE K I G0 Z0 H0 σ ρ H n ∧ wp (endR K I G0 Z0 H0 D) ρ n

/-- since the loop's beginning -/
def Since (H1 : Hp) (Y1 : List Addr) (H : Hp) (Zm : List Addr) : Prop :=
  (∀ a o, a ∉ Y1 → H1 a = some o → Ex H a o) ∧ (∀ a, H1 a ≠ none → H a ≠ none) ∧ ∀ a ∈ Zm, a ∈ Y1 ∨ H1 a = none
theorem since_none {H1 H : Hp} (d : ∀ a, H1 a ≠ none → H a ≠ none) {a : Addr} (h : H a = none) : H1 a = none := by
  cases q : H1 a with
  | none => rfl
  | some o => exact absurd h (d a (by rw [q]; simp))
theorem Since.iv [TabsC] {I : Hp → List Addr → Prop} (iv : Iv I) (H1 : Hp) (Y1 : List Addr) : Iv fun H Zm => I H Zm ∧ Since H1 Y1 H Zm := by
  have key : ∀ {H Zm G G1 Y H2 : _} {n : Nat}, Since H1 Y1 H Zm → Ok G Zm H n → Gr G Zm H G1 Y H2 → Since H1 Y1 H2 Y := by
    rintro H Zm G G1 Y H2 n ⟨a1, a2, a3⟩ o g
    obtain ⟨L, rfl, rfl, hL⟩ := g.new
    have nG : ∀ a ob, a ∉ Y1 → H1 a = some ob → a ∉ G := fun a ob h1 h2 z => by
      rcases a3 a (o.sub a z) with h | h
      · exact h1 h
      · rw [h] at h2; cases h2
    refine ⟨fun a ob h1 h2 => ?_, fun a h => g.dom a (a2 a h), fun a h => ?_⟩
    · exact g.ex (nG a ob h1 h2) (a1 a ob h1 h2)
    · rcases List.mem_append.mp h with h | h
      · exact .inr (since_none a2 (hL a h))
      · exact a3 a h
  refine ⟨fun h o g => ⟨iv.grow h.1 o g, key h.2 o g⟩, fun h o g hp => ⟨iv.new h.1 o g hp, ?_⟩, fun {H Zm p o} h hp hn => ⟨iv.wr h.1 hp hn, ?_⟩, fun h s => ⟨iv.sub h.1 s, h.2.1, h.2.2.1, fun a z => h.2.2.2 a (s a z)⟩⟩
  · have k := key h.2 o g
    refine ⟨k.1, k.2.1, fun a z => ?_⟩
    rcases List.mem_cons.mp z with rfl | z
    · exact .inr (since_none h.2.2.1 hp)
    · exact k.2.2 a z
  · obtain ⟨_, a1, a2, a3⟩ := h
    refine ⟨fun a ob h1 h2 => ?_, fun a h1 h2 => ?_, a3⟩
    · have ne : a ≠ p := fun z => by
        rcases a3 p hp with q | q
        · exact h1 (by rw [z]; exact q)
        · rw [z, q] at h2; cases h2
      have := a1 a ob h1 h2
      unfold Ex at this ⊢
      rw [upd_ne ne]
      exact this
    · by_cases z : a = p
      · subst z; rw [upd_same] at h2; cases h2
      · rw [upd_ne z] at h2; exact a2 a h1 h2
section
variable {K : PySem.W.Frag} {I I' : Hp → List Addr → Prop} {G0 Z0 G Z Zm O : List Addr} {H0 H : Hp} {n : Nat} {σ : L2.St} {ρ : Ev}
theorem Sm.inv_to [TabsC] (s : Sm K I G0 Z0 H0 σ ρ H n G Z Zm O) (h : I' H Zm) : Sm K I' G0 Z0 H0 σ ρ H n G Z Zm O := ⟨s.g, s.mem, s.ok, s.own, s.env, s.at_, s.inj, s.len, h⟩
theorem SmE.weak [TabsC] {P : Hp → List Addr → Prop} (h : SmE K (fun H Z => I H Z ∧ P H Z) G0 Z0 H0 σ ρ H n) : SmE K I G0 Z0 H0 σ ρ H n := by
  obtain ⟨G, Z, Zm, O, s⟩ := h
  exact ⟨G, Z, Zm, O, s.inv_to s.inv.1⟩
theorem Sm.gs [TabsC] {Q : L2.St → Hp → Prop} : ∀ (l : List Nat) (xs : List PyData) (vs : List V) {σ : L2.St} {ρ ρ' : Ev}, setAll l xs ρ = some ρ' → Sm K I G0 Z0 H0 σ ρ H n G Z Zm O → RpA K (mask H Zm) vs xs →
    (∀ σ', Sm K I G0 Z0 H0 σ' ρ' H n G Z Zm O → Q σ' H) → gsOf l vs σ H Q ∧ vs.length = l.length
  | [], [], _, σ, ρ, ρ', e, s, .nil, q => by
    cases e
    exact ⟨⟨rfl, q _ s⟩, rfl⟩
  | i :: l, x :: xs, _, σ, ρ, ρ', e, s, .cons a b, q => by
    unfold setAll at e
    have s2 := s.setv (i := i) (t := .d x) a
    obtain ⟨r1, r2⟩ := Sm.gs (Q := Q) l xs _ e s2 b q
    exact ⟨⟨_, _, rfl, r1⟩, by rw [List.length_cons, r2, List.length_cons]⟩
theorem Sm.tg [TabsC] {Q : L2.St → Hp → Prop} {tg : Tg} {x : PyData} {v : V} {ρ' : Ev} (s : Sm K I G0 Z0 H0 σ ρ H n G Z Zm O) (e : asgD tg x ρ = some ρ') (r : Rp K (mask H Zm) v x)
    (q : ∀ σ', Sm K I G0 Z0 H0 σ' ρ' H n G Z Zm O → Q σ' H) : gOf K tg v σ H Q := by
  cases tg with
  | nm i =>
    cases e
    exact q _ (s.setv (t := .d x) r)
  | tp l =>
    cases x <;> first | cases e | skip
    · cases r with
      | lst hs ra =>
        obtain ⟨r1, r2⟩ := Sm.gs (Q := Q) l _ _ e s ra q
        exact .inr ⟨_, _, rfl, .of (mask_some hs).2, r2, r1⟩
    · cases r with
      | tup hs ra =>
        obtain ⟨r1, r2⟩ := Sm.gs (Q := Q) l _ _ e s ra q
        exact .inl ⟨_, _, rfl, mask_le.sqT hs, r2, r1⟩
end
theorem sw_false {v : Expr} (h : notComp v = true) (tg : Option Expr) (l : Nat) (env : Env) : swapsWith v tg l env = pure false := by
  cases v <;> first | rfl | cases h
theorem isLocal_val {sc : Scope} {x : Str} : isLocal sc x = (sc.names.lookup x == some .local) := by
  unfold isLocal
  cases sc.names.lookup x with
  | none => rfl
  | some k => cases k <;> rfl
theorem sw_val {v : Expr} {x : Str} {p : Pos} {l : Nat} {env : Env} (hk : env.blockKind = .function) : swapsWith v (some (.Name x p)) l env = pure (swB env.scope x p v) := by
  have hx : env.kindOf x = env.scope.names.lookup x := rfl
  cases v <;> first
    | rfl
    | (unfold swapsWith swB
       simp only [hk, hx, isLocal_val, Expr.pos]
       rfl)
theorem sw_none {es : List Expr} {k : Nat} {p : Pos} {v : Expr} (h : noSwap v = true) (env : Env) : swappedStores [.Tuple es k p] v env = pure none := by
  cases v <;> first | rfl | skip
  rename_i vs k2 p2
  have h : vs.all (foldedForSure 8) = true := h
  unfold swappedStores
  dsimp only
  split
  · rfl
  · split
    · rfl
    · split
      · rfl
      · first | rfl | (rw [h]; rfl)
theorem filterMap_lt {α β : Type} {F : α → Option β} : ∀ {l : List α}, (∃ a ∈ l, F a = none) → (l.filterMap F).length < l.length
  | [], h => by obtain ⟨_, h, _⟩ := h; cases h
  | a :: l, h => by
    cases q : F a with
    | none =>
      rw [List.filterMap_cons_none q, List.length_cons]
      have := List.length_filterMap_le F l
      omega
    | some b =>
      rw [List.filterMap_cons_some q, List.length_cons, List.length_cons]
      obtain ⟨x, hx, e⟩ := h
      rcases List.mem_cons.mp hx with rfl | hx
      · rw [q] at e; cases e
      · have := filterMap_lt ⟨x, hx, e⟩
        omega
theorem sw_cell {es : List Expr} {k : Nat} {p : Pos} {v : Expr} {env : Env} (h : cellAny env.scope es = true) : swappedStores [.Tuple es k p] v env = pure none := by
  cases v <;> first | rfl | skip
  rename_i vs k2 p2
  let F : Expr → Option Str := fun
    | .Name id pos => if env.kindOf id == some .local && pos.line == (es.head?.map (·.pos.line)).getD 0 then some id else none
    | _ => none
  have lt : (es.filterMap F).length < es.length := by
    unfold cellAny at h
    obtain ⟨x, hx, e⟩ := List.any_eq_true.mp h
    refine filterMap_lt ⟨x, hx, ?_⟩
    cases x <;> first | rfl | skip
    rename_i id pos
    have e : (!isLocal env.scope id) = true := e
    have e2 : (env.kindOf id == some .local) = false := by
      have hx : env.kindOf id = env.scope.names.lookup id := rfl
      rw [hx]
      unfold isLocal at e
      cases q : env.scope.names.lookup id with
      | none => rfl
      | some kk =>
        rw [q] at e
        cases kk <;> first | rfl | cases e
    show (if (env.kindOf id == some .local && _) = true then some id else none) = none
    rw [e2]; rfl
  have ne : ((es.filterMap F).length != es.length || (es.filterMap F).eraseDups.length != (es.filterMap F).length) = true := by
    have : ((es.filterMap F).length != es.length) = true := by simpa using Nat.ne_of_lt lt
    rw [this]; rfl
  unfold swappedStores
  dsimp only
  split
  · rfl
  · split
    · rfl
    · rename_i c
      split
      · rfl
      · rename_i c
        exact absurd ne c
def isStarE : Expr → Bool
  | .Starred _ _ => true
  | _ => false
theorem star_no {e : Expr} (h : notStar e = true) : isStarE e = false := by
  cases e <;> first | rfl | cases h
theorem sw_two {x y : Str} {px py pt pt2 : Pos} {kt k2 : Nat} {v w : Expr} {env : Env} (hk : env.blockKind = .function) (hx : env.kindOf x = some .local) (hy : env.kindOf y = some .local) (hxy : (x == y) = false) (hl : (py.line == px.line) = true)
    (hv : notStar v = true) (hw : notStar w = true) (hf : (foldedForSure 8 v && foldedForSure 8 w) = false) (hc : (constantsAlone 8 v && constantsAlone 8 w) = false) :
    swappedStores [.Tuple [.Name x px, .Name y py] kt pt] (.Tuple [v, w] k2 pt2) env = pure (some [x, y]) := by
  have s1 : [v, w].any isStarE = false := by
    rw [List.any_cons, List.any_cons, star_no hv, star_no hw]
    rfl
  let F : Expr → Option Str := fun
    | .Name id pos => if env.kindOf id == some .local && pos.line == px.line then some id else none
    | _ => none
  have nm : [Expr.Name x px, .Name y py].filterMap F = [x, y] := by
    have a : F (.Name x px) = some x := by
      show (if (env.kindOf x == some .local && px.line == px.line) = true then some x else none) = some x
      rw [hx]; simp
    have b : F (.Name y py) = some y := by
      show (if (env.kindOf y == some .local && py.line == px.line) = true then some y else none) = some y
      rw [hy, hl]; rfl
    rw [List.filterMap_cons_some a, List.filterMap_cons_some b]
    rfl
  have ed : [x, y].eraseDups.length = 2 := by
    have hyx : (y == x) = false := by rw [← hxy]; exact BEq.comm
    simp [List.eraseDups_cons, hyx]
  have c1 : (([Expr.Name x px, .Name y py].filterMap F).length != 2 || ([Expr.Name x px, .Name y py].filterMap F).eraseDups.length != ([Expr.Name x px, .Name y py].filterMap F).length) = false := by
    rw [nm, ed]; rfl
  have e1 : [v, w].all (foldedForSure 8) = false := by simpa using hf
  have e2 : [v, w].all (constantsAlone 8) = false := by simpa using hc
  unfold swappedStores
  dsimp only [List.length_cons, List.length_nil, List.head?, Option.map, Option.getD]
  rw [hk]
  refine (if_neg (by decide)).trans ((if_neg fun h => absurd (s1.symm.trans h) Bool.false_ne_true).trans ((if_neg fun h => absurd (c1.symm.trans h) Bool.false_ne_true).trans ((if_neg fun h => absurd (e1.symm.trans h) Bool.false_ne_true).trans ((if_neg fun h => absurd (e2.symm.trans h) Bool.false_ne_true).trans ?_))))
  exact congrArg (fun l => (pure (some l) : Sem (Option (List Str)))) nm
theorem sw_three {x y z : Str} {px py pz pt pt2 : Pos} {kt k2 : Nat} {u v w : Expr} {env : Env} (hk : env.blockKind = .function) (hx : env.kindOf x = some .local) (hy : env.kindOf y = some .local) (hz : env.kindOf z = some .local) (hxy : (x == y) = false) (hxz : (x == z) = false) (hyz : (y == z) = false)
    (hl : (py.line == px.line) = true) (hl2 : (pz.line == px.line) = true) (hu : notStar u = true) (hv : notStar v = true) (hw : notStar w = true) (hf : (foldedForSure 8 u && (foldedForSure 8 v && foldedForSure 8 w)) = false) (hc : (constantsAlone 8 u && (constantsAlone 8 v && constantsAlone 8 w)) = false) :
    swappedStores [.Tuple [.Name x px, .Name y py, .Name z pz] kt pt] (.Tuple [u, v, w] k2 pt2) env = pure (some [x, y, z]) := by
  have s1 : [u, v, w].any isStarE = false := by
    rw [List.any_cons, List.any_cons, List.any_cons, star_no hu, star_no hv, star_no hw]
    rfl
  let F : Expr → Option Str := fun
    | .Name id pos => if env.kindOf id == some .local && pos.line == px.line then some id else none
    | _ => none
  have nm : [Expr.Name x px, .Name y py, .Name z pz].filterMap F = [x, y, z] := by
    have a : F (.Name x px) = some x := by
      show (if (env.kindOf x == some .local && px.line == px.line) = true then some x else none) = some x
      rw [hx]; simp
    have b : F (.Name y py) = some y := by
      show (if (env.kindOf y == some .local && py.line == px.line) = true then some y else none) = some y
      rw [hy, hl]; rfl
    have c : F (.Name z pz) = some z := by
      show (if (env.kindOf z == some .local && pz.line == px.line) = true then some z else none) = some z
      rw [hz, hl2]; rfl
    rw [List.filterMap_cons_some a, List.filterMap_cons_some b, List.filterMap_cons_some c]
    rfl
  have ed : [x, y, z].eraseDups.length = 3 := by
    have hyx : (y == x) = false := by rw [← hxy]; exact BEq.comm
    have hzx : (z == x) = false := by rw [← hxz]; exact BEq.comm
    have hzy : (z == y) = false := by rw [← hyz]; exact BEq.comm
    simp [List.eraseDups_cons, hyx, hzx, hzy]
  have c1 : (([Expr.Name x px, .Name y py, .Name z pz].filterMap F).length != 3 || ([Expr.Name x px, .Name y py, .Name z pz].filterMap F).eraseDups.length != ([Expr.Name x px, .Name y py, .Name z pz].filterMap F).length) = false := by
    rw [nm, ed]; rfl
  have e1 : [u, v, w].all (foldedForSure 8) = false := by simpa [List.all_cons] using hf
  have e2 : [u, v, w].all (constantsAlone 8) = false := by simpa [List.all_cons] using hc
  unfold swappedStores
  dsimp only [List.length_cons, List.length_nil, List.head?, Option.map, Option.getD]
  rw [hk]
  refine (if_neg (by decide)).trans ((if_neg fun h => absurd (s1.symm.trans h) Bool.false_ne_true).trans ((if_neg fun h => absurd (c1.symm.trans h) Bool.false_ne_true).trans ((if_neg fun h => absurd (e1.symm.trans h) Bool.false_ne_true).trans ((if_neg fun h => absurd (e2.symm.trans h) Bool.false_ne_true).trans ?_))))
  exact congrArg (fun l => (pure (some l) : Sem (Option (List Str)))) nm
end TL

set_option Elab.async false
set_option linter.all false
set_option maxRecDepth 100000
set_option maxHeartbeats 2000000
/-! TL16: the theorem about statements. -/
namespace TL
open PySem PySem.Spec PyProof.Rows L2

/-- a def's context -/
structure Gx [TabsC] (Γ : TCx) (X : Cx) (sc : Scope) (Xt : XE) (Ew : XS) (G0 Z0 : List Addr) (H0 : Hp) (n0 : Nat) : Prop where
  fx : Fx Γ X Γ.lm
  hsc : X.env.scope = sc
  kd : sc.kind = .function
  tk : Takes X (fun cls d σ H => Ew σ cls d H)
  po : PassesOwn (model X.prog X.w) X.A X.env X.xe
  fn : ∀ x, X.fn x = true
  o0 : Ok G0 Z0 H0 n0
  ws : ∀ σ, Wsh X.mg Γ.cn X.K Xt (Ew σ) G0 Z0 H0
section
variable {Γ : TCx} {X : Cx} {sc : Scope} {Xt : XE} {Ew : XS} {G0 Z0 : List Addr} {H0 : Hp} {n0 : Nat}
theorem Gx.pa [TabsC] (g : Gx Γ X sc Xt Ew G0 Z0 H0 n0) : ∀ σ, PassesAt (L2.CX X.prog X.w) X σ (Ew σ) := fun σ => passAt g.tk σ
theorem Gx.loc [TabsC] (g : Gx Γ X sc Xt Ew G0 Z0 H0 n0) : ∀ x, tgB.isLoc sc x = true → Loc X.env.scope x ∧ (X.fn x = true ∨ X.env.scope.names.lookup x = some .local) := fun x h => by
  refine ⟨?_, .inl (g.fn x)⟩
  rw [g.hsc]
  unfold tgB.isLoc at h
  split at h
  · exact .inl (by assumption)
  · exact .inr (by assumption)
  · cases h
theorem isLocal_eq {x : Str} (h : isLocal sc x = true) : sc.names.lookup x = some .local := by
  unfold isLocal at h
  split at h
  · assumption
  · cases h
theorem Gx.bk [TabsC] (g : Gx Γ X sc Xt Ew G0 Z0 H0 n0) : X.env.blockKind = .function := by
  unfold Env.blockKind
  rw [g.hsc, g.kd]
  rfl
/-- name = comprehension, on one line -/
theorem set_lc [TabsC] (g : Gx Γ X sc Xt Ew G0 Z0 H0 n0) {i : Nat} {x : Str} {p sp : Pos} {own : List Nat} {tg : Tg} {k : SK} {src : Es} {cnd elt : E} {el : Expr} {gn : Comprehension} {scope : Scope} {q : Pos} (hi : X.N[i]? = some x)
    (hs : swB sc x p (.ListComp el [gn] scope q) = true) (h : chkE Γ X.N Γ.lm sc (.lc own tg k src cnd elt) (.ListComp el [gn] scope q) = true) :
    PS X (.Assign [.Name x p] (.ListComp el [gn] scope q) sp) (tAsg (rd Γ X.mg X.K Xt Ew (.lc own tg k src cnd elt)) (gName i)) := by
  have fx := g.fx
  have hsc := g.hsc
  have hp := g.pa
  obtain ⟨t, iter, ifs, ka⟩ := gn
  unfold chkE at h
  simp only [Bool.and_eq_true, decide_eq_true_eq] at h
  obtain ⟨⟨⟨⟨⟨⟨⟨⟨⟨hka, h0⟩, h1⟩, h2⟩, h3⟩, h4⟩, h5⟩, h6⟩, h7⟩, h8⟩ := h
  subst hka
  unfold swB at hs
  simp only [Bool.and_eq_true, Bool.not_eq_true'] at hs
  obtain ⟨⟨hl, hli⟩, hno⟩ := hs
  have hl' : X.env.scope.names.lookup x = some .local := by rw [hsc]; exact isLocal_eq hl
  have bo := blkOk_by h0
  rw [← hsc] at bo
  have fb : ∀ (s : Shared) (H : Hp) (C : Addr) (cl : List (Str × Addr)) (fp : List Addr), Fx Γ (X.blk s H scope (compEnvC scope cl C X.env) fp) Γ.lm := fun s H C cl fp =>
    ⟨fx.nd, fx.calm, fx.gd, fx.un, fx.tba, fx.lam, fx.dg, fx.mono, fx.ar, fx.bl, fx.gc, fx.fn, fx.kw⟩
  have sb : ∀ (s : Shared) (H : Hp) (C : Addr) (cl : List (Str × Addr)) (fp : List Addr), (X.blk s H scope (compEnvC scope cl C X.env) fp).env.scope = relS scope sc := fun s H C cl fp => by rw [← hsc]; rfl
  have lo : ∀ x, tgB.isLoc scope x = true → Loc (relS scope X.env.scope) x ∧ ((scope.names.lookup x == some .cell) = true ∨ (relS scope X.env.scope).names.lookup x = some .local) := fun x hx => by
    unfold tgB.isLoc at hx
    split at hx <;> first | cases hx | skip
    · rename_i e
      have e2 := lookup_relS_keep (sc := X.env.scope) (by decide) e
      exact ⟨.inl e2, .inr e2⟩
    · rename_i e
      have e2 := lookup_relS_keep (sc := X.env.scope) (by decide) e
      exact ⟨.inr e2, .inl (by rw [e]; rfl)⟩
  have pt : ∀ (s : Shared) (H : Hp) (C : Addr) (cl : List (Str × Addr)) (fp : List Addr), PTs (X.blk s H scope (compEnvC scope cl C X.env) fp) ifs (rdT Γ X.mg X.K E0x E0s cnd) := fun s H C cl fp => by
    cases ifs with
    | nil =>
      refine ⟨fun pins s σ H Q I hh => ?_⟩
      obtain ⟨G, Z, n, ρ, st, h⟩ := hh
      have h6 : isT cnd = true := h6
      unfold isT at h6
      split at h6
      · unfold wpE at h
        exact (pts_nil).run pins s σ H Q I (h.2 H G Z Gr.refl st.ok)
      · cases h6
    | cons c ifs =>
      cases ifs with
      | cons _ _ => cases h6
      | nil => exact pts_one (sndT cnd E0x E0s (fb s H C cl fp) (sb s H C cl fp) passA h6 (sndE cnd E0x E0s (fb s H C cl fp) (sb s H C cl fp) passA h6))
  have ow : (own.map fun i => (X.N.getD i ⟨#[]⟩, i)).map (·.2) = own := by
    rw [List.map_map]
    exact List.map_id' _
  have P := ps_setLc (pos := q) (py := p) (spos := sp) (y := x) (i := i) (wi := rdSrc Γ X.mg X.K Xt Ew k src) (g := gOf X.K tg) (tt := rdT Γ X.mg X.K E0x E0s cnd) (te := rd Γ X.mg X.K E0x E0s elt) fx.calm fx.nd hi hl'
    (sw_true (by rw [hsc]; exact g.kd) hl' hli hno) (sndSrc k src Xt Ew fx hsc hp h3 h5) bo
    (fun s H C cl fp => pg_of (X := X.blk s H scope (compEnvC scope cl C X.env) fp) fx.calm fx.nd lo h1) pt (fun s H C cl fp => sndE elt E0x E0s (fb s H C cl fp) (sb s H C cl fp) passA h8) (fold_of h4 _)
  rw [ow] at P
  exact PS.imp P fun D σ H hh => lc_rd fx.mono h2 (fun _ _ _ h => h) (fun _ _ _ h => h) h7 σ H _ hh
theorem PSs.imp {e : List Stmt} {t t' : TS} (h : PSs X e t) (q : ∀ D σ H, t' D σ H → t D σ H) : PSs X e t' :=
  ⟨fun pins s σ H Q I hw => h.run pins s σ H Q I (q Q σ H hw)⟩
theorem tru_bool {P : Bool → Prop} {t : T} (h : truW t P) : truW t P := h
/-- name = e -/
theorem set_rd [TabsC] (g : Gx Γ X sc Xt Ew G0 Z0 H0 n0) {i : Nat} {e : E} (hsg : sg e = true) : ∀ D σ H, rs X.K G0 Z0 H0 (wpS Γ.Φ Γ.C Xt (.set i e)) D σ H → tAsg (rd Γ X.mg X.K Xt Ew e) (gName i) D σ H := by
  rintro D σ H ⟨I, iv, n, ρ, ⟨G, Z, Zm, O, s⟩, h⟩
  unfold wpS at h
  refine ⟨G, Zm, n, ρ, s.stt g.o0 (g.ws σ), wpE_mono g.fx.mono e h fun r n1 h v H1 G1 Y1 gr o w f => ?_⟩
  rw [hsg] at w
  show D.nx (σ.set i (some v)) H1
  obtain ⟨t, fr⟩ := r
  cases fr with
  | true => exact h _ _ (s.setF iv g.o0 gr o w (f rfl))
  | false =>
    obtain ⟨Z1, s1⟩ := s.mono iv g.o0 gr o
    exact h _ _ ⟨_, _, _, _, s1.setv w⟩
/-- names get values, one by one -/
def setV : List Nat → List V → L2.St → L2.St
  | i :: l, v :: vs, σ => setV l vs (σ.set i (some v))
  | _, _, σ => σ
theorem Sm.sets [TabsC] {K : PySem.W.Frag} {I : Hp → List Addr → Prop} {H : Hp} {n : Nat} {G Z Zm O : List Addr} : ∀ (l : List Nat) (vs : List V) (rs : List R) {σ : L2.St} {ρ : Ev}, vs.length = l.length → rs.length = l.length → ρ.length = σ.length → Sm K I G0 Z0 H0 (σ ++ vs.map some) (ρ ++ rs.map slot) H n G Z Zm O → Sm K I G0 Z0 H0 (setV l vs σ) (setR l rs ρ) H n G Z Zm O
  | [], [], [], σ, ρ, _, _, _, s => by simpa [setV, setR] using s
  | i :: l, v :: vs, r :: rs, σ, ρ, e1, e2, e3, s => by
    have s1 := Sm.move (x := some v) (y := slot r) e3 s i
    exact Sm.sets l vs rs (by simpa using e1) (by simpa using e2) (by simp [e3]) s1
theorem len_two {α : Type} : ∀ {l : List α}, l.length = 2 → ∃ a b, l = [a, b]
  | [a, b], _ => ⟨a, b, rfl⟩
theorem len_three {α : Type} : ∀ {l : List α}, l.length = 3 → ∃ a b c, l = [a, b, c]
  | [a, b, c], _ => ⟨a, b, c, rfl⟩
/-- values one by one, each with its sign: behind them all stand as places more -/
def rdf [TabsC] (Γ : TCx) (K : PySem.W.Frag) (Xt : XE) (G0 Z0 : List Addr) (H0 : Hp) (l : Es) : TA := fun σ H Q => ∃ I, Iv I ∧ ∃ (n : Nat) (ρ θ : Ev) (τ : L2.St), ρ.length = σ.length ∧ ∃ G Z Zm O, Sm K I G0 Z0 H0 (σ ++ τ) (ρ ++ θ) H n G Z Zm O ∧
  wpEf Γ.Φ Γ.C Xt l ρ n fun rs n' => ∀ (vs : List V) H' G' Z' Zm' O', vs.length = (sgs l).length → rs.length = (sgs l).length → Sm K I G0 Z0 H0 (σ ++ (τ ++ vs.map some)) (ρ ++ (θ ++ rs.map slot)) H' n' G' Z' Zm' O' → Q vs H'
theorem Stt.sub [TabsC] {mg : Str → Option Value} {cn : Nat → Str} {K : PySem.W.Frag} {Ew : XK} {G Z : List Addr} {H : Hp} {n : Nat} {σ τ : L2.St} {ρ θ : Ev} (hl : ρ.length = σ.length) (s : Stt mg cn K Xt Ew G Z H n (σ ++ τ) (ρ ++ θ)) : Stt mg cn K Xt Ew G Z H n σ ρ := by
  refine ⟨s.ok, fun i b t e => ?_, s.wsh, hl⟩
  have hi : i < ρ.length := (List.getElem?_eq_some_iff.mp e).1
  obtain ⟨v, h1, h2⟩ := s.env i b t (by rw [List.getElem?_append_left hi]; exact e)
  rw [List.getElem?_append_left (by rw [← hl]; exact hi)] at h1
  exact ⟨v, h1, h2⟩
theorem set_end {α : Type} {l : List α} {a b : α} : (l ++ [a]).set l.length b = l ++ [b] := by
  rw [List.set_append_right _ _ (Nat.le_refl _), Nat.sub_self]
  rfl
theorem sndEf [TabsC] (g : Gx Γ X sc Xt Ew G0 Z0 H0 n0) : ∀ (l : Es) {es : List Expr}, (sgs l).all id = true → chkEs Γ X.N Γ.lm sc l es = true → PA X es (rdf Γ X.K Xt G0 Z0 H0 l)
  | .nil, es, _, h => by
    cases es with
    | cons _ _ => unfold chkEs at h; cases h
    | nil =>
      refine PA.imp pa_nil ?_
      rintro σ H Q ⟨I, iv, n, ρ, θ, τ, hl, G, Z, Zm, O, s, h⟩
      unfold wpEf at h
      exact h [] H G Z Zm O rfl rfl (by simpa using s)
  | .cons a l, es, hs, h => by
    cases es with
    | nil => unfold chkEs at h; cases h
    | cons e es =>
      unfold chkEs at h
      simp only [Bool.and_eq_true] at h
      have hs' : sg a = true ∧ (sgs l).all id = true := by
        have hs : (sgs (.cons a l)).all id = true := hs
        unfold sgs at hs
        rw [List.all_cons, Bool.and_eq_true] at hs
        exact hs
      refine PA.imp (pa_cons (sndE a Xt Ew g.fx g.hsc g.pa h.1.2) (sndEf g l hs'.2 h.2) (star_of h.1.1 _ _)) ?_
      rintro σ H Q ⟨I, iv, n, ρ, θ, τ, hl, G, Z, Zm, O, s, hh⟩
      unfold wpEf at hh
      refine ⟨G, Zm, n, ρ, (s.stt g.o0 (g.ws σ)).sub hl, wpE_mono g.fx.mono a hh fun r n1 hr v H1 G1 Y1 gr o w f => ?_⟩
      rw [hs'.1] at w
      have key : ∃ G2 Z2 Zm2 O2, Sm X.K I G0 Z0 H0 (σ ++ (τ ++ [some v])) (ρ ++ (θ ++ [slot r])) H1 n1 G2 Z2 Zm2 O2 := by
        obtain ⟨t, fr⟩ := r
        cases fr with
        | true =>
          obtain ⟨G2, Z2, Zm2, O2, s2⟩ := s.push.setF (i := (σ ++ τ).length) iv g.o0 gr o w (f rfl)
          rw [set_end] at s2
          rw [← s.len, set_end] at s2
          exact ⟨G2, Z2, Zm2, O2, by simpa [slot] using s2⟩
        | false =>
          obtain ⟨Z2, s2⟩ := s.push.mono iv g.o0 gr o
          have s3 := s2.setv (i := (σ ++ τ).length) w
          rw [set_end] at s3
          rw [← s.len, set_end] at s3
          exact ⟨_, _, _, _, by simpa [slot] using s3⟩
      obtain ⟨G2, Z2, Zm2, O2, s2⟩ := key
      refine ⟨I, iv, n1, ρ, θ ++ [slot r], τ ++ [some v], hl, G2, Z2, Zm2, O2, s2, wpEf_mono g.fx.mono l hr fun rs n2 hq vs H' G' Z' Zm' O' e1 e2 s3 => ?_⟩
      exact hq (v :: vs) H' G' Z' Zm' O' (by unfold sgs; simp [e1]) (by unfold sgs; simp [e2]) (by simpa using s3)
mutual
theorem sndS [TabsC] (g : Gx Γ X sc Xt Ew G0 Z0 H0 n0) : ∀ (s : S) {st : Stmt}, chkS Γ X.N sc s st = true → PS X st (rs X.K G0 Z0 H0 (wpS Γ.Φ Γ.C Xt s))
  | .no, st, h => by
    refine ⟨fun pins s σ H D I hh => ?_⟩
    obtain ⟨_, _, _, _, _, hh⟩ := hh
    unfold wpS at hh
    exact hh.elim
  | .raise c e, st, h => by unfold chkS at h; cases st <;> cases h
  | .pass, st, h => by
    unfold chkS at h
    cases st <;> first | cases h | skip
    refine PS.imp ps_pass ?_
    rintro D σ H ⟨I, iv, n, ρ, sm, h⟩
    unfold wpS at h
    exact h σ H sm
  | .brk, st, h => by
    unfold chkS at h
    cases st <;> first | cases h | skip
    refine PS.imp ps_break ?_
    rintro D σ H ⟨I, iv, n, ρ, sm, h⟩
    unfold wpS at h
    exact h σ H sm
  | .cont, st, h => by
    unfold chkS at h
    cases st <;> first | cases h | skip
    refine PS.imp ps_continue ?_
    rintro D σ H ⟨I, iv, n, ρ, sm, h⟩
    unfold wpS at h
    exact h σ H sm
  | .ret e, st, h => by
    unfold chkS at h
    cases st <;> first | cases h | skip
    rename_i o _
    cases o with
    | none => cases h
    | some x =>
      simp only [Bool.and_eq_true] at h
      refine PS.imp (ps_ret (sndE e Xt Ew g.fx g.hsc g.pa h.2)) ?_
      rintro D σ H ⟨I, iv, n, ρ, ⟨G, Z, Zm, O, s⟩, hh⟩
      unfold wpS at hh
      refine ⟨G, Zm, n, ρ, s.stt g.o0 (g.ws σ), wpE_mono g.fx.mono e hh fun r n1 hr => ?_⟩
      rw [h.1]
      exact s.out g.o0 hr
  | .retO i, st, h => by
    unfold chkS at h
    cases st <;> first | cases h | skip
    rename_i o _
    cases o with
    | none => cases h
    | some x =>
      cases x <;> first | cases h | skip
      simp only [Bool.and_eq_true, decide_eq_true_eq] at h
      refine PS.imp (ps_ret (pe_var h.1.1 (vis_of g.hsc h.1.2) (dbg_of h.2).1 (dbg_of h.2).2)) ?_
      rintro D σ H ⟨I, iv, n, ρ, ⟨G, Z, Zm, O, s⟩, hh⟩
      unfold wpS at hh
      obtain ⟨t, e, hh⟩ := hh
      exact s.outO g.o0 e hh
  | .set i e, st, h => by
    unfold chkS at h
    cases st <;> first | cases h | skip
    rename_i ts v sp
    cases ts with
    | nil => cases h
    | cons tx ts =>
      cases tx <;> first | cases h | skip
      rename_i x p
      cases ts with
      | cons _ _ => cases h
      | nil =>
        simp only [Bool.and_eq_true, decide_eq_true_eq] at h
        obtain ⟨⟨⟨⟨⟨h1, h2⟩, h3⟩, h4⟩, h6⟩, h5⟩ := h
        have plain : swB sc x p v = false → PS X (.Assign [.Name x p] v sp) (rs X.K G0 Z0 H0 (wpS Γ.Φ Γ.C Xt (.set i e))) := fun hn =>
          PS.imp (ps_set g.fx.nd h1 (g.loc x h2).1 (sndE e Xt Ew g.fx g.hsc g.pa h5) (by rw [sw_val g.bk, g.hsc, hn]) (.inl (g.fn x))) (set_rd g h3)
        cases hn : swB sc x p v with
        | false => exact plain hn
        | true =>
          cases v <;> first | cases hn | skip
          · rename_i el gs scope q
            cases gs with
            | nil => cases h4
            | cons gn gs =>
              cases gs with
              | cons _ _ => cases h4
              | nil =>
                cases e <;> first | (unfold chkE at h5; cases h5; done) | skip
                case lc own tg k src cnd elt => exact PS.imp (set_lc g h1 hn h5) (set_rd g h3)
                case atm a => cases h6
          · cases h4
          · cases h4
  | .upk l e, st, h => by
    unfold chkS at h
    cases st <;> first | cases h | skip
    rename_i ts v sp
    cases ts with
    | nil => cases h
    | cons tx ts =>
      cases tx <;> first | cases h | skip
      rename_i es k p
      cases ts with
      | cons _ _ => cases h
      | nil =>
        simp only [Bool.and_eq_true] at h
        obtain ⟨⟨⟨⟨h1, h2⟩, h3⟩, h4⟩, h5⟩ := h
        refine PS.imp (ps_asg (sndE e Xt Ew g.fx g.hsc g.pa h5) (pg_of g.fx.calm g.fx.nd g.loc h1) (by unfold swapsWithSole; exact sw_false h3 _ _ _) (by
          rw [Bool.or_eq_true] at h4
          rcases h4 with h4 | h4
          · exact sw_none h4 _
          · exact sw_cell (by rw [g.hsc]; exact h4))) ?_
        rintro D σ H ⟨I, iv, n, ρ, ⟨G, Z, Zm, O, s⟩, h⟩
        unfold wpS at h
        refine ⟨G, Zm, n, ρ, s.stt g.o0 (g.ws σ), wpE_mono g.fx.mono e h fun r n1 h v H1 G1 Y1 gr o w f => ?_⟩
        rw [h2] at w
        obtain ⟨x, ρ', e1, e2, h⟩ := h
        rw [e1] at w
        obtain ⟨Z1, s1⟩ := s.mono iv g.o0 gr o
        exact s1.tg e2 w fun σ' s2 => h σ' H1 ⟨_, _, _, _, s2⟩
  | .par l es, st, h => by
    unfold chkS at h
    cases st <;> first | cases h | skip
    rename_i ts v sp
    cases ts with
    | nil => cases h
    | cons tx ts =>
      cases tx <;> first | cases h | skip
      rename_i xs k p
      cases ts with
      | cons _ _ => cases h
      | nil =>
        cases v <;> first | cases h | skip
        rename_i vs k2 p2
        simp only [Bool.and_eq_true] at h
        obtain ⟨⟨⟨h1, h2⟩, h3⟩, h4⟩ := h
        have ha := sndEf g es h2 h4
        have fin : ∀ {vs : List V} {rs : List R} {D : Ends} {H' : Hp} {I : Hp → List Addr → Prop} {n : Nat} {ρ : Ev} {σ : L2.St} {G Z Zm O : List Addr}, vs.length = l.length → rs.length = l.length → ρ.length = σ.length → Sm X.K I G0 Z0 H0 (σ ++ vs.map some) (ρ ++ rs.map slot) H' n G Z Zm O →
            (endR X.K I G0 Z0 H0 D).nx (setR l rs ρ) n → D.nx (setV l vs σ) H' := fun {vs rs D H' I n ρ σ G Z Zm O} e1 e2 e3 s hd => hd _ _ ⟨_, _, _, _, Sm.sets l vs rs e1 e2 e3 s⟩
        unfold parOk at h1
        split at h1
        · simp only [Bool.and_eq_true, Bool.not_eq_true', decide_eq_true_eq] at h1
          obtain ⟨⟨⟨⟨⟨⟨⟨q0, q1⟩, q2⟩, q3⟩, q4⟩, q5⟩, q6⟩, q7⟩ := h1
          rename_i i j x px y py a b
          have lx : X.env.scope.names.lookup x = some .local := by rw [g.hsc]; exact isLocal_eq q2
          have ly : X.env.scope.names.lookup y = some .local := by rw [g.hsc]; exact isLocal_eq q3
          have hij : i ≠ j := fun z => by
            subst z
            rw [q0] at q1
            rw [Option.some.inj q1] at q4
            simp at q4
          simp only [List.all_cons, List.all_nil, Bool.and_true, Bool.and_eq_true] at h3
          refine PS.imp (ps_par g.fx.calm g.fx.nd q0 q1 hij lx ly ha (sw_two g.bk lx ly q4 q5 h3.1 h3.2 q6 q7)) ?_
          rintro D σ H ⟨I, iv, n, ρ, ⟨G, Z, Zm, O, s⟩, h⟩
          unfold wpS at h
          refine ⟨I, iv, n, ρ, [], [], s.len, G, Z, Zm, O, by simpa using s, wpEf_mono g.fx.mono es h fun rs n1 h vs H1 G1 Z1 Zm1 O1 e1 e2 s1 => ?_⟩
          have e0 : (sgs es).length = 2 := chkEs_len h4
          obtain ⟨v1, v2, rfl⟩ := len_two (e1.trans e0)
          exact ⟨v1, v2, rfl, fin (vs := [v1, v2]) rfl (e2.trans e0) s.len (by simpa using s1) h⟩
        · simp only [Bool.and_eq_true, Bool.not_eq_true', decide_eq_true_eq] at h1
          obtain ⟨⟨⟨⟨⟨⟨⟨⟨⟨⟨⟨⟨q0, q1⟩, q2⟩, q3⟩, q4⟩, q5⟩, q6⟩, q7⟩, q8⟩, q9⟩, q10⟩, q11⟩, q12⟩ := h1
          rename_i i j k x px y py z pz a b c
          have lx : X.env.scope.names.lookup x = some .local := by rw [g.hsc]; exact isLocal_eq q3
          have ly : X.env.scope.names.lookup y = some .local := by rw [g.hsc]; exact isLocal_eq q4
          have lz : X.env.scope.names.lookup z = some .local := by rw [g.hsc]; exact isLocal_eq q5
          have hij : i ≠ j := fun z => by
            subst z
            rw [q0] at q1
            rw [Option.some.inj q1] at q6
            simp at q6
          have hik : i ≠ k := fun z => by
            subst z
            rw [q0] at q2
            rw [Option.some.inj q2] at q7
            simp at q7
          have hjk : j ≠ k := fun z => by
            subst z
            rw [q1] at q2
            rw [Option.some.inj q2] at q8
            simp at q8
          simp only [List.all_cons, List.all_nil, Bool.and_true, Bool.and_eq_true] at h3
          refine PS.imp (ps_par3 g.fx.calm g.fx.nd q0 q1 q2 hij hik hjk lx ly lz ha (sw_three g.bk lx ly lz q6 q7 q8 q9 q10 h3.1 h3.2.1 h3.2.2 q11 q12)) ?_
          rintro D σ H ⟨I, iv, n, ρ, ⟨G, Z, Zm, O, s⟩, h⟩
          unfold wpS at h
          refine ⟨I, iv, n, ρ, [], [], s.len, G, Z, Zm, O, by simpa using s, wpEf_mono g.fx.mono es h fun rs n1 h vs H1 G1 Z1 Zm1 O1 e1 e2 s1 => ?_⟩
          have e0 : (sgs es).length = 3 := chkEs_len h4
          obtain ⟨v1, v2, v3, rfl⟩ := len_three (e1.trans e0)
          exact ⟨v1, v2, v3, rfl, fin (vs := [v1, v2, v3]) rfl (e2.trans e0) s.len (by simpa using s1) h⟩
        · cases h1
  | .app i e, st, h => by
    unfold chkS at h
    cases st <;> first | cases h | skip
    rename_i ce sp
    cases ce <;> first | cases h | skip
    rename_i fn es kws cp
    cases fn <;> first | cases h | skip
    rename_i o m ap
    cases o <;> first | cases h | skip
    rename_i x xp
    cases es with
    | nil => cases h
    | cons v es =>
      cases es with
      | cons _ _ => cases h
      | nil =>
        cases kws with
        | cons _ _ => cases h
        | nil =>
          simp only [Bool.and_eq_true, decide_eq_true_eq] at h
          obtain ⟨⟨⟨⟨⟨⟨⟨h0, h1⟩, h2⟩, h3⟩, h4⟩, h5⟩, h6⟩, h7⟩ := h
          subst h0
          refine PS.imp (ps_expr (pe_bm PySem.F.plainAttrs_list PySem.F.slot_list_append PySem.F.type_list_append mt_append (pe_var h2 (vis_of g.hsc h3) (dbg_of h4).1 (dbg_of h4).2) (pa_cons (sndE e Xt Ew g.fx g.hsc g.pa h7) pa_nil (star_of h6 _ _)) rfl
            (by rw [star_of h6]; rfl) (by simpa using h1) (star_of h6 _ _) rfl)) ?_
          rintro D σ H ⟨I, iv, n, ρ, ⟨G, Z, Zm, O, s⟩, h⟩
          unfold wpS at h
          obtain ⟨ds, e1, h⟩ := h
          obtain ⟨w, e2, _, ow⟩ := s.env i true _ e1
          obtain ⟨p, vs, rfl, pG, hp, ra⟩ := ow rfl
          refine ⟨_, e2, .inl ⟨rfl, _, .inl (.inl hp)⟩, ?_⟩
          show rd Γ X.mg X.K Xt Ew e σ H _
          refine ⟨G, Zm, n, ρ, s.stt g.o0 (g.ws σ), wpE_mono g.fx.mono e h fun r n1 h v H1 G1 Y1 gr o w f => ?_⟩
          rw [h5] at w
          obtain ⟨y, ey, hz, h⟩ := h
          rw [ey] at w
          obtain ⟨Z1, s1⟩ := s.mono iv g.o0 gr o
          obtain ⟨p', vs', e3, hp', hl, s2⟩ := s1.app iv e1 w
          rw [e2] at e3
          cases e3
          exact ⟨p, vs', v, rfl, rfl, hp', by rw [hl]; exact hz, h _ _ ⟨_, _, _, _, s2⟩⟩
  | .ins i a b, st, h => by
    unfold chkS at h
    split at h <;> first | contradiction | skip
    all_goals first | (rename_i he _; cases he; done) | skip
    rename_i he
    cases he
    rename_i x xp m ap v w cp sp
    simp only [Bool.and_eq_true, decide_eq_true_eq] at h
    obtain ⟨⟨⟨⟨⟨⟨⟨⟨⟨h0, h1⟩, h2⟩, h3⟩, h4⟩, h5⟩, h6⟩, h6'⟩, h7⟩, h7'⟩ := h
    subst h0
    refine PS.imp (ps_expr (pe_bm PySem.F.plainAttrs_list PySem.F.slot_list_insert PySem.F.type_list_insert mt_insert (pe_var h2 (vis_of g.hsc h3) (dbg_of h4).1 (dbg_of h4).2) (pa_cons (sndE a Xt Ew g.fx g.hsc g.pa h7) (pa_cons (sndE b Xt Ew g.fx g.hsc g.pa h7') pa_nil (star_of h6' _ _)) (star_of h6 _ _)) rfl
      (by rw [star_of h6, star_of h6']; rfl) (by simpa using h1) (star_of h6 _ _) (by rw [star_of h6']; rfl))) ?_
    rintro D σ H ⟨I, iv, n, ρ, ⟨G, Z, Zm, O, s⟩, h⟩
    unfold wpS at h
    obtain ⟨ds, e1, h⟩ := h
    obtain ⟨p, u, e2, hp, oc, _, _⟩ := s.wrO iv e1
    obtain ⟨vs, rfl, ra⟩ := oc
    refine ⟨_, e2, .inl ⟨rfl, _, .inl (.inl hp)⟩, ?_⟩
    show rd Γ X.mg X.K Xt Ew a σ H _
    refine ⟨G, Zm, n, ρ, s.stt g.o0 (g.ws σ), wpE_mono g.fx.mono a h fun x1 n1 h va H1 G1 Y1 gr o wa fa => ?_⟩
    obtain ⟨Z1, s1⟩ := s.mono iv g.o0 gr o
    show rd Γ X.mg X.K Xt Ew b σ H1 _
    refine ⟨G1, Y1, n1, ρ, s1.stt g.o0 (g.ws σ), wpE_mono g.fx.mono b h fun r n2 h vb H2 G2 Y2 gr2 o2 wb fb => ?_⟩
    obtain ⟨Z2, s2⟩ := s1.mono iv g.o0 gr2 o2
    rw [h5] at wb
    obtain ⟨z, y, ez, ey, ⟨z0, z1, z2⟩, h⟩ := h
    rw [ez] at wa
    rw [ey] at wb
    obtain rfl := wa.weak.int
    have wb : Rp X.K (mask H2 Y2) vb y := wb
    obtain ⟨p', u, e3, hp', oc, _, wr⟩ := s2.wrO iv e1
    obtain ⟨vs', rfl, ra'⟩ := oc
    rw [e2] at e3
    cases e3
    exact ⟨p, vs', z, vb, rfl, rfl, hp', by rw [ra'.length]; exact z2, z0, by omega, h _ _ ⟨_, _, _, _, wr _ _ ⟨_, rfl, ((ra'.take _).append (.one wb)).append (ra'.drop _)⟩⟩⟩
  | .ext i e, st, h => by
    unfold chkS at h
    split at h <;> first | contradiction | skip
    all_goals first | (rename_i he _; cases he; done) | skip
    rename_i he
    cases he
    rename_i x xp m ap v cp sp
    simp only [Bool.and_eq_true, decide_eq_true_eq] at h
    obtain ⟨⟨⟨⟨⟨⟨⟨h0, h1⟩, h2⟩, h3⟩, h4⟩, h5⟩, h6⟩, h7⟩ := h
    subst h0
    refine PS.imp (ps_expr (pe_bm PySem.F.plainAttrs_list PySem.F.slot_list_extend PySem.F.type_list_extend mt_extend (pe_var h2 (vis_of g.hsc h3) (dbg_of h4).1 (dbg_of h4).2) (pa_cons (sndE e Xt Ew g.fx g.hsc g.pa h7) pa_nil (star_of h6 _ _)) rfl
      (by rw [star_of h6]; rfl) (by simpa using h1) (star_of h6 _ _) rfl)) ?_
    rintro D σ H ⟨I, iv, n, ρ, ⟨G, Z, Zm, O, s⟩, h⟩
    unfold wpS at h
    obtain ⟨ds, e1, h⟩ := h
    obtain ⟨p, u, e2, hp, oc, _, _⟩ := s.wrO iv e1
    obtain ⟨vs, rfl, ra⟩ := oc
    refine ⟨_, e2, .inl ⟨rfl, _, .inl (.inl hp)⟩, ?_⟩
    show rd Γ X.mg X.K Xt Ew e σ H _
    refine ⟨G, Zm, n, ρ, s.stt g.o0 (g.ws σ), wpE_mono g.fx.mono e h fun r n1 h v H1 G1 Y1 gr o w f => ?_⟩
    obtain ⟨Z1, s1⟩ := s.mono iv g.o0 gr o
    rw [h5] at w
    obtain ⟨ys, ey, hz, h⟩ := h
    rw [ey] at w
    obtain ⟨q, ws, rfl, hq, rb⟩ := (show RW X.K H1 G1 Y1 v (.d (.list ys)) from .inl w).lst
    obtain ⟨p', u, e3, hp', oc, em, wr⟩ := s1.wrO iv e1
    obtain ⟨vs', rfl, ra'⟩ := oc
    rw [e2] at e3
    cases e3
    exact ⟨p, q, vs', ws, rfl, rfl, hp', hq, by rw [ra'.length, rb.length]; exact hz, h _ _ ⟨_, _, _, _, wr _ _ ⟨_, rfl, ra'.append rb⟩⟩⟩
  | .pset j i l, st, h => by
    unfold chkS at h
    split at h <;> first | contradiction | skip
    all_goals first | (rename_i he _; cases he; done) | skip
    rename_i he
    cases he
    rename_i x p y yp m ap vs cp sp
    simp only [Bool.and_eq_true, decide_eq_true_eq] at h
    obtain ⟨⟨⟨⟨⟨⟨⟨⟨q1, q2⟩, h0⟩, h1⟩, h2⟩, h3⟩, h4⟩, h5⟩, h7⟩ := h
    subst h0
    have pv : PE X (.Name y yp) _ := pe_var h2 (vis_of g.hsc h3) (dbg_of h4).1 (dbg_of h4).2
    cases vs with
    | nil =>
      cases l with
      | cons _ _ => unfold chkEs at h7; cases h7
      | nil =>
        refine PS.imp (ps_set g.fx.nd q1 (g.loc x q2).1 (pe_bm0 PySem.F.plainAttrs_list PySem.F.slot_list_pop PySem.F.type_list_pop mt_pop pv rfl (by simpa using h1)) rfl (.inl (g.fn x))) ?_
        rintro D σ H ⟨I, iv, n, ρ, ⟨G, Z, Zm, O, s⟩, h⟩
        unfold wpS wpEs at h
        obtain ⟨ds, e1, yy, ey, h⟩ := h
        obtain ⟨pp, u, e2, hp, oc, em, wr⟩ := s.wrO iv e1
        obtain ⟨us, rfl, ra⟩ := oc
        obtain ⟨v, ev, rv⟩ := ra.get ey
        have s2 := wr _ (.list ds.dropLast) ⟨us.dropLast, rfl, by rw [List.dropLast_eq_take, List.dropLast_eq_take, ra.length]; exact ra.take _⟩
        have rv2 : RpT X.K _ G Zm v (.d yy) := show Rp X.K (mask (upd H pp (.lst us.dropLast)) Zm) v yy by rw [em]; exact rv
        exact ⟨_, e2, .inl ⟨rfl, _, .inl (.inl hp)⟩, pp, us, v, rfl, rfl, hp, by rw [ra.length]; exact ev, h _ _ ⟨_, _, _, _, s2.setv rv2⟩⟩
    | cons w vs =>
      cases vs with
      | cons _ _ => exact absurd h5 (by simp)
      | nil =>
        cases l with
        | nil => unfold chkEs at h7; cases h7
        | cons a l =>
          cases l with
          | cons _ _ => unfold chkEs chkEs at h7; simp at h7
          | nil =>
            unfold chkEs chkEs at h7
            simp only [Bool.and_eq_true, Bool.and_true] at h7
            obtain ⟨h6, h7⟩ := h7
            refine PS.imp (ps_set g.fx.nd q1 (g.loc x q2).1 (pe_bm PySem.F.plainAttrs_list PySem.F.slot_list_pop PySem.F.type_list_pop mt_popAt pv (pa_cons (sndE a Xt Ew g.fx g.hsc g.pa h7) pa_nil (star_of h6 _ _)) rfl (by rw [star_of h6]; rfl) (by simpa using h1) (star_of h6 _ _) rfl) rfl (.inl (g.fn x))) ?_
            rintro D σ H ⟨I, iv, n, ρ, ⟨G, Z, Zm, O, s⟩, h⟩
            unfold wpS wpEs wpEs at h
            obtain ⟨ds, e1, h⟩ := h
            obtain ⟨pp, u, e2, hp, oc, _, _⟩ := s.wrO iv e1
            obtain ⟨us, rfl, ra⟩ := oc
            refine ⟨_, e2, .inl ⟨rfl, _, .inl (.inl hp)⟩, ?_⟩
            show rd Γ X.mg X.K Xt Ew a σ H _
            refine ⟨G, Zm, n, ρ, s.stt g.o0 (g.ws σ), wpE_mono g.fx.mono a h fun r n1 h va H1 G1 Y1 gr o wa fa => ?_⟩
            obtain ⟨Z1, s1⟩ := s.mono iv g.o0 gr o
            obtain ⟨z, k, yy, ez, ⟨z0, z1⟩, ek, ey, h⟩ := pop_int h
            rw [ez] at wa
            obtain rfl := wa.weak.int
            obtain ⟨p', u, e3, hp', oc, em, wr⟩ := s1.wrO iv e1
            obtain ⟨us', rfl, ra'⟩ := oc
            rw [e2] at e3
            cases e3
            obtain ⟨v, ev, rv⟩ := ra'.get ey
            obtain ⟨k1, k2, k3, k4⟩ := ixN_seq ek
            have s2 := wr _ (.list (ds.eraseIdx k)) ⟨us'.eraseIdx k, rfl, ra'.erase k⟩
            have rv2 : RpT X.K _ G1 Y1 v (.d yy) := show Rp X.K (mask (upd H1 pp (.lst (us'.eraseIdx k))) Y1) v yy by rw [em]; exact rv
            exact ⟨pp, us', z, k, v, rfl, rfl, hp', by omega, by omega, by rw [ra'.length]; exact k1, ev, h _ _ ⟨_, _, _, _, s2.setv rv2⟩⟩
  | .papp j i l, st, h => by
    unfold chkS at h
    split at h <;> first | contradiction | skip
    all_goals first | (rename_i he _; cases he; done) | skip
    rename_i he
    cases he
    rename_i x xp mx apx y yp m ap vs cp cpx sp
    simp only [Bool.and_eq_true, decide_eq_true_eq] at h
    obtain ⟨⟨⟨⟨⟨⟨⟨⟨⟨⟨⟨⟨q1, q2⟩, q3⟩, q4⟩, q5⟩, h0⟩, h1⟩, h2⟩, h3⟩, h4⟩, h5⟩, hij⟩, h7⟩ := h
    subst h0 q4
    have pv : PE X (.Name y yp) _ := pe_var h2 (vis_of g.hsc h3) (dbg_of h4).1 (dbg_of h4).2
    have px : PE X (.Name x xp) _ := pe_var q1 (vis_of g.hsc q2) (dbg_of q3).1 (dbg_of q3).2
    cases vs with
    | nil =>
      cases l with
      | cons _ _ => unfold chkEs at h7; cases h7
      | nil =>
        refine PS.imp (ps_expr (pe_bm PySem.F.plainAttrs_list PySem.F.slot_list_append PySem.F.type_list_append mt_append px (pa_cons (pe_bm0 PySem.F.plainAttrs_list PySem.F.slot_list_pop PySem.F.type_list_pop mt_pop pv rfl (by simpa using h1)) pa_nil rfl) rfl rfl (by simpa using q5) rfl rfl)) ?_
        rintro D σ H ⟨I, iv, n, ρ, ⟨G, Z, Zm, O, s⟩, h⟩
        unfold wpS wpEs at h
        obtain ⟨ds, es, e1, f1, fl, yy, ey, h⟩ := h
        obtain ⟨pp, u, e2, hp, oc, em, wr⟩ := s.wrO iv e1
        obtain ⟨us, rfl, ra⟩ := oc
        obtain ⟨pj, uj, f2, hpj, ocj, _, _⟩ := s.wrO iv f1
        obtain ⟨ws, rfl, rj⟩ := ocj
        obtain ⟨v, ev, rv⟩ := ra.get ey
        have s2 := wr _ (.list ds.dropLast) ⟨us.dropLast, rfl, by rw [List.dropLast_eq_take, List.dropLast_eq_take, ra.length]; exact ra.take _⟩
        have rv2 : Rp X.K (mask (upd H pp (.lst us.dropLast)) Zm) v yy := by rw [em]; exact rv
        obtain ⟨pj', ws', f3, hpj', hlj, s3⟩ := s2.app iv (by rw [List.getElem?_set_ne hij]; exact f1) rv2
        rw [f2] at f3
        cases f3
        exact ⟨_, f2, .inl ⟨rfl, _, .inl (.inl hpj)⟩, _, e2, .inl ⟨rfl, _, .inl (.inl hp)⟩, pp, us, v, rfl, rfl, hp, by rw [ra.length]; exact ev, pj, ws', v, rfl, rfl, hpj', by rw [hlj]; exact fl, h _ _ ⟨_, _, _, _, s3⟩⟩
    | cons w vs =>
      cases vs with
      | cons _ _ => exact absurd h5 (by simp)
      | nil =>
        cases l with
        | nil => unfold chkEs at h7; cases h7
        | cons a l =>
          cases l with
          | cons _ _ => unfold chkEs chkEs at h7; simp at h7
          | nil =>
            unfold chkEs chkEs at h7
            simp only [Bool.and_eq_true, Bool.and_true] at h7
            obtain ⟨h6, h7⟩ := h7
            refine PS.imp (ps_expr (pe_bm PySem.F.plainAttrs_list PySem.F.slot_list_append PySem.F.type_list_append mt_append px (pa_cons (pe_bm PySem.F.plainAttrs_list PySem.F.slot_list_pop PySem.F.type_list_pop mt_popAt pv (pa_cons (sndE a Xt Ew g.fx g.hsc g.pa h7) pa_nil (star_of h6 _ _)) rfl (by rw [star_of h6]; rfl) (by simpa using h1) (star_of h6 _ _) rfl) pa_nil rfl) rfl rfl (by simpa using q5) rfl rfl)) ?_
            rintro D σ H ⟨I, iv, n, ρ, ⟨G, Z, Zm, O, s⟩, h⟩
            unfold wpS wpEs wpEs at h
            obtain ⟨ds, es, e1, f1, fl, h⟩ := h
            obtain ⟨pp, u, e2, hp, oc, _, _⟩ := s.wrO iv e1
            obtain ⟨us, rfl, ra⟩ := oc
            obtain ⟨pj, uj, f2, hpj, ocj, _, _⟩ := s.wrO iv f1
            obtain ⟨ws, rfl, rj⟩ := ocj
            refine ⟨_, f2, .inl ⟨rfl, _, .inl (.inl hpj)⟩, _, e2, .inl ⟨rfl, _, .inl (.inl hp)⟩, ?_⟩
            show rd Γ X.mg X.K Xt Ew a σ H _
            refine ⟨G, Zm, n, ρ, s.stt g.o0 (g.ws σ), wpE_mono g.fx.mono a h fun r n1 h va H1 G1 Y1 gr o wa fa => ?_⟩
            obtain ⟨Z1, s1⟩ := s.mono iv g.o0 gr o
            obtain ⟨z, k, yy, ez, ⟨z0, z1⟩, ek, ey, h⟩ := pop_int h
            rw [ez] at wa
            obtain rfl := wa.weak.int
            obtain ⟨p', u, e3, hp', oc, em, wr⟩ := s1.wrO iv e1
            obtain ⟨us', rfl, ra'⟩ := oc
            rw [e2] at e3
            cases e3
            obtain ⟨v, ev, rv⟩ := ra'.get ey
            obtain ⟨k1, k2, k3, k4⟩ := ixN_seq ek
            have s2 := wr _ (.list (ds.eraseIdx k)) ⟨us'.eraseIdx k, rfl, ra'.erase k⟩
            have rv2 : Rp X.K (mask (upd H1 pp (.lst (us'.eraseIdx k))) Y1) v yy := by rw [em]; exact rv
            obtain ⟨pj', ws', f3, hpj', hlj, s3⟩ := s2.app iv (by rw [List.getElem?_set_ne hij]; exact f1) rv2
            rw [f2] at f3
            cases f3
            exact ⟨pp, us', z, k, v, rfl, rfl, hp', by omega, by omega, by rw [ra'.length]; exact k1, ev, pj, ws', v, rfl, rfl, hpj', by rw [hlj]; exact fl, h _ _ ⟨_, _, _, _, s3⟩⟩
  | .sub i a e, st, h => by
    unfold chkS at h
    split at h <;> first | contradiction | skip
    all_goals first | (rename_i he _; cases he; done) | skip
    rename_i he
    cases he
    rename_i x xp sl tp v sp
    simp only [Bool.and_eq_true, decide_eq_true_eq] at h
    obtain ⟨⟨⟨⟨⟨⟨⟨hpl, h0⟩, h1⟩, h2⟩, h5⟩, h6⟩, h7⟩, h8⟩ := h
    have ps : PSet X (fun o i v H Q => rSetL o i v H Q ∨ rSetD o i v H Q) := fun pins s σ H o i v ov iv u Q I ro ri rv h => by
      rcases h with h | h
      · exact set_list pins s σ H o i v ov iv u Q I ro ri rv h
      · exact set_dict (by have := g.fx.un; omega) pins s σ H o i v ov iv u Q I ro ri rv h
    refine PS.imp (ps_asg (sndE e Xt Ew g.fx g.hsc g.pa h7) (pg_sub (pe_var h0 (vis_of g.hsc h1) (dbg_of h2).1 (dbg_of h2).2) (sndE a Xt Ew g.fx g.hsc g.pa h8) ps (by intro v; cases sl <;> first | rfl | cases hpl)) (by unfold swapsWithSole; exact sw_false h6 _ _ _) (by cases v <;> rfl)) ?_
    rintro D σ H ⟨I, iv, n, ρ, ⟨G, Z, Zm, O, s⟩, h⟩
    unfold wpS at h
    obtain ⟨c, e1, h⟩ := h
    refine ⟨G, Zm, n, ρ, s.stt g.o0 (g.ws σ), wpE_mono g.fx.mono e h fun r n1 h va H1 G1 Y1 gr o w f => ?_⟩
    obtain ⟨Z1, s1⟩ := s.mono iv g.o0 gr o
    rw [h5] at w
    obtain ⟨y, ey, h⟩ := h
    rw [ey] at w
    have w : Rp X.K (mask H1 Y1) va y := w
    obtain ⟨pp, u, e2, _, _, _, _⟩ := s1.wrO iv e1
    refine ⟨_, e2, ?_⟩
    show rd Γ X.mg X.K Xt Ew a σ H1 _
    refine ⟨G1, Y1, n1, ρ, s1.stt g.o0 (g.ws σ), wpE_mono g.fx.mono a h fun r n2 h vb H2 G2 Y2 gr2 o2 wb fb => ?_⟩
    obtain ⟨Z2, s2⟩ := s1.mono iv g.o0 gr2 o2
    have w2 : Rp X.K (mask H2 Y2) va y := Rp.le (gr2.le o.sub) w
    obtain ⟨p', u, e3, hp', oc, em, wr⟩ := s2.wrO iv e1
    rw [e2] at e3
    cases e3
    rcases sub_cases h with ⟨ds, z, k, rfl, ez, ek, h⟩ | ⟨kvs, kk, rfl, ek, ⟨k1, k2, k3⟩, h⟩
    · rw [ez] at wb
      obtain rfl := wb.weak.int
      obtain ⟨us, rfl, ra⟩ := oc
      exact .inl ⟨pp, us, z, k, rfl, rfl, hp', by rw [ra.length]; exact ek, h _ _ ⟨_, _, _, _, wr _ _ ⟨_, rfl, ra.set k w2⟩⟩⟩
    · rw [ek] at wb
      obtain ⟨kk, rfl⟩ := keyOk_key k1
      obtain rfl := wb.weak.key
      rcases oc with ⟨us, rfl, ra⟩ | ⟨us, rfl, ra⟩
      · exact .inr ⟨pp, _, rfl, DPut.k hp' (by rw [rpk_len ra]; exact k3), h _ _ ⟨_, _, _, _, wr _ (.dict (dPut kvs (keyD kk) y)) (.inl ⟨_, rfl, rpk_put w2 ra⟩)⟩⟩
      · exact (rptk_no ra k2).elim
  | .gst i k e, st, h => by
    unfold chkS at h
    cases st <;> first | cases h | skip
    rename_i ts v sp
    cases ts with
    | nil => cases h
    | cons tx ts =>
      cases tx <;> first | cases h | skip
      rename_i o sl tp
      cases o <;> first | (cases sl <;> cases h; done) | skip
      cases sl <;> first | cases h | skip
      rename_i x xp c kk cp
      cases c <;> first | cases h | skip
      rename_i j
      cases ts with
      | cons _ _ => cases h
      | nil =>
        simp only [Bool.and_eq_true, decide_eq_true_eq] at h
        obtain ⟨⟨⟨⟨⟨⟨⟨h0, h1⟩, h2⟩, h3⟩, h4⟩, h5⟩, h6⟩, h7⟩ := h
        subst h3
        refine PS.imp (ps_asg (sndE e Xt Ew g.fx g.hsc g.pa h7) (pg_sub (pe_var h0 (vis_of g.hsc h1) (dbg_of h2).1 (dbg_of h2).2) pe_int set_list) (by unfold swapsWithSole; exact sw_false h6 _ _ _) (by cases v <;> rfl)) ?_
        rintro D σ H ⟨I, iv, n, ρ, ⟨G, Z, Zm, O, s⟩, h⟩
        unfold wpS at h
        refine ⟨G, Zm, n, ρ, s.stt g.o0 (g.ws σ), wpE_mono g.fx.mono e h fun r n1 h v H1 G1 Y1 gr o w f => ?_⟩
        rw [h5] at w
        obtain ⟨b, e1, z, n', e2, hn, hb, hfin⟩ := h
        rw [e2] at w
        have w : Rp X.K (mask H1 Y1) v (.int z) := w
        cases w
        obtain ⟨Z1, s1⟩ := s.mono iv g.o0 gr o
        obtain ⟨u, f1, f2, f3⟩ := s1.env i b .gen e1
        cases b with
        | true => exact (f3 rfl).elim
        | false =>
          obtain ⟨a, ha, rfl⟩ := f2 rfl
          obtain ⟨x1, x2, x3, hG, b1, b2, b3, b4, b5, b6⟩ := s1.ok.gen a ha
          refine ⟨_, f1, ?_⟩
          match k, h4, hb with
          | 0, _, hb => exact ⟨a, _, 0, 0, rfl, rfl, hG, rfl, hfin _ _ ⟨_, _, _, _, s1.gset iv g.o0 ha hn ⟨hb.1, hb.2, b3, b4, b5, by omega⟩⟩⟩
          | 1, _, hb => exact ⟨a, _, 1, 1, rfl, rfl, hG, rfl, hfin _ _ ⟨_, _, _, _, s1.gset iv g.o0 ha hn ⟨b1, b2, hb.1, hb.2, b5, by omega⟩⟩⟩
          | 2, _, hb => exact ⟨a, _, 2, 2, rfl, rfl, hG, rfl, hfin _ _ ⟨_, _, _, _, s1.gset iv g.o0 ha hn ⟨b1, b2, b3, b4, hb.1, hb.2⟩⟩⟩
  | .ex e, st, h => by
    unfold chkS at h
    cases st <;> first | cases h | skip
    simp only [Bool.and_eq_true] at h
    refine PS.imp (ps_expr (sndE e Xt Ew g.fx g.hsc g.pa h.2) (sw_false h.1 _ _ _)) ?_
    rintro D σ H ⟨I, iv, n, ρ, ⟨G, Z, Zm, O, s⟩, h⟩
    unfold wpS at h
    refine ⟨G, Zm, n, ρ, s.stt g.o0 (g.ws σ), wpE_mono g.fx.mono e h fun r n1 h v H1 G1 Y1 gr o w f => ?_⟩
    obtain ⟨Z1, s1⟩ := s.mono iv g.o0 gr o
    exact h _ _ ⟨_, _, _, _, s1⟩
  | .ite c a b, st, h => by
    unfold chkS at h
    cases st <;> first | cases h | skip
    simp only [Bool.and_eq_true] at h
    obtain ⟨⟨h1, h2⟩, h3⟩ := h
    refine PS.imp (ps_if (sndT c Xt Ew g.fx g.hsc g.pa h1 (sndE c Xt Ew g.fx g.hsc g.pa h1)) (sndSs g a h2) (sndSs g b h3)) ?_
    rintro D σ H ⟨I, iv, n, ρ, ⟨G, Z, Zm, O, s⟩, h⟩
    unfold wpS at h
    refine ⟨G, Zm, n, ρ, s.stt g.o0 (g.ws σ), wpE_mono g.fx.mono c h fun r n1 h => truW_mono h fun k h H1 G1 Y1 gr o => ?_⟩
    obtain ⟨Z1, s1⟩ := s.mono iv g.o0 gr o
    cases k with
    | true =>
      simp only [if_true] at h ⊢
      exact ⟨I, iv, n1, ρ, ⟨_, _, _, _, s1⟩, h⟩
    | false =>
      simp only [Bool.false_eq_true, if_false] at h ⊢
      exact ⟨I, iv, n1, ρ, ⟨_, _, _, _, s1⟩, h⟩
  | .whl c b, st, h => by
    unfold chkS at h
    cases st <;> first | cases h | skip
    rename_i t body oe sp
    cases oe with
    | cons _ _ => cases h
    | nil =>
      simp only [Bool.and_eq_true] at h
      refine PS.imp (ps_while g.po (sndT c Xt Ew g.fx g.hsc g.pa h.1 (sndE c Xt Ew g.fx g.hsc g.pa h.1)) (sndSs g b h.2)) ?_
      rintro D σ H ⟨I, iv, n, ρ, sm, h⟩
      unfold wpS whlGo at h
      obtain ⟨W, ⟨m, w0⟩, turn⟩ := h
      refine ⟨fun m σ H => ∃ n ρ, SmE X.K I G0 Z0 H0 σ ρ H n ∧ W m ρ n, ⟨m, n, ρ, sm, w0⟩, ?_⟩
      rintro m σ H ⟨n, ρ, ⟨G, Z, Zm, O, s⟩, w⟩
      refine ⟨G, Zm, n, ρ, s.stt g.o0 (g.ws σ), wpE_mono g.fx.mono c (turn m ρ n w) fun r n1 h => truW_mono h fun k h H1 G1 Y1 gr o => ?_⟩
      obtain ⟨Z1, s1⟩ := s.mono iv g.o0 gr o
      cases k with
      | true =>
        simp only [if_true] at h ⊢
        refine ⟨fun σ H => ∃ m', m' < m ∧ ∃ n ρ, SmE X.K I G0 Z0 H0 σ ρ H n ∧ W m' ρ n, fun _ _ h => h, I, iv, n1, ρ, ⟨_, _, _, _, s1⟩, wpSs_mono g.fx.mono b ?_ h⟩
        exact ⟨fun ρ n ⟨m', hm, hw⟩ σ H sm => ⟨m', hm, n, ρ, sm, hw⟩, fun _ _ h => h, fun _ _ h => h, fun ρ n ⟨m', hm, hw⟩ σ H sm => ⟨m', hm, n, ρ, sm, hw⟩⟩
      | false =>
        simp only [Bool.false_eq_true, if_false] at h ⊢
        exact h _ _ ⟨_, _, _, _, s1⟩
  | .for_ tg k src b, st, h => by
    unfold chkS at h
    cases st <;> first | cases h | skip
    rename_i t iter body oe sp
    cases oe with
    | cons _ _ => cases h
    | nil =>
      simp only [Bool.and_eq_true] at h
      obtain ⟨⟨⟨⟨⟨h1, h2⟩, h3⟩, h4⟩, h5⟩, h6⟩ := h
      refine PS.imp (ps_for g.po g.fx.calm (sndSrc k src Xt Ew g.fx g.hsc g.pa h2 h5) (pg_of g.fx.calm g.fx.nd g.loc h1) (sndSs g b h6) (fold_of h3 _)) ?_
      rintro D σ H ⟨I, iv, n, ρ, ⟨G, Z, Zm, O, s⟩, h⟩
      unfold wpS at h
      refine ⟨G, Zm, n, ρ, s.stt g.o0 (g.ws σ), wpEs_mono g.fx.mono src h fun ts n1 h => srcW_mono h fun ds h J H1 G1 Y1 gr o _ hB => ?_⟩
      have it := hB h4
      obtain ⟨Z1, s1⟩ := s.mono iv g.o0 gr o
      have iv' := Since.iv iv H1 Y1
      refine ⟨fun i m σ H => m = ds.length - i ∧ i ≤ ds.length ∧ ∃ n ρ, SmE X.K (fun H Zm => I H Zm ∧ Since H1 Y1 H Zm) G0 Z0 H0 σ ρ H n ∧ forGo tg (fun D ρ n => wpSs Γ.Φ Γ.C Xt b D ρ n) (endR X.K I G0 Z0 H0 D) (ds.drop i) ρ n,
        ⟨ds.length, rfl, Nat.zero_le _, n1, ρ, ⟨_, _, _, _, s1.inv_to ⟨s1.inv, fun _ _ _ h => .inl h, fun _ h => h, fun _ h => .inl h⟩⟩, h⟩, ?_⟩
      rintro i m σ' H' ⟨rfl, hi, n', ρ', ⟨G', Z', Zm', O', s'⟩, go⟩
      obtain ⟨a1, a2, a3⟩ := s'.inv.2
      have fY : ∀ a ∈ Zm'.filter (fun a => decide (a ∉ Y1)), a ∈ Zm' ∧ a ∉ Y1 := fun a h => by
        obtain ⟨q1, q2⟩ := List.mem_filter.mp h
        exact ⟨q1, by simpa using q2⟩
      have at_ := it H' (Zm'.filter (fun a => decide (a ∉ Y1))) a1 (fun a h => (a3 a (fY a h).1).resolve_left (fY a h).2) (fun z hz => by
        rcases List.mem_append.mp hz with q | q
        · exact s'.ok.dom z (fY z q).1
        · exact a2 z (o.dom z q)) i
      by_cases hlt : i < ds.length
      · have hd : ds[i]? = some ds[i] := List.getElem?_eq_getElem hlt
        obtain ⟨hgo, hy⟩ := at_.1 _ hd
        rw [List.drop_eq_getElem_cons hlt] at go
        unfold forGo at go
        obtain ⟨ρ1, ea, go⟩ := go
        refine .inr ⟨hgo, fun σ H => ∃ n ρ, SmE X.K (fun H Zm => I H Zm ∧ Since H1 Y1 H Zm) G0 Z0 H0 σ ρ H n ∧ forGo tg (fun D ρ n => wpSs Γ.Φ Γ.C Xt b D ρ n) (endR X.K I G0 Z0 H0 D) (ds.drop (i + 1)) ρ n,
          fun σ2 H2 hN => ⟨ds.length - (i + 1), by omega, rfl, hlt, hN⟩, fun x H2 y => ?_⟩
        obtain ⟨hH, rx⟩ := hy x H2 y
        have gr2 : Gr G' Zm' H' G' Zm' H2 := by
          rcases hH with e | ⟨p, ob, hp, e⟩
          · rw [e]; exact Gr.refl
          · rw [e]; exact Gr.upd hp
        have ok2 : Ok G' Zm' H2 n' := by
          rcases hH with e | ⟨p, ob, hp, e⟩
          · rw [e]; exact s'.ok
          · rw [e]; exact s'.ok.upd hp
        obtain ⟨Z2, s2⟩ := s'.mono iv' g.o0 gr2 ok2
        have rx' : Rp X.K (mask H2 Zm') x ds[i] := Rp.le (mask_sub fun a ha => by
          by_cases hY : a ∈ Y1
          · exact List.mem_append_right _ hY
          · exact List.mem_append_left _ (List.mem_filter.mpr ⟨ha, by simpa using hY⟩)) rx
        refine s2.tg ea rx' fun σ3 s3 => ⟨_, iv', n', ρ1, ⟨_, _, _, _, s3⟩, wpSs_mono g.fx.mono b ?_ go⟩
        exact ⟨fun ρ n h σ H sm => ⟨n, ρ, sm, h⟩, fun _ _ h => h, fun ρ n h σ H sm => h σ H sm.weak, fun ρ n h σ H sm => ⟨n, ρ, sm, h⟩⟩
      · have e : i = ds.length := by omega
        refine .inl ⟨at_.2 e.symm, ?_⟩
        rw [e, List.drop_length] at go
        exact go σ' H' (SmE.weak (P := Since H1 Y1) ⟨_, _, _, _, s'⟩)
theorem sndSs [TabsC] (g : Gx Γ X sc Xt Ew G0 Z0 H0 n0) : ∀ (l : Ss) {sts : List Stmt}, chkSs Γ X.N sc l sts = true → PSs X sts (rs X.K G0 Z0 H0 (wpSs Γ.Φ Γ.C Xt l))
  | .nil, sts, h => by
    cases sts with
    | cons _ _ => unfold chkSs at h; cases h
    | nil =>
      refine PSs.imp pss_nil ?_
      rintro D σ H ⟨I, iv, n, ρ, sm, h⟩
      unfold wpSs at h
      exact h σ H sm
  | .cons fz s l, sts, h => by
    cases sts with
    | nil => unfold chkSs at h; cases h
    | cons st sts =>
      unfold chkSs at h
      simp only [Bool.and_eq_true] at h
      refine PSs.imp (pss_cons (sndS g s h.1) (sndSs g l h.2)) ?_
      rintro D σ H ⟨I, iv, n, ρ, sm, h⟩
      unfold wpSs at h
      refine ⟨I, iv, n, frz fz ρ, sm.frz iv g.o0 fz, wpS_mono g.fx.mono s ?_ h⟩
      exact ⟨fun ρ n h σ H sm => ⟨I, iv, n, ρ, sm, h⟩, fun _ _ h => h, fun _ _ h => h, fun _ _ h => h⟩
end
end
end TL

set_option Elab.async false
set_option linter.all false
set_option maxRecDepth 100000
/-! TL17: a def keeps its promise. -/
namespace TL
open PySem PySem.Spec PyProof.Rows L2

/-- the def's own table of code objects -/
def LamF [I : TabsC] (K : PySem.W.Frag) (qual : Str) (code : Value) : Prop := ∃ c P, code = .ref c ∧ PySem.W.codeHdIn K c P = true ∧ (P, qual ++ ".<locals>." ++ "<lambda>") ∈ I.T ∧ ∀ p ∈ I.T, p.1 = P → p.2 = qual ++ ".<locals>." ++ "<lambda>"
/-- what holds of the text's tables, for calls k deep -/
structure Fz [TabsC] (Γ : TCx) (P : Program) (w : World) (K : PySem.W.Frag) (mg : Str → Option Value) (base : Heap) (k : Nat) : Prop where
  tba : TbAt base mg
  dg : PySem.W.nsIn K cStatics "sys.int_max_str_digits" = some none
  mono : MonoPh Γ.Φ
  ar : ∀ f ts n Q Xt, Γ.Φ f ts n Q Xt → ts.length = Γ.ar f
  bl : ∀ x, Γ.bl.contains x = true → mg x = none
  gc : ∀ k, Γ.hc k = true → ∃ u v, mg (Γ.gm k) = some u ∧ RelV v u ∧ ∀ H, Rp K H v (Γ.C k)
  fn : ∀ f, Γ.hf f = true → ∃ a fd ps, FnG P w K mg base (L2.CX P w) k a fd ps (low mg Γ.cn K ps.length (Γ.Φ f)) ∧ ps.length = Γ.ar f ∧ mg (Γ.nm f) = some (.ref a) ∧ PySem.W.keepIn K (.ref a) = true ∧ Binds K fd ps []
  kw : ∀ f pm n ks, Γ.kw f pm n ks = true → ∃ a fd ps, FnG P w K mg base (L2.CX P w) k a fd ps (low mg Γ.cn K ps.length (Γ.Φ f)) ∧ ps.length = Γ.ar f ∧ mg (Γ.nm f) = some (.ref a) ∧ PySem.W.keepIn K (.ref a) = true ∧ KBinds K fd ps ks (kwG n ks.length pm) (kwG n ks.length pm)
theorem Fz.up [TabsC] {Γ : TCx} {P : Program} {w : World} {K : PySem.W.Frag} {mg : Str → Option Value} {base : Heap} {j k : Nat} (h : Fz Γ P w K mg base j) (hj : j ≤ k) : Fz Γ P w K mg base k :=
  ⟨h.tba, h.dg, h.mono, h.ar, h.bl, h.gc, fun f e => by
    obtain ⟨a, fd, ps, F, r⟩ := h.fn f e
    exact ⟨a, fd, ps, F.mono hj, r⟩, fun f pm n ks e => by
    obtain ⟨a, fd, ps, F, r⟩ := h.kw f pm n ks e
    exact ⟨a, fd, ps, F.mono hj, r⟩⟩
/-- names at the entry -/
def startE (N : List Str) (ts : List T) : Ev := ts.map (fun t => some (false, t)) ++ List.replicate (N.length - ts.length) none
theorem startE_env {K : PySem.W.Frag} {H : Hp} {G Z : List Addr} {N : List Str} {vs : List V} {ts : List T} (h : Paired (RpT K H G Z) vs ts) : EnvR K H G Z (L2.start N vs) (startE N ts) := by
  intro i b t e
  unfold startE at e
  by_cases hi : i < ts.length
  · rw [List.getElem?_append_left (by simpa using hi), List.getElem?_map] at e
    cases q : ts[i]? with
    | none => rw [q] at e; cases e
    | some t' =>
      rw [q] at e
      simp only [Option.map_some, Option.some.injEq, Prod.mk.injEq] at e
      obtain ⟨rfl, rfl⟩ := e
      obtain ⟨v, hv, r⟩ : ∃ v, vs[i]? = some v ∧ RpT K H G Z v t' := by
        have hl := h.length
        have hiv : i < vs.length := by rw [hl]; exact hi
        clear hi hl
        induction h generalizing i with
        | nil => simp at q
        | cons a b ih =>
          cases i with
          | zero => simp at q; subst q; exact ⟨_, rfl, a⟩
          | succ i =>
            obtain ⟨v, h1, h2⟩ := ih (i := i) (by simpa using q) (by simpa using hiv)
            exact ⟨v, by simpa using h1, h2⟩
      refine ⟨v, ?_, fun _ => r, fun z => nomatch z⟩
      unfold L2.start
      rw [List.getElem?_append_left (by rw [List.length_map]; exact (List.getElem?_eq_some_iff.mp hv).1), List.getElem?_map, hv]
      rfl
  · rw [List.getElem?_append_right (by simpa using hi)] at e
    have := List.mem_of_getElem? e
    have := List.eq_of_mem_replicate this
    cases this
theorem startE_len {N : List Str} {vs : List V} {ts : List T} (h : vs.length = ts.length) : (startE N ts).length = (L2.start N vs).length := by
  unfold startE L2.start
  simp [h]
/-- the end of a body -/
def endD (Q : QE) : EndT := { nx := fun _ n => Q ⟨.d .none, false⟩ n, rt := Q }
theorem def_ok [TabsC] {Γ : TCx} {P : Program} {ww : World} {K : PySem.W.Frag} {mg : Str → Option Value} {base : Heap} {k : Nat} {x qual : Str} {st : Stmt} {f : Addr} {fd : FuncData} {N ps : List Str} {sp : TSp} (b : Ss)
    (Z : Fz Γ P ww K mg base k) (lo : Γ.lm = true → LamF K qual fd.code) (F : Fun K x qual st f fd) (S : FnScope N ps (defScope st)) (hc : chkSs Γ N (defScope st) b (defBody st) = true)
    (h : ∀ ts n Q X, (∀ t n, Q ⟨t, false⟩ n → Q ⟨t, true⟩ n) → ts.length = ps.length → sp ts n Q X → wpSs Γ.Φ Γ.C X b (endD Q) (startE N ts) n) :
    FnG P ww K mg base (L2.CX P ww) (k + 2) f fd ps (low mg Γ.cn K ps.length sp) := by
  refine gn_of F S (fun vs H Q E h => h.1) fun cdv A outer s H vs Q E ecd hr hg hsp => ?_
  obtain ⟨hl, G, Y, n, ts, o, w, hsp⟩ := hsp
  have fx : Fx Γ (cxOf (L2.CX P ww) P ww K mg base N qual (defScope st) f cdv A outer s H E) Γ.lm := ⟨S.nd, rfl, hg, hr.units, Z.tba, (fun e => ⟨hr.mono (Nat.succ_le_succ (Nat.zero_le _)), by obtain ⟨c, P, e1, e2⟩ := lo e; exact ⟨c, P, ecd.symm.trans e1, e2⟩⟩), Z.dg, Z.mono, Z.ar, Z.bl, Z.gc, fun f e => by
    obtain ⟨a, fd, ps, F, r1, r2⟩ := Z.fn f e
    exact ⟨a, fd, k, ps, F, r1, hr.mono (Nat.add_le_add_left (Bool.toNat_le _) _), r2⟩, fun f pm n ks e => by
    obtain ⟨a, fd, ps, F, r1, r2⟩ := Z.kw f pm n ks e
    exact ⟨a, fd, k, ps, F, r1, hr.mono (Nat.add_le_add_left (Bool.toNat_le _) _), r2⟩⟩
  have gx : Gx Γ (cxOf (L2.CX P ww) P ww K mg base N qual (defScope st) f cdv A outer s H E) (defScope st) (fun er n' => ∀ (cls : Value) (d : Option Addr) (H' : Hp) (G' Z' : List Addr), Gr G Y H G' Z' H' → Ok G' Z' H' n' → ErAt mg Γ.cn K H' Z' er cls d → E cls d H') (fun _ => E) G Y H n := ⟨fx, rfl, S.kind, takes_of rfl rfl rfl rfl, passes_of rfl, fun _ => rfl, o, fun σ er n' cls d H' G' Z' x g o e => x cls d H' G' Z' g o e⟩
  refine ⟨_, sndSs gx b hc, fun _ _ => True, ⟨fun _ _ _ => trivial, fun _ _ _ _ => trivial, fun _ _ _ => trivial, fun _ _ => trivial⟩, n, startE N ts, ⟨G, Y, Y, [], Gr.refl, fun a => ?_, o, fun p hp => ?_, startE_env w, fun i t e => ?_, fun i j t u p e => ?_, startE_len w.length, trivial⟩, ?_⟩
  · simp
  · cases hp
  · obtain ⟨v, _, h1, h2⟩ := startE_env w i true t e
    exfalso
    unfold startE at e
    rcases Nat.lt_or_ge i ts.length with hi | hi
    · rw [List.getElem?_append_left (by simpa using hi), List.getElem?_map] at e
      cases q : ts[i]? with
      | none => rw [q] at e; cases e
      | some t' => rw [q] at e; cases e
    · rw [List.getElem?_append_right (by simpa using hi)] at e
      have := List.eq_of_mem_replicate (List.mem_of_getElem? e)
      cases this
  · exfalso
    unfold startE at e
    rcases Nat.lt_or_ge i ts.length with hi | hi
    · rw [List.getElem?_append_left (by simpa using hi), List.getElem?_map] at e
      cases q : ts[i]? with
      | none => rw [q] at e; cases e
      | some t' => rw [q] at e; cases e
    · rw [List.getElem?_append_right (by simpa using hi)] at e
      have := List.eq_of_mem_replicate (List.mem_of_getElem? e)
      cases this
  · refine wpSs_mono Z.mono b ?_ (h ts n _ _ (fun t n h v H' G' Z' g o w f => h v H' G' Z' g o w fun z => nomatch z) (by rw [← w.length]; exact hl) hsp)
    refine ⟨fun ρ n1 h σ H1 ⟨G1, Z1, Zm1, O1, s1⟩ => ?_, fun _ _ h => h, fun _ _ h => h.elim, fun _ _ h => h.elim⟩
    exact h .non H1 G1 Z1 s1.g (s1.okZ o) Rp.non fun z => nomatch z
/-- nothing is promised -/
def spNo : TSp := fun _ _ _ _ => False
theorem fn_no [TabsC] {P : Program} {w : World} {K : PySem.W.Frag} {mg : Str → Option Value} {base : Heap} {CX : CXT} {k : Nat} {f : Addr} {fd : FuncData} {ps : List Str} {cn : Nat → Str} : FnG P w K mg base CX k f fd ps (low mg cn K ps.length spNo) :=
  ⟨fun _ _ _ _ h => h.1, fun _ _ _ _ _ _ _ _ _ _ _ _ _ _ h => by obtain ⟨_, _, _, _, _, _, _, z⟩ := h; exact z.elim⟩
end TL

set_option Elab.async false
set_option linter.all false
set_option maxRecDepth 100000
/-! TL18: specs, loops, plain facts for the reckoning. -/
namespace TL
open PySem PySem.Spec PyProof.Rows L2

/-! ### specs -/
structure Spc where
  ar : Nat
  pre : List T → Nat → Prop
  post : List T → Nat → R → Nat → Prop
  exn : List T → Nat → Er → Nat → Prop := fun _ _ _ _ => False
def Spc.sp (s : Spc) : TSp := fun ts n Q X => ts.length = s.ar ∧ s.pre ts n ∧ (∀ r n', s.post ts n r n' → Q r n') ∧ ∀ e n', s.exn ts n e n' → X e n'
def Spc.no (k : Nat) : Spc := { ar := k, pre := fun _ _ => False, post := fun _ _ _ _ => False }
theorem mono_sp (S : Nat → Spc) : MonoPh fun i => (S i).sp := fun i ts n Q Q' X X' h q x => ⟨h.1, h.2.1, fun r n' e => q r n' (h.2.2.1 r n' e), fun e n' z => x e n' (h.2.2.2 e n' z)⟩
theorem fn_noS [TabsC] {P : Program} {w : World} {K : PySem.W.Frag} {mg : Str → Option Value} {base : Heap} {CX : CXT} {k : Nat} {f : Addr} {fd : FuncData} {ps : List Str} {cn : Nat → Str} {j : Nat} : FnG P w K mg base CX k f fd ps (low mg cn K ps.length (Spc.no j).sp) :=
  ⟨fun _ _ _ _ h => h.1, fun _ _ _ _ _ _ _ _ _ _ _ _ _ _ h => by obtain ⟨_, _, _, _, _, _, _, z⟩ := h; exact z.2.1.elim⟩
/-- a def, by its spec -/
theorem def_sp [TabsC] {Γ : TCx} {P : Program} {ww : World} {K : PySem.W.Frag} {mg : Str → Option Value} {base : Heap} {k : Nat} {x qual : Str} {st : Stmt} {f : Addr} {fd : FuncData} {N ps : List Str} {s : Spc} (b : Ss)
    (Z : Fz Γ P ww K mg base k) (lo : Γ.lm = true → LamF K qual fd.code) (F : Fun K x qual st f fd) (S : FnScope N ps (defScope st)) (hc : chkSs Γ N (defScope st) b (defBody st) = true)
    (h : ∀ ts n (Q : QE) (X : XE), (∀ t n, Q ⟨t, false⟩ n → Q ⟨t, true⟩ n) → ts.length = s.ar → s.pre ts n → (∀ r n', s.post ts n r n' → Q r n') → (∀ e n', s.exn ts n e n' → X e n') → wpSs Γ.Φ Γ.C X b (endD Q) (startE N ts) n) :
    FnG P ww K mg base (L2.CX P ww) (k + 2) f fd ps (low mg Γ.cn K ps.length s.sp) :=
  def_ok b Z lo F S hc fun ts n Q X hq _ hs => h ts n Q X hq hs.1 hs.2.1 hs.2.2.1 hs.2.2.2

/-! ### loops -/
section
variable {Φ : Nat → TSp} {C : Nat → PyData} {X : XE}
theorem for_inv (M : MonoPh Φ) {tg : Tg} {b : Ss} {D : EndT} (J : Nat → Ev → Nat → Prop) : ∀ (ds : List PyData) (i0 : Nat) {ρ : Ev} {n : Nat}, J i0 ρ n →
    (∀ i ρ n x, ds[i]? = some x → J (i0 + i) ρ n → ∃ ρ', asgD tg x ρ = some ρ' ∧ wpSs Φ C X b { D with nx := J (i0 + i + 1), ct := J (i0 + i + 1), bk := D.nx } ρ' n) → (∀ ρ n, J (i0 + ds.length) ρ n → D.nx ρ n) →
    forGo tg (fun D ρ n => wpSs Φ C X b D ρ n) D ds ρ n
  | [], i0, ρ, n, h, _, he => he ρ n h
  | x :: xs, i0, ρ, n, h, hs, he => by
    obtain ⟨ρ', e, w⟩ := hs 0 ρ n x rfl h
    refine ⟨ρ', e, wpSs_mono M b ?_ w⟩
    have rest : ∀ ρ n, J (i0 + 1) ρ n → forGo tg (fun D ρ n => wpSs Φ C X b D ρ n) D xs ρ n := fun ρ n h => for_inv M J xs (i0 + 1) h
      (fun i ρ n y e h => by
        have := hs (i + 1) ρ n y (by simpa using e) (by rw [show i0 + (i + 1) = i0 + 1 + i by omega]; exact h)
        rw [show i0 + (i + 1) + 1 = i0 + 1 + i + 1 by omega] at this
        exact this)
      (fun ρ n h => he ρ n (by rw [List.length_cons, show i0 + (xs.length + 1) = i0 + 1 + xs.length by omega]; exact h))
    exact ⟨rest, fun _ _ h => h, fun _ _ h => h, rest⟩
/-- over all items, by the turn -/
theorem for_by (M : MonoPh Φ) {tg : Tg} {b : Ss} {D : EndT} (J : Nat → Ev → Nat → Prop) {ds : List PyData} {ρ : Ev} {n : Nat} (h0 : J 0 ρ n)
    (hs : ∀ i ρ n x, ds[i]? = some x → J i ρ n → ∃ ρ', asgD tg x ρ = some ρ' ∧ wpSs Φ C X b { D with nx := J (i + 1), ct := J (i + 1), bk := D.nx } ρ' n) (he : ∀ ρ n, J ds.length ρ n → D.nx ρ n) :
    forGo tg (fun D ρ n => wpSs Φ C X b D ρ n) D ds ρ n :=
  for_inv M J ds 0 h0 (fun i ρ n x e h => by rw [Nat.zero_add] at h ⊢; exact hs i ρ n x e h) fun ρ n h => he ρ n (by rw [Nat.zero_add] at h; exact h)
def cndW (Φ : Nat → TSp) (C : Nat → PyData) (cnd : E) : Ev → Nat → (Bool → Nat → Prop) → Prop := fun ρ n Q => wpE Φ C (fun _ _ => False) cnd ρ n fun x n => truW x.t fun b => Q b n
def eltW (Φ : Nat → TSp) (C : Nat → PyData) (elt : E) : Ev → Nat → QE → Prop := fun ρ n Q => wpE Φ C (fun _ _ => False) elt ρ n Q
theorem lc_inv (M : MonoPh Φ) {tg : Tg} {cnd elt : E} {ρ : Ev} {Q : List PyData → Nat → Prop} (J : Nat → List PyData → Nat → Prop) : ∀ (ds : List PyData) (i0 : Nat) {acc : List PyData} {n : Nat}, J i0 acc n →
    (∀ i acc n x, ds[i]? = some x → J (i0 + i) acc n → ∃ ρ', asgD tg x ρ = some ρ' ∧ cndW Φ C cnd ρ' n fun b n => if b = true then eltW Φ C elt ρ' n fun r n => ∃ y, r.t = .d y ∧ acc.length < sizeLine ∧ J (i0 + i + 1) (acc ++ [y]) n else J (i0 + i + 1) acc n) →
    (∀ acc n, J (i0 + ds.length) acc n → Q acc n) → lcGo tg ρ (cndW Φ C cnd) (eltW Φ C elt) Q ds acc n
  | [], i0, acc, n, h, _, he => he acc n h
  | x :: xs, i0, acc, n, h, hs, he => by
    obtain ⟨ρ', e, w⟩ := hs 0 acc n x rfl h
    have rest : ∀ acc n, J (i0 + 1) acc n → lcGo tg ρ (cndW Φ C cnd) (eltW Φ C elt) Q xs acc n := fun acc n h => lc_inv M J xs (i0 + 1) h
      (fun i acc n y e h => by
        have := hs (i + 1) acc n y (by simpa using e) (by rw [show i0 + (i + 1) = i0 + 1 + i by omega]; exact h)
        rw [show i0 + (i + 1) + 1 = i0 + 1 + i + 1 by omega] at this
        exact this)
      (fun acc n h => he acc n (by rw [List.length_cons, show i0 + (xs.length + 1) = i0 + 1 + xs.length by omega]; exact h))
    refine ⟨ρ', e, wpE_mono M cnd w fun r n1 w => truW_mono w fun k w => ?_⟩
    cases k with
    | true =>
      simp only [if_true] at w ⊢
      exact wpE_mono M elt w fun r n2 ⟨y, e1, e2, h⟩ => ⟨y, e1, e2, rest _ _ h⟩
    | false =>
      simp only [Bool.false_eq_true, if_false] at w ⊢
      exact rest _ _ w
theorem lc_by (M : MonoPh Φ) {tg : Tg} {cnd elt : E} {ρ : Ev} {Q : List PyData → Nat → Prop} (J : Nat → List PyData → Nat → Prop) {ds : List PyData} {n : Nat} (h0 : J 0 [] n)
    (hs : ∀ i acc n x, ds[i]? = some x → J i acc n → ∃ ρ', asgD tg x ρ = some ρ' ∧ cndW Φ C cnd ρ' n fun b n => if b = true then eltW Φ C elt ρ' n fun r n => ∃ y, r.t = .d y ∧ acc.length < sizeLine ∧ J (i + 1) (acc ++ [y]) n else J (i + 1) acc n)
    (he : ∀ acc n, J ds.length acc n → Q acc n) : lcGo tg ρ (cndW Φ C cnd) (eltW Φ C elt) Q ds [] n :=
  lc_inv M J ds 0 h0 (fun i acc n x e h => by rw [Nat.zero_add] at h ⊢; exact hs i acc n x e h) fun acc n h => he acc n (by rw [Nat.zero_add] at h; exact h)
/-- a comprehension that only picks -/
theorem lc_pure (M : MonoPh Φ) {tg : Tg} {cnd elt : E} {ρ : Ev} {Q : List PyData → Nat → Prop} (p : PyData → Bool) (f : PyData → PyData) {ds : List PyData} {n : Nat} (hl : ds.length ≤ sizeLine)
    (hs : ∀ x ∈ ds, ∃ ρ', asgD tg x ρ = some ρ' ∧ (∀ P : Bool → Nat → Prop, P (p x) n → cndW Φ C cnd ρ' n P) ∧ (p x = true → ∀ P : QE, (∀ fr, P ⟨.d (f x), fr⟩ n) → eltW Φ C elt ρ' n P))
    (he : Q ((ds.filter p).map f) n) : lcGo tg ρ (cndW Φ C cnd) (eltW Φ C elt) Q ds [] n := by
  refine lc_by M (fun i acc m => m = n ∧ acc = ((ds.take i).filter p).map f) ⟨rfl, rfl⟩ (fun i acc m x e h => ?_) fun acc m h => ?_
  · obtain ⟨rfl, rfl⟩ := h
    obtain ⟨ρ', e1, h1, h2⟩ := hs x (List.mem_of_getElem? e)
    have hi : i < ds.length := (List.getElem?_eq_some_iff.mp e).1
    have tk : ds.take (i + 1) = ds.take i ++ [x] := by rw [List.take_add_one, e]; rfl
    refine ⟨ρ', e1, h1 _ ?_⟩
    cases hp : p x with
    | true =>
      simp only [if_true]
      refine h2 hp _ fun fr => ⟨f x, rfl, ?_, rfl, ?_⟩
      · rw [List.length_map]
        exact Nat.lt_of_lt_of_le (Nat.lt_of_le_of_lt (List.length_filter_le ..) (by rw [List.length_take]; omega)) hl
      · rw [tk, List.filter_append, List.map_append]
        simp [hp]
    | false =>
      simp only [Bool.false_eq_true, if_false]
      refine ⟨trivial, ?_⟩
      rw [tk, List.filter_append]
      simp [hp]
  · obtain ⟨rfl, rfl⟩ := h
    rw [List.take_length]
    exact he
end

/-! ### the meaning, step by step -/
section
variable {Φ : Nat → TSp} {C : Nat → PyData} {X : XE} {ρ : Ev} {n : Nat}
@[simp] theorem wpE_c {x : PyData} {Q : QE} : wpE Φ C X (.c x) ρ n Q = (Q ⟨.d x, false⟩ n) := rfl
@[simp] theorem wpE_v {i : Nat} {Q : QE} : wpE Φ C X (.v i) ρ n Q = (∃ t, ρ[i]? = some (some (false, t)) ∧ Q ⟨t, false⟩ n) := rfl
@[simp] theorem wpE_w {i : Nat} {Q : QE} : wpE Φ C X (.w i) ρ n Q = (∃ b t, ρ[i]? = some (some (b, t)) ∧ Q ⟨t, false⟩ n) := rfl
@[simp] theorem wpE_g {k : Nat} {Q : QE} : wpE Φ C X (.g k) ρ n Q = (Q ⟨.d (C k), false⟩ n) := rfl
@[simp] theorem wpE_bin {o : BOp} {a b : E} {Q : QE} : wpE Φ C X (.bin o a b) ρ n Q = (wpE Φ C X a ρ n fun x n => wpE Φ C X b ρ n fun y n => binW o x.t y.t fun r => Q r n) := rfl
@[simp] theorem wpE_neg {a : E} {Q : QE} : wpE Φ C X (.neg a) ρ n Q = (wpE Φ C X a ρ n fun x n => ∃ i, x.t = .d (.int i) ∧ Q ⟨.d (.int (-i)), false⟩ n) := rfl
@[simp] theorem wpE_not {a : E} {Q : QE} : wpE Φ C X (.not a) ρ n Q = (wpE Φ C X a ρ n fun x n => truW x.t fun b => Q ⟨.d (.bool !b), false⟩ n) := rfl
@[simp] theorem wpE_and {a b : E} {Q : QE} : wpE Φ C X (.and a b) ρ n Q = (wpE Φ C X a ρ n fun x n => truW x.t fun k => if k = true then wpE Φ C X b ρ n Q else Q ⟨x.t, false⟩ n) := rfl
@[simp] theorem wpE_or {a b : E} {Q : QE} : wpE Φ C X (.or a b) ρ n Q = (wpE Φ C X a ρ n fun x n => truW x.t fun k => if k = true then Q ⟨x.t, false⟩ n else wpE Φ C X b ρ n Q) := rfl
@[simp] theorem wpE_ife {c a b : E} {Q : QE} : wpE Φ C X (.ife c a b) ρ n Q = (wpE Φ C X c ρ n fun x n => truW x.t fun k => if k = true then wpE Φ C X a ρ n Q else wpE Φ C X b ρ n Q) := rfl
@[simp] theorem wpE_cmp {o : COp} {a b : E} {Q : QE} : wpE Φ C X (.cmp o a b) ρ n Q = (wpE Φ C X a ρ n fun x n => wpE Φ C X b ρ n fun y n => cmpW o x.t y.t fun k => Q ⟨.d (.bool k), false⟩ n) := rfl
@[simp] theorem wpE_chain {o p : COp} {a b c : E} {Q : QE} : wpE Φ C X (.chain o p a b c) ρ n Q = (wpE Φ C X a ρ n fun x n => wpE Φ C X b ρ n fun y n => cmpW o x.t y.t fun k =>
      if k = true then wpE Φ C X c ρ n fun z n => cmpW p y.t z.t fun k => Q ⟨.d (.bool k), false⟩ n else Q ⟨.d (.bool false), false⟩ n) := rfl
@[simp] theorem wpE_lst {l : Es} {Q : QE} : wpE Φ C X (.lst l) ρ n Q = (wpEs Φ C X l ρ n fun ts n => ∃ ds, datas ts = some ds ∧ ds.length ≤ sizeLine ∧ Q ⟨.d (.list ds), true⟩ n) := rfl
@[simp] theorem wpE_tup {l : Es} {Q : QE} : wpE Φ C X (.tup l) ρ n Q = (wpEs Φ C X l ρ n fun ts n => ∃ ds, datas ts = some ds ∧ ds.length ≤ sizeLine ∧ Q ⟨.d (.tuple ds), false⟩ n) := rfl
@[simp] theorem wpE_dct {kvs : List (Key × PyData)} {Q : QE} : wpE Φ C X (.dct kvs) ρ n Q = (Q ⟨.d (.dict (kvs.map fun kv => (keyD kv.1, kv.2))), true⟩ n) := rfl
@[simp] theorem wpE_gix {i k : Nat} {Q : QE} : wpE Φ C X (.gix i k) ρ n Q = (∃ b, ρ[i]? = some (some (b, .gen)) ∧ ∀ z, genB k n z → Q ⟨.d (.int z), false⟩ n) := rfl
@[simp] theorem wpE_ix {a i : E} {Q : QE} : wpE Φ C X (.ix a i) ρ n Q = (wpE Φ C X a ρ n fun x n => wpE Φ C X i ρ n fun y n => ixW x.t y.t fun t => Q ⟨t, false⟩ n) := rfl
@[simp] theorem wpE_sl {a lo hi : E} {Q : QE} : wpE Φ C X (.sl a lo hi) ρ n Q = (wpE Φ C X a ρ n fun x n => wpE Φ C X lo ρ n fun l n => ∃ i, bnd (isNoB lo) l.t = some i ∧ wpE Φ C X hi ρ n fun h n =>
      ∃ j, bnd (isNoB hi) h.t = some j ∧ slW i j x.t fun r => Q r n) := rfl
@[simp] theorem wpE_key {b : Kb} {i : Nat} {a body : E} {Q : QE} : wpE Φ C X (.key b i a body) ρ n Q = (wpE Φ C X a ρ n fun x n => ∃ xs ks, x.t = .d (.list xs) ∧ (ks.length = xs.length ∧ xs.length ≤ sizeLine) ∧
      (∀ (j : Nat) (d k : PyData), xs[j]? = some d → ks[j]? = some k → wpE Φ C (fun _ _ => False) body (stA false (.d d) i (wipeE ρ [i])) n fun r n' => n' = n ∧ r.t = .d k) ∧ keyW b xs ks fun r => Q r n) := rfl
@[simp] theorem wpE_dzip {a b : E} {Q : QE} : wpE Φ C X (.dzip a b) ρ n Q = (wpE Φ C X a ρ n fun x n => wpE Φ C X b ρ n fun y n => ∃ xs ys, x.t = .d (.list xs) ∧ y.t = .d (.list ys) ∧ (∀ k ∈ xs, keyOk k) ∧ Q ⟨.d (.dict (mergeD (xs.zip ys))), true⟩ n) := rfl
@[simp] theorem wpE_rev {a : E} {Q : QE} : wpE Φ C X (.rev a) ρ n Q = (wpE Φ C X a ρ n fun x n => ∃ xs, x.t = .d (.list xs) ∧ Q ⟨.d (.list xs.reverse), true⟩ n) := rfl
@[simp] theorem wpE_call {f : Nat} {l : Es} {Q : QE} : wpE Φ C X (.call f l) ρ n Q = (wpEs Φ C X l ρ n fun ts n => Φ f ts n Q X) := rfl
@[simp] theorem wpE_callk {f : Nat} {l : Es} {pm : List Nat} {ks : Es} {Q : QE} : wpE Φ C X (.callk f l pm ks) ρ n Q = (wpEs Φ C X l ρ n fun ts n => wpEs Φ C X ks ρ n fun us n => ∃ ws, pm.mapM (fun j => (ts ++ us)[j]?) = some ws ∧ Φ f ws n Q X) := rfl
@[simp] theorem wpE_isi {a : E} {t : TyN} {Q : QE} : wpE Φ C X (.isi a t) ρ n Q = (wpE Φ C X a ρ n fun x n => ∃ y, x.t = .d y ∧ Q ⟨.d (.bool (isTy y t)), false⟩ n) := rfl
@[simp] theorem wpE_bi {b : Bi} {l : Es} {Q : QE} : wpE Φ C X (.bi b l) ρ n Q = (wpEs Φ C X l ρ n fun ts n => biW b ts fun r => Q r n) := rfl
@[simp] theorem wpE_mt {m : Mt} {a : E} {l : Es} {Q : QE} : wpE Φ C X (.mt m a l) ρ n Q = (wpE Φ C X a ρ n fun x n => rcv m x.t ∧ wpEs Φ C X l ρ n fun ts n => mtW m x.t ts fun r => Q r n) := rfl
@[simp] theorem wpE_lrg {a : E} {Q : QE} : wpE Φ C X (.lrg a) ρ n Q = (wpE Φ C X a ρ n fun x n => ∃ j, x.t = .d (.int j) ∧ (-(2 ^ 62) ≤ j ∧ j ≤ 16777216) ∧ Q ⟨.d (.list ((List.range j.toNat).map fun (m : Nat) => .int m)), true⟩ n) := rfl
@[simp] theorem wpE_isi2 {a : E} {t u : TyN} {Q : QE} : wpE Φ C X (.isi2 a t u) ρ n Q = (wpE Φ C X a ρ n fun x n => ∃ y, x.t = .d y ∧ isiOk y ∧ Q ⟨.d (.bool (isTy y t || isTy y u)), false⟩ n) := rfl
@[simp] theorem wpE_lc {own : List Nat} {tg : Tg} {k : SK} {src : Es} {cnd elt : E} {Q : QE} : wpE Φ C X (.lc own tg k src cnd elt) ρ n Q = (wpEs Φ C X src ρ n fun ts n => srcW k ts fun ds =>
      lcGo tg (wipeE ρ own) (cndW Φ C cnd) (eltW Φ C elt) (fun acc n => Q ⟨.d (.list acc), true⟩ n) ds [] n) := rfl
@[simp] theorem wpE_atm {a : E} {Q : QE} : wpE Φ C X (.atm a) ρ n Q = (wpE Φ C (fun er n => atomD er.x = true ∧ X er n) a (unown ρ) n fun r n => atom r.t = true ∧ Q ⟨r.t, false⟩ n) := rfl
@[simp] theorem wpEs_nil  {Q : List T → Nat → Prop} : wpEs Φ C X (.nil) ρ n Q = (Q [] n) := rfl
@[simp] theorem wpEs_cons {a : E} {l : Es} {Q : List T → Nat → Prop} : wpEs Φ C X (.cons a l) ρ n Q = (wpE Φ C X a ρ n fun x n => wpEs Φ C X l ρ n fun ts n => Q (x.t :: ts) n) := rfl
@[simp] theorem wpS_ret {e : E} {D : EndT} : TL.wpS Φ C X (.ret e) D ρ n = (wpE Φ C X e ρ n D.rt) := rfl
@[simp] theorem wpS_retO {i : Nat} {D : EndT} : TL.wpS Φ C X (.retO i) D ρ n = (∃ t, ρ[i]? = some (some (true, t)) ∧ D.rt ⟨t, true⟩ n) := rfl
@[simp] theorem wpS_set {i : Nat} {e : E} {D : EndT} : TL.wpS Φ C X (.set i e) D ρ n = (wpE Φ C X e ρ n fun r n => D.nx (ρ.set i (some (r.fr, r.t))) n) := rfl
@[simp] theorem wpS_upk {l : List Nat} {e : E} {D : EndT} : TL.wpS Φ C X (.upk l e) D ρ n = (wpE Φ C X e ρ n fun r n => ∃ x ρ', r.t = .d x ∧ asgD (.tp l) x ρ = some ρ' ∧ D.nx ρ' n) := rfl
@[simp] theorem wpS_par {l : List Nat} {es : Es} {D : EndT} : TL.wpS Φ C X (.par l es) D ρ n = (wpEf Φ C X es ρ n fun rs n => D.nx (setR l rs ρ) n) := rfl
@[simp] theorem wpEf_nil {Q : List R → Nat → Prop} : wpEf Φ C X (.nil) ρ n Q = (Q [] n) := rfl
@[simp] theorem wpEf_cons {a : E} {l : Es} {Q : List R → Nat → Prop} : wpEf Φ C X (.cons a l) ρ n Q = (wpE Φ C X a ρ n fun x n => wpEf Φ C X l ρ n fun rs n => Q (x :: rs) n) := rfl
@[simp] theorem setR_nil {rs : List R} {ρ : Ev} : setR [] rs ρ = ρ := by cases rs <;> rfl
@[simp] theorem setR_cons {i : Nat} {l : List Nat} {r : R} {rs : List R} {ρ : Ev} : setR (i :: l) (r :: rs) ρ = setR l rs (ρ.set i (some (r.fr, r.t))) := rfl
@[simp] theorem wpS_app {i : Nat} {e : E} {D : EndT} : TL.wpS Φ C X (.app i e) D ρ n = (∃ ds, ρ[i]? = some (some (true, .d (.list ds))) ∧ wpE Φ C X e ρ n fun r n => ∃ y, r.t = .d y ∧ ds.length < sizeLine ∧ D.nx (ρ.set i (some (true, .d (.list (ds ++ [y]))))) n) := rfl
@[simp] theorem wpS_ins {i : Nat} {a b : E} {D : EndT} : TL.wpS Φ C X (.ins i a b) D ρ n = (∃ ds, ρ[i]? = some (some (true, .d (.list ds))) ∧ wpE Φ C X a ρ n fun x n => wpE Φ C X b ρ n fun r n => ∃ z y, x.t = .d (.int z) ∧ r.t = .d y ∧ (0 ≤ z ∧ z < 2 ^ 62 ∧ ds.length < sizeLine) ∧ D.nx (ρ.set i (some (true, .d (.list (ds.take z.toNat ++ [y] ++ ds.drop z.toNat))))) n) := rfl
@[simp] theorem wpS_ext {i : Nat} {e : E} {D : EndT} : TL.wpS Φ C X (.ext i e) D ρ n = (∃ ds, ρ[i]? = some (some (true, .d (.list ds))) ∧ wpE Φ C X e ρ n fun r n => ∃ ys, r.t = .d (.list ys) ∧ ds.length + ys.length ≤ sizeLine ∧ D.nx (ρ.set i (some (true, .d (.list (ds ++ ys))))) n) := rfl
@[simp] theorem wpS_pset {j i : Nat} {l : Es} {D : EndT} : TL.wpS Φ C X (.pset j i l) D ρ n = (∃ ds, ρ[i]? = some (some (true, .d (.list ds))) ∧ wpEs Φ C X l ρ n fun ts n => popW ds ts fun y ds' => D.nx ((ρ.set i (some (true, .d (.list ds')))).set j (some (false, .d y))) n) := rfl
@[simp] theorem wpS_papp {j i : Nat} {l : Es} {D : EndT} : TL.wpS Φ C X (.papp j i l) D ρ n = (∃ ds es, ρ[i]? = some (some (true, .d (.list ds))) ∧ ρ[j]? = some (some (true, .d (.list es))) ∧ es.length < sizeLine ∧ wpEs Φ C X l ρ n fun ts n => popW ds ts fun y ds' => D.nx ((ρ.set i (some (true, .d (.list ds')))).set j (some (true, .d (.list (es ++ [y]))))) n) := rfl
@[simp] theorem wpS_sub {i : Nat} {a e : E} {D : EndT} : TL.wpS Φ C X (.sub i a e) D ρ n = (∃ c, ρ[i]? = some (some (true, .d c)) ∧ wpE Φ C X e ρ n fun r n => ∃ y, r.t = .d y ∧ wpE Φ C X a ρ n fun x n => subW c x.t y fun c' => D.nx (ρ.set i (some (true, .d c'))) n) := rfl
@[simp] theorem wpS_ex {e : E} {D : EndT} : TL.wpS Φ C X (.ex e) D ρ n = (wpE Φ C X e ρ n fun _ n => D.nx ρ n) := rfl
@[simp] theorem wpS_gst {i k : Nat} {e : E} {D : EndT} : TL.wpS Φ C X (.gst i k e) D ρ n = (wpE Φ C X e ρ n fun r n => ∃ b, ρ[i]? = some (some (b, .gen)) ∧ ∃ z n', r.t = .d (.int z) ∧ n ≤ n' ∧ genB k n' z ∧ D.nx ρ n') := rfl
@[simp] theorem wpS_ite {c : E} {a b : Ss} {D : EndT} : TL.wpS Φ C X (.ite c a b) D ρ n = (wpE Φ C X c ρ n fun r n => truW r.t fun k => if k = true then wpSs Φ C X a D ρ n else wpSs Φ C X b D ρ n) := rfl
@[simp] theorem wpS_for {tg : Tg} {k : SK} {src : Es} {b : Ss} {D : EndT} : TL.wpS Φ C X (.for_ tg k src b) D ρ n = (wpEs Φ C X src ρ n fun ts n => srcW k ts fun ds => forGo tg (fun D ρ n => wpSs Φ C X b D ρ n) D ds ρ n) := rfl
@[simp] theorem wpS_whl {c : E} {b : Ss} {D : EndT} : TL.wpS Φ C X (.whl c b) D ρ n = (whlGo (fun ρ n Q => wpE Φ C X c ρ n fun r n => truW r.t fun k => Q k n) (fun D ρ n => wpSs Φ C X b D ρ n) D ρ n) := rfl
@[simp] theorem wpS_pass  {D : EndT} : TL.wpS Φ C X (.pass) D ρ n = (D.nx ρ n) := rfl
@[simp] theorem wpS_brk  {D : EndT} : TL.wpS Φ C X (.brk) D ρ n = (D.bk ρ n) := rfl
@[simp] theorem wpS_cont  {D : EndT} : TL.wpS Φ C X (.cont) D ρ n = (D.ct ρ n) := rfl
@[simp] theorem wpS_raise {c : Nat} {e : E} {D : EndT} : TL.wpS Φ C X (.raise c e) D ρ n = (wpE Φ C X e ρ n fun r n => ∃ x, r.t = .d x ∧ X ⟨c, x⟩ n) := rfl
@[simp] theorem wpSs_nil {D : EndT} : wpSs Φ C X .nil D ρ n = D.nx ρ n := rfl
@[simp] theorem wpSs_cons {fz : List Nat} {s : S} {l : Ss} {D : EndT} : wpSs Φ C X (.cons fz s l) D ρ n = TL.wpS Φ C X s { D with nx := wpSs Φ C X l D } (frz fz ρ) n := rfl
theorem cndW_eq {cnd : E} {Q : Bool → Nat → Prop} : cndW Φ C cnd ρ n Q = wpE Φ C (fun _ _ => False) cnd ρ n fun x n => truW x.t fun b => Q b n := rfl
theorem eltW_eq {elt : E} {Q : QE} : eltW Φ C elt ρ n Q = wpE Φ C (fun _ _ => False) elt ρ n Q := rfl
end
@[simp] theorem truW_bool {b : Bool} {P : Bool → Prop} : truW (.d (.bool b)) P = P b := by simp [truW, fitD, truD]
theorem truW_d {x : PyData} {P : Bool → Prop} : truW (.d x) P = (fitD x ∧ P (truD x)) := rfl
@[simp] theorem frz_nil {ρ : Ev} : frz [] ρ = ρ := rfl
@[simp] theorem frz_cons {i : Nat} {l : List Nat} {ρ : Ev} : frz (i :: l) ρ = frz l (frz1 ρ i) := rfl
@[simp] theorem frz1_eq {i : Nat} {ρ : Ev} : frz1 ρ i = (match ρ[i]? with | some (some (_, t)) => ρ.set i (some (false, t)) | _ => ρ) := rfl
@[simp] theorem startE_eq {N : List Str} {ts : List T} : startE N ts = ts.map (fun t => some (false, t)) ++ List.replicate (N.length - ts.length) none := rfl
@[simp] theorem endD_eq {Q : QE} : endD Q = { nx := fun _ n => Q ⟨.d .none, false⟩ n, rt := Q } := rfl
/-! ### plain facts -/
theorem ltOk_int {a b : Int} : ltOk (.int a) (.int b) := ⟨rfl, by simp, by simp [PyData.depth]⟩
theorem ltOk_str {a b : Str} : ltOk (.str a) (.str b) := ⟨rfl, by simp, by simp [PyData.depth]⟩
theorem occ1 {x : Str} {c : Nat} : (!(Builtin.Str.occurrences x ⟨#[c]⟩ 0 x.length 1).isEmpty) = decide (c ∈ x.cps.toList) := StrLaws.found_one x c
theorem occ0 {x : Str} {c : Nat} : (Builtin.Str.occurrences x ⟨#[c]⟩ 0 x.length 1).isEmpty = !decide (c ∈ x.cps.toList) := by
  rw [← occ1, Bool.not_not]
theorem cut1S {z : Str} : L2.cutS z none (some 1) = ⟨(z.cps.toList.take 1).toArray⟩ := by
  unfold L2.cutS
  rw [HT.sIx_none, show HT.sIx z.length z.length (some 1) = min 1 z.length from HT.sIx_nat _ _ 1]
  have : z.length = z.cps.toList.length := by simp [Str.length]
  rw [this, List.drop_zero, Nat.sub_zero]
  cases z.cps.toList with
  | nil => rfl
  | cons c r => rw [show min 1 (c :: r).length = 1 by rw [List.length_cons]; omega]
theorem plainAll_iff {xs : List PyData} : PyData.plainAll xs = true ↔ ∀ x ∈ xs, x.plain = true := by
  induction xs with
  | nil => simp [PyData.plainAll]
  | cons x xs ih => simp [PyData.plainAll, ih]
theorem eqv_nil {xs : List PyData} : PyData.eqv (.list xs) (.list []) = xs.isEmpty := by
  cases xs <;> simp [PyData.eqv, PyData.eqvAll]
theorem depthAll_le {xs : List PyData} {k : Nat} : PyData.depthAll xs ≤ k ↔ ∀ x ∈ xs, x.depth ≤ k := by
  induction xs with
  | nil => simp [PyData.depthAll]
  | cons x xs ih => simp [PyData.depthAll, Nat.max_le, ih]
theorem eqOk_nil {xs : List PyData} (h : PyData.plainAll xs = true) (d : (PyData.list xs).depth ≤ 60) : eqOk (.list xs) (.list []) := ⟨by simpa [PyData.plain] using h, rfl, d⟩
theorem plain_filter {xs : List PyData} {p : PyData → Bool} (h : PyData.plainAll xs = true) : PyData.plainAll (xs.filter p) = true := by
  rw [plainAll_iff] at h ⊢
  exact fun x hx => h x ((List.mem_filter.mp hx).1)
theorem depth_filter {xs : List PyData} {p : PyData → Bool} {k : Nat} (h : (PyData.list xs).depth ≤ k) : (PyData.list (xs.filter p)).depth ≤ k := by
  have h : PyData.depthAll xs + 1 ≤ k := h
  show PyData.depthAll (xs.filter p) + 1 ≤ k
  have := depthAll_le.mp (Nat.le_refl (PyData.depthAll xs))
  have : PyData.depthAll (xs.filter p) ≤ PyData.depthAll xs := depthAll_le.mpr fun x hx => this x ((List.mem_filter.mp hx).1)
  omega
theorem filter_none {xs : List PyData} {p : PyData → Bool} : (xs.filter p).isEmpty = xs.all fun x => !p x := by
  induction xs with
  | nil => rfl
  | cons x xs ih => cases h : p x <;> simp [h, ih]
theorem chars_len {z : Str} : (chars z).length = z.length := by unfold chars; rw [List.length_map]; rfl
theorem chars_all {z : Str} {q : PyData → Bool} : (chars z).all q = z.cps.toList.all fun c => q (chr1 c) := by
  unfold chars; rw [List.all_map]; rfl
theorem chars_plain {z : Str} : PyData.plainAll (chars z) = true := by
  rw [plainAll_iff]
  intro x hx
  unfold chars at hx
  obtain ⟨c, _, rfl⟩ := List.mem_map.mp hx
  rfl
theorem chars_depth {z : Str} : (PyData.list (chars z)).depth ≤ 1 := by
  show PyData.depthAll (chars z) + 1 ≤ 1
  have : PyData.depthAll (chars z) ≤ 0 := depthAll_le.mpr fun x hx => by
    unfold chars at hx
    obtain ⟨c, _, rfl⟩ := List.mem_map.mp hx
    exact Nat.le_refl _
  omega
theorem eqv_chr {c : Nat} {y : Str} : PyData.eqv (chr1 c) (.str y) = decide (y.cps.toList = [c]) := by
  show ((⟨#[c]⟩ : Str) == y) = _
  rw [Bool.eq_iff_iff, beq_iff_eq, decide_eq_true_eq]
  constructor
  · intro h; rw [← h]
  · intro h
    cases y with
    | mk a =>
      have : a = #[c] := by
        apply Array.toList_inj.mp
        exact h
      rw [this]
theorem emod_b {a b : Int} (h : 0 < b) : 0 ≤ a.fmod b ∧ a.fmod b < b := by
  rw [Int.fmod_eq_emod_of_nonneg a (by omega)]
  exact ⟨Int.emod_nonneg a (by omega), Int.emod_lt_of_pos a h⟩
theorem mul_l {i j : Int} (h1 : -(2 ^ 64) < i) (h2 : i < 2 ^ 64) : mulOk i j := .inl ⟨h1, h2⟩
theorem mul_r {i j : Int} (h1 : -(2 ^ 64) < j) (h2 : j < 2 ^ 64) : mulOk i j := .inr (.inl ⟨h1, h2⟩)
end TL

set_option Elab.async false
set_option linter.all false
set_option maxRecDepth 100000
/-! TL19: the law's end. -/
namespace TL
open PySem PySem.Spec PyProof.Rows L2

/-- the script's record, frozen -/
def scrO (vs : List Value) : Obj := { cls := .type "list", data := .seq vs.toArray }
abbrev tabO : Obj := { cls := .none, data := .fields #[] }
/-- the law's def is called with a script -/
theorem law_run [I : TabsC] {P : Program} {w : World} {K : PySem.W.Frag} {mg mb : Str → Option Value} {k : Nat} {fa a : Addr} {fd : FuncData} {x : Str} {sp : Sp} {s : Shared} {vs : List Value} {ns : List Int}
    (kin : K.In s.heap) (nsm : s.heap.Ns mainGlobals mg) (nsb : s.heap.Ns builtinsNs mb) (bts : ∀ y : Str, y ≠ "__name__" → mb y = bootBuiltins y) (nol : s.heap.NoLimit) (gen0 : s.gens = #[])
    (tb1 : ∀ p ∈ I.T, s.heap.get? p.1 = some tabO) (tb2 : ∀ p ∈ I.T, K.lookup p.1 = none) (tb3 : ∀ p ∈ I.T, ∃ c, PySem.W.CodeHd s.heap c p.1)
    (bmo : ∃ (u : Addr) (o : Obj), mg "__builtins__" = some (.ref u) ∧ u ≠ builtinsNs ∧ s.heap.get? u = some o ∧ o.cls = .type "module" ∧ o.dict = some builtinsNs ∧ o.data = .plain)
    (oa : s.heap.get? a = some (scrO vs)) (iv : IntsAre vs ns) (le : ns.length ≤ sizeLine) (rm : Room k callerA)
    (F : ∀ base : Heap, K.In base → base.Ns mainGlobals mg → TbAt base mg → FnG P w K mg base (L2.CX P w) k fa fd [x] sp) (bd : ∀ (t : Shared) (u : Value), BindsTo t fd ⟨[u], []⟩ [(x, u)])
    (ok : ∀ H : Hp, Tbs H → SqF K H a (ns.map V.int) → sp [.ref a] H (fun v _ => v = .bl true) fun _ _ _ => False) :
    codeAny (model P w) callerA (.call (.ref fa) ⟨[.ref a], []⟩) (fun r t => r = .ok (.ret (.bool true)) ∧ OldK s.heap t.heap ∧ t.os = s.os ∧ AllBare t.gens) s := by
  have rel := vals_ints iv
  have lv := iv.length
  have atT : ∀ {b : Addr}, b ∈ I.T.map (·.1) → s.heap.get? b = some tabO := fun {b} hb => by
    obtain ⟨p, hp, rfl⟩ := List.mem_map.mp hb
    exact tb1 p hp
  have aT : a ∉ I.T.map (·.1) := fun z => by
    have e := atT z
    rw [oa] at e
    have d : Data.seq vs.toArray 0 = Data.fields #[] := congrArg Obj.data (Option.some.inj e)
    cases d
  -- H tracks the tables, and the script alone, or nothing
  have main : ∀ H : Hp, (∀ b, H b = none ∨ (b = a ∧ H b = some (.frz (scrO vs) (.lst (ns.map V.int)))) ∨ (b ∈ I.T.map (·.1) ∧ H b = some (.tbl #[]))) → (∀ p ∈ I.T, H p.1 = some (.tbl #[])) → SqF K H a (ns.map V.int) → HOk P w H s.heap → (H a ≠ none → K.lookup a = none) →
      codeAny (model P w) callerA (.call (.ref fa) ⟨[.ref a], []⟩) (fun r t => r = .ok (.ret (.bool true)) ∧ OldK s.heap t.heap ∧ t.os = s.os ∧ AllBare t.gens) s := by
    intro H only tt sq hok hk
    have free : ∀ {b : Addr}, b ≠ a → b ∉ I.T.map (·.1) → H b = none := fun {b} h h' => (only b).resolve_right fun z => z.elim (fun z => h z.1) fun z => h' z.1
    have keep : ∀ {b : Addr} {o : Obj}, s.heap.get? b = some o → H b = none → (hidT s.heap H).get? b = some o := fun e n => hidT_get e n
    have other : ∀ {b : Addr} {o : Obj}, s.heap.get? b = some o → o ≠ scrO vs → o ≠ tabO → H b = none := fun {b o} e h1 h2 => free (fun z => by
        rw [z, oa] at e
        exact h1 (Option.some.inj e).symm) fun z => by
        rw [atT z] at e
        exact h2 (Option.some.inj e).symm
    have dicts : ∀ {b : Addr} {o : Obj} {es : Array DictEntry} {ep : Nat}, s.heap.get? b = some o → o.data = .dict es ep → H b = none := fun {b o es ep} e d =>
      other e (fun z => by rw [z] at d; exact nomatch (d : Data.seq vs.toArray _ = Data.dict es ep)) fun z => by rw [z] at d; exact nomatch (d : Data.fields #[] = Data.dict es ep)
    have space : ∀ {b : Addr} {m : Str → Option Value}, s.heap.Ns b m → (hidT s.heap H).Ns b m := fun {b m} h => by
      obtain ⟨o, es, ep, e, d, r⟩ := h
      exact ⟨o, es, ep, keep e (dicts e d), d, r⟩
    have kin' : K.In (hidT s.heap H) := fun b o e => keep (kin b o e) (by
      by_cases z : b = a
      · subst z
        cases q : H b with
        | none => rfl
        | some u =>
          have := hk (by rw [q]; simp)
          rw [this] at e
          cases e
      · refine free z fun h => ?_
        obtain ⟨p, hp, ep⟩ := List.mem_map.mp h
        rw [← ep, tb2 p hp] at e
        cases e)
    have md : Mod K mg (hidT s.heap H) := ⟨kin', space nsm, ⟨mb, space nsb, bts⟩, by
      obtain ⟨mc, h1, h2⟩ := nol
      exact ⟨mc, space h1, h2⟩⟩
    have tbs : TbAt (hidT s.heap H) mg := fun p hp => by
      obtain ⟨u, o, b1, b2, b3, b4, b5, b6⟩ := bmo
      refine ⟨⟨u, o, b1, b2, fun q => ?_, fun q => ?_, keep b3 (other b3 (fun z => ?_) fun z => ?_), b4, b5, b6⟩, fun z => ?_⟩
      · obtain ⟨o2, es, ep, e, d, _⟩ := nsm
        rw [← q, b3] at e
        cases e
        rw [b6] at d
        cases d
      · rw [q, tb1 p hp] at b3
        cases b3
        cases b6
      · rw [z] at b6; cases b6
      · rw [z] at b6; cases b6
      · obtain ⟨o2, es, ep, e, d, _⟩ := nsm
        rw [z, tb1 p hp] at e
        cases e
        cases d
    have env : Env0 P w K mg (hidT s.heap H) callerA [] s H := ⟨rfl, md, fun b o e => of_hidT e, Nat.le_of_eq (hidT_size _ _), trivial, fun b hb => (nomatch hb), hok, .of_eq gen0⟩
    refine codeAny_mono ((F _ kin' (space nsm) tbs).go callerA [] s H ⟨[.ref a], []⟩ [.ref a] [.ref a] _ _ rm rfl env (bd s (.ref a)) (.cons rfl .nil) (ok H ⟨fun p hp => .nil (tt p hp), fun b ps e => by
      rcases only b with z | ⟨_, z⟩ | ⟨z, _⟩
      · rw [z] at e; cases e
      · rw [z] at e; cases e
      · exact z⟩ sq)) fun r t h => ?_
    cases r with
    | error e =>
      obtain ⟨_, _, _, _, _, _, _, _, _, _, _, _, z⟩ := h
      exact z.elim
    | ok fl =>
      cases fl with
      | next => exact False.elim h
      | brk => exact False.elim h
      | cont => exact False.elim h
      | ret u =>
        obtain ⟨v, H', eo, bare, un, hok', rv, q⟩ := h
        have q : v = .bl true := q
        subst q
        obtain rfl : u = Value.bool true := rv
        have old : ∀ b o, b ∉ I.T.map (·.1) → s.heap.get? b = some o → t.heap.get? b = some o := fun b o nb e => by
          rcases only b with z | ⟨z, z2⟩ | ⟨z, _⟩
          · exact un.keep b o e z (fun h => nomatch h) (fun h => nomatch h)
          · subst z
            rw [oa] at e
            cases e
            exact (hok' b _ (un.frzs b _ _ z2)).1
          · exact absurd z nb
        have grown : ∀ p ∈ I.T, ∃ more : Array Value, t.heap.get? p.1 = some { cls := .none, data := .fields more } := fun p hp => by
          obtain ⟨more, z⟩ := un.tbls p.1 #[] (tt p hp)
          exact ⟨_, hok' p.1 _ z⟩
        refine ⟨rfl, ⟨fun b o e => ?_, fun b o e => ?_⟩, eo, bare⟩
        · by_cases hb : b ∈ I.T.map (·.1)
          · obtain ⟨p, hp, rfl⟩ := List.mem_map.mp hb
            obtain ⟨more, hm⟩ := grown p hp
            obtain ⟨c, hc⟩ := tb3 p hp
            have e2 := tb1 p hp
            rw [e2] at e
            cases e
            exact .inr (.inl ⟨(hc.tab e2).isCodeTable, rfl, #[], more, rfl, by rw [Array.empty_append]; exact hm⟩)
          · exact .inl (old b o hb e)
        · by_cases hb : b ∈ I.T.map (·.1)
          · obtain ⟨p, hp, rfl⟩ := List.mem_map.mp hb
            obtain ⟨more, hm⟩ := grown p hp
            exact ⟨_, hm⟩
          · exact ⟨o, old b o hb e⟩
  cases q : K.lookup a with
  | some o =>
    have e := kin a o q
    rw [oa] at e
    cases e
    refine main (fun b => if b ∈ I.T.map (·.1) then some (.tbl #[]) else none) (fun b => ?_) (fun p hp => if_pos (List.mem_map_of_mem hp)) (.inr ⟨_, vs.toArray, _, q, rfl, rfl, rfl, by rw [List.size_toArray, lv]; exact le, by simpa using rel⟩) (fun b u z => ?_) fun z => absurd (if_neg aT) z
    · by_cases h : b ∈ I.T.map (·.1)
      · exact .inr (.inr ⟨h, if_pos h⟩)
      · exact .inl (if_neg h)
    · by_cases h : b ∈ I.T.map (·.1)
      · cases (if_pos h).symm.trans z
        exact atT h
      · cases (if_neg h).symm.trans z
  | none =>
    refine main (fun b => if b = a then some (.frz (scrO vs) (.lst (ns.map V.int))) else if b ∈ I.T.map (·.1) then some (.tbl #[]) else none) (fun b => ?_) (fun p hp => ?_) (.inl ⟨scrO vs, if_pos rfl⟩) (fun b u z => ?_) fun _ => q
    · by_cases h : b = a
      · exact .inr (.inl ⟨h, if_pos h⟩)
      · by_cases h2 : b ∈ I.T.map (·.1)
        · exact .inr (.inr ⟨h2, (if_neg h).trans (if_pos h2)⟩)
        · exact .inl ((if_neg h).trans (if_neg h2))
    · have m := List.mem_map_of_mem (f := (·.1)) hp
      exact (if_neg fun z => aT (by rw [← z]; exact m)).trans (if_pos m)
    · by_cases h : b = a
      · have z := (if_pos h).symm.trans z
        cases z
        subst h
        exact ⟨oa, by rw [List.length_map]; exact le, vs, _, rel, oa⟩
      · have z := (if_neg h).symm.trans z
        by_cases h2 : b ∈ I.T.map (·.1)
        · cases (if_pos h2).symm.trans z
          exact atT h2
        · cases (if_neg h2).symm.trans z
theorem walk_run {l : PySem.W.OpenLaw} {most k : Nat} {q : Program} {loose : List Str} {XP : (Str → Option Value) → Heap → Prop} {YP : World → Heap → Prop} {d : DefRec} {K : Params → PySem.W.Frag} {x : Str}
    (h1 : l.most = some most) (h2 : most ≤ sizeLine) (h3 : d.params.defaults = []) (rm : Room k callerA) (part : ∀ (w : World) (h : Heap), YP w h → (K w.params).In h)
    (F : ∀ (w : World) (mg : Str → Option Value) (fa : Addr) (h : Heap), YP w h → (K w.params).In h → h.Ns mainGlobals mg → mg d.name = some (.ref fa) → ∃ (I : TabsC), (∀ p ∈ I.T, h.get? p.1 = some tabO) ∧ (∀ p ∈ I.T, (K w.params).lookup p.1 = none) ∧ (∀ p ∈ I.T, ∃ c, PySem.W.codeHdIn (K w.params) c p.1 = true) ∧
      ∃ (fd : FuncData) (sp : Sp), (∀ (t : Shared) (u : Value), BindsTo t fd ⟨[u], []⟩ [(x, u)]) ∧
      (∀ base : Heap, (K w.params).In base → base.Ns mainGlobals mg → TbAt base mg → FnG l.prog w (K w.params) mg base (L2.CX l.prog w) k fa fd [x] sp) ∧
      ∀ (H : Hp) (a : Addr) (ns : List Int), ns.length ≤ most → Tbs H → SqF (K w.params) H a (ns.map V.int) → sp [.ref a] H (fun v _ => v = .bl true) fun _ _ _ => False) :
    PySem.W.WalkO q loose XP YP l.row.toRowW d [] (fun f vs => PySem.call f vs) := by
  refine Att.attach_call h1 h3 fun w _ t mg mb fa _ _ _ _ a vs ns G Y _ _ _ e oa iv len g0 => ?_
  have kin := part w _ Y
  obtain ⟨I, t1, t2, t3, fd, sp, bd, fn, ok⟩ := F w mg fa _ Y kin G.T.g e
  exact law_run kin G.T.g G.T.b G.T.builtins G.T.nolimit g0 t1 t2 (fun p hp => let ⟨c, hc⟩ := t3 p hp; ⟨c, PySem.W.codeHd_of_K kin hc⟩) G.T.bmain oa iv (Nat.le_trans len h2) rm fn bd fun H ht sq => ok H a ns len ht sq
/-- the law's promise is enough -/
theorem low_true [TabsC] {mg : Str → Option Value} {cn : Nat → Str} {K : PySem.W.Frag} {H : Hp} {a : Addr} {ns : List Int} {s : Spc} (har : s.ar = 1) (hp : s.pre [.scr ns] 0) (hq : ∀ r n', s.post [.scr ns] 0 r n' → r = ⟨.d (.bool true), false⟩) (hx : ∀ e n', ¬ s.exn [.scr ns] 0 e n') (ht : Tbs H) (sq : SqF K H a (ns.map V.int)) :
    low mg cn K 1 s.sp [.ref a] H (fun v _ => v = .bl true) fun _ _ _ => False := by
  refine ⟨rfl, [], [], 0, [.scr ns], ⟨(fun _ h => nomatch h), (fun _ h => nomatch h), (fun _ h => nomatch h), ht⟩, .cons ⟨a, rfl, sq⟩ .nil, by rw [har]; rfl, hp, fun r n' h => ?_, fun e n' h => (hx e n' h).elim⟩
  obtain rfl := hq r n' h
  intro v H' G' Z' g o w f
  have w : Rp K (mask H' Z') v (.bool true) := w
  cases w
  rfl
end TL

set_option Elab.async false
set_option linter.all false
set_option maxRecDepth 100000
/-! TL20: all defs of a text, one after another. -/
namespace TL
open PySem PySem.Spec PyProof.Rows L2

/-- the def number i keeps its spec, for calls L deep -/
def Has [TabsC] (P : Program) (w : World) (K : PySem.W.Frag) (mg : Str → Option Value) (base : Heap) (cn : Nat → Str) (nm : Str) (ar : Nat) (kws : List (List Nat × Nat × List Str)) (L : Nat) (sp : TSp) : Prop :=
  ∃ a fd ps, FnG P w K mg base (L2.CX P w) L a fd ps (low mg cn K ps.length sp) ∧ ps.length = ar ∧ mg nm = some (.ref a) ∧ PySem.W.keepIn K (.ref a) = true ∧ Binds K fd ps [] ∧
    ∀ q ∈ kws, KBinds K fd ps q.2.2 (kwG q.2.1 q.2.2.length q.1) (kwG q.2.1 q.2.2.length q.1)
theorem Has.up [TabsC] {P : Program} {w : World} {K : PySem.W.Frag} {mg : Str → Option Value} {base : Heap} {cn : Nat → Str} {nm : Str} {ar : Nat} {kws : List (List Nat × Nat × List Str)} {L L' : Nat} {sp : TSp} (h : Has P w K mg base cn nm ar kws L sp) (hl : L ≤ L') :
    Has P w K mg base cn nm ar kws L' sp := by
  obtain ⟨a, fd, ps, F, r⟩ := h
  exact ⟨a, fd, ps, F.mono hl, r⟩
/-- a spec that asks what never is -/
theorem fn_false [TabsC] {P : Program} {w : World} {K : PySem.W.Frag} {mg : Str → Option Value} {base : Heap} {CX : CXT} {k : Nat} {f : Addr} {fd : FuncData} {ps : List Str} {cn : Nat → Str} {s : Spc} (h : ∀ ts n, ¬ s.pre ts n) : FnG P w K mg base CX k f fd ps (low mg cn K ps.length s.sp) :=
  ⟨fun _ _ _ _ h => h.1, fun _ _ _ _ _ _ _ _ _ _ _ _ _ _ z => by
    obtain ⟨_, _, _, _, _, _, _, z⟩ := z
    exact (h _ _ z.2.1).elim⟩
/-- the generator: from the list of its three numbers -/
theorem gen_of [TabsC] {mg : Str → Option Value} {cn : Nat → Str} {K : PySem.W.Frag} {ar : Nat} {s s' : Spc} (e : s.ar = s'.ar) (hp : ∀ ts n, s'.pre ts n → s.pre ts n)
    (hq : ∀ ts n r n', s.post ts n r n' → n' = n ∧ ∃ a m c : Int, r = ⟨.d (.list [.int a, .int m, .int c]), true⟩ ∧ 0 ≤ a ∧ a < 2 ^ 2000 ∧ 0 ≤ m ∧ m < 2147483647 ∧ 0 ≤ c ∧ c ≤ 1000000)
    (hq' : ∀ ts n, s'.post ts n ⟨.gen, false⟩ n) (hx : ∀ ts n e n', ¬ s.exn ts n e n') : ∀ vs H Q E, low mg cn K ar s'.sp vs H Q E → low mg cn K ar s.sp vs H Q E := by
  rintro vs H Q E ⟨hl, G, Z, n, ts, o, w, h1, h2, h3, _⟩
  refine ⟨hl, G, Z, n, ts, o, w, h1.trans e.symm, hp ts n h2, fun r n' h => ?_, fun e n' h => (hx _ _ _ _ h).elim⟩
  obtain ⟨rfl, a, m, c, rfl, b⟩ := hq ts n r n' h
  intro v H' G' Z' g o' w' f
  obtain ⟨p, us, rfl, hp0, hp1, ra⟩ := f rfl
  have eu : us = [.int a, .int m, .int c] := by
    cases ra with
    | cons r1 ra =>
      cases ra with
      | cons r2 ra =>
        cases ra with
        | cons r3 ra =>
          cases ra
          cases r1
          cases r2
          cases r3
          rfl
  subst eu
  obtain ⟨L, e1, e2, hL⟩ := g.new
  refine h3 _ _ (hq' ts n') _ H' (p :: G') (p :: Z') ⟨g.ext, g.exz, g.dom, p :: L, by rw [e1]; rfl, by rw [e2]; rfl, fun x hx => ?_⟩ ⟨fun x hx => ?_, fun z hz => ?_, fun x hx => ?_, o'.tab⟩ ⟨p, List.mem_cons_self .., rfl⟩ fun z => nomatch z
  · rcases List.mem_cons.mp hx with rfl | hx
    · exact hp0
    · exact hL x hx
  · rcases List.mem_cons.mp hx with rfl | hx
    · exact List.mem_cons_self ..
    · exact List.mem_cons_of_mem _ (o'.sub x hx)
  · rcases List.mem_cons.mp hz with rfl | hz
    · rw [hp1]; simp
    · exact o'.dom z hz
  · rcases List.mem_cons.mp hx with rfl | hx
    · exact ⟨a, m, c, hp1, b.1, b.2.1, b.2.2.1, b.2.2.2.1, b.2.2.2.2.1, by omega⟩
    · exact o'.gen x hx
end TL

set_option Elab.async false
set_option linter.all false
set_option maxRecDepth 100000
set_option maxHeartbeats 4000000
/-! HL0: defs that many laws share: their bodies, what they promise. -/
namespace HL
open PySem PySem.Spec PyProof.Rows L2 TL
def bl (b : Bool) : R := ⟨.d (.bool b), false⟩
/-- what a body must show -/
def Body (s : Spc) (b : Ss) (N : List Str) (Φ : Nat → TSp) (C : Nat → PyData) : Prop := ∀ (ts : List T) (n : Nat) (Q : QE) (X : TL.XE), (∀ t n, Q ⟨t, false⟩ n → Q ⟨t, true⟩ n) → ts.length = s.ar → s.pre ts n →
  (∀ r n', s.post ts n r n' → Q r n') → (∀ e n', s.exn ts n e n' → X e n') → wpSs Φ C X b (endD Q) (startE N ts) n
theorem Body.names {s : Spc} {b : Ss} {N N' : List Str} {Φ : Nat → TSp} {C : Nat → PyData} (h : Body s b N Φ C) (e : N'.length = N.length) : Body s b N' Φ C := fun ts n Q X h1 h2 h3 h4 h5 => by
  have := h ts n Q X h1 h2 h3 h4 h5
  unfold startE at this ⊢
  rw [e]; exact this
/-- a def's promise, by its number -/
abbrev Is (Φ : Nat → TSp) (i : Nat) (s : Spc) : Prop := Φ i = s.sp
abbrev nHash : List Str := ["seed", "index", "mixed"]
def bHash : Ss := (.cons [] (.set 2 (.bin .mod (.bi .int (.cons (.bin .add (.bin .add (.bin .add (.bin .mul (.v 0) (.c (.int 1140671))) (.bin .mul (.bin .mul (.c (.int 27644437)) (.v 1)) (.v 1))) (.bin .mul (.c (.int 131)) (.v 1))) (.c (.int 19))) .nil)) (.c (.int 2147483629))))
  (.cons [] (.set 2 (.bin .mod (.bi .int (.cons (.bin .add (.bin .add (.bin .mul (.v 2) (.v 2)) (.bin .mul (.c (.int 62089)) (.v 1))) (.c (.int 32416187))) .nil)) (.c (.int 2147483587))))
  (.cons [] (.ret (.bin .mod (.bi .int (.cons (.bin .mul (.v 2) (.c (.int 48271))) .nil)) (.c (.int 2147483647))))
  .nil)))
abbrev nCell : List Str := ["script", "index"]
def bCell : Ss := (.cons [] (.ite (.cmp .lt (.v 1) (.bi .len (.cons (.v 0) .nil)))
  (.cons [] (.ret (.ix (.v 0) (.v 1)))
  .nil) .nil)
  (.cons [] (.ret (.bin .mod (.bi .sum (.cons (.sl (.v 0) (.c .none) (.c (.int 1))) .nil)) (.c (.int 1000003))))
  .nil))
abbrev nGen : List Str := ["script", "index", "seed"]
def bGen (i : Nat) : Ss := (.cons [] (.set 2 (.call i (.cons (.v 0) (.cons (.v 1) .nil))))
  (.cons [] (.ret (.lst (.cons (.bin .mod (.bi .int (.cons (.bi .max2 (.cons (.bin .sub (.w 2) (.bin .pow (.c (.int 10)) (.c (.int 18)))) (.cons (.c (.int 0)) .nil))) .nil)) (.bin .pow (.bin .pow (.c (.int 10)) (.c (.int 60))) (.c (.int 10)))) (.cons (.bin .mod (.bi .int (.cons (.w 2) .nil)) (.c (.int 2147483647))) (.cons (.bin .mul (.c (.int 1000)) (.v 1)) .nil)))))
  .nil))
abbrev nRand : List Str := ["generator", "bound", "drawn", "turn"]
def lRand_0 (i : Nat) : Ss := (.cons [] (.gst 0 2 (.bin .add (.gix 0 2) (.c (.int 1))))
  (.cons [] (.set 2 (.bin .add (.bin .mul (.w 2) (.c (.int 2147483587))) (.call i (.cons (.gix 0 1) (.cons (.gix 0 2) .nil)))))
  .nil))
def bRand (i : Nat) : Ss := (.cons [] (.ite (.cmp .gt (.gix 0 0) (.c (.int 0)))
  (.cons [] (.set 2 (.bin .mod (.bi .int (.cons (.gix 0 0) .nil)) (.v 1)))
  (.cons [] (.gst 0 0 (.bin .fdiv (.gix 0 0) (.v 1)))
  (.cons [2] (.ret (.v 2))
  .nil))) .nil)
  (.cons [] (.set 2 (.c (.int 0)))
  (.cons [] (.for_ (.nm 3) .rng1 (.cons (.bin .add (.c (.int 1)) (.bin .fdiv (.mt .bitlen (.v 1) .nil) (.c (.int 30)))) .nil) (lRand_0 i))
  (.cons [] (.ret (.bin .mod (.bi .int (.cons (.w 2) .nil)) (.v 1)))
  .nil))))
abbrev nPick : List Str := ["generator", "things"]
def bPick (i : Nat) : Ss := (.cons [] (.ret (.ix (.v 1) (.call i (.cons (.v 0) (.cons (.bi .len (.cons (.v 1) .nil)) .nil)))))
  .nil)
abbrev nCopy : List Str := ["value", "item"]
def eCopy_0 (i : Nat) : E := (.call i (.cons (.v 1) .nil))
def eCopy_1 (i : Nat) : E := (.call i (.cons (.v 1) .nil))
def bCopy (i : Nat) : Ss := (.cons [] (.ite (.isi (.v 0) .list)
  (.cons [] (.ret (.lc [1] (.nm 1) .seq (.cons (.v 0) .nil) (.c (.bool true)) (eCopy_0 i)))
  .nil) .nil)
  (.cons [] (.ite (.isi (.v 0) .tuple)
  (.cons [] (.ret (.bi .tuple (.cons (.lc [1] (.nm 1) .seq (.cons (.v 0) .nil) (.c (.bool true)) (eCopy_1 i)) .nil)))
  .nil) .nil)
  (.cons [] (.ret (.v 0))
  .nil)))
abbrev nSame : List Str := ["told", "due", "one", "other"]
def eSame_0 (i : Nat) : E := (.call i (.cons (.v 2) (.cons (.v 3) .nil)))
def eSame_1 (i : Nat) : E := (.call i (.cons (.v 2) (.cons (.v 3) .nil)))
def bSame (i : Nat) : Ss := (.cons [] (.ite (.isi (.v 1) .list)
  (.cons [] (.ret (.and (.isi (.v 0) .list) (.and (.cmp .eq (.bi .len (.cons (.v 0) .nil)) (.bi .len (.cons (.v 1) .nil))) (.cmp .nin (.c (.bool false)) (.lc [2, 3] (.tp [2, 3]) .zip (.cons (.v 0) (.cons (.v 1) .nil)) (.c (.bool true)) (eSame_0 i))))))
  .nil) .nil)
  (.cons [] (.ite (.isi (.v 1) .tuple)
  (.cons [] (.ret (.and (.isi (.v 0) .tuple) (.and (.cmp .eq (.bi .len (.cons (.v 0) .nil)) (.bi .len (.cons (.v 1) .nil))) (.cmp .nin (.c (.bool false)) (.lc [2, 3] (.tp [2, 3]) .zip (.cons (.v 0) (.cons (.v 1) .nil)) (.c (.bool true)) (eSame_1 i))))))
  .nil) .nil)
  (.cons [] (.ite (.cmp .is_ (.v 1) (.c .none))
  (.cons [] (.ret (.cmp .is_ (.v 0) (.c .none)))
  .nil) .nil)
  (.cons [] (.ite (.cmp .is_ (.v 1) (.c (.bool true)))
  (.cons [] (.ret (.cmp .is_ (.v 0) (.c (.bool true))))
  .nil) .nil)
  (.cons [] (.ite (.cmp .is_ (.v 1) (.c (.bool false)))
  (.cons [] (.ret (.cmp .is_ (.v 0) (.c (.bool false))))
  .nil) .nil)
  (.cons [] (.ite (.isi (.v 1) .int)
  (.cons [] (.ret (.and (.isi (.v 0) .int) (.and (.not (.isi (.v 0) .bool)) (.cmp .eq (.v 0) (.v 1)))))
  .nil) .nil)
  (.cons [] (.ret (.and (.isi (.v 0) .str) (.cmp .eq (.v 0) (.v 1))))
  .nil)))))))
abbrev nAny : List Str := ["generator", "menu"]
def bAny (i : Nat) (j : Nat) : Ss := (.cons [] (.set 1 (.lst (.cons (.c .none) (.cons (.c (.bool true)) (.cons (.c (.bool false)) (.cons (.c (.int 0)) (.cons (.c (.int 1)) (.cons (.neg (.c (.int 1))) (.cons (.bin .pow (.c (.int 10)) (.c (.int 29))) (.cons (.c (.str "")) (.cons (.c (.str "a")) (.cons (.c (.str "A")) (.cons (.c (.str "ab")) (.cons (.c (.str "a b")) (.cons (.c (.str "1a")) (.cons (.c (.str "a1")) (.cons (.c (.str " ")) (.cons (.c (.str "a\n")) (.cons (.bin .mul (.c (.str "z")) (.c (.int 20))) (.cons (.bin .mul (.c (.str "z")) (.c (.int 21))) (.cons (.c (.str "abcdefgh")) (.cons (.c (.str "abcdefghi")) .nil))))))))))))))))))))))
  (.cons [] (.set 1 (.bin .add (.w 1) (.lst (.cons (.lst .nil) (.cons (.tup .nil) (.cons (.dct []) (.cons (.lst (.cons (.c (.int 0)) .nil)) (.cons (.lst (.cons (.c (.int 1)) (.cons (.c (.int 0)) .nil))) (.cons (.lst (.cons (.c (.int 0)) (.cons (.c (.str "a")) .nil))) (.cons (.lst (.cons (.c (.str "a")) (.cons (.c (.int 0)) .nil))) (.cons (.lst (.cons (.c .none) (.cons (.c (.int 0)) .nil))) (.cons (.lst (.cons (.c (.int 0)) (.cons (.lst (.cons (.c (.int 1)) .nil)) .nil))) (.cons (.lst (.cons (.c (.int 0)) (.cons (.tup (.cons (.c (.int 1)) .nil)) .nil))) (.cons (.lst (.cons (.c (.bool true)) .nil)) (.cons (.lst (.cons (.c (.int 0)) (.cons (.c (.int 1)) .nil))) (.cons (.lst (.cons (.c (.int 0)) (.cons (.c (.int 0)) .nil))) (.cons (.tup (.cons (.c (.int 0)) (.cons (.c (.int 1)) .nil))) (.cons (.lst (.cons (.c (.str "a")) .nil)) (.cons (.lst (.cons (.lst .nil) .nil)) .nil)))))))))))))))))))
  (.cons [] (.set 1 (.bin .add (.w 1) (.lst (.cons (.dct [(.inr "a", (.int 1))]) (.cons (.lst (.cons (.c (.int 1)) (.cons (.c (.int 2)) (.cons (.bin .pow (.c (.int 10)) (.c (.int 29))) .nil)))) (.cons (.lst (.cons (.neg (.c (.int 1))) .nil)) (.cons (.c (.str "a_b")) (.cons (.c (.str "aB")) (.cons (.bin .mul (.c (.str "a")) (.c (.int 200))) (.cons (.c (.str "e0")) (.cons (.c (.str "0")) (.cons (.c (.str "house")) (.cons (.tup (.cons (.c (.str "house")) .nil)) .nil)))))))))))))
  (.cons [1] (.ret (.call j (.cons (.call i (.cons (.v 0) (.cons (.v 1) .nil))) .nil)))
  .nil))))
/-! comparisons and subscripts, once their parts are known -/
section
variable {x y : PyData} {Q : Bool → Prop} {P : TL.T → Prop} {a b : PyData}
@[simp] theorem cw_eq : cmpW .eq (.d x) (.d y) Q = (eqOk x y ∧ Q (PyData.eqv x y)) := rfl
@[simp] theorem cw_ne : cmpW .ne (.d x) (.d y) Q = (eqOk x y ∧ Q (!PyData.eqv x y)) := rfl
@[simp] theorem cw_lt : cmpW .lt (.d x) (.d y) Q = (ltOk x y ∧ Q (PySem.W.dataLt x y)) := rfl
@[simp] theorem cw_gt : cmpW .gt (.d x) (.d y) Q = (ltOk x y ∧ Q (PySem.W.dataLt y x)) := rfl
@[simp] theorem cw_le : cmpW .le (.d x) (.d y) Q = (ltOk x y ∧ Q (!PySem.W.dataLt y x)) := rfl
@[simp] theorem cw_ge : cmpW .ge (.d x) (.d y) Q = (ltOk x y ∧ Q (!PySem.W.dataLt x y)) := rfl
@[simp] theorem cw_is : cmpW .is_ (.d x) (.d y) Q = (litIs y = true ∧ Q (isD x y)) := rfl
@[simp] theorem cw_isn : cmpW .isn (.d x) (.d y) Q = (litIs y = true ∧ Q (!isD x y)) := rfl
@[simp] theorem cw_in : cmpW .in_ (.d x) (.d y) Q = inW x y Q := rfl
@[simp] theorem cw_nin : cmpW .nin (.d x) (.d y) Q = inW x y fun b => Q (!b) := rfl
variable {i j : Int} {W : R → Prop} {u v : Str} {xs ys : List PyData}
@[simp] theorem bw_addI : binW .add (.d (.int i)) (.d (.int j)) W = W ⟨.d (.int (i + j)), false⟩ := rfl
@[simp] theorem bw_subI : binW .sub (.d (.int i)) (.d (.int j)) W = W ⟨.d (.int (i - j)), false⟩ := rfl
@[simp] theorem bw_mulI : binW .mul (.d (.int i)) (.d (.int j)) W = (mulOk i j ∧ W ⟨.d (.int (i * j)), false⟩) := rfl
@[simp] theorem bw_fdivI : binW .fdiv (.d (.int i)) (.d (.int j)) W = (j ≠ 0 ∧ j.natAbs.log2 < 9000 ∧ W ⟨.d (.int (i.fdiv j)), false⟩) := rfl
@[simp] theorem bw_modI : binW .mod (.d (.int i)) (.d (.int j)) W = (j ≠ 0 ∧ W ⟨.d (.int (i.fmod j)), false⟩) := rfl
@[simp] theorem bw_powI : binW .pow (.d (.int i)) (.d (.int j)) W = (0 ≤ j ∧ (Builtin.Int.intBits i : Int) * j ≤ 2 ^ 27 ∧ W ⟨.d (.int (i ^ j.toNat)), false⟩) := rfl
@[simp] theorem bw_addS : binW .add (.d (.str u)) (.d (.str v)) W = (u.length + v.length ≤ sizeLine ∧ W ⟨.d (.str (u ++ v)), false⟩) := rfl
@[simp] theorem bw_addL : binW .add (.d (.list xs)) (.d (.list ys)) W = (xs.length + ys.length ≤ sizeLine ∧ W ⟨.d (.list (xs ++ ys)), true⟩) := rfl
@[simp] theorem bw_addT : binW .add (.d (.tuple xs)) (.d (.tuple ys)) W = (xs.length + ys.length ≤ sizeLine ∧ W ⟨.d (.tuple (xs ++ ys)), false⟩) := rfl
@[simp] theorem bw_mulL : binW .mul (.d (.list xs)) (.d (.int j)) W = (-(2 ^ 63) ≤ j ∧ j < 2 ^ 63 ∧ xs.length * j.toNat ≤ sizeLine ∧ W ⟨.d (.list (List.replicate j.toNat xs).flatten), true⟩) := rfl
theorem ix0 (h : P (.d a)) : ixW (.d (.tuple [a, b])) (.d (.int 0)) P := ⟨a, rfl, h⟩
theorem ix1 (h : P (.d b)) : ixW (.d (.tuple [a, b])) (.d (.int 1)) P := ⟨b, rfl, h⟩
theorem ixT0 {xs : List PyData} : ixW (.d (.tuple (a :: xs))) (.d (.int 0)) P = P (.d a) := propext ⟨fun ⟨x, e, h⟩ => by
  have e2 : L2.atI (a :: xs) 0 = some a := L2.atI_nat (j := 0) rfl
  rw [e2] at e; cases e; exact h, fun h => ⟨a, L2.atI_nat (j := 0) rfl, h⟩⟩
theorem ixT1 {xs : List PyData} : ixW (.d (.tuple (a :: b :: xs))) (.d (.int 1)) P = P (.d b) := propext ⟨fun ⟨x, e, h⟩ => by
  have e2 : L2.atI (a :: b :: xs) 1 = some b := L2.atI_nat (xs := a :: b :: xs) (j := 1) rfl
  rw [e2] at e; cases e; exact h, fun h => ⟨b, L2.atI_nat (xs := a :: b :: xs) (j := 1) rfl, h⟩⟩
theorem eqv_int {i j : Int} : PyData.eqv (.int i) (.int j) = decide (i = j) := rfl
theorem eqOk_int {i j : Int} : eqOk (.int i) (.int j) := ⟨rfl, rfl, by simp [PyData.depth]⟩
end
end HL

set_option Elab.async false
set_option linter.all false
set_option maxRecDepth 100000
set_option maxHeartbeats 4000000
namespace HL
open PySem PySem.Spec PyProof.Rows L2 TL
/-! HL1: what the shared defs of the laws promise; that they keep it. -/
def sHash : Spc := { ar := 2, pre := (fun | [.d (.int m), .d (.int c)], _ => (0 ≤ m ∧ m < 2147483647) ∧ 0 ≤ c ∧ c < 2 ^ 62 | _, _ => False), post := (fun _ n => fun r n' => n' = n ∧ ∃ z : Int, 0 ≤ z ∧ z < 2147483647 ∧ r = ⟨.d (.int z), false⟩) }
def sCell : Spc := { ar := 2, pre := (fun | [.scr ns, .d (.int i)], _ => 0 ≤ i ∧ ns.length ≤ 63 | _, _ => False), post := (fun _ n => fun r n' => n' = n ∧ ∃ z : Int, r = ⟨.d (.int z), false⟩) }
/-- as a list -/
def sGenL : Spc := { ar := 2, pre := (fun | [.scr ns, .d (.int i)], _ => 0 ≤ i ∧ i < 100 ∧ ns.length ≤ 63 | _, _ => False), post := (fun _ n => fun r n' => n' = n ∧ ∃ a m c : Int, r = ⟨.d (.list [.int a, .int m, .int c]), true⟩ ∧ 0 ≤ a ∧ a < 2 ^ 2000 ∧ 0 ≤ m ∧ m < 2147483647 ∧ 0 ≤ c ∧ c ≤ 1000000) }
def sGen : Spc := { ar := 2, pre := (fun | [.scr ns, .d (.int i)], _ => 0 ≤ i ∧ i < 100 ∧ ns.length ≤ 63 | _, _ => False), post := (fun _ n => fun r n' => n' = n ∧ r = ⟨.gen, false⟩) }
def sRand : Spc := { ar := 2, pre := (fun | [.gen, .d (.int b)], n => 0 < b ∧ b < 2 ^ 1800 ∧ n < 2 ^ 60 | _, _ => False), post := (fun | [.gen, .d (.int b)], n => fun r n' => n ≤ n' ∧ n' ≤ n + 64 ∧ ∃ z : Int, 0 ≤ z ∧ z < b ∧ r = ⟨.d (.int z), false⟩ | _, _ => fun _ _ => False) }

def its : PyData → List PyData
  | .list xs => xs
  | .tuple xs => xs
  | .str z => chars z
  | _ => []
def isSq : PyData → Bool
  | .list _ => true
  | .tuple _ => true
  | .str _ => true
  | _ => false

def sPick : Spc := { ar := 2, pre := (fun | [.gen, .d t], n => isSq t = true ∧ 0 < (its t).length ∧ (its t).length ≤ 1000000 ∧ n < 2 ^ 60 | _, _ => False), post := (fun | [.gen, .d t], n => fun r n' => n ≤ n' ∧ n' ≤ n + 64 ∧ ∃ x, x ∈ its t ∧ r = ⟨.d x, false⟩ | _, _ => fun _ _ => False) }
/-- a copy, so deep at most -/
def sCopy (d : Nat) : Spc := { ar := 1, pre := (fun | [.d x], _ => x.depth < d ∧ x.weight ≤ 1000000 | _, _ => False), post := (fun | [.d x], n => fun r n' => n' = n ∧ r = ⟨.d x, false⟩ | _, _ => fun _ _ => False) }
/-- trees of lists, so deep at most -/
def okX : Nat → PyData → Prop
  | 0, _ => False
  | d + 1, .list xs => xs.length ≤ 1000 ∧ ∀ y ∈ xs, okX d y
  | d + 1, .tuple xs => xs.length ≤ 1000 ∧ ∀ y ∈ xs, okX d y
  | _ + 1, .dict _ => False
  | _ + 1, _ => True
/-- the same tree -/
def sSame (d : Nat) : Spc := { ar := 2, pre := (fun | [.d x, .d y], _ => y = x ∧ okX d x | _, _ => False), post := (fun | [.d x, .d y], n => fun r n' => n' = n ∧ r = bl true | _, _ => fun _ _ => False) }

section
variable {Φ : Nat → TSp} {C : Nat → PyData}
theorem wHash : Body sHash bHash nHash Φ C := by
  intro ts n Q X hq hl hp hQ hX
  match ts, hp with
  | [.d (.int m), .d (.int c)], hp =>
    obtain ⟨⟨h1, h2⟩, h3, h4⟩ := hp
    simp [bHash, nHash, binW, biW]
    have a1 := emod_b (a := m * 1140671 + 27644437 * c * c + 131 * c + 19) (b := 2147483629) (by decide)
    refine ⟨mul_l (by omega) (by omega), mul_l (by decide) (by decide), mul_r (by omega) (by omega), mul_l (by decide) (by decide), mul_l (by omega) (by omega), mul_l (by decide) (by decide), mul_r (by decide) (by decide), hQ _ _ ⟨rfl, _, (emod_b (by decide)).1, (emod_b (by decide)).2, rfl⟩⟩
theorem sum_one (ns : List Int) : ∃ ms, intsOf (TL.cutD (ns.map PyData.int) none (some 1)) = some ms := by
  unfold TL.cutD
  rw [List.length_map]
  generalize HT.sIx ns.length 0 none = a
  generalize HT.sIx ns.length ns.length (some 1) - a = b
  rw [← List.map_drop, ← List.map_take]
  have : ∀ l : List Int, intsOf (l.map PyData.int) = some l := fun l => by
    induction l with
    | nil => rfl
    | cons x l ih => rw [List.map_cons, intsOf, ih]; rfl
  exact ⟨_, this _⟩
theorem wCell : Body sCell bCell nCell Φ C := by
  intro ts n Q X hq hl hp hQ hX
  match ts, hp with
  | [.scr ns, .d (.int i)], hp =>
    obtain ⟨h1, h2⟩ := hp
    simp [bCell, nCell, binW, biW, cmpW, truW, fitD, truD, ixW, slW, bnd, isNoB, ltOk_int, PySem.W.dataLt_int]
    split
    · rename_i hlt
      have hi : i.toNat < ns.length := by omega
      refine ⟨ns[i.toNat], ?_, hQ _ _ ⟨rfl, _, rfl⟩⟩
      have := atI_nat (xs := ns) (j := i.toNat) (List.getElem?_eq_getElem hi)
      rwa [Int.toNat_of_nonneg h1] at this
    · obtain ⟨ms, e⟩ := sum_one ns
      exact ⟨ms, e, hQ _ _ ⟨rfl, _, rfl⟩⟩

theorem wGen {f : Nat} (h5 : Φ f = sCell.sp) : Body sGenL (bGen f) nGen Φ C := by
  intro ts n Q X hq hl hp hQ hX
  match ts, hp with
  | [.scr ns, .d (.int i)], hp =>
    obtain ⟨h1, h2, h3⟩ := hp
    simp [bGen, nGen]
    rw [h5]
    refine ⟨rfl, ⟨h1, h3⟩, fun r n' hr => ?_, fun _ _ h => h.elim⟩
    obtain ⟨rfl, z, rfl⟩ := hr
    simp [binW, biW, datas, Builtin.Int.intBits]
    refine ⟨by decide +kernel, by decide +kernel, by decide +kernel, mul_l (by decide) (by decide), by rw [sizeLine_eq]; decide, hQ _ _ ⟨rfl, _, _, _, rfl, ?_⟩⟩
    have e1 := emod_b (a := if z - 1000000000000000000 < 0 then 0 else z - 1000000000000000000) (b := (10 ^ 60) ^ 10) (by decide +kernel)
    have e2 := emod_b (a := z) (b := 2147483647) (by decide)
    refine ⟨e1.1, Int.lt_trans e1.2 (by decide +kernel), e2.1, e2.2, by omega, by omega⟩
theorem bits30 {b : Int} (h : 0 < b) (h2 : b < 2 ^ 1800) : 0 ≤ 1 + ((Builtin.Int.intBits b : Int)).fdiv 30 ∧ 1 + ((Builtin.Int.intBits b : Int)).fdiv 30 ≤ 62 := by
  have h3 : b.natAbs < 2 ^ 1800 := by
    have h4 : (b.natAbs : Int) < ((2 ^ 1800 : Nat) : Int) := by
      rw [Int.natAbs_of_nonneg (by omega)]
      exact_mod_cast h2
    exact_mod_cast h4
  have := PyProof.Rows.intBits_le h3
  rw [Int.fdiv_eq_ediv_of_nonneg _ (by decide)]
  omega
theorem wRand (M : MonoPh Φ) {f : Nat} (h4 : Φ f = sHash.sp) : Body sRand (bRand f) nRand Φ C := by
  intro ts n Q X hq hl hp hQ hX
  match ts, hp with
  | [.gen, .d (.int b)], hp =>
    obtain ⟨h1, h2, h3⟩ := hp
    have fin : ∀ (z : Int) (n' : Nat), n ≤ n' → n' ≤ n + 64 → Q ⟨.d (.int (z.fmod b)), false⟩ n' := fun z n' a1 a2 => hQ _ _ ⟨a1, a2, _, (emod_b h1).1, (emod_b h1).2, rfl⟩
    simp [bRand, nRand, cmpW, truW, fitD, truD, ltOk_int, PySem.W.dataLt_int, binW, biW, mtW, rcv, srcW]
    intro z hz
    have lb : b.natAbs.log2 < 9000 := by
      have h3 : b.natAbs < 2 ^ 1800 := by
        have h4 : (b.natAbs : Int) < ((2 ^ 1800 : Nat) : Int) := by
          rw [Int.natAbs_of_nonneg (by omega)]
          exact_mod_cast h2
        exact_mod_cast h4
      exact Nat.lt_trans ((Nat.log2_lt (by omega)).mpr h3) (by decide)
    split
    · intro z1 hz1
      refine ⟨by omega, fun z2 hz2 => ⟨by omega, lb, n, Nat.le_refl _, ?_, fin _ _ (Nat.le_refl _) (by omega)⟩⟩
      have hz2 : 0 ≤ z2 ∧ z2 < 2 ^ 2000 := hz2
      rw [Int.fdiv_eq_ediv_of_nonneg _ (by omega)]
      exact ⟨Int.ediv_nonneg hz2.1 (by omega), Int.lt_of_le_of_lt (Int.ediv_le_self _ hz2.1) hz2.2⟩
    · obtain ⟨q1, q2⟩ := bits30 h1 h2
      refine ⟨by decide +kernel, by omega, by omega, ?_⟩
      refine for_by M (fun i ρ m => ∃ (d : Int) (t : Option (Bool × T)), ρ = [some (false, .gen), some (false, .d (.int b)), some (false, .d (.int d)), t] ∧ n ≤ m ∧ m ≤ n + i) ⟨0, none, rfl, Nat.le_refl _, Nat.le_refl _⟩ (fun i ρ m x e h => ?_) fun ρ m h => ?_
      · obtain ⟨d, t, rfl, e1, e2⟩ := h
        have hi : i < (1 + ((Builtin.Int.intBits b : Int)).fdiv 30).toNat := by
          have := (List.getElem?_eq_some_iff.mp e).1
          simpa using this
        refine ⟨_, rfl, ?_⟩
        simp [lRand_0, stA, binW]
        intro z2 hz2
        have hz2 : 0 ≤ z2 ∧ z2 ≤ 1000000 + m := hz2
        refine ⟨m + 1, by omega, ⟨by omega, by omega⟩, mul_r (by decide) (by decide), fun z3 hz3 z4 hz4 => ?_⟩
        have hz3 : 0 ≤ z3 ∧ z3 < 2147483647 := hz3
        have hz4 : 0 ≤ z4 ∧ z4 ≤ 1000000 + (m + 1 : Nat) := hz4
        rw [h4]
        refine ⟨rfl, ⟨hz3, hz4.1, by omega⟩, fun r n' hr => ?_, fun _ _ h => h.elim⟩
        obtain ⟨rfl, z5, _, _, rfl⟩ := hr
        first
          | exact ⟨_, _, rfl, by omega, by omega⟩
          | (constructor <;> omega)
          | (simp; omega)
      · obtain ⟨d, t, rfl, e1, e2⟩ := h
        simp at e2 ⊢
        exact ⟨by omega, fin _ _ e1 (by omega)⟩

theorem wPick {f : Nat} (h7 : Φ f = sRand.sp) : Body sPick (bPick f) nPick Φ C := by
  intro ts n Q X hq hl hp hQ hX
  match ts, hp with
  | [.gen, .d t], hp =>
    obtain ⟨h1, h2, h3, h4⟩ := hp
    have h24 : (sizeLine : Nat) = 16777216 := sizeLine_eq
    have cl : ∀ z : Str, (its (.str z)).length = z.length := fun z => chars_len
    simp [bPick, nPick]
    have go : ∀ k : Int, 0 < k → k < 2 ^ 40 → (∀ (z : Int) (n' : Nat), 0 ≤ z → z < k → n ≤ n' → n' ≤ n + 64 → ixW (.d t) (.d (.int z)) fun t => Q ⟨t, false⟩ n') → Φ f [.gen, .d (.int k)] n (fun y n => ixW (.d t) y.t fun t => Q ⟨t, false⟩ n) X := fun k k0 k1 h => by
      rw [h7]
      refine ⟨rfl, ⟨k0, Int.lt_trans k1 (by decide +kernel), h4⟩, fun r n' hr => ?_, fun _ _ h => h.elim⟩
      obtain ⟨a1, a2, z, b1, b2, rfl⟩ := hr
      exact h z n' b1 b2 a1 a2
    cases t <;> first | cases h1 | skip
    · rename_i z
      rw [cl] at h2 h3
      refine ⟨by omega, go _ (by omega) (by omega) fun i n' b1 b2 a1 a2 => ?_⟩
      have hi : i.toNat < z.cps.toList.length := by
        have : z.length = z.cps.toList.length := by simp [Str.length]
        omega
      refine ⟨by omega, z.cps.toList[i.toNat], ?_, hQ _ _ ⟨a1, a2, _, ?_, rfl⟩⟩
      · have := atI_nat (xs := z.cps.toList) (j := i.toNat) (List.getElem?_eq_getElem hi)
        rwa [Int.toNat_of_nonneg b1] at this
      · show _ ∈ chars z
        exact List.mem_map_of_mem (List.getElem_mem hi)
    · rename_i xs
      refine go _ (by have : 0 < xs.length := h2; omega) (by have : xs.length ≤ 1000000 := h3; omega) fun i n' b1 b2 a1 a2 => ?_
      have hi : i.toNat < xs.length := by omega
      refine ⟨xs[i.toNat], ?_, hQ _ _ ⟨a1, a2, _, List.getElem_mem hi, rfl⟩⟩
      have := atI_nat (xs := xs) (j := i.toNat) (List.getElem?_eq_getElem hi)
      rwa [Int.toNat_of_nonneg b1] at this
    · rename_i xs
      refine go _ (by have : 0 < xs.length := h2; omega) (by have : xs.length ≤ 1000000 := h3; omega) fun i n' b1 b2 a1 a2 => ?_
      have hi : i.toNat < xs.length := by omega
      refine ⟨xs[i.toNat], ?_, hQ _ _ ⟨a1, a2, _, List.getElem_mem hi, rfl⟩⟩
      have := atI_nat (xs := xs) (j := i.toNat) (List.getElem?_eq_getElem hi)
      rwa [Int.toNat_of_nonneg b1] at this
theorem weight_mem {xs : List PyData} : ∀ x ∈ xs, x.weight ≤ PyData.weightAll xs := by
  induction xs with
  | nil => intro x h; cases h
  | cons y ys ih =>
    intro x h
    show _ ≤ y.weight + 1 + PyData.weightAll ys
    rcases List.mem_cons.mp h with rfl | h
    · omega
    · have := ih x h; omega
theorem weight_len {xs : List PyData} : xs.length ≤ PyData.weightAll xs := by
  induction xs with
  | nil => exact Nat.zero_le _
  | cons y ys ih =>
    show ys.length + 1 ≤ y.weight + 1 + PyData.weightAll ys
    omega
theorem wCopy (M : MonoPh Φ) (d : Nat) {f : Nat} (h9 : Φ f = (sCopy d).sp) : Body (sCopy (d + 1)) (bCopy f) nCopy Φ C := by
  intro ts n Q X hq hl hp hQ hX
  match ts, hp with
  | [.d x], hp =>
    obtain ⟨h1, h2⟩ := hp
    have hq2 := hQ _ _ ⟨rfl, rfl⟩
    have h24 : (sizeLine : Nat) = 16777216 := sizeLine_eq
    have comp : ∀ (xs : List PyData) (ρ : Ev) (Q' : List PyData → Nat → Prop), ρ.length = 2 → (∀ x ∈ xs, x.depth < d) → PyData.weightAll xs ≤ 1000000 → Q' xs n → lcGo (.nm 1) ρ (cndW Φ C (.c (.bool true))) (eltW Φ C (eCopy_0 f)) Q' xs [] n := fun xs ρ Q' hl hd hw h => by
      refine lc_pure M (fun _ => true) id (by have := weight_len (xs := xs); omega) (fun x hx => ?_) (by rw [List.filter_eq_self.mpr (fun _ _ => rfl), List.map_id]; exact h)
      refine ⟨_, rfl, fun P h => ?_, fun _ P h => ?_⟩
      · simpa [cndW_eq] using h
      · match ρ, hl with
        | [a, b], _ =>
          simp [eltW_eq, eCopy_0, stA]
          rw [h9]
          refine ⟨rfl, ⟨hd x hx, by have := weight_mem x hx; omega⟩, fun r n' hr => ?_, fun _ _ h => h.elim⟩
          obtain ⟨rfl, rfl⟩ := hr
          exact h _
    have dep : ∀ xs : List PyData, PyData.depthAll xs + 1 < d + 1 → ∀ x ∈ xs, x.depth < d := fun xs h x hx => by
      have := depthAll_le.mp (Nat.le_refl (PyData.depthAll xs)) x hx
      omega
    simp [bCopy, nCopy]
    cases x <;> simp [isTy] <;> try exact hq2
    · rename_i xs
      exact comp xs _ _ (by simp [wipeE]) (dep xs h1) h2 (hq _ _ hq2)
    · rename_i xs
      refine comp xs _ _ (by simp [wipeE]) (dep xs h1) h2 ?_
      simp [biW]
      exact hq2
theorem eqv_self : ∀ x : PyData, x.plain = true → PyData.eqv x x = true := fun x h => by
  exact PySem.SeqAt.eqv_refl_plain x h
theorem nin_true {xs : List PyData} (h : ∀ x ∈ xs, x = .bool true) : (xs.any fun y => PyData.eqv y (.bool false)) = false := by
  rw [List.any_eq_false]
  intro x hx
  rw [h x hx]
  decide
theorem wSame (M : MonoPh Φ) (d : Nat) {f : Nat} (h10 : Φ f = (sSame d).sp) : Body (sSame (d + 1)) (bSame f) nSame Φ C := by
  intro ts n Q X hq hl hp hQ hX
  match ts, hp with
  | [.d x, .d y], hp =>
    obtain ⟨rfl, h1⟩ := hp
    have hq2 := hQ _ _ ⟨rfl, rfl⟩
    have h24 : (sizeLine : Nat) = 16777216 := sizeLine_eq
    have comp : ∀ (xs : List PyData) (ρ : Ev) (Q' : List PyData → Nat → Prop), ρ.length = 4 → (∀ x ∈ xs, okX d x) → xs.length ≤ 1000 → (∀ acc, (∀ x ∈ acc, x = .bool true) → Q' acc n) →
        lcGo (.tp [2, 3]) ρ (cndW Φ C (.c (.bool true))) (eltW Φ C (eSame_0 f)) Q' (List.zipWith (fun x y => PyData.tuple [x, y]) xs xs) [] n := fun xs ρ Q' hl hd hw h => by
      have hz : (List.zipWith (fun x y => PyData.tuple [x, y]) xs xs) = xs.map fun x => .tuple [x, x] := by
        clear hd hw h
        induction xs with
        | nil => rfl
        | cons x xs ih => rw [List.zipWith_cons_cons, ih, List.map_cons]
      rw [hz]
      refine lc_pure M (fun _ => true) (fun _ => .bool true) (by rw [List.length_map]; omega) (fun y hy => ?_) (h _ fun y hy => ?_)
      · obtain ⟨x, hx, rfl⟩ := List.mem_map.mp hy
        match ρ, hl with
        | [a, b, c, e], _ =>
          refine ⟨_, rfl, fun P h => ?_, fun _ P h => ?_⟩
          · simpa [cndW_eq] using h
          · simp [eltW_eq, eSame_0, stA]
            rw [h10]
            refine ⟨rfl, ⟨rfl, hd x hx⟩, fun r n' hr => ?_, fun _ _ h => h.elim⟩
            obtain ⟨rfl, rfl⟩ := hr
            exact h _
      · obtain ⟨z, _, rfl⟩ := List.mem_map.mp hy
        rfl
    have fin : ∀ acc : List PyData, (∀ x ∈ acc, x = .bool true) → inOk (.bool false) acc ∧ (acc.any fun y => PyData.eqv y (.bool false)) = false := fun acc h =>
      ⟨⟨rfl, plainAll_iff.mpr fun x hx => by rw [h x hx]; rfl, by simp [PyData.depth]⟩, nin_true h⟩
    have hq3 : Q ⟨.d (.bool true), false⟩ n := hq2
    simp [bSame, nSame]
    cases y with
    | none => simp [isTy, cmpW, litIs, isD]; exact hq3
    | bool b => cases b <;> simp [isTy, cmpW, litIs, isD] <;> exact hq3
    | int i =>
      simp [isTy, cmpW, litIs, isD]
      rw [eqv_self _ rfl]
      exact ⟨⟨rfl, rfl, by simp [PyData.depth]⟩, hq3⟩
    | str z =>
      simp [isTy, cmpW, litIs, isD]
      rw [eqv_self _ rfl]
      exact ⟨⟨rfl, rfl, by simp [PyData.depth]⟩, hq3⟩
    | dict kvs => exact h1.elim
    | tuple xs =>
      simp [isTy, biW, cmpW]
      refine ⟨⟨rfl, rfl, by simp [PyData.depth]⟩, ?_⟩
      rw [if_pos (by simp [PyData.eqv])]
      refine comp xs _ _ (by simp [wipeE]) h1.2 h1.1 fun acc ha => ?_
      obtain ⟨f1, f2⟩ := fin acc ha
      simp [inW]
      refine ⟨f1, ?_⟩
      rw [f2]
      exact hq3
    | list xs =>
      simp [isTy, biW, cmpW]
      refine ⟨⟨rfl, rfl, by simp [PyData.depth]⟩, ?_⟩
      rw [if_pos (by simp [PyData.eqv])]
      refine comp xs _ _ (by simp [wipeE]) h1.2 h1.1 fun acc ha => ?_
      obtain ⟨f1, f2⟩ := fin acc ha
      simp [inW]
      refine ⟨f1, ?_⟩
      rw [f2]
      exact hq3

end
def plainL : PyData → Bool
  | .list xs => PyData.plainAll xs && decide (xs.length ≤ 1000)
  | .tuple xs => PyData.plainAll xs && decide (xs.length ≤ 1000)
  | _ => true
def good (x : PyData) : Bool := x.leavesShort 64 && x.showable && decide (x.weight ≤ 200000) && decide (x.depth ≤ 40) && plainL x
def goodA (x : PyData) : Bool := x.leavesShort 64 && x.showable && decide (x.weight ≤ 100) && decide (x.depth = 0) && x.plain

theorem goodA_all {xs : List PyData} (h : ∀ x ∈ xs, goodA x = true) : PyData.leavesShortAll 64 xs = true ∧ PyData.showableAll xs = true ∧ PyData.weightAll xs ≤ 101 * xs.length ∧ PyData.depthAll xs = 0 ∧ PyData.plainAll xs = true := by
  induction xs with
  | nil => exact ⟨rfl, rfl, Nat.le_refl _, rfl, rfl⟩
  | cons x xs ih =>
    obtain ⟨a1, a2, a3, a4, a5⟩ := ih fun y hy => h y (List.mem_cons_of_mem _ hy)
    have hx := h x (List.mem_cons_self ..)
    unfold goodA at hx
    simp only [Bool.and_eq_true, decide_eq_true_eq] at hx
    obtain ⟨⟨⟨⟨b1, b2⟩, b3⟩, b4⟩, b5⟩ := hx
    refine ⟨by rw [PyData.leavesShortAll, b1, a1]; rfl, by rw [PyData.showableAll, b2, a2]; rfl, ?_, by rw [PyData.depthAll, b4, a4]; rfl, by rw [PyData.plainAll, b5, a5]; rfl⟩
    show x.weight + 1 + PyData.weightAll xs ≤ 101 * (xs.length + 1)
    omega
theorem good_list {xs : List PyData} (h : ∀ x ∈ xs, goodA x = true) (hl : xs.length ≤ 1000) : good (.list xs) = true ∧ good (.tuple xs) = true := by
  obtain ⟨a1, a2, a3, a4, a5⟩ := goodA_all h
  have w : PyData.weightAll xs ≤ 200000 := by omega
  have d : PyData.depthAll xs + 1 ≤ 40 := by omega
  constructor
  · unfold good
    simp only [Bool.and_eq_true, decide_eq_true_eq]
    exact ⟨⟨⟨⟨a1, a2⟩, w⟩, d⟩, by show (PyData.plainAll xs && decide (xs.length ≤ 1000)) = true; rw [a5]; simpa using hl⟩
  · unfold good
    simp only [Bool.and_eq_true, decide_eq_true_eq]
    exact ⟨⟨⟨⟨a1, a2⟩, w⟩, d⟩, by show (PyData.plainAll xs && decide (xs.length ≤ 1000)) = true; rw [a5]; simpa using hl⟩
theorem good_of_A {x : PyData} (h : goodA x = true) : good x = true := by
  unfold goodA at h
  unfold good
  simp only [Bool.and_eq_true, decide_eq_true_eq] at h ⊢
  obtain ⟨⟨⟨⟨b1, b2⟩, b3⟩, b4⟩, b5⟩ := h
  refine ⟨⟨⟨⟨b1, b2⟩, by omega⟩, by omega⟩, ?_⟩
  cases x <;> first | rfl | skip
  all_goals
    rename_i xs
    have : PyData.depthAll xs + 1 = 0 := b4
    omega
theorem good_show {x : PyData} (h : good x = true) : showOk x := by
  unfold good at h
  simp only [Bool.and_eq_true, decide_eq_true_eq] at h
  obtain ⟨⟨⟨⟨h1, h2⟩, h3⟩, h4⟩, h5⟩ := h
  have h24 : (sizeLine : Nat) = 16777216 := sizeLine_eq
  refine ⟨h2, ?_, by omega⟩
  have := PyData.shown_le 64 (by decide) x h1
  have : (64 + 2) * x.weight ≤ 66 * 200000 := Nat.mul_le_mul (by omega) h3
  omega
theorem goodA_int {i : Int} (h : i.natAbs < 10 ^ 30) : goodA (.int i) = true := by
  unfold goodA
  simp only [Bool.and_eq_true, decide_eq_true_eq]
  have h1 : i.natAbs.log2 < 100 := by
    by_cases h0 : i.natAbs = 0
    · rw [h0]; decide
    · exact (Nat.log2_lt h0).mpr (Nat.lt_trans h (by decide +kernel))
  refine ⟨⟨⟨⟨?_, ?_⟩, ?_⟩, rfl⟩, rfl⟩
  · show decide ((PyData.shown (.int i)).length ≤ 64) = true
    have := int_text_length_le10 (a := i) (k := 30) (by decide) h
    refine decide_eq_true ?_
    show (Str.ofString (toString i)).length ≤ 64
    rw [PySem.ofString_length]
    omega
  · show decide (i.natAbs.log2 < 1920) = true
    exact decide_eq_true (by omega)
  · show (if (i == 0) = true then 0 else i.natAbs.log2 + 1) ≤ 100
    split <;> omega

def sAny : Spc := { ar := 1, pre := (fun | [.gen], n => n < 2 ^ 60 | _, _ => False), post := (fun _ n => fun r n' => n ≤ n' ∧ n' ≤ n + 64 ∧ ∃ x, good x = true ∧ r = ⟨.d x, false⟩) }

section
variable {Φ : Nat → TSp} {C : Nat → PyData}
theorem wAny {f g : Nat} (h8 : Φ f = sPick.sp) (h9 : Φ g = (sCopy 5).sp) : Body sAny (bAny f g) nAny Φ C := by
  intro ts n Q X hq hl hp hQ hX
  match ts, hp with
  | [.gen], hp =>
    simp [bAny, nAny, datas, binW, Builtin.Int.intBits]
    rw [sizeLine_eq]
    refine ⟨by decide +kernel, by decide +kernel, by decide +kernel, by decide, by decide, by decide, by decide, by decide, by decide, by decide, by decide, by decide, by decide, by decide, by decide, by decide +kernel, by decide, by decide, by decide +kernel, by decide, by decide, by decide, ?_⟩
    rw [h8]
    refine ⟨rfl, ⟨rfl, by decide, by decide, hp⟩, fun r n' hr => ?_, fun _ _ h => h.elim⟩
    obtain ⟨a1, a2, x, hx, rfl⟩ := hr
    have key : ∀ l : List PyData, l.all (fun x => decide (x.depth < 5) && decide (x.weight ≤ 1000000) && good x) = true → x ∈ l → x.depth < 5 ∧ x.weight ≤ 1000000 ∧ good x = true := fun l h hx => by
      have := List.all_eq_true.mp h x hx
      simp only [Bool.and_eq_true, decide_eq_true_eq] at this
      exact ⟨this.1.1, this.1.2, this.2⟩
    obtain ⟨k1, k2, k3⟩ := key _ (by decide +kernel) hx
    rw [h9]
    refine ⟨rfl, ⟨k1, k2⟩, fun r n2 hr => ?_, fun _ _ h => h.elim⟩
    obtain ⟨rfl, rfl⟩ := hr
    exact hQ _ _ ⟨a1, a2, x, k3, rfl⟩

end
theorem noCopy : ∀ ts n, ¬ (sCopy 0).pre ts n := fun ts n h => by
  match ts, h with
  | [.d x], h => exact absurd h.1 (Nat.not_lt_zero _)
theorem noSame : ∀ ts n, ¬ (sSame 0).pre ts n := fun ts n h => by
  match ts, h with
  | [.d x, .d y], h => exact h.2
end HL

set_option Elab.async false
set_option linter.all false
set_option maxRecDepth 100000
namespace K3
open PySem
/-! K3m: fractions in lowest terms; how many turns Euclid's way takes. -/
/-- one turn -/
def eu (p : Int × Int) : Int × Int := if 0 < p.2 then (p.2, p.1.fmod p.2) else (p.1, 0)
def eus : Nat → Int × Int → Int × Int
  | 0, p => p
  | k + 1, p => eus k (eu p)
theorem eus_succ (k : Nat) (p : Int × Int) : eus (k + 1) p = eu (eus k p) := by
  induction k generalizing p with
  | zero => rfl
  | succ k ih => exact ih (eu p)
def fib : Nat → Nat
  | 0 => 0
  | 1 => 1
  | n + 2 => fib n + fib (n + 1)
theorem gcd_fmod {a b : Int} (ha : 0 ≤ a) (hb : 0 < b) : Int.gcd b (a.fmod b) = Int.gcd a b := by
  rw [Int.fmod_eq_emod_of_nonneg a (by omega)]
  obtain ⟨x, rfl⟩ := Int.eq_ofNat_of_zero_le ha
  obtain ⟨y, rfl⟩ := Int.eq_ofNat_of_zero_le (show 0 ≤ b by omega)
  rw [← Int.natCast_emod]
  show Nat.gcd y (x % y) = Nat.gcd x y
  rw [Nat.gcd_comm y, ← Nat.gcd_rec, Nat.gcd_comm]
structure EuOk (g : Nat) (p : Int × Int) : Prop where
  a : 0 ≤ p.1
  b : 0 ≤ p.2
  g : Int.gcd p.1 p.2 = g
theorem EuOk.step {g : Nat} {p : Int × Int} (h : EuOk g p) : EuOk g (eu p) := by
  unfold eu
  by_cases c : 0 < p.2
  · rw [if_pos c]
    refine ⟨h.b, ?_, by rw [← h.g]; exact gcd_fmod h.a c⟩
    show 0 ≤ p.1.fmod p.2
    rw [Int.fmod_eq_emod_of_nonneg _ h.b]
    exact Int.emod_nonneg _ (by omega)
  · rw [if_neg c]
    have e : p.2 = 0 := by have := h.b; omega
    exact ⟨h.a, Int.le_refl _, by rw [← h.g, e]⟩
theorem EuOk.steps {g : Nat} : ∀ (k : Nat) {p : Int × Int}, EuOk g p → EuOk g (eus k p)
  | 0, _, h => h
  | k + 1, _, h => EuOk.steps k h.step
/-- Lame: a number that is not yet 0 is as great as this -/
theorem lame : ∀ (k : Nat) (p : Int × Int), 0 ≤ p.2 → p.2 ≤ p.1 → 0 < (eus k p).2 → (fib (k + 1) : Int) ≤ p.2 ∧ (fib (k + 2) : Int) ≤ p.1
  | 0, p, h1, h2, h3 => by
    have h3 : 0 < p.2 := h3
    have e1 : fib 1 = 1 := rfl
    have e2 : fib 2 = 1 := rfl
    exact ⟨by rw [e1]; omega, by rw [e2]; omega⟩
  | k + 1, p, h1, h2, h3 => by
    have c : 0 < p.2 := by
      by_cases c : 0 < p.2
      · exact c
      · exfalso
        have h3 : 0 < (eus k (eu p)).2 := h3
        have e : eu p = (p.1, 0) := by unfold eu; rw [if_neg c]
        rw [e] at h3
        have z : ∀ k (x : Int), (eus k (x, 0)).2 = 0 := fun k x => by
          induction k with
          | zero => rfl
          | succ k ih => exact ih
        rw [z] at h3
        exact Int.lt_irrefl _ h3
    have e : eu p = (p.2, p.1.fmod p.2) := by unfold eu; rw [if_pos c]
    have m : p.1.fmod p.2 = p.1 % p.2 := Int.fmod_eq_emod_of_nonneg _ h1
    have m1 : 0 ≤ p.1 % p.2 := Int.emod_nonneg _ (by omega)
    have m2 : p.1 % p.2 < p.2 := Int.emod_lt_of_pos _ c
    have ih := lame k (eu p) (by rw [e, m]; exact m1) (by rw [e, m]; exact Int.le_of_lt m2) h3
    rw [e, m] at ih
    obtain ⟨i1, i2⟩ := ih
    have i1 : (fib (k + 1) : Int) ≤ p.1 % p.2 := i1
    have i2 : (fib (k + 2) : Int) ≤ p.2 := i2
    refine ⟨i2, ?_⟩
    have d : p.2 * (p.1 / p.2) + p.1 % p.2 = p.1 := Int.mul_ediv_add_emod p.1 p.2
    have q : 1 ≤ p.1 / p.2 := by
      have := Int.ediv_le_ediv c h2
      rwa [Int.ediv_self (by omega)] at this
    have q2 : p.2 * 1 ≤ p.2 * (p.1 / p.2) := Int.mul_le_mul_of_nonneg_left q h1
    have f : fib (k + 3) = fib (k + 1) + fib (k + 2) := rfl
    rw [f]
    push_cast
    omega
theorem fib5 (n : Nat) : 10 ^ n ≤ fib (5 * n + 2) ∧ fib (5 * n + 2) ≤ 2 * fib (5 * n + 1) := by
  induction n with
  | zero => decide
  | succ n ih =>
    obtain ⟨i1, i2⟩ := ih
    have s (m : Nat) : fib (m + 2) = fib m + fib (m + 1) := rfl
    have a := s (5 * n + 1)
    have b := s (5 * n + 2)
    have c := s (5 * n + 3)
    have d := s (5 * n + 4)
    have e := s (5 * n + 5)
    rw [show 5 * (n + 1) + 2 = 5 * n + 5 + 2 by omega, show 5 * (n + 1) + 1 = 5 * n + 4 + 2 by omega, Nat.pow_succ]
    have a : fib (5 * n + 3) = fib (5 * n + 1) + fib (5 * n + 2) := a
    have b : fib (5 * n + 4) = fib (5 * n + 2) + fib (5 * n + 3) := b
    have c : fib (5 * n + 5) = fib (5 * n + 3) + fib (5 * n + 4) := c
    have d : fib (5 * n + 6) = fib (5 * n + 4) + fib (5 * n + 5) := d
    have e : fib (5 * n + 7) = fib (5 * n + 5) + fib (5 * n + 6) := e
    have d' : fib (5 * n + 4 + 2) = fib (5 * n + 6) := rfl
    have e' : fib (5 * n + 5 + 2) = fib (5 * n + 7) := rfl
    rw [d', e']
    omega
/-- five turns a figure and one more are enough -/
theorem eus_end {g d : Nat} {p : Int × Int} (h : EuOk g p) (hd : p.2 < 10 ^ d) : eus (5 * d + 1) p = ((g : Int), 0) := by
  have key : (eus (5 * d + 1) p).2 = 0 := by
    have o := (h.steps (5 * d + 1)).b
    by_cases c : 0 < (eus (5 * d + 1) p).2
    · exfalso
      obtain ⟨f1, _⟩ := fib5 d
      have f1 : ((10 ^ d : Nat) : Int) ≤ fib (5 * d + 2) := by exact_mod_cast f1
      push_cast at f1
      by_cases le : p.2 ≤ p.1
      · have := (lame _ p h.b le c).1
        have e : 5 * d + 1 + 1 = 5 * d + 2 := rfl
        rw [e] at this
        omega
      · have lt : p.1 < p.2 := by omega
        have hb : 0 < p.2 := by have := h.a; omega
        have e : eu p = (p.2, p.1) := by
          unfold eu
          rw [if_pos hb, Int.fmod_eq_emod_of_nonneg _ h.b, Int.emod_eq_of_lt h.a lt]
        have c : 0 < (eus (5 * d) (eu p)).2 := c
        rw [e] at c
        have := (lame _ (p.2, p.1) h.a (Int.le_of_lt lt) c).2
        have this : (fib (5 * d + 2) : Int) ≤ p.2 := this
        omega
    · omega
  have o := h.steps (5 * d + 1)
  generalize eus (5 * d + 1) p = q at key o
  obtain ⟨x, y⟩ := q
  have key : y = 0 := key
  subst key
  have g' := o.g
  have a' : 0 ≤ x := o.a
  have g' : Int.gcd x 0 = g := g'
  rw [Int.gcd_zero_right] at g'
  have : x = (g : Int) := by omega
  rw [this]
/-- lowest terms, the second number above 0 -/
def low (a b : Int) : Int × Int := (a.fdiv (if b < 0 then 0 - (Int.gcd a b : Int) else Int.gcd a b), b.fdiv (if b < 0 then 0 - (Int.gcd a b : Int) else Int.gcd a b))
def isFr (p : Int × Int) : Prop := 1 ≤ p.2 ∧ Int.gcd p.1 p.2 = 1
theorem fdiv_dvd {a g : Int} (h : g ∣ a) : a.fdiv g = a / g := Int.fdiv_eq_ediv_of_dvd h
theorem low_pos {a b : Int} (h : 0 < b) : low a b = (a / (Int.gcd a b : Int), b / (Int.gcd a b : Int)) := by
  unfold low
  rw [if_neg (by omega), fdiv_dvd (Int.gcd_dvd_left ..), fdiv_dvd (Int.gcd_dvd_right ..)]
theorem low_neg {a b : Int} (h : b < 0) : low a b = low (0 - a) (0 - b) := by
  rw [low_pos (a := 0 - a) (b := 0 - b) (by omega)]
  unfold low
  have e : Int.gcd (0 - a) (0 - b) = Int.gcd a b := by
    rw [Int.zero_sub, Int.zero_sub, Int.gcd_neg, Int.neg_gcd]
  rw [if_pos h, e, fdiv_dvd, fdiv_dvd, Int.zero_sub, Int.zero_sub, Int.zero_sub, Int.ediv_neg, Int.ediv_neg, Int.neg_ediv_of_dvd (Int.gcd_dvd_left ..), Int.neg_ediv_of_dvd (Int.gcd_dvd_right ..)]
  · rw [Int.zero_sub]; exact (Int.neg_dvd).mpr (Int.gcd_dvd_right ..)
  · rw [Int.zero_sub]; exact (Int.neg_dvd).mpr (Int.gcd_dvd_left ..)
theorem gcd_pos {a b : Int} (h : b ≠ 0) : 0 < (Int.gcd a b : Int) := by
  have : Int.gcd a b ≠ 0 := fun e => h (Int.gcd_eq_zero_iff.mp e).2
  omega
theorem low_isFr {a b : Int} (h : b ≠ 0) : isFr (low a b) := by
  have pos : ∀ a b : Int, 0 < b → isFr (low a b) := fun a b h => by
    rw [low_pos h]
    have g := gcd_pos (a := a) (show b ≠ 0 by omega)
    refine ⟨?_, ?_⟩
    · have : (Int.gcd a b : Int) ≤ b := Int.le_of_dvd h (Int.gcd_dvd_right ..)
      have := Int.ediv_le_ediv g this
      rwa [Int.ediv_self (by omega)] at this
    · exact Int.gcd_ediv_gcd_ediv_gcd (by omega)
  rcases Int.lt_trichotomy b 0 with c | c | c
  · rw [low_neg c]; exact pos _ _ (by omega)
  · exact absurd c h
  · exact pos _ _ c
theorem low_id {p : Int × Int} (h : isFr p) : low p.1 p.2 = p := by
  obtain ⟨h1, h2⟩ := h
  rw [low_pos (by omega), h2]
  simp
theorem low_iff {a b : Int} (h : 1 ≤ b) : low a b = (a, b) ↔ Int.gcd a b = 1 := by
  constructor
  · intro e
    have := (low_isFr (a := a) (show b ≠ 0 by omega)).2
    rwa [e] at this
  · intro e
    exact low_id (p := (a, b)) ⟨h, e⟩
theorem low_times {a b t : Int} (h : b ≠ 0) (ht : 0 < t) : low (a * t) (b * t) = low a b := by
  have pos : ∀ a b : Int, 0 < b → low (a * t) (b * t) = low a b := fun a b h => by
    have hb : 0 < b * t := Int.mul_pos h ht
    rw [low_pos hb, low_pos h, Int.gcd_mul_right]
    have : (((Int.gcd a b * t.natAbs : Nat)) : Int) = (Int.gcd a b : Int) * t := by push_cast; rw [Int.natAbs_of_nonneg (by omega)]
    rw [this, Int.mul_ediv_mul_of_pos_left _ _ ht, Int.mul_ediv_mul_of_pos_left _ _ ht]
  rcases Int.lt_trichotomy b 0 with c | c | c
  · have : b * t < 0 := Int.mul_neg_of_neg_of_pos c ht
    rw [low_neg this, low_neg c, Int.zero_sub, Int.zero_sub, Int.zero_sub, Int.zero_sub, ← Int.neg_mul, ← Int.neg_mul]
    exact pos _ _ (by omega)
  · exact absurd c h
  · exact pos _ _ c
theorem natAbs_ediv_le {a g : Int} (hg : 0 < g) : (a / g).natAbs ≤ a.natAbs := Int.natAbs_ediv_le_natAbs a g
theorem low_le {a b : Int} (h : b ≠ 0) : (low a b).1.natAbs ≤ a.natAbs ∧ (low a b).2.natAbs ≤ b.natAbs := by
  rcases Int.lt_trichotomy b 0 with c | c | c
  · rw [low_neg c, low_pos (by omega)]
    exact ⟨Nat.le_trans (Int.natAbs_ediv_le_natAbs ..) (by omega), Nat.le_trans (Int.natAbs_ediv_le_natAbs ..) (by omega)⟩
  · exact absurd c h
  · rw [low_pos c]
    exact ⟨Int.natAbs_ediv_le_natAbs .., Int.natAbs_ediv_le_natAbs ..⟩
/-- as many figures as it has -/
theorem digits_core (fuel : Nat) : ∀ (n : Nat) (ds : List Char), n < fuel → n < 10 ^ ((Nat.toDigitsCore 10 fuel n ds).length - ds.length) ∧ ds.length ≤ (Nat.toDigitsCore 10 fuel n ds).length := by
  induction fuel with
  | zero => intro n ds h; omega
  | succ f ih =>
    intro n ds h
    unfold Nat.toDigitsCore
    by_cases c : n / 10 = 0
    · simp only [c, if_true]
      simp
      omega
    · simp only [c, if_false]
      obtain ⟨i1, i2⟩ := ih (n / 10) (Nat.digitChar (n % 10) :: ds) (by omega)
      rw [List.length_cons] at i1 i2
      refine ⟨?_, by omega⟩
      have e : (Nat.toDigitsCore 10 f (n / 10) (Nat.digitChar (n % 10) :: ds)).length - ds.length = (Nat.toDigitsCore 10 f (n / 10) (Nat.digitChar (n % 10) :: ds)).length - (ds.length + 1) + 1 := by omega
      rw [e, Nat.pow_succ]
      omega
theorem figures {b : Int} (h : 0 ≤ b) : b < 10 ^ (Str.ofString (toString b)).length := by
  obtain ⟨n, rfl⟩ := Int.eq_ofNat_of_zero_le h
  have e : toString (n : Int) = Nat.repr n := rfl
  rw [PySem.ofString_length, e]
  have := (digits_core (n + 1) n [] (by omega)).1
  have l : (Nat.repr n).length = (Nat.toDigitsCore 10 (n + 1) n []).length := by
    unfold Nat.repr Nat.toDigits
    simp
  rw [l]
  simp at this
  exact_mod_cast this
end K3

set_option Elab.async false
set_option linter.all false
set_option maxRecDepth 100000
set_option maxHeartbeats 4000000
/-! HF0: bodies that the ridge laws share. -/
namespace HL
open PySem PySem.Spec PyProof.Rows L2 TL
/-- is_whole -/
abbrev nWhole : List Str := ["value"]
def bWhole  : Ss := (.cons [] (.ret (.and (.isi (.v 0) .int) (.not (.isi (.v 0) .bool))))
  .nil)
/-- is_count -/
abbrev nCount : List Str := ["value"]
def bCount (f0 : Nat) : Ss := (.cons [] (.ret (.and (.call f0 (.cons (.v 0) .nil)) (.cmp .ge (.v 0) (.c (.int 0)))))
  .nil)
/-- ascends -/
abbrev nAsc : List Str := ["items", "at"]
def cAsc_0  : E := (.cmp .ge (.ix (.v 0) (.bin .sub (.v 1) (.c (.int 1)))) (.ix (.v 0) (.v 1)))
def bAsc  : Ss := (.cons [] (.ret (.cmp .eq (.lc [1] (.nm 1) .rng2 (.cons (.c (.int 1)) (.cons (.bi .len (.cons (.v 0) .nil)) .nil)) cAsc_0 (.v 1)) (.lst .nil)))
  .nil)
/-- common_of -/
abbrev nCommon : List Str := ["one", "other"]
def cCommon_0  : E := (.cmp .gt (.v 1) (.c (.int 0)))
def lCommon_1  : Ss := (.cons [] (.par [0, 1] (.cons (.v 1) (.cons (.bin .mod (.v 0) (.v 1)) .nil)))
  .nil)
def bCommon  : Ss := (.cons [] (.par [0, 1] (.cons (.bi .abs (.cons (.v 0) .nil)) (.cons (.bi .abs (.cons (.v 1) .nil)) .nil)))
  (.cons [] (.whl cCommon_0 lCommon_1)
  (.cons [] (.ret (.v 0))
  .nil)))
/-- lowest_of -/
abbrev nLowest : List Str := ["above", "below", "part"]
def bLowest (f0 : Nat) : Ss := (.cons [] (.set 2 (.call f0 (.cons (.v 0) (.cons (.v 1) .nil))))
  (.cons [] (.ite (.cmp .lt (.v 1) (.c (.int 0)))
  (.cons [] (.set 2 (.bin .sub (.c (.int 0)) (.w 2)))
  .nil) .nil)
  (.cons [] (.ret (.tup (.cons (.bin .fdiv (.v 0) (.w 2)) (.cons (.bin .fdiv (.v 1) (.w 2)) .nil))))
  .nil)))
/-- fraction_of -/
abbrev nFraction : List Str := ["above", "below"]
def bFraction (f0 : Nat) (f1 : Nat) : Ss := (.cons [] (.ite (.not (.call f0 (.cons (.v 0) .nil)))
  (.cons [] .no
  .nil) .nil)
  (.cons [] (.ite (.or (.not (.call f0 (.cons (.v 1) .nil))) (.cmp .eq (.v 1) (.c (.int 0))))
  (.cons [] .no
  .nil) .nil)
  (.cons [] (.ret (.call f1 (.cons (.v 0) (.cons (.v 1) .nil))))
  .nil)))
/-- plus_of -/
abbrev nPlus : List Str := ["one", "other"]
def bPlus (f0 : Nat) : Ss := (.cons [] (.ret (.call f0 (.cons (.bin .add (.bin .mul (.ix (.v 0) (.c (.int 0))) (.ix (.v 1) (.c (.int 1)))) (.bin .mul (.ix (.v 1) (.c (.int 0))) (.ix (.v 0) (.c (.int 1))))) (.cons (.bin .mul (.ix (.v 0) (.c (.int 1))) (.ix (.v 1) (.c (.int 1)))) .nil))))
  .nil)
/-- less_than -/
abbrev nLess : List Str := ["one", "other"]
def bLess  : Ss := (.cons [] (.ret (.cmp .lt (.bin .mul (.ix (.v 0) (.c (.int 0))) (.ix (.v 1) (.c (.int 1)))) (.bin .mul (.ix (.v 1) (.c (.int 0))) (.ix (.v 0) (.c (.int 1))))))
  .nil)
/-- is_ridge -/
abbrev nIsRidge : List Str := ["value", "point"]
def eIsRidge_0 (f0 : Nat) (f1 : Nat) : E := (.and (.isi (.v 1) .tuple) (.cmp .eq (.bi .len (.cons (.v 1) .nil)) (.c (.int 2))))
def eIsRidge_1 (f0 : Nat) (f1 : Nat) : E := (.and (.call f0 (.cons (.ix (.v 1) (.c (.int 0))) .nil)) (.call f0 (.cons (.ix (.v 1) (.c (.int 1))) .nil)))
def eIsRidge_2 (f0 : Nat) (f1 : Nat) : E := (.ix (.v 1) (.c (.int 0)))
def bIsRidge (f0 : Nat) (f1 : Nat) : Ss := (.cons [] (.ite (.or (.not (.isi (.v 0) .list)) (.cmp .lt (.bi .len (.cons (.v 0) .nil)) (.c (.int 2))))
  (.cons [] (.ret (.c (.bool false)))
  .nil) .nil)
  (.cons [] (.ite (.not (.bi .all (.cons (.lc [1] (.nm 1) .seq (.cons (.v 0) .nil) (.c (.bool true)) (eIsRidge_0 f0 f1)) .nil)))
  (.cons [] (.ret (.c (.bool false)))
  .nil) .nil)
  (.cons [] (.ite (.not (.bi .all (.cons (.lc [1] (.nm 1) .seq (.cons (.v 0) .nil) (.c (.bool true)) (eIsRidge_1 f0 f1)) .nil)))
  (.cons [] (.ret (.c (.bool false)))
  .nil) .nil)
  (.cons [] (.ret (.call f1 (.cons (.lc [1] (.nm 1) .seq (.cons (.v 0) .nil) (.c (.bool true)) (eIsRidge_2 f0 f1)) .nil)))
  .nil))))
/-- check_ridge -/
abbrev nChkRidge : List Str := ["ridge"]
def bChkRidge (f0 : Nat) : Ss := (.cons [] (.ite (.not (.call f0 (.cons (.v 0) .nil)))
  (.cons [] .no
  .nil) .nil)
  .nil)
/-- check_point -/
abbrev nChkPoint : List Str := ["ridge", "number"]
def bChkPoint (f0 : Nat) : Ss := (.cons [] (.ite (.or (.not (.call f0 (.cons (.v 1) .nil))) (.cmp .ge (.v 1) (.bi .len (.cons (.v 0) .nil))))
  (.cons [] .no
  .nil) .nil)
  .nil)
/-- check_points -/
abbrev nChkPoints : List Str := ["ridge", "one", "other"]
def bChkPoints (f0 : Nat) (f1 : Nat) : Ss := (.cons [] (.ex (.call f0 (.cons (.v 0) .nil)))
  (.cons [] (.ex (.call f1 (.cons (.v 0) (.cons (.v 1) .nil))))
  (.cons [] (.ex (.call f1 (.cons (.v 0) (.cons (.v 2) .nil))))
  .nil)))
/-- over_line -/
abbrev nOver : List Str := ["one", "other", "point", "wide", "far"]
def bOver  : Ss := (.cons [] (.par [3, 4] (.cons (.bin .sub (.ix (.v 1) (.c (.int 0))) (.ix (.v 0) (.c (.int 0)))) (.cons (.bin .sub (.ix (.v 2) (.c (.int 0))) (.ix (.v 0) (.c (.int 0)))) .nil)))
  (.cons [] (.ret (.bin .sub (.bin .mul (.bin .sub (.ix (.v 2) (.c (.int 1))) (.ix (.v 0) (.c (.int 1)))) (.v 3)) (.bin .mul (.bin .sub (.ix (.v 1) (.c (.int 1))) (.ix (.v 0) (.c (.int 1)))) (.v 4))))
  .nil))
/-- sees_in -/
abbrev nSeesIn : List Str := ["ridge", "one", "other", "low", "high", "point"]
def eSeesIn_0 (f0 : Nat) : E := (.cmp .le (.call f0 (.cons (.ix (.v 0) (.v 3)) (.cons (.ix (.v 0) (.v 4)) (.cons (.v 5) .nil)))) (.c (.int 0)))
def bSeesIn (f0 : Nat) : Ss := (.cons [] (.upk [3, 4] (.tup (.cons (.bi .min2 (.cons (.v 1) (.cons (.v 2) .nil))) (.cons (.bi .max2 (.cons (.v 1) (.cons (.v 2) .nil))) .nil))))
  (.cons [] (.ret (.bi .all (.cons (.lc [5] (.nm 5) .seq (.cons (.sl (.v 0) (.bin .add (.v 3) (.c (.int 1))) (.v 4)) .nil) (.c (.bool true)) (eSeesIn_0 f0)) .nil)))
  .nil))
/-- does_see -/
abbrev nDoesSee : List Str := ["ridge", "one", "other"]
def bDoesSee (f0 : Nat) (f1 : Nat) : Ss := (.cons [] (.ex (.call f0 (.cons (.v 0) (.cons (.v 1) (.cons (.v 2) .nil)))))
  (.cons [] (.ret (.call f1 (.cons (.v 0) (.cons (.v 1) (.cons (.v 2) .nil)))))
  .nil))
/-- _law_same -/
abbrev nSame2 : List Str := ["found", "due", "one", "other", "key"]
def eSame2_0 (f0 : Nat) : E := (.call f0 (.cons (.v 2) (.cons (.v 3) .nil)))
def eSame2_1 (f0 : Nat) : E := (.and (.cmp .in_ (.v 4) (.v 0)) (.call f0 (.cons (.ix (.v 0) (.v 4)) (.cons (.ix (.v 1) (.v 4)) .nil))))
def tSame2_2 (f0 : Nat) : Ss := (.cons [] (.ret (.and (.isi (.v 0) .int) (.and (.cmp .eq (.isi (.v 0) .bool) (.isi (.v 1) .bool)) (.cmp .eq (.v 0) (.v 1)))))
  .nil)
def tSame2_3 (f0 : Nat) : Ss := (.cons [] (.ite (.cmp .is_ (.v 1) (.c .none))
  (.cons [] (.ret (.cmp .is_ (.v 0) (.c .none)))
  .nil) .nil)
  (tSame2_2 f0))
def tSame2_4 (f0 : Nat) : Ss := (.cons [] (.ite (.isi (.v 1) .str)
  (.cons [] (.ret (.and (.isi (.v 0) .str) (.cmp .eq (.v 0) (.v 1))))
  .nil) .nil)
  (tSame2_3 f0))
def tSame2_5 (f0 : Nat) : Ss := (.cons [] (.ite (.isi (.v 1) .dict)
  (.cons [] (.ite (.or (.not (.isi (.v 0) .dict)) (.cmp .ne (.bi .len (.cons (.v 0) .nil)) (.bi .len (.cons (.v 1) .nil))))
  (.cons [] (.ret (.c (.bool false)))
  .nil) .nil)
  (.cons [] (.ret (.bi .all (.cons (.lc [4] (.nm 4) .seq (.cons (.v 1) .nil) (.c (.bool true)) (eSame2_1 f0)) .nil)))
  .nil)) .nil)
  (tSame2_4 f0))
def bSame2 (f0 : Nat) : Ss := (.cons [] (.ite (.isi2 (.v 1) .list .tuple)
  (.cons [] (.ite (.or (.cmp .ne (.isi (.v 0) .list) (.isi (.v 1) .list)) (.cmp .ne (.isi (.v 0) .tuple) (.isi (.v 1) .tuple)))
  (.cons [] (.ret (.c (.bool false)))
  .nil) .nil)
  (.cons [] (.ret (.and (.cmp .eq (.bi .len (.cons (.v 0) .nil)) (.bi .len (.cons (.v 1) .nil))) (.bi .all (.cons (.lc [2, 3] (.tp [2, 3]) .zip (.cons (.v 0) (.cons (.v 1) .nil)) (.c (.bool true)) (eSame2_0 f0)) .nil))))
  .nil)) .nil)
  (tSame2_5 f0))
/-- _law_low -/
abbrev nLow : List Str := ["above", "below", "one", "other", "sign"]
def cLow_0  : E := (.cmp .gt (.v 3) (.c (.int 0)))
def lLow_1  : Ss := (.cons [] (.par [2, 3] (.cons (.v 3) (.cons (.bin .mod (.bi .int (.cons (.v 2) .nil)) (.bi .int (.cons (.v 3) .nil))) .nil)))
  .nil)
def bLow  : Ss := (.cons [] (.par [2, 3] (.cons (.bi .abs (.cons (.v 0) .nil)) (.cons (.bi .abs (.cons (.v 1) .nil)) .nil)))
  (.cons [] (.whl cLow_0 lLow_1)
  (.cons [] (.set 4 (.ife (.cmp .gt (.v 1) (.c (.int 0))) (.c (.int 1)) (.neg (.c (.int 1)))))
  (.cons [] (.ret (.tup (.cons (.bin .fdiv (.bin .mul (.w 4) (.v 0)) (.v 2)) (.cons (.bin .fdiv (.bin .mul (.w 4) (.v 1)) (.v 2)) .nil))))
  .nil))))
/-- _law_plus -/
abbrev nLPlus : List Str := ["one", "other"]
def bLPlus (f0 : Nat) : Ss := (.cons [] (.ret (.call f0 (.cons (.bin .add (.bin .mul (.ix (.v 0) (.c (.int 0))) (.ix (.v 1) (.c (.int 1)))) (.bin .mul (.ix (.v 1) (.c (.int 0))) (.ix (.v 0) (.c (.int 1))))) (.cons (.bin .mul (.ix (.v 0) (.c (.int 1))) (.ix (.v 1) (.c (.int 1)))) .nil))))
  .nil)
/-- _law_times -/
abbrev nLTimes : List Str := ["one", "other"]
def bLTimes (f0 : Nat) : Ss := (.cons [] (.ret (.call f0 (.cons (.bin .mul (.ix (.v 0) (.c (.int 0))) (.ix (.v 1) (.c (.int 0)))) (.cons (.bin .mul (.ix (.v 0) (.c (.int 1))) (.ix (.v 1) (.c (.int 1)))) .nil))))
  .nil)
/-- _law_less -/
abbrev nLLess : List Str := ["one", "other"]
def bLLess  : Ss := (.cons [] (.ret (.cmp .lt (.bin .mul (.ix (.v 0) (.c (.int 0))) (.ix (.v 1) (.c (.int 1)))) (.bin .mul (.ix (.v 1) (.c (.int 0))) (.ix (.v 0) (.c (.int 1))))))
  .nil)
/-- _law_minus -/
abbrev nLMinus : List Str := ["one", "other"]
def bLMinus (f0 : Nat) : Ss := (.cons [] (.ret (.call f0 (.cons (.v 0) (.cons (.tup (.cons (.bin .sub (.c (.int 0)) (.ix (.v 1) (.c (.int 0)))) (.cons (.ix (.v 1) (.c (.int 1))) .nil))) .nil))))
  .nil)
/-- _law_ridge -/
abbrev nRidge : List Str := ["generator", "most", "far", "ridge", "here", "turn"]
def lRidge_0 (f0 : Nat) (f1 : Nat) : Ss := (.cons [4] (.app 3 (.tup (.cons (.v 4) (.cons (.bin .sub (.call f0 (.cons (.v 0) (.cons (.bin .add (.bin .mul (.c (.int 2)) (.v 2)) (.c (.int 1))) .nil))) (.v 2)) .nil))))
  (.cons [] (.set 4 (.bin .add (.bin .add (.w 4) (.c (.int 1))) (.call f0 (.cons (.v 0) (.cons (.call f1 (.cons (.v 0) (.cons (.lst (.cons (.c (.int 1)) (.cons (.c (.int 3)) (.cons (.c (.int 9)) .nil)))) .nil))) .nil)))))
  .nil))
def bRidge (f0 : Nat) (f1 : Nat) : Ss := (.cons [] (.par [3, 4] (.cons (.lst .nil) (.cons (.bin .sub (.call f0 (.cons (.v 0) (.cons (.c (.int 21)) .nil))) (.c (.int 10))) .nil)))
  (.cons [] (.for_ (.nm 5) .rng1 (.cons (.bin .add (.c (.int 2)) (.call f0 (.cons (.v 0) (.cons (.bin .sub (.v 1) (.c (.int 1))) .nil)))) .nil) (lRidge_0 f0 f1))
  (.cons [] (.retO 3)
  .nil)))
/-- seen_in -/
abbrev nSeenIn : List Str := ["ridge", "one", "other"]
def cSeenIn_0 (f0 : Nat) : E := (.call f0 (.cons (.v 0) (.cons (.v 1) (.cons (.v 2) .nil))))
def bSeenIn (f0 : Nat) : Ss := (.cons [] (.ret (.lc [2] (.nm 2) .rng1 (.cons (.bi .len (.cons (.v 0) .nil)) .nil) (cSeenIn_0 f0) (.v 2)))
  .nil)
/-- seen_from -/
abbrev nSeenFrom : List Str := ["ridge", "one"]
def bSeenFrom (f0 : Nat) (f1 : Nat) (f2 : Nat) : Ss := (.cons [] (.ex (.call f0 (.cons (.v 0) .nil)))
  (.cons [] (.ex (.call f1 (.cons (.v 0) (.cons (.v 1) .nil))))
  (.cons [] (.ret (.call f2 (.cons (.v 0) (.cons (.v 1) .nil))))
  .nil)))
/-- _law_above -/
abbrev nAbove : List Str := ["one", "other", "point"]
def bAbove (f0 : Nat) : Ss := (.cons [] (.ret (.call f0 (.cons (.bin .sub (.bin .mul (.bin .sub (.ix (.v 2) (.c (.int 1))) (.ix (.v 0) (.c (.int 1)))) (.bin .sub (.ix (.v 1) (.c (.int 0))) (.ix (.v 0) (.c (.int 0))))) (.bin .mul (.bin .sub (.ix (.v 1) (.c (.int 1))) (.ix (.v 0) (.c (.int 1)))) (.bin .sub (.ix (.v 2) (.c (.int 0))) (.ix (.v 0) (.c (.int 0)))))) (.cons (.bin .sub (.ix (.v 1) (.c (.int 0))) (.ix (.v 0) (.c (.int 0)))) .nil))))
  .nil)
/-- _law_sees -/
abbrev nLSees : List Str := ["ridge", "one", "other", "low", "high", "at"]
def cLSees_0 (f0 : Nat) : E := (.cmp .gt (.ix (.call f0 (.cons (.ix (.v 0) (.v 3)) (.cons (.ix (.v 0) (.v 4)) (.cons (.ix (.v 0) (.v 5)) .nil)))) (.c (.int 0))) (.c (.int 0)))
def bLSees (f0 : Nat) : Ss := (.cons [] (.upk [3, 4] (.bi .sorted (.cons (.lst (.cons (.v 1) (.cons (.v 2) .nil))) .nil)))
  (.cons [] (.ret (.cmp .eq (.lc [5] (.nm 5) .rng2 (.cons (.bin .add (.v 3) (.c (.int 1))) (.cons (.v 4) .nil)) (cLSees_0 f0) (.v 5)) (.lst .nil)))
  .nil))
end HL

set_option Elab.async false
set_option linter.all false
set_option maxRecDepth 100000
set_option maxHeartbeats 4000000
set_option exponentiation.threshold 10000
/-! HF1: fractions. -/
namespace HL
open PySem PySem.Spec PyProof.Rows L2 TL K3
def wh : PyData → Bool
  | .int _ => true
  | _ => false
def isCnt : PyData → Bool
  | .int i => decide (0 ≤ i)
  | _ => false
def frD (p : Int × Int) : PyData := .tuple [.int p.1, .int p.2]
def addF (t q : Int × Int) : Int × Int := low (t.1 * q.2 + q.1 * t.2) (t.2 * q.2)
def mulF (t q : Int × Int) : Int × Int := low (t.1 * q.1) (t.2 * q.2)
def subF (t q : Int × Int) : Int × Int := addF t (0 - q.1, q.2)
def lessF (p q : Int × Int) : Bool := decide (p.1 * q.2 < q.1 * p.2)
def Bd (k : Nat) (p : Int × Int) : Prop := p.1.natAbs < 2 ^ k ∧ p.2.natAbs < 2 ^ k
def nn : R := ⟨.d .none, false⟩
def ff (p : Int × Int) : R := ⟨.d (frD p), false⟩
def sWhole : Spc := { ar := 1, pre := (fun | [.d _], _ => True | _, _ => False), post := (fun | [.d x], n => fun r n' => n' = n ∧ r = bl (wh x) | _, _ => fun _ _ => False) }
def sCount : Spc := { ar := 1, pre := (fun | [.d _], _ => True | _, _ => False), post := (fun | [.d x], n => fun r n' => n' = n ∧ r = bl (isCnt x) | _, _ => fun _ _ => False) }
def sCommon : Spc := { ar := 2, pre := (fun | [.d (.int _), .d (.int _)], _ => True | _, _ => False), post := (fun | [.d (.int a), .d (.int b)], n => fun r n' => n' = n ∧ r = ⟨.d (.int (Int.gcd a b)), false⟩ | _, _ => fun _ _ => False) }
def sLowest : Spc := { ar := 2, pre := (fun | [.d (.int _), .d (.int b)], _ => b ≠ 0 ∧ b.natAbs < 2 ^ 8999 | _, _ => False), post := (fun | [.d (.int a), .d (.int b)], n => fun r n' => n' = n ∧ r = ff (low a b) | _, _ => fun _ _ => False) }
def two (f : Int × Int → Int × Int → Prop) : List T → Nat → Prop
  | [.d (.tuple [.int a, .int b]), .d (.tuple [.int c, .int d])], _ => f (a, b) (c, d)
  | _, _ => False
def twoP (f : Int × Int → Int × Int → R) : List T → Nat → R → Nat → Prop
  | [.d (.tuple [.int a, .int b]), .d (.tuple [.int c, .int d])], n => fun r n' => n' = n ∧ r = f (a, b) (c, d)
  | _, _ => fun _ _ => False
def big2 (p q : Int × Int) : Prop := (1 ≤ p.2 ∧ 1 ≤ q.2) ∧ Bd 4400 p ∧ Bd 4400 q
def sPlus : Spc := { ar := 2, pre := two big2, post := twoP fun p q => ff (addF p q) }
def sTimes : Spc := { ar := 2, pre := two big2, post := twoP fun p q => ff (mulF p q) }
def sMinus : Spc := { ar := 2, pre := two big2, post := twoP fun p q => ff (subF p q) }
def sLess : Spc := { ar := 2, pre := two big2, post := twoP fun p q => bl (lessF p q) }
theorem Bd.mul {j k : Nat} {p q : Int × Int} (h : Bd j p) (h' : Bd k q) : Bd (j + k + 2) (mulF p q) ∨ p.2 * q.2 = 0 := by
  by_cases z : p.2 * q.2 = 0
  · exact .inr z
  · refine .inl ?_
    obtain ⟨l1, l2⟩ := low_le (a := p.1 * q.1) z
    have m : ∀ a b : Int, a.natAbs < 2 ^ j → b.natAbs < 2 ^ k → (a * b).natAbs < 2 ^ (j + k + 2) := fun a b ha hb => by
      rw [Int.natAbs_mul]
      have : a.natAbs * b.natAbs ≤ 2 ^ j * 2 ^ k := Nat.mul_le_mul (Nat.le_of_lt ha) (Nat.le_of_lt hb)
      have p0 : 0 < 2 ^ j * 2 ^ k := Nat.mul_pos (Nat.pow_pos (by decide)) (Nat.pow_pos (by decide))
      rw [Nat.pow_add, Nat.pow_add]
      omega
    exact ⟨Nat.lt_of_le_of_lt l1 (m _ _ h.1 h'.1), Nat.lt_of_le_of_lt l2 (m _ _ h.2 h'.2)⟩
theorem Bd.add {j k : Nat} {p q : Int × Int} (h : Bd j p) (h' : Bd k q) : Bd (j + k + 2) (addF p q) ∨ p.2 * q.2 = 0 := by
  by_cases z : p.2 * q.2 = 0
  · exact .inr z
  · refine .inl ?_
    obtain ⟨l1, l2⟩ := low_le (a := p.1 * q.2 + q.1 * p.2) z
    have m : ∀ a b : Int, a.natAbs < 2 ^ j → b.natAbs < 2 ^ k → (a * b).natAbs ≤ 2 ^ (j + k) := fun a b ha hb => by
      rw [Int.natAbs_mul, Nat.pow_add]
      exact Nat.mul_le_mul (Nat.le_of_lt ha) (Nat.le_of_lt hb)
    have p0 : 0 < 2 ^ (j + k) := Nat.pow_pos (by decide)
    have e : 2 ^ (j + k + 2) = 4 * 2 ^ (j + k) := by rw [Nat.pow_add]; omega
    have m1 := m _ _ h.1 h'.2
    have m2 := m _ _ h.2 h'.1
    have m3 := m _ _ h.2 h'.2
    have t : (p.1 * q.2 + q.1 * p.2).natAbs ≤ (p.1 * q.2).natAbs + (p.2 * q.1).natAbs := by
      rw [Int.mul_comm q.1 p.2]
      exact Int.natAbs_add_le ..
    refine ⟨?_, ?_⟩
    · show (low (p.1 * q.2 + q.1 * p.2) (p.2 * q.2)).1.natAbs < _
      omega
    · show (low (p.1 * q.2 + q.1 * p.2) (p.2 * q.2)).2.natAbs < _
      omega
theorem Bd.up {j k : Nat} {p : Int × Int} (h : Bd j p) (l : j ≤ k) : Bd k p := ⟨Nat.lt_of_lt_of_le h.1 (Nat.pow_le_pow_right (by decide) l), Nat.lt_of_lt_of_le h.2 (Nat.pow_le_pow_right (by decide) l)⟩
theorem add_ok {j k : Nat} {p q : Int × Int} (h1 : 1 ≤ p.2) (h2 : 1 ≤ q.2) (b1 : Bd j p) (b2 : Bd k q) : isFr (addF p q) ∧ Bd (j + k + 2) (addF p q) := by
  have z : p.2 * q.2 ≠ 0 := Int.ne_of_gt (Int.mul_pos (by omega) (by omega))
  exact ⟨low_isFr z, (b1.add b2).resolve_right z⟩
theorem mul_ok {j k : Nat} {p q : Int × Int} (h1 : 1 ≤ p.2) (h2 : 1 ≤ q.2) (b1 : Bd j p) (b2 : Bd k q) : isFr (mulF p q) ∧ Bd (j + k + 2) (mulF p q) := by
  have z : p.2 * q.2 ≠ 0 := Int.ne_of_gt (Int.mul_pos (by omega) (by omega))
  exact ⟨low_isFr z, (b1.mul b2).resolve_right z⟩
theorem Bd.neg {k : Nat} {q : Int × Int} (h : Bd k q) : Bd k (0 - q.1, q.2) := ⟨by have := h.1; show (0 - q.1).natAbs < _; omega, h.2⟩
theorem sub_ok {j k : Nat} {p q : Int × Int} (h1 : 1 ≤ p.2) (h2 : 1 ≤ q.2) (b1 : Bd j p) (b2 : Bd k q) : isFr (subF p q) ∧ Bd (j + k + 2) (subF p q) := add_ok (q := (0 - q.1, q.2)) h1 h2 b1 b2.neg
theorem log2_of {a k : Nat} (h : a < 2 ^ k) (hk : 0 < k) : a.log2 < k := by
  by_cases z : a = 0
  · rw [z]; simpa using hk
  · exact (Nat.log2_lt z).mpr h
theorem gcd_log {a b : Int} (h : b ≠ 0) (h2 : b.natAbs < 2 ^ 8999) : (Int.gcd a b).log2 < 9000 := by
  refine log2_of (Nat.lt_of_le_of_lt ?_ (Nat.lt_trans h2 (Nat.pow_lt_pow_right (by decide) (by decide)))) (by decide)
  have : Int.gcd a b ∣ b.natAbs := Nat.gcd_dvd_right ..
  exact Nat.le_of_dvd (by omega) this
theorem mul_b {j k : Nat} {a b : Int} (ha : a.natAbs < 2 ^ j) (hb : b.natAbs < 2 ^ k) (h : j + k ≤ 134217728) : mulOk a b := .inr (.inr ⟨j, k, ha, hb, h⟩)
theorem mul_lt {j k : Nat} {a b : Int} (ha : a.natAbs < 2 ^ j) (hb : b.natAbs < 2 ^ k) : (a * b).natAbs < 2 ^ (j + k) := by
  rw [Int.natAbs_mul, Nat.pow_add]
  exact Nat.mul_lt_mul_of_lt_of_le ha (Nat.le_of_lt hb) (Nat.pow_pos (by decide))
theorem frD_inj {p q : Int × Int} (h : frD p = frD q) : p = q := by
  cases p; cases q
  simp [frD] at h
  rw [h.1, h.2]
theorem eqv_fr {p q : Int × Int} : PyData.eqv (frD p) (frD q) = decide (p = q) := by
  show (decide (p.1 = q.1) && (decide (p.2 = q.2) && true)) = _
  rw [Bool.and_true, Bool.eq_iff_iff]
  simp [Prod.ext_iff]
theorem eqOk_fr {p q : Int × Int} : eqOk (frD p) (frD q) := ⟨rfl, rfl, by simp [frD, PyData.depth, PyData.depthAll]⟩
section
variable {Φ : Nat → TSp} {C : Nat → PyData}
theorem wWhole : Body sWhole bWhole nWhole Φ C := by
  intro ts n Q X hq hl hp hQ hX
  match ts, hp with
  | [.d x], hp =>
    have hq2 := hQ _ _ ⟨rfl, rfl⟩
    simp [bWhole, nWhole]
    cases x <;> simp [isTy] <;> exact hq2
theorem wCount {f : Nat} (h : Φ f = sWhole.sp) : Body sCount (bCount f) nCount Φ C := by
  intro ts n Q X hq hl hp hQ hX
  match ts, hp with
  | [.d x], hp =>
    have hq2 := hQ _ _ ⟨rfl, rfl⟩
    simp [bCount, nCount]
    rw [h]
    refine ⟨rfl, trivial, fun r n' hr => ?_, fun _ _ h => h.elim⟩
    obtain ⟨rfl, rfl⟩ := hr
    cases x <;> simp [bl, wh] <;> try exact hq2
    rename_i i
    refine ⟨ltOk_int, ?_⟩
    rw [PySem.W.dataLt_int]
    have e : bl (isCnt (.int i)) = bl (!decide (i < 0)) := by
      have : isCnt (.int i) = decide (0 ≤ i) := rfl
      rw [this]
      congr 1
      by_cases c : 0 ≤ i
      · rw [decide_eq_true c, decide_eq_false (show ¬ i < 0 by omega)]; rfl
      · rw [decide_eq_false c, decide_eq_true (show i < 0 by omega)]; rfl
    rw [e] at hq2
    exact hq2
theorem wCommon (M : MonoPh Φ) : Body sCommon bCommon nCommon Φ C := by
  intro ts n Q X hq hl hp hQ hX
  match ts, hp with
  | [.d (.int a), .d (.int b)], hp =>
    have hq2 := hQ _ _ ⟨rfl, rfl⟩
    simp [bCommon, nCommon, biW]
    refine ⟨fun m ρ n' => n' = n ∧ ∃ x y : Int, ρ = [some (false, .d (.int x)), some (false, .d (.int y))] ∧ EuOk (Int.gcd a b) (x, y) ∧ m = y.toNat, ⟨_, rfl, _, _, rfl, ⟨?_, ?_, ?_⟩, rfl⟩, ?_⟩
    · show 0 ≤ (if a < 0 then -a else a)
      split <;> omega
    · show 0 ≤ (if b < 0 then -b else b)
      split <;> omega
    · show Int.gcd (if a < 0 then -a else a) (if b < 0 then -b else b) = _
      split <;> split <;> simp [Int.gcd_neg, Int.neg_gcd]
    · rintro m ρ n' ⟨rfl, x, y, rfl, e, rfl⟩
      simp [cCommon_0, cmpW, ltOk_int, PySem.W.dataLt_int]
      have hy : 0 ≤ y := e.b
      split
      · rename_i c
        simp [lCommon_1, binW]
        have s := e.step
        unfold eu at s
        rw [if_pos c] at s
        have m := emod_b (a := x) (b := y) c
        exact ⟨by omega, (x.fmod y).toNat, by omega, _, _, ⟨rfl, rfl⟩, s, rfl⟩
      · rename_i c
        have y0 : y = 0 := by omega
        subst y0
        have g := e.g
        have x0 : 0 ≤ x := e.a
        have g : Int.gcd x 0 = Int.gcd a b := g
        rw [Int.gcd_zero_right] at g
        have : x = (Int.gcd a b : Int) := by omega
        rw [this]
        exact hq2
theorem wLowest {f : Nat} (h2 : Φ f = sCommon.sp) : Body sLowest (bLowest f) nLowest Φ C := by
  intro ts n Q X hq hl hp hQ hX
  match ts, hp with
  | [.d (.int a), .d (.int b)], hp =>
    obtain ⟨p1, p2⟩ := hp
    have hq2 := hQ _ _ ⟨rfl, rfl⟩
    have g0 := gcd_pos (a := a) p1
    have lg := gcd_log (a := a) p1 p2
    simp [bLowest, nLowest]
    rw [h2]
    refine ⟨rfl, trivial, fun r n' hr => ?_, fun _ _ h => h.elim⟩
    obtain ⟨rfl, rfl⟩ := hr
    simp [cmpW, binW, ltOk_int, PySem.W.dataLt_int, datas]
    unfold ff frD K3.low at hq2
    split
    · rename_i c
      rw [if_pos c] at hq2
      refine ⟨?_, ?_, ?_, ?_, ?_, ?_⟩ <;> first | (simpa using hq2) | exact lg | exact fun _ => p1 | (rw [sizeLine_eq]; decide) | omega
    · rename_i c
      rw [if_neg c] at hq2
      refine ⟨?_, ?_, ?_, ?_, ?_, ?_⟩ <;> first | (simpa using hq2) | exact lg | exact fun _ => p1 | (rw [sizeLine_eq]; decide) | omega
theorem wFraction {f g : Nat} (h0 : Φ f = sWhole.sp) (h5 : Φ g = sLowest.sp) : Body sLowest (bFraction f g) nFraction Φ C := by
  intro ts n Q X hq hl hp hQ hX
  match ts, hp with
  | [.d (.int a), .d (.int b)], hp =>
    obtain ⟨p1, p2⟩ := hp
    have hq2 := hQ _ _ ⟨rfl, rfl⟩
    simp [bFraction, nFraction]
    rw [h0]
    refine ⟨rfl, trivial, fun r n' hr => ?_, fun _ _ h => h.elim⟩
    obtain ⟨rfl, rfl⟩ := hr
    simp [bl, wh]
    refine ⟨rfl, trivial, fun r n' hr => ?_, fun _ _ h => h.elim⟩
    obtain ⟨rfl, rfl⟩ := hr
    simp [bl, wh, cmpW]
    refine ⟨⟨rfl, rfl, by simp [PyData.depth]⟩, ?_⟩
    have e : PyData.eqv (.int b) (.int 0) = false := by
      show (b == 0) = false
      simpa using p1
    rw [e]
    simp
    rw [h5]
    refine ⟨rfl, ⟨p1, p2⟩, fun r n' hr => ?_, fun _ _ h => h.elim⟩
    obtain ⟨rfl, rfl⟩ := hr
    exact hq2
/-- the law's own -/
theorem wLow (M : MonoPh Φ) : Body sLowest bLow nLow Φ C := by
  intro ts n Q X hq hl hp hQ hX
  match ts, hp with
  | [.d (.int a), .d (.int b)], hp =>
    obtain ⟨p1, p2⟩ := hp
    have hq2 := hQ _ _ ⟨rfl, rfl⟩
    have g0 := gcd_pos (a := a) p1
    have lg := gcd_log (a := a) p1 p2
    simp [bLow, nLow, biW]
    refine ⟨fun m ρ n' => n' = n ∧ ∃ x y : Int, ρ = [some (false, .d (.int a)), some (false, .d (.int b)), some (false, .d (.int x)), some (false, .d (.int y)), none] ∧ EuOk (Int.gcd a b) (x, y) ∧ m = y.toNat, ⟨_, rfl, _, _, rfl, ⟨?_, ?_, ?_⟩, rfl⟩, ?_⟩
    · show 0 ≤ (if a < 0 then -a else a)
      split <;> omega
    · show 0 ≤ (if b < 0 then -b else b)
      split <;> omega
    · show Int.gcd (if a < 0 then -a else a) (if b < 0 then -b else b) = _
      split <;> split <;> simp [Int.gcd_neg, Int.neg_gcd]
    · rintro m ρ n' ⟨rfl, x, y, rfl, e, rfl⟩
      simp [cLow_0, cmpW, ltOk_int, PySem.W.dataLt_int]
      have hy : 0 ≤ y := e.b
      split
      · rename_i c
        simp [lLow_1, binW, biW]
        have s := e.step
        unfold eu at s
        rw [if_pos c] at s
        have m := emod_b (a := x) (b := y) c
        exact ⟨by omega, (x.fmod y).toNat, by omega, _, _, ⟨rfl, rfl⟩, s, rfl⟩
      · rename_i c
        have y0 : y = 0 := by omega
        subst y0
        have g := e.g
        have x0 : 0 ≤ x := e.a
        have g : Int.gcd x 0 = Int.gcd a b := g
        rw [Int.gcd_zero_right] at g
        have : x = (Int.gcd a b : Int) := by omega
        subst this
        by_cases c : 0 < b
        · simp [cmpW, ltOk_int, PySem.W.dataLt_int, c, binW, datas]
          have e : ff (low a b) = ⟨.d (.tuple [.int (a.fdiv (Int.gcd a b)), .int (b.fdiv (Int.gcd a b))]), false⟩ := by
            unfold ff frD K3.low
            rw [if_neg (by omega)]
          rw [e] at hq2
          refine ⟨mul_l (by decide) (by decide), ?_, lg, mul_l (by decide) (by decide), ?_, ?_, ?_⟩ <;> first | (simpa using hq2) | exact lg | exact fun _ => p1 | (rw [sizeLine_eq]; decide) | omega | exact ⟨by rw [sizeLine_eq]; decide, hq2⟩
        · simp [cmpW, ltOk_int, PySem.W.dataLt_int, c, binW, datas]
          have e : ff (low a b) = ⟨.d (.tuple [.int ((-a).fdiv (Int.gcd a b)), .int ((-b).fdiv (Int.gcd a b))]), false⟩ := by
            rw [low_neg (by omega), low_pos (by omega)]
            have e : Int.gcd (0 - a) (0 - b) = Int.gcd a b := by
              rw [Int.zero_sub, Int.zero_sub, Int.gcd_neg, Int.neg_gcd]
            rw [e, fdiv_dvd, fdiv_dvd, Int.zero_sub, Int.zero_sub]
            · rfl
            · exact (Int.dvd_neg).mpr (Int.gcd_dvd_right ..)
            · exact (Int.dvd_neg).mpr (Int.gcd_dvd_left ..)
          rw [e] at hq2
          refine ⟨mul_l (by decide) (by decide), ?_, lg, mul_l (by decide) (by decide), ?_, ?_, ?_⟩ <;> first | (simpa using hq2) | exact lg | exact fun _ => p1 | (rw [sizeLine_eq]; decide) | omega | exact ⟨by rw [sizeLine_eq]; decide, hq2⟩
theorem plus_w {f : Nat} {a b c d : Int} {n : Nat} {Q : QE} {X : TL.XE} (h5 : Φ f = sLowest.sp) (hp : big2 (a, b) (c, d)) (hq2 : Q (ff (addF (a, b) (c, d))) n) :
    mulOk a d ∧ mulOk c b ∧ mulOk b d ∧ Φ f [.d (.int (a * d + c * b)), .d (.int (b * d))] n Q X := by
  obtain ⟨⟨p1, p2⟩, ⟨q1, q2⟩, q3, q4⟩ := hp
  have p1 : 1 ≤ b := p1
  have p2 : 1 ≤ d := p2
  refine ⟨mul_b q1 q4 (by decide), mul_b q3 q2 (by decide), mul_b q2 q4 (by decide), ?_⟩
  rw [h5]
  have z : b * d ≠ 0 := Int.ne_of_gt (Int.mul_pos (by omega) (by omega))
  refine ⟨rfl, ⟨z, Nat.lt_of_lt_of_le (mul_lt q2 q4) (Nat.pow_le_pow_right (by decide) (by decide))⟩, fun r n' hr => ?_, fun _ _ h => h.elim⟩
  obtain ⟨rfl, rfl⟩ := hr
  exact hq2
theorem wPlus {f : Nat} (h5 : Φ f = sLowest.sp) : Body sPlus (bPlus f) nPlus Φ C := by
  intro ts n Q X hq hl hp hQ hX
  match ts, hp with
  | [.d (.tuple [.int a, .int b]), .d (.tuple [.int c, .int d])], hp =>
    obtain ⟨m1, m2, m3, w⟩ := plus_w (X := X) h5 hp (hQ _ _ ⟨rfl, rfl⟩)
    simp [bPlus, nPlus]
    refine ix0 (ix1 ⟨m1, ix0 (ix1 ⟨m2, ?_⟩)⟩)
    dsimp only [binW]
    exact ix1 (ix1 ⟨m3, w⟩)
theorem wLPlus {f : Nat} (h5 : Φ f = sLowest.sp) : Body sPlus (bLPlus f) nLPlus Φ C := wPlus h5
theorem wLTimes {f : Nat} (h5 : Φ f = sLowest.sp) : Body sTimes (bLTimes f) nLTimes Φ C := by
  intro ts n Q X hq hl hp hQ hX
  match ts, hp with
  | [.d (.tuple [.int a, .int b]), .d (.tuple [.int c, .int d])], hp =>
    obtain ⟨⟨p1, p2⟩, ⟨q1, q2⟩, q3, q4⟩ := hp
    have hq2 := hQ _ _ ⟨rfl, rfl⟩
    have p1 : 1 ≤ b := p1
    have p2 : 1 ≤ d := p2
    simp [bLTimes, nLTimes]
    refine ix0 (ix0 ⟨mul_b q1 q3 (by decide), ix1 (ix1 ⟨mul_b q2 q4 (by decide), ?_⟩)⟩)
    rw [h5]
    have z : b * d ≠ 0 := Int.ne_of_gt (Int.mul_pos (by omega) (by omega))
    refine ⟨rfl, ⟨z, Nat.lt_of_lt_of_le (mul_lt q2 q4) (Nat.pow_le_pow_right (by decide) (by decide))⟩, fun r n' hr => ?_, fun _ _ h => h.elim⟩
    obtain ⟨rfl, rfl⟩ := hr
    exact hq2
theorem wLess : Body sLess bLess nLess Φ C := by
  intro ts n Q X hq hl hp hQ hX
  match ts, hp with
  | [.d (.tuple [.int a, .int b]), .d (.tuple [.int c, .int d])], hp =>
    obtain ⟨_, ⟨q1, q2⟩, q3, q4⟩ := hp
    have hq2 := hQ _ _ ⟨rfl, rfl⟩
    simp [bLess, nLess]
    refine ix0 (ix1 ⟨mul_b q1 q4 (by decide), ix0 (ix1 ⟨mul_b q3 q2 (by decide), ⟨ltOk_int, ?_⟩⟩)⟩)
    rw [PySem.W.dataLt_int]
    exact hq2
theorem wLLess : Body sLess bLLess nLLess Φ C := wLess
theorem wLMinus {f : Nat} (h : Φ f = sPlus.sp) : Body sMinus (bLMinus f) nLMinus Φ C := by
  intro ts n Q X hq hl hp hQ hX
  match ts, hp with
  | [.d (.tuple [.int a, .int b]), .d (.tuple [.int c, .int d])], hp =>
    obtain ⟨p1, q1, q2⟩ := hp
    have hq2 := hQ _ _ ⟨rfl, rfl⟩
    simp [bLMinus, nLMinus]
    refine ix0 ?_
    dsimp only [binW]
    refine ix1 ?_
    simp [datas]
    refine ⟨by rw [sizeLine_eq]; decide, ?_⟩
    rw [h]
    refine ⟨rfl, ⟨p1, q1, by have := q2.neg; simpa using this⟩, fun r n' hr => ?_, fun _ _ h => h.elim⟩
    obtain ⟨rfl, rfl⟩ := hr
    have e : addF (a, b) (-c, d) = subF (a, b) (c, d) := by unfold subF; rw [Int.zero_sub]
    show Q (ff (addF (a, b) (-c, d))) _
    rw [e]
    exact hq2
end
end HL

set_option Elab.async false
set_option linter.all false
set_option maxRecDepth 100000
set_option maxHeartbeats 4000000
/-! MF0: bodies that the map laws share. -/
namespace HL
open PySem PySem.Spec PyProof.Rows L2 TL
/-- is_signs -/
abbrev nSigns : List Str := ["value", "signs", "sign"]
def cSigns_0  : E := (.cmp .nin (.v 2) (.v 1))
def bSigns  : Ss := (.cons [] (.ret (.and (.isi (.v 0) .str) (.cmp .eq (.lc [2] (.nm 2) .seq (.cons (.v 0) .nil) cSigns_0 (.v 2)) (.lst .nil))))
  .nil)
/-- is_name -/
abbrev nName : List Str := ["value"]
def bName (f0 : Nat) (g0 : Nat) (g1 : Nat) (g2 : Nat) : Ss := (.cons [] (.ret (.and (.call f0 (.cons (.v 0) (.cons (.bin .add (.g g0) (.g g1)) .nil))) (.and (.chain .lt .le (.c (.int 0)) (.bi .len (.cons (.v 0) .nil)) (.g g2)) (.cmp .in_ (.ix (.v 0) (.c (.int 0))) (.g g0)))))
  .nil)
/-- is_path_of -/
abbrev nPathOf : List Str := ["heights", "value", "name"]
def ePathOf_0  : E := (.isi (.v 2) .str)
def bPathOf  : Ss := (.cons [] (.ite (.or (.not (.isi (.v 1) .tuple)) (.or (.cmp .ne (.bi .len (.cons (.v 1) .nil)) (.c (.int 2))) (.not (.bi .all (.cons (.lc [2] (.nm 2) .seq (.cons (.v 1) .nil) (.c (.bool true)) ePathOf_0) .nil)))))
  (.cons [] (.ret (.c (.bool false)))
  .nil) .nil)
  (.cons [] (.ret (.and (.cmp .in_ (.ix (.v 1) (.c (.int 0))) (.v 0)) (.and (.cmp .in_ (.ix (.v 1) (.c (.int 1))) (.v 0)) (.cmp .lt (.ix (.v 1) (.c (.int 0))) (.ix (.v 1) (.c (.int 1)))))))
  .nil))
/-- are_heights -/
abbrev nHeights : List Str := ["value", "place"]
def eHeights_0 (f0 : Nat) (f1 : Nat) (f2 : Nat) : E := (.and (.call f0 (.cons (.v 1) .nil)) (.call f1 (.cons (.ix (.v 0) (.v 1)) .nil)))
def eHeights_1 (f0 : Nat) (f1 : Nat) (f2 : Nat) : E := (.ix (.v 0) (.v 1))
def bHeights (f0 : Nat) (f1 : Nat) (f2 : Nat) : Ss := (.cons [] (.ite (.or (.not (.isi (.v 0) .dict)) (.cmp .eq (.bi .len (.cons (.v 0) .nil)) (.c (.int 0))))
  (.cons [] (.ret (.c (.bool false)))
  .nil) .nil)
  (.cons [] (.ite (.not (.bi .all (.cons (.lc [1] (.nm 1) .seq (.cons (.v 0) .nil) (.c (.bool true)) (eHeights_0 f0 f1 f2)) .nil)))
  (.cons [] (.ret (.c (.bool false)))
  .nil) .nil)
  (.cons [] (.ret (.call f2 (.cons (.bi .sorted (.cons (.lc [1] (.nm 1) .seq (.cons (.v 0) .nil) (.c (.bool true)) (eHeights_1 f0 f1 f2)) .nil)) .nil)))
  .nil)))
/-- is_map -/
abbrev nIsMap : List Str := ["value", "path"]
def eIsMap_0 (f0 : Nat) (f1 : Nat) (f2 : Nat) : E := (.call f0 (.cons (.ix (.v 0) (.c (.int 1))) (.cons (.v 1) .nil)))
def bIsMap (f0 : Nat) (f1 : Nat) (f2 : Nat) : Ss := (.cons [] (.ite (.or (.not (.isi (.v 0) .tuple)) (.or (.cmp .ne (.bi .len (.cons (.v 0) .nil)) (.c (.int 3))) (.or (.not (.isi (.ix (.v 0) (.c (.int 0))) .str)) (.cmp .ne (.ix (.v 0) (.c (.int 0))) (.c (.str "map"))))))
  (.cons [] (.ret (.c (.bool false)))
  .nil) .nil)
  (.cons [] (.ite (.or (.not (.call f1 (.cons (.ix (.v 0) (.c (.int 1))) .nil))) (.not (.isi (.ix (.v 0) (.c (.int 2))) .list)))
  (.cons [] (.ret (.c (.bool false)))
  .nil) .nil)
  (.cons [] (.ret (.and (.bi .all (.cons (.lc [1] (.nm 1) .seq (.cons (.ix (.v 0) (.c (.int 2))) .nil) (.c (.bool true)) (eIsMap_0 f0 f1 f2)) .nil)) (.call f2 (.cons (.ix (.v 0) (.c (.int 2))) .nil))))
  .nil)))
/-- check_map -/
abbrev nChkMap : List Str := ["land"]
def bChkMap (f0 : Nat) : Ss := (.cons [] (.ite (.not (.call f0 (.cons (.v 0) .nil)))
  (.cons [] .no
  .nil) .nil)
  .nil)
/-- is_place_of -/
abbrev nPlaceOf : List Str := ["land", "value"]
def bPlaceOf  : Ss := (.cons [] (.ret (.and (.isi (.v 1) .str) (.cmp .in_ (.v 1) (.ix (.v 0) (.c (.int 1))))))
  .nil)
/-- by_height -/
abbrev nByHeight : List Str := ["land", "places", "place"]
def kByHeight_0  : E := (.ix (.ix (.v 0) (.c (.int 1))) (.v 2))
def bByHeight  : Ss := (.cons [] (.ret (.key .sorted 2 (.v 1) kByHeight_0))
  .nil)
/-- joined_to -/
abbrev nJoined : List Str := ["land", "place", "found", "one", "other"]
def cJoined_0 (f0 : Nat) : E := (.cmp .eq (.v 3) (.v 1))
def cJoined_1 (f0 : Nat) : E := (.cmp .eq (.v 4) (.v 1))
def bJoined (f0 : Nat) : Ss := (.cons [] (.set 2 (.bin .add (.lc [3, 4] (.tp [3, 4]) .seq (.cons (.ix (.v 0) (.c (.int 2))) .nil) (cJoined_0 f0) (.v 4)) (.lc [3, 4] (.tp [3, 4]) .seq (.cons (.ix (.v 0) (.c (.int 2))) .nil) (cJoined_1 f0) (.v 3))))
  (.cons [2] (.ret (.call f0 (.cons (.v 0) (.cons (.v 2) .nil))))
  .nil))
/-- _law_shuffled -/
abbrev nShuf : List Str := ["generator", "some", "found", "thing"]
def lShuf_0 (f0 : Nat) : Ss := (.cons [] (.ins 2 (.call f0 (.cons (.v 0) (.cons (.bin .add (.bi .len (.cons (.w 2) .nil)) (.c (.int 1))) .nil))) (.v 3))
  .nil)
def bShuf (f0 : Nat) : Ss := (.cons [] (.set 2 (.lst .nil))
  (.cons [] (.for_ (.nm 3) .seq (.cons (.v 1) .nil) (lShuf_0 f0))
  (.cons [] (.retO 2)
  .nil)))
/-- _law_land -/
abbrev nLand : List Str := ["generator", "most", "names", "step", "height", "heights", "name", "table", "paths", "many", "one", "other"]
def lLand_0 (f0 : Nat) (f1 : Nat) (f2 : Nat) : Ss := (.cons [3] (.set 4 (.bin .add (.bin .add (.w 4) (.c (.int 1))) (.call f0 (.cons (.v 0) (.cons (.v 3) .nil)))))
  (.cons [4] (.app 5 (.v 4))
  .nil))
def cLand_1 (f0 : Nat) (f1 : Nat) (f2 : Nat) : E := (.and (.cmp .lt (.v 10) (.v 11)) (.cmp .lt (.call f0 (.cons (.v 0) (.cons (.c (.int 5)) .nil))) (.w 9)))
def eLand_2 (f0 : Nat) (f1 : Nat) (f2 : Nat) : E := (.tup (.cons (.v 10) (.cons (.v 11) .nil)))
def lLand_3 (f0 : Nat) (f1 : Nat) (f2 : Nat) : Ss := (.cons [] (.set 8 (.bin .add (.w 8) (.lc [11] (.nm 11) .seq (.cons (.bi .sorted (.cons (.w 2) .nil)) .nil) (cLand_1 f0 f1 f2) (eLand_2 f0 f1 f2))))
  .nil)
def tLand_4 (f0 : Nat) (f1 : Nat) (f2 : Nat) : Ss := (.cons [7, 8] (.ret (.tup (.cons (.c (.str "map")) (.cons (.v 7) (.cons (.v 8) .nil)))))
  .nil)
def tLand_5 (f0 : Nat) (f1 : Nat) (f2 : Nat) : Ss := (.cons [] (.for_ (.nm 10) .seq (.cons (.bi .sorted (.cons (.w 2) .nil)) .nil) (lLand_3 f0 f1 f2))
  (tLand_4 f0 f1 f2))
def tLand_6 (f0 : Nat) (f1 : Nat) (f2 : Nat) : Ss := (.cons [5] (.upk [7, 8, 9] (.tup (.cons (.dzip (.w 2) (.call f2 (.cons (.v 0) (.cons (.v 5) .nil)))) (.cons (.lst .nil) (.cons (.bin .add (.c (.int 1)) (.call f0 (.cons (.v 0) (.cons (.c (.int 4)) .nil)))) .nil)))))
  (tLand_5 f0 f1 f2))
def tLand_7 (f0 : Nat) (f1 : Nat) (f2 : Nat) : Ss := (.cons [2] (.for_ (.nm 6) .seq (.cons (.v 2) .nil) (lLand_0 f0 f1 f2))
  (tLand_6 f0 f1 f2))
def tLand_8 (f0 : Nat) (f1 : Nat) (f2 : Nat) : Ss := (.cons [] (.par [3, 4, 5] (.cons (.call f1 (.cons (.v 0) (.cons (.lst (.cons (.c (.int 1)) (.cons (.c (.int 4)) (.cons (.c (.int 40)) (.cons (.bin .pow (.c (.int 10)) (.c (.int 7))) .nil))))) .nil))) (.cons (.bin .sub (.call f0 (.cons (.v 0) (.cons (.c (.int 41)) .nil))) (.c (.int 20))) (.cons (.lst .nil) .nil))))
  (tLand_7 f0 f1 f2))
def bLand (f0 : Nat) (f1 : Nat) (f2 : Nat) : Ss := (.cons [] (.set 2 (.sl (.call f2 (.cons (.v 0) (.cons (.lst (.cons (.c (.str "a")) (.cons (.c (.str "ab")) (.cons (.c (.str "b")) (.cons (.c (.str "c1")) (.cons (.c (.str "d")) (.cons (.c (.str "e")) (.cons (.c (.str "hut")) (.cons (.c (.str "z")) .nil))))))))) .nil))) (.c .none) (.bin .add (.c (.int 1)) (.call f0 (.cons (.v 0) (.cons (.v 1) .nil))))))
  (tLand_8 f0 f1 f2))
/-- _law_nexts -/
abbrev nNexts : List Str := ["land", "place", "one", "other"]
def cNexts_0  : E := (.cmp .eq (.v 2) (.v 1))
def cNexts_1  : E := (.cmp .eq (.v 3) (.v 1))
def bNexts  : Ss := (.cons [] (.ret (.bi .sorted (.cons (.bin .add (.lc [2, 3] (.tp [2, 3]) .seq (.cons (.ix (.v 0) (.c (.int 2))) .nil) cNexts_0 (.v 3)) (.lc [2, 3] (.tp [2, 3]) .seq (.cons (.ix (.v 0) (.c (.int 2))) .nil) cNexts_1 (.v 2))) .nil)))
  .nil)
end HL

set_option Elab.async false
set_option linter.all false
set_option maxRecDepth 100000
set_option maxHeartbeats 4000000
/-! MF1: maps; what the shared defs of the map laws promise of right ones. -/
namespace HL
open PySem PySem.Spec PyProof.Rows L2 TL
/-! ### names -/
def an : List Nat := (("abcdefghijklmnopqrstuvwxyz" : Str) ++ ("0123456789" : Str)).cps.toList
def az : List Nat := ("abcdefghijklmnopqrstuvwxyz" : Str).cps.toList
def sgn (x : PyData) (s : List Nat) : Bool := match x with
  | .str z => z.cps.toList.all fun c => decide (c ∈ s)
  | _ => false
def hdIn (z : Str) : Bool := match z.cps.toList with
  | c :: _ => decide (c ∈ az)
  | [] => false
def nmB (x : PyData) : Bool := match x with
  | .str z => (z.cps.toList.all fun c => decide (c ∈ an)) && decide (0 < z.length) && decide (z.length ≤ 8) && hdIn z
  | _ => false
theorem nm_str {z : Str} : nmB (.str z) = ((z.cps.toList.all fun c => decide (c ∈ an)) && decide (0 < z.length) && decide (z.length ≤ 8) && hdIn z) := rfl
theorem hd_cons {z : Str} {c : Nat} {r : List Nat} (h : z.cps.toList = c :: r) : hdIn z = decide (c ∈ az) := by
  unfold hdIn
  rw [h]
def okS (x : PyData) : Prop := ∀ z, x = .str z → z.length ≤ sizeLine
def sSigns : Spc := { ar := 2, pre := (fun | [.d x, .d (.str s)], _ => okS x | _, _ => False), post := (fun | [.d x, .d (.str s)], n => fun r n' => r = bl (sgn x s.cps.toList) ∧ n' = n | _, _ => fun _ _ => False) }
def sName : Spc := { ar := 1, pre := (fun | [.d x], _ => okS x | _, _ => False), post := (fun | [.d x], n => fun r n' => r = bl (nmB x) ∧ n' = n | _, _ => fun _ _ => False) }
def noChar (s : List Nat) : PyData → Bool
  | .str y => !(y.cps.toList.all fun c => decide (c ∈ s))
  | _ => false
theorem nm_long {z : Str} (h : 8 < z.length) : nmB (.str z) = false := by
  unfold nmB
  simp only [show ¬ z.length ≤ 8 by omega, decide_false, Bool.and_false, Bool.false_and]
section
variable {Φ : Nat → TSp} {C : Nat → PyData}
theorem wSigns (M : MonoPh Φ) : Body sSigns bSigns nSigns Φ C := by
  intro ts n Q X hq hl hp hQ hX
  match ts, hp with
  | [.d x, .d (.str s)], hp =>
    have hq2 := hQ _ _ ⟨rfl, rfl⟩
    simp [bSigns, nSigns]
    cases x <;> simp [isTy] <;> try exact hq2
    rename_i z
    have hz := hp z rfl
    refine lc_pure (ds := chars z) M (noChar s.cps.toList) id (by rw [chars_len]; exact hz) (fun x hx => ?_) ?_
    · unfold chars at hx
      obtain ⟨c, hc, rfl⟩ := List.mem_map.mp hx
      refine ⟨_, rfl, fun P h => ?_, fun _ P h => ?_⟩
      · simp [cndW_eq, cSigns_0, stA, wipeE, cmpW, inW, occ0, chr1]
        simpa [chr1, noChar] using h
      · simp [eltW_eq, stA, wipeE]
        exact h _
    · simp [datas, cmpW]
      refine ⟨eqOk_nil (plain_filter chars_plain) (Nat.le_trans (depth_filter chars_depth) (by decide)), ?_⟩
      rw [eqv_nil, filter_none, chars_all]
      have : (z.cps.toList.all fun c => !noChar s.cps.toList (chr1 c)) = sgn (.str z) s.cps.toList := by
        unfold sgn noChar chr1
        simp
      rw [this]
      exact hq2
theorem wName {f g0 g1 g2 : Nat} (h0 : Φ f = sSigns.sp) (e0 : C g0 = .str "abcdefghijklmnopqrstuvwxyz") (e1 : C g1 = .str "0123456789") (e2 : C g2 = .int 8) : Body sName (bName f g0 g1 g2) nName Φ C := by
  intro ts n Q X hq hl hp hQ hX
  match ts, hp with
  | [.d x], hp =>
    have hq2 := hQ _ _ ⟨rfl, rfl⟩
    simp [bName, nName, e0, e1, e2, binW]
    refine ⟨by rw [sizeLine_eq]; decide +kernel, ?_⟩
    rw [h0]
    refine ⟨rfl, hp, fun r n' hr => ?_, fun _ _ h => h.elim⟩
    obtain ⟨rfl, rfl⟩ := hr
    simp [bl]
    split
    · rename_i hs
      cases x <;> first | (unfold sgn at hs; cases hs; done) | skip
      rename_i z
      have hs : (z.cps.toList.all fun c => decide (c ∈ an)) = true := hs
      simp [biW, cmpW, ltOk_int, PySem.W.dataLt_int, ixW, inW]
      refine ⟨hp z rfl, ?_⟩
      split
      · rename_i h1
        split
        · rename_i h2
          refine ⟨hp z rfl, ?_⟩
          cases hc : z.cps.toList with
          | nil =>
            have : z.length = z.cps.toList.length := by simp [Str.length]
            rw [hc] at this
            simp at this
            omega
          | cons c r =>
            refine ⟨c, atI_nat (xs := c :: r) (j := 0) rfl, _, rfl, ?_⟩
            rw [occ1]
            have : nmB (.str z) = decide (c ∈ az) := by
              rw [nm_str, hs, hd_cons hc]
              simp
              intro
              omega
            rw [this] at hq2
            exact hq2
        · rename_i h2
          have h2 : 8 < z.length := by omega
          rw [nm_long h2] at hq2
          have : decide (8 < (z.length : Int)) = true := by simp; omega
          rw [this]
          exact hq2
      · rename_i h1
        have : nmB (.str z) = false := by
          have : decide (0 < z.length) = false := by simp; omega
          rw [nm_str, this]
          simp
        rw [this] at hq2
        exact hq2
    · rename_i hs
      have : nmB x = sgn x an := by
        unfold nmB sgn
        cases x <;> first | rfl | skip
        rename_i z
        have hs : (z.cps.toList.all fun c => decide (c ∈ an)) = false := by
          cases q : (z.cps.toList.all fun c => decide (c ∈ an)) with
          | false => rfl
          | true => exact absurd q hs
        show ((z.cps.toList.all fun c => decide (c ∈ an)) && _ && _ && _) = (z.cps.toList.all fun c => decide (c ∈ an))
        rw [hs]
        rfl
      rw [this] at hq2
      exact hq2
end
/-! ### maps -/
/-- a map: places with their heights, paths -/
structure Ld where
  hs : List (Str × Int)
  ps : List (Str × Str)
def hD (p : Str × Int) : PyData × PyData := (.str p.1, .int p.2)
def pD (p : Str × Str) : PyData := .tuple [.str p.1, .str p.2]
def Ld.d (D : Ld) : PyData := .tuple [.str "map", .dict (D.hs.map hD), .list (D.ps.map pD)]
def Ld.names (D : Ld) : List Str := D.hs.map (·.1)
def Ld.ht (D : Ld) (x : Str) : Int := ((D.hs.find? fun p => decide (p.1 = x)).map (·.2)).getD 0
def ltS (a b : Str) : Bool := decide (a.cps.toList < b.cps.toList)
def ltP (p q : Str × Str) : Bool := ltS p.1 q.1 || (decide (p.1 = q.1) && ltS p.2 q.2)
structure LdOk (D : Ld) : Prop where
  ne : 0 < D.hs.length
  le : D.hs.length ≤ 60
  nm : ∀ x ∈ D.names, nmB (.str x) = true
  nd : D.names.Nodup
  hd : (D.hs.map (·.2)).Nodup
  bd : ∀ p ∈ D.hs, p.2.natAbs < 10 ^ 29
  inn : ∀ p ∈ D.ps, p.1 ∈ D.names ∧ p.2 ∈ D.names ∧ ltS p.1 p.2 = true
  asc : D.ps.Pairwise fun p q => ltP p q = true
  lep : D.ps.length ≤ 2000
theorem kOk_h {hs : List (Str × Int)} : kOk (hs.map hD) := fun p hp => by
  obtain ⟨q, _, rfl⟩ := List.mem_map.mp hp
  exact trivial
theorem dGet_h {hs : List (Str × Int)} {x : Str} : dGet (hs.map hD) (.str x) = (hs.find? fun p => decide (p.1 = x)).map fun p => .int p.2 := by
  unfold dGet
  rw [List.find?_map, Option.map_map]
  rfl
theorem find_in {hs : List (Str × Int)} {x : Str} : (hs.find? fun p => decide (p.1 = x)).isSome = decide (x ∈ hs.map (·.1)) := by
  rw [Bool.eq_iff_iff, List.find?_isSome, decide_eq_true_eq, List.mem_map]
  constructor
  · rintro ⟨p, h1, h2⟩
    exact ⟨p, h1, of_decide_eq_true h2⟩
  · rintro ⟨p, h1, h2⟩
    exact ⟨p, h1, decide_eq_true h2⟩
theorem in_h {hs : List (Str × Int)} {x : Str} {Q : Bool → Prop} : inW (.str x) (.dict (hs.map hD)) Q = Q (decide (x ∈ hs.map (·.1))) := by
  show ((keyOk (.str x) ∧ kOk (hs.map hD)) ∧ Q (dGet (hs.map hD) (.str x)).isSome) = _
  rw [dGet_h, Option.isSome_map, find_in]
  simp [kOk_h, keyOk]
theorem Ld.get {D : Ld} {x : Str} (h : x ∈ D.names) : dGet (D.hs.map hD) (.str x) = some (.int (D.ht x)) := by
  rw [dGet_h]
  unfold Ld.ht
  have : (D.hs.find? fun p => decide (p.1 = x)).isSome = true := by rw [find_in]; exact decide_eq_true h
  obtain ⟨p, e⟩ := Option.isSome_iff_exists.mp this
  rw [e]; rfl
theorem ix_h {D : Ld} {x : Str} {P : TL.T → Prop} (h : x ∈ D.names) : ixW (.d (.dict (D.hs.map hD))) (.d (.str x)) P = P (.d (.int (D.ht x))) := by
  show ((keyOk (.str x) ∧ kOk (D.hs.map hD)) ∧ ∃ y, dGet (D.hs.map hD) (.str x) = some y ∧ P (.d y)) = _
  rw [D.get h]
  simp [kOk_h, keyOk]
theorem ixT2 {a b c : PyData} {xs : List PyData} {P : TL.T → Prop} : ixW (.d (.tuple (a :: b :: c :: xs))) (.d (.int 2)) P = P (.d c) := propext ⟨fun ⟨x, e, h⟩ => by
  have e2 : L2.atI (a :: b :: c :: xs) 2 = some c := L2.atI_nat (xs := a :: b :: c :: xs) (j := 2) rfl
  rw [e2] at e; cases e; exact h, fun h => ⟨c, L2.atI_nat (xs := a :: b :: c :: xs) (j := 2) rfl, h⟩⟩
theorem ix_d1 {D : Ld} {P : TL.T → Prop} : ixW (.d D.d) (.d (.int 1)) P = P (.d (.dict (D.hs.map hD))) := ixT1
theorem ix_d2 {D : Ld} {P : TL.T → Prop} : ixW (.d D.d) (.d (.int 2)) P = P (.d (.list (D.ps.map pD))) := ixT2
theorem nm_len {z : Str} (h : nmB (.str z) = true) : z.length ≤ 8 := by
  rw [nm_str] at h
  simp at h
  exact h.1.2
theorem okS_nm {z : Str} (h : nmB (.str z) = true) : okS (.str z) := fun y e => by
  cases e
  have := nm_len h
  rw [sizeLine_eq]; omega
theorem lt_str {a b : Str} : PySem.W.dataLt (.str a) (.str b) = ltS a b := PySem.W.dataLt_str a b
theorem lt_pD {p q : Str × Str} : PySem.W.dataLt (pD p) (pD q) = ltP p q := by
  unfold pD ltP
  rw [PySem.W.dataLt_pair (by simp [PySem.W.alike]) (by simp [PySem.W.alike]), lt_str, lt_str]
  have e : ∀ a b : Str, PyData.eqv (.str a) (.str b) = decide (a = b) := fun a b => by
    show (a == b) = _
    rw [Bool.eq_iff_iff, beq_iff_eq, decide_eq_true_eq]
  rw [e, e]
  by_cases h1 : p.1 = q.1
  · by_cases h2 : p.2 = q.2
    · have : ltS q.2 q.2 = false := by unfold ltS; simp
      have t : ltS q.1 q.1 = false := by unfold ltS; simp
      simp [h1, h2, this, t]
    · have t : ltS q.1 q.1 = false := by unfold ltS; simp
      simp [h1, h2, t]
  · simp [h1]
theorem ltOk_pD {p q : Str × Str} : ltOk (pD p) (pD q) := ⟨by simp [pD, PySem.W.alike, PySem.W.alikeAll], by simp [pD], by simp [pD, PyData.depth, PyData.depthAll]⟩
/-- each less than the next -/
def Rise (xs : List PyData) : Prop := ∀ (i : Nat) (a b : PyData), xs[i]? = some a → xs[i + 1]? = some b → ltOk a b ∧ PySem.W.dataLt a b = true
def sAscD : Spc := { ar := 1, pre := (fun | [.d (.list xs)], _ => xs.length ≤ 5000 ∧ Rise xs | _, _ => False), post := (fun _ n => fun r n' => n' = n ∧ r = bl true) }
def sPathOf : Spc := { ar := 2, pre := (fun | [.d x, .d y], _ => ∃ (D : Ld) (p : Str × Str), x = .dict (D.hs.map hD) ∧ y = pD p ∧ p.1 ∈ D.names ∧ p.2 ∈ D.names ∧ ltS p.1 p.2 = true | _, _ => False), post := (fun _ n => fun r n' => n' = n ∧ r = bl true) }
def sHeights : Spc := { ar := 1, pre := (fun | [.d x], _ => ∃ D : Ld, x = .dict (D.hs.map hD) ∧ LdOk D | _, _ => False), post := (fun _ n => fun r n' => n' = n ∧ r = bl true) }
def sIsMap : Spc := { ar := 1, pre := (fun | [.d x], _ => ∃ D : Ld, x = D.d ∧ LdOk D | _, _ => False), post := (fun _ n => fun r n' => n' = n ∧ r = bl true) }
def sChkMap : Spc := { ar := 1, pre := (fun | [.d x], _ => ∃ D : Ld, x = D.d ∧ LdOk D | _, _ => False), post := (fun _ n => fun r n' => n' = n ∧ r = nn) }
def isPl (D : Ld) : PyData → Bool
  | .str z => decide (z ∈ D.names)
  | _ => false
/-- exactly -/
def sPlaceOf : Spc := { ar := 2, pre := (fun | [.d x, .d _], _ => ∃ D : Ld, x = D.d | _, _ => False), post := (fun | [.d x, .d y], n => fun r n' => n' = n ∧ ∀ D : Ld, x = D.d → r = bl (isPl D y) | _, _ => fun _ _ => False) }
section
variable {Φ : Nat → TSp} {C : Nat → PyData}
theorem wAscD (M : MonoPh Φ) : Body sAscD bAsc nAsc Φ C := by
  intro ts n Q X hq hl hp hQ hX
  match ts, hp with
  | [.d (.list xs)], hp =>
    obtain ⟨h1, h2⟩ := hp
    have hq2 := hQ _ _ ⟨rfl, rfl⟩
    have hz : (sizeLine : Nat) = 16777216 := sizeLine_eq
    simp [bAsc, nAsc, biW, srcW]
    refine ⟨by omega, ?_⟩
    refine lc_pure M (fun _ => false) id (by rw [List.length_map, List.length_range]; omega) (fun x hx => ?_) ?_
    · obtain ⟨m, hm, rfl⟩ := List.mem_map.mp hx
      have hm : m < xs.length - 1 := List.mem_range.mp hm
      have h1' : m + 1 < xs.length := by omega
      have ea : xs[m]? = some (xs[m]'(by omega)) := List.getElem?_eq_getElem (by omega)
      have eb : xs[m + 1]? = some (xs[m + 1]'h1') := List.getElem?_eq_getElem h1'
      obtain ⟨o, l⟩ := h2 m _ _ ea eb
      refine ⟨_, rfl, fun P h => ?_, fun z => nomatch z⟩
      simp [cndW_eq, cAsc_0, stA, wipeE]
      refine ⟨_, ?_, _, ?_, o, ?_⟩
      · have := atI_nat (xs := xs) (j := m) ea
        have e : (1 + (m : Int) - 1) = (m : Int) := by omega
        rw [e]; exact this
      · have := atI_nat (xs := xs) (j := m + 1) eb
        have e : (1 + (m : Int)) = ((m + 1 : Nat) : Int) := by omega
        rw [e]; exact this
      · rw [l]; exact h
    · have ef : ∀ l : List PyData, l.filter (fun _ => false) = [] := fun l => List.filter_eq_nil_iff.mpr (by simp)
      rw [ef]
      simp [datas]
      refine ⟨⟨rfl, rfl, by simp [PyData.depth, PyData.depthAll]⟩, ?_⟩
      exact hq2
theorem wPathOf (M : MonoPh Φ) : Body sPathOf bPathOf nPathOf Φ C := by
  intro ts n Q X hq hl hp hQ hX
  match ts, hp with
  | [.d x, .d y], hp =>
    obtain ⟨D, p, rfl, rfl, h1, h2, h3⟩ := hp
    have hq2 := hQ _ _ ⟨rfl, rfl⟩
    have hz : (sizeLine : Nat) = 16777216 := sizeLine_eq
    simp [bPathOf, nPathOf, pD, isTy, biW, eqOk_int, eqv_int, srcW]
    refine lc_pure M (fun _ => true) (fun _ => .bool true) (by simp; omega) (fun x hx => ?_) ?_
    · have : ∃ z, x = .str z := by
        simp at hx
        rcases hx with rfl | rfl <;> exact ⟨_, rfl⟩
      obtain ⟨z, rfl⟩ := this
      refine ⟨_, rfl, fun P h => by simpa [cndW_eq] using h, fun _ P h => ?_⟩
      simp [eltW_eq, ePathOf_0, stA, wipeE, isTy]
      exact h _
    · simp [truD, ixT0, ixT1, in_h]
      have h1 : p.1 ∈ D.hs.map (·.1) := h1
      have h2 : p.2 ∈ D.hs.map (·.1) := h2
      simp only [List.mem_map] at h1 h2
      simp [h1, h2, ltOk_str, lt_str, h3]
      exact hq2
theorem wPlaceOf : Body sPlaceOf bPlaceOf nPlaceOf Φ C := by
  intro ts n Q X hq hl hp hQ hX
  match ts, hp with
  | [.d x, .d y], hp =>
    obtain ⟨D, rfl⟩ := hp
    have hq2 : Q (bl (isPl D y)) n := hQ _ _ ⟨rfl, fun D' e => by
      have e1 : D.names = D'.names := by
        unfold Ld.d at e
        injection e with e
        injection e with _ e
        injection e with e _
        injection e with e
        have := congrArg (List.map fun q : PyData × PyData => q.1) e
        rw [List.map_map, List.map_map] at this
        unfold Ld.names
        have inj : ∀ l l' : List (Str × Int), l.map ((fun q : PyData × PyData => q.1) ∘ hD) = l'.map ((fun q : PyData × PyData => q.1) ∘ hD) → l.map (·.1) = l'.map (·.1) := fun l => by
          induction l with
          | nil => intro l' h; cases l' with
            | nil => rfl
            | cons _ _ => cases h
          | cons a l ih => intro l' h; cases l' with
            | nil => cases h
            | cons b l' =>
              rw [List.map_cons, List.map_cons] at h
              injection h with h1 h2
              injection h1 with h1
              rw [List.map_cons, List.map_cons, ih l' h2, h1]
        exact inj _ _ this
      unfold isPl
      rw [e1]⟩
    simp [bPlaceOf, nPlaceOf]
    cases y <;> simp [isTy] <;> try exact hq2
    rename_i z
    rw [ix_d1, cw_in, in_h]
    exact hq2
end
end HL

set_option Elab.async false
set_option linter.all false
set_option maxRecDepth 100000
set_option maxHeartbeats 4000000
/-! MF2: heights, whole maps, neighbours. -/
namespace HL
open PySem PySem.Spec PyProof.Rows L2 TL
section
variable {xs : List PyData} {kvs : List (PyData × PyData)} {W : R → Prop} {i j : Int} {z : Str}
@[simp] theorem bi_lenL : biW .len [.d (.list xs)] W = W ⟨.d (.int xs.length), false⟩ := rfl
@[simp] theorem bi_lenT : biW .len [.d (.tuple xs)] W = W ⟨.d (.int xs.length), false⟩ := rfl
@[simp] theorem bi_lenS : biW .len [.d (.str z)] W = (z.length ≤ sizeLine ∧ W ⟨.d (.int z.length), false⟩) := rfl
@[simp] theorem bi_lenD : biW .len [.d (.dict kvs)] W = (kOk kvs ∧ W ⟨.d (.int kvs.length), false⟩) := rfl
@[simp] theorem bi_sumL : biW .sum [.d (.list xs)] W = (∃ ns, intsOf xs = some ns ∧ W ⟨.d (.int ns.sum), false⟩) := rfl
@[simp] theorem bi_max2 : biW .max2 [.d (.int i), .d (.int j)] W = W ⟨.d (.int (if j > i then j else i)), false⟩ := rfl
@[simp] theorem bi_sortL : biW .sorted [.d (.list xs)] W = (sortOk xs ∧ W ⟨.d (.list (xs.mergeSort (PySem.W.dataLe false id))), true⟩) := rfl
@[simp] theorem bi_sortD : biW .sorted [.d (.dict kvs)] W = ((kOk kvs ∧ kvs.length < 64 ∧ ∃ ks, strsOf (kvs.map (·.1)) = some ks) ∧ W ⟨.d (.list ((kvs.map (·.1)).mergeSort (PySem.W.dataLe false id))), true⟩) := rfl
@[simp] theorem bi_repr {x : PyData} : biW .repr [.d x] W = (showOk x ∧ W ⟨.d (.str x.shown), false⟩) := rfl
@[simp] theorem bi_tupL : biW .tuple [.d (.list xs)] W = W ⟨.d (.tuple xs), false⟩ := rfl
theorem bi_max1 : biW .max1 [.d (.list xs)] W = (∃ ns, intsOf xs = some ns ∧ ns ≠ [] ∧ ∀ m, m ∈ ns → (∀ a ∈ ns, a ≤ m) → W ⟨.d (.int m), false⟩) := rfl
theorem bi_allB {f : PyData → Bool} {p : PyData → Bool} (hp : ∀ x ∈ xs, p x = true) (h : W ⟨.d (.bool (xs.all f)), false⟩) : biW .all [.d (.list ((xs.filter p).map fun x => .bool (f x)))] W := by
  rw [List.filter_eq_self.mpr hp]
  refine ⟨fun x hx => ?_, ?_⟩
  · obtain ⟨y, _, rfl⟩ := List.mem_map.mp hx
    exact ⟨_, rfl⟩
  · rw [List.all_map]
    exact h
theorem all_T {l : List PyData} : (l.all fun _ => true) = true := by simp
end
/-! ### rows that rise -/
theorem rise_of {xs : List PyData} (h : xs.Pairwise fun a b => ltOk a b ∧ PySem.W.dataLt a b = true) : Rise xs := fun i a b ha hb => by
  obtain ⟨h1, rfl⟩ := List.getElem?_eq_some_iff.mp ha
  obtain ⟨h2, rfl⟩ := List.getElem?_eq_some_iff.mp hb
  exact List.pairwise_iff_getElem.mp h i (i + 1) h1 h2 (by omega)
def srtI (l : List Int) : List Int := l.mergeSort fun a b => decide (a ≤ b)
theorem sort_intsD {l : List Int} : (l.map PyData.int).mergeSort (PySem.W.dataLe false id) = (srtI l).map PyData.int := by
  unfold srtI
  rw [List.map_mergeSort]
  intro a _ b _
  show _ = !PySem.W.dataLt (.int b) (.int a)
  rw [PySem.W.dataLt_int, Bool.eq_iff_iff]
  simp
theorem sortOk_intsD {l : List Int} (h : l.length ≤ 5000) : sortOk (l.map PyData.int) := by
  have e : ∀ d ∈ l.map PyData.int, ∃ k, d = .int k := fun d hd => by
    obtain ⟨k, _, rfl⟩ := List.mem_map.mp hd
    exact ⟨k, rfl⟩
  refine ⟨fun d hd d' hd' => ?_, .inr fun d hd => ?_, fun d hd => ?_, by rw [sizeLine_eq, List.length_map]; omega⟩
  · obtain ⟨k, rfl⟩ := e d hd
    obtain ⟨k', rfl⟩ := e d' hd'
    rfl
  · obtain ⟨k, rfl⟩ := e d hd
    exact ⟨by simp, by simp⟩
  · obtain ⟨k, rfl⟩ := e d hd
    simp [PyData.depth]
theorem sortOk_strs {l : List Str} (h : l.length ≤ 5000) : sortOk (l.map PyData.str) := by
  have e : ∀ d ∈ l.map PyData.str, ∃ k, d = .str k := fun d hd => by
    obtain ⟨k, _, rfl⟩ := List.mem_map.mp hd
    exact ⟨k, rfl⟩
  refine ⟨fun d hd d' hd' => ?_, .inr fun d hd => ?_, fun d hd => ?_, by rw [sizeLine_eq, List.length_map]; omega⟩
  · obtain ⟨k, rfl⟩ := e d hd
    obtain ⟨k', rfl⟩ := e d' hd'
    rfl
  · obtain ⟨k, rfl⟩ := e d hd
    exact ⟨by simp, by simp⟩
  · obtain ⟨k, rfl⟩ := e d hd
    simp [PyData.depth]
theorem srtI_rise {l : List Int} (h : l.Nodup) : Rise ((srtI l).map .int) := by
  refine rise_of ?_
  rw [List.pairwise_map]
  have hs : (srtI l).Pairwise fun a b => decide (a ≤ b) = true := List.pairwise_mergeSort (fun a b c => by simp; omega) (fun a b => by simp; omega) l
  have hn : (srtI l).Nodup := (List.mergeSort_perm _ _).nodup_iff.mpr h
  refine List.Pairwise.imp₂ (fun a b h1 h2 => ⟨ltOk_int, ?_⟩) hs hn
  rw [PySem.W.dataLt_int]
  have h1 := of_decide_eq_true h1
  exact decide_eq_true (by have : a ≠ b := h2; omega)
theorem ps_rise {D : Ld} (h : LdOk D) : Rise (D.ps.map pD) := by
  refine rise_of ?_
  rw [List.pairwise_map]
  exact h.asc.imp fun {p q} e => ⟨ltOk_pD, by rw [lt_pD]; exact e⟩
theorem Ld.ht_at {D : Ld} (h : LdOk D) {p : Str × Int} (hp : p ∈ D.hs) : D.ht p.1 = p.2 := by
  have key : ∀ l : List (Str × Int), (l.map (·.1)).Nodup → p ∈ l → ((l.find? fun q => decide (q.1 = p.1)).map (·.2)).getD 0 = p.2 := fun l => by
    induction l with
    | nil => intro _ h; cases h
    | cons q l ih =>
      intro hn hp
      rw [List.map_cons, List.nodup_cons] at hn
      rw [List.find?_cons]
      rcases List.mem_cons.mp hp with rfl | hp
      · simp
      · have : q.1 ≠ p.1 := fun e => hn.1 (by rw [e]; exact List.mem_map_of_mem hp)
        rw [decide_eq_false this]
        exact ih hn.2 hp
  exact key D.hs h.nd hp
section
variable {Φ : Nat → TSp} {C : Nat → PyData}
theorem wHeights (M : MonoPh Φ) {f g k : Nat} (h1 : Φ f = sName.sp) (h2 : Φ g = sWhole.sp) (h3 : Φ k = sAscD.sp) : Body sHeights (bHeights f g k) nHeights Φ C := by
  intro ts n Q X hq hl hp hQ hX
  match ts, hp with
  | [.d x], hp =>
    obtain ⟨D, rfl, ok⟩ := hp
    have hq2 := hQ _ _ ⟨rfl, rfl⟩
    have hz : (sizeLine : Nat) = 16777216 := sizeLine_eq
    have hne := ok.ne
    have hle := ok.le
    have hlen : ((D.hs.length : Int) = 0) ↔ False := by exact ⟨fun h => by omega, fun h => h.elim⟩
    have ek : (D.hs.map hD).map (fun p : PyData × PyData => p.1) = D.names.map .str := by unfold Ld.names; rw [List.map_map, List.map_map]; rfl
    simp [bHeights, nHeights, isTy, eqOk_int, eqv_int, srcW, kOk_h, hlen]
    have ek' : List.map ((fun x => x.fst) ∘ hD) D.hs = D.names.map .str := by rw [← ek, List.map_map]
    rw [ek', if_neg (fun e => by rw [e] at hne; exact absurd hne (by decide))]
    refine lc_pure (ds := D.names.map .str) M (fun _ => true) (fun _ => .bool true) (by unfold Ld.names; simp; omega) (fun x hx => ?_) ?_
    · obtain ⟨z, hz', rfl⟩ := List.mem_map.mp hx
      refine ⟨_, rfl, fun P h => by simpa [cndW_eq] using h, fun _ P h => ?_⟩
      simp [eltW_eq, eHeights_0, stA, wipeE]
      rw [h1]
      refine ⟨rfl, okS_nm (ok.nm z hz'), fun r n' hr => ?_, fun _ _ h => h.elim⟩
      obtain ⟨rfl, rfl⟩ := hr
      rw [ok.nm z hz']
      simp [bl, ix_h hz']
      rw [h2]
      refine ⟨rfl, trivial, fun r n' hr => ?_, fun _ _ h => h.elim⟩
      obtain ⟨rfl, rfl⟩ := hr
      exact h _
    · refine bi_allB (f := fun _ => true) (fun _ _ => rfl) ?_
      simp
      refine lc_pure (ds := D.names.map .str) M (fun _ => true) (fun x => match x with | .str z => .int (D.ht z) | _ => .none) (by unfold Ld.names; simp; omega) (fun x hx => ?_) ?_
      · obtain ⟨z, hz', rfl⟩ := List.mem_map.mp hx
        refine ⟨_, rfl, fun P h => by simpa [cndW_eq] using h, fun _ P h => ?_⟩
        simp [eltW_eq, eHeights_1, stA, wipeE, ix_h hz']
        exact h _
      · have e : ((D.names.map PyData.str).filter fun _ => true).map (fun x => match x with | .str z => PyData.int (D.ht z) | _ => .none) = (D.hs.map (·.2)).map .int := by
          rw [List.filter_eq_self.mpr fun _ _ => rfl]
          unfold Ld.names
          rw [List.map_map, List.map_map, List.map_map]
          exact List.map_congr_left fun p hp => by
            show PyData.int (D.ht p.1) = .int p.2
            rw [Ld.ht_at ok hp]
        rw [e, sort_intsD]
        refine ⟨sortOk_intsD (by simp; omega), ?_⟩
        rw [h3]
        refine ⟨rfl, ⟨by unfold srtI; simp; omega, srtI_rise ok.hd⟩, fun r n' hr => ?_, fun _ _ h => h.elim⟩
        obtain ⟨rfl, rfl⟩ := hr
        exact hq2
theorem wIsMap (M : MonoPh Φ) {f g k : Nat} (h1 : Φ f = sPathOf.sp) (h2 : Φ g = sHeights.sp) (h3 : Φ k = sAscD.sp) : Body sIsMap (bIsMap f g k) nIsMap Φ C := by
  intro ts n Q X hq hl hp hQ hX
  match ts, hp with
  | [.d x], hp =>
    obtain ⟨D, rfl, ok⟩ := hp
    have hq2 := hQ _ _ ⟨rfl, rfl⟩
    have hz : (sizeLine : Nat) = 16777216 := sizeLine_eq
    have hlp := ok.lep
    have es : ∀ a : Str, PyData.eqv (.str a) (.str a) = true := fun a => eqv_self _ rfl
    have eo : ∀ a b : Str, eqOk (.str a) (.str b) := fun a b => ⟨rfl, rfl, by simp [PyData.depth]⟩
    unfold Ld.d
    simp [bIsMap, nIsMap, isTy, eqOk_int, eqv_int, srcW, ixT0, ixT1, ixT2, es, eo]
    rw [h2]
    refine ⟨rfl, ⟨D, rfl, ok⟩, fun r n' hr => ?_, fun _ _ h => h.elim⟩
    obtain ⟨rfl, rfl⟩ := hr
    simp [bl]
    refine lc_pure M (fun _ => true) (fun _ => .bool true) (by simp; omega) (fun x hx => ?_) ?_
    · obtain ⟨p, hp, rfl⟩ := List.mem_map.mp hx
      obtain ⟨a1, a2, a3⟩ := ok.inn p hp
      refine ⟨_, rfl, fun P h => by simpa [cndW_eq] using h, fun _ P h => ?_⟩
      simp [eltW_eq, eIsMap_0, stA, wipeE, ixT1]
      rw [h1]
      refine ⟨rfl, ⟨D, p, rfl, rfl, a1, a2, a3⟩, fun r n' hr => ?_, fun _ _ h => h.elim⟩
      obtain ⟨rfl, rfl⟩ := hr
      exact h _
    · refine bi_allB (f := fun _ => true) (fun _ _ => rfl) ?_
      simp
      rw [h3]
      refine ⟨rfl, ⟨by simp; omega, ps_rise ok⟩, fun r n' hr => ?_, fun _ _ h => h.elim⟩
      obtain ⟨rfl, rfl⟩ := hr
      exact hq2
theorem wChkMap {f : Nat} (h1 : Φ f = sIsMap.sp) : Body sChkMap (bChkMap f) nChkMap Φ C := by
  intro ts n Q X hq hl hp hQ hX
  match ts, hp with
  | [.d x], hp =>
    obtain ⟨D, rfl, ok⟩ := hp
    have hq2 := hQ _ _ ⟨rfl, rfl⟩
    simp [bChkMap, nChkMap]
    rw [h1]
    refine ⟨rfl, ⟨D, rfl, ok⟩, fun r n' hr => ?_, fun _ _ h => h.elim⟩
    obtain ⟨rfl, rfl⟩ := hr
    simp [bl]
    exact hq2
end
end HL

set_option Elab.async false
set_option linter.all false
set_option maxRecDepth 100000
set_option maxHeartbeats 4000000
/-! MF3: by height; neighbours; rows shuffled. -/
namespace HL
open PySem PySem.Spec PyProof.Rows L2 TL
def strsD (l : List Str) : PyData := .list (l.map .str)
/-- by height -/
def srtH (D : Ld) (l : List Str) : List Str := l.mergeSort fun a b => decide (D.ht a ≤ D.ht b)
/-- neighbours, as the paths stand -/
def nb (D : Ld) (x : Str) : List Str := (D.ps.filter fun p => decide (p.1 = x)).map (·.2) ++ (D.ps.filter fun p => decide (p.2 = x)).map (·.1)
theorem mem_nb {D : Ld} {x y : Str} : y ∈ nb D x ↔ (x, y) ∈ D.ps ∨ (y, x) ∈ D.ps := by
  unfold nb
  simp only [List.mem_append, List.mem_map, List.mem_filter, decide_eq_true_eq, Prod.exists]
  constructor
  · rintro (⟨a, b, ⟨h, rfl⟩, rfl⟩ | ⟨a, b, ⟨h, rfl⟩, rfl⟩)
    · exact .inl h
    · exact .inr h
  · rintro (h | h)
    · exact .inl ⟨x, y, ⟨h, rfl⟩, rfl⟩
    · exact .inr ⟨y, x, ⟨h, rfl⟩, rfl⟩
theorem nb_sym {D : Ld} {x y : Str} : y ∈ nb D x ↔ x ∈ nb D y := by rw [mem_nb, mem_nb, or_comm]
theorem nb_in {D : Ld} (h : LdOk D) {x y : Str} (hy : y ∈ nb D x) : y ∈ D.names ∧ x ∈ D.names := by
  rcases mem_nb.mp hy with k | k
  · exact ⟨(h.inn _ k).2.1, (h.inn _ k).1⟩
  · exact ⟨(h.inn _ k).1, (h.inn _ k).2.1⟩
theorem nb_len {D : Ld} {x : Str} (h : LdOk D) : (nb D x).length ≤ 4000 := by
  unfold nb
  rw [List.length_append, List.length_map, List.length_map]
  have := List.length_filter_le (fun p : Str × Str => decide (p.1 = x)) D.ps
  have := List.length_filter_le (fun p : Str × Str => decide (p.2 = x)) D.ps
  have := h.lep
  omega
def sByHeight : Spc := { ar := 2, pre := (fun | [.d x, .d y], _ => ∃ (D : Ld) (l : List Str), x = D.d ∧ y = strsD l ∧ (∀ a ∈ l, a ∈ D.names) ∧ l.length ≤ 5000 | _, _ => False), post := (fun | [.d x, .d y], n => fun r n' => n' = n ∧ ∃ (D : Ld) (l : List Str), x = D.d ∧ y = strsD l ∧ r = ⟨.d (strsD (srtH D l)), true⟩ | _, _ => fun _ _ => False) }
theorem strsD_inj {l l' : List Str} (h : strsD l = strsD l') : l = l' := by
  unfold strsD at h
  injection h with h
  induction l generalizing l' with
  | nil => cases l' with
    | nil => rfl
    | cons _ _ => cases h
  | cons a l ih => cases l' with
    | nil => cases h
    | cons b l' =>
      rw [List.map_cons, List.map_cons] at h
      injection h with h1 h2
      injection h1 with h1
      rw [h1, ih h2]
theorem Ld.d_inj {D D' : Ld} (h : D.d = D'.d) : D = D' := by
  unfold Ld.d at h
  injection h with h
  injection h with _ h
  injection h with e1 h
  injection h with e2 _
  injection e1 with e1
  injection e2 with e2
  have a1 : ∀ l l' : List (Str × Int), l.map hD = l'.map hD → l = l' := fun l => by
    induction l with
    | nil => intro l' h; cases l' with
      | nil => rfl
      | cons _ _ => cases h
    | cons a l ih => intro l' h; cases l' with
      | nil => cases h
      | cons b l' =>
        rw [List.map_cons, List.map_cons] at h
        injection h with h1 h2
        have h1' := congrArg Prod.fst h1
        have h1'' := congrArg Prod.snd h1
        injection h1' with h1'
        injection h1'' with h1''
        rw [ih l' h2]
        congr 1
        exact Prod.ext h1' h1''
  have a2 : ∀ l l' : List (Str × Str), l.map pD = l'.map pD → l = l' := fun l => by
    induction l with
    | nil => intro l' h; cases l' with
      | nil => rfl
      | cons _ _ => cases h
    | cons a l ih => intro l' h; cases l' with
      | nil => cases h
      | cons b l' =>
        rw [List.map_cons, List.map_cons] at h
        injection h with h1 h2
        unfold pD at h1
        injection h1 with h1
        injection h1 with h3 h4
        injection h4 with h4 _
        injection h3 with h3
        injection h4 with h4
        rw [ih l' h2]
        congr 1
        exact Prod.ext h3 h4
  cases D; cases D'
  have := a1 _ _ e1
  have := a2 _ _ e2
  simp_all
def two_ (f : Ld → Str → R) : List T → Nat → R → Nat → Prop
  | [.d x, .d (.str y)], n => fun r n' => n' = n ∧ ∀ D : Ld, x = D.d → r = f D y
  | _, _ => fun _ _ => False
def in_ : List T → Nat → Prop
  | [.d x, .d (.str _)], _ => ∃ D : Ld, x = D.d ∧ LdOk D
  | _, _ => False
def sJoined : Spc := { ar := 2, pre := in_, post := two_ fun D y => ⟨.d (strsD (srtH D (nb D y))), true⟩ }
def sNexts : Spc := { ar := 2, pre := in_, post := two_ fun D y => ⟨.d (strsD ((nb D y).mergeSort leS)), true⟩ }
theorem eqv_str {a b : Str} : PyData.eqv (.str a) (.str b) = decide (a = b) := by
  show (a == b) = _
  rw [Bool.eq_iff_iff, beq_iff_eq, decide_eq_true_eq]
theorem eqOk_str {a b : Str} : eqOk (.str a) (.str b) := ⟨rfl, rfl, by simp [PyData.depth]⟩
theorem filter_p {l : List (Str × Str)} {q : Str × Str → Bool} {p : PyData → Bool} {f : PyData → PyData} {g : Str × Str → Str} (h1 : ∀ x, p (pD x) = q x) (h2 : ∀ x, f (pD x) = .str (g x)) : ((l.map pD).filter p).map f = ((l.filter q).map g).map .str := by
  induction l with
  | nil => rfl
  | cons a l ih =>
    rw [List.map_cons, List.filter_cons, List.filter_cons, h1]
    cases q a with
    | true => rw [if_pos rfl, if_pos rfl, List.map_cons, List.map_cons, List.map_cons, ih, h2]
    | false => rw [if_neg Bool.false_ne_true, if_neg Bool.false_ne_true, ih]
section
variable {Φ : Nat → TSp} {C : Nat → PyData}
theorem wByHeight (M : MonoPh Φ) : Body sByHeight bByHeight nByHeight Φ C := by
  intro ts n Q X hq hl hp hQ hX
  match ts, hp with
  | [.d x, .d y], hp =>
    obtain ⟨D, l, rfl, rfl, h1, h2⟩ := hp
    have hq2 := hQ _ _ ⟨rfl, D, l, rfl, rfl, rfl⟩
    have hz : (sizeLine : Nat) = 16777216 := sizeLine_eq
    have e : keySort (l.map PyData.str) (l.map fun a => PyData.int (D.ht a)) = (srtH D l).map .str := by
      have e0 : (l.map fun a => PyData.int (D.ht a)) = (l.map PyData.str).map fun d => match d with | .str z => PyData.int (D.ht z) | _ => .none := by rw [List.map_map]; rfl
      rw [e0, keySort_map]
      unfold srtH
      rw [List.map_mergeSort]
      intro a _ b _
      show _ = !PySem.W.dataLt (.int (D.ht b)) (.int (D.ht a))
      rw [PySem.W.dataLt_int, Bool.eq_iff_iff]
      simp
    have so := sortOk_intsD (l := l.map D.ht) (by simp; omega)
    rw [List.map_map] at so
    simp [bByHeight, nByHeight, strsD]
    refine ⟨l.map fun a => PyData.int (D.ht a), ⟨by simp, by omega⟩, fun j d k a ea hd hk => ?_, ⟨so.1, so.2.1, so.2.2.1⟩, ?_⟩
    · subst hd
      rw [List.getElem?_map, ea] at hk
      cases hk
      have ha := h1 a (List.mem_of_getElem? ea)
      simp [kByHeight_0, stA, wipeE, ix_d1, ix_h ha]
    · rw [e]
      exact hq2
theorem two_lists {l : List (Str × Str)} {y : Str} : ((l.map pD).filter fun x => match x with | .tuple [.str a, _] => decide (a = y) | _ => false).map (fun x => match x with | .tuple [_, b] => b | _ => .none) = ((l.filter fun p => decide (p.1 = y)).map (·.2)).map .str := filter_p (fun _ => rfl) fun _ => rfl
theorem two_lists' {l : List (Str × Str)} {y : Str} : ((l.map pD).filter fun x => match x with | .tuple [_, .str a] => decide (a = y) | _ => false).map (fun x => match x with | .tuple [b, _] => b | _ => .none) = ((l.filter fun p => decide (p.2 = y)).map (·.1)).map .str := filter_p (fun _ => rfl) fun _ => rfl
theorem wJoined (M : MonoPh Φ) {f : Nat} (h : Φ f = sByHeight.sp) : Body sJoined (bJoined f) nJoined Φ C := by
  intro ts n Q X hq hl hp hQ hX
  match ts, hp with
  | [.d x, .d (.str y)], hp =>
    obtain ⟨D, rfl, ok⟩ := hp
    have hq2 := hQ ⟨.d (strsD (srtH D (nb D y))), true⟩ n ⟨rfl, fun D' e => by rw [Ld.d_inj e]⟩
    have hz : (sizeLine : Nat) = 16777216 := sizeLine_eq
    have hlp := ok.lep
    have ln := nb_len (x := y) ok
    have e : nb D y = _ := rfl
    conv at ln => lhs; unfold nb
    simp [bJoined, nJoined, ix_d2, srcW]
    refine lc_pure M (fun x => match x with | .tuple [.str a, _] => decide (a = y) | _ => false) (fun x => match x with | .tuple [_, b] => b | _ => .none) (by simp; omega) (fun x hx => ?_) ?_
    · obtain ⟨p, hp, rfl⟩ := List.mem_map.mp hx
      refine ⟨_, rfl, fun P h => ?_, fun _ P h => ?_⟩
      · simp [cndW_eq, cJoined_0, stA, wipeE, eqOk_str, eqv_str]
        exact h
      · simp [eltW_eq, stA, wipeE]
        exact h _
    · rw [two_lists]
      refine lc_pure M (fun x => match x with | .tuple [_, .str a] => decide (a = y) | _ => false) (fun x => match x with | .tuple [b, _] => b | _ => .none) (by simp; omega) (fun x hx => ?_) ?_
      · obtain ⟨p, hp, rfl⟩ := List.mem_map.mp hx
        refine ⟨_, rfl, fun P h => ?_, fun _ P h => ?_⟩
        · simp [cndW_eq, cJoined_1, stA, wipeE, eqOk_str, eqv_str]
          exact h
        · simp [eltW_eq, stA, wipeE]
          exact h _
      · rw [two_lists']
        rw [← List.map_append]
        refine ⟨by simp at ln ⊢; omega, ?_⟩
        show Φ f [.d D.d, .d (strsD (nb D y))] n Q X
        rw [h]
        refine ⟨rfl, ⟨D, _, rfl, rfl, fun a ha => (nb_in ok ha).1, by have := nb_len (x := y) ok; omega⟩, fun r n' hr => ?_, fun _ _ h => h.elim⟩
        obtain ⟨rfl, D', l', e1, e2, rfl⟩ := hr
        rw [← Ld.d_inj e1, ← strsD_inj e2]
        exact hq2
theorem wNexts (M : MonoPh Φ) : Body sNexts bNexts nNexts Φ C := by
  intro ts n Q X hq hl hp hQ hX
  match ts, hp with
  | [.d x, .d (.str y)], hp =>
    obtain ⟨D, rfl, ok⟩ := hp
    have hq2 := hQ ⟨.d (strsD ((nb D y).mergeSort leS)), true⟩ n ⟨rfl, fun D' e => by rw [Ld.d_inj e]⟩
    have hz : (sizeLine : Nat) = 16777216 := sizeLine_eq
    have hlp := ok.lep
    have ln := nb_len (x := y) ok
    conv at ln => lhs; unfold nb
    simp [bNexts, nNexts, ix_d2, srcW]
    refine lc_pure M (fun x => match x with | .tuple [.str a, _] => decide (a = y) | _ => false) (fun x => match x with | .tuple [_, b] => b | _ => .none) (by simp; omega) (fun x hx => ?_) ?_
    · obtain ⟨p, hp, rfl⟩ := List.mem_map.mp hx
      refine ⟨_, rfl, fun P h => ?_, fun _ P h => ?_⟩
      · simp [cndW_eq, cNexts_0, stA, wipeE, eqOk_str, eqv_str]
        exact h
      · simp [eltW_eq, stA, wipeE]
        exact h _
    · rw [two_lists]
      refine lc_pure M (fun x => match x with | .tuple [_, .str a] => decide (a = y) | _ => false) (fun x => match x with | .tuple [b, _] => b | _ => .none) (by simp; omega) (fun x hx => ?_) ?_
      · obtain ⟨p, hp, rfl⟩ := List.mem_map.mp hx
        refine ⟨_, rfl, fun P h => ?_, fun _ P h => ?_⟩
        · simp [cndW_eq, cNexts_1, stA, wipeE, eqOk_str, eqv_str]
          exact h
        · simp [eltW_eq, stA, wipeE]
          exact h _
      · rw [two_lists']
        rw [← List.map_append]
        refine ⟨by simp at ln ⊢; omega, ?_⟩
        show sortOk ((nb D y).map .str) ∧ Q ⟨.d (.list (((nb D y).map PyData.str).mergeSort (PySem.W.dataLe false id))), true⟩ n
        refine ⟨sortOk_strs (by have := nb_len (x := y) ok; omega), ?_⟩
        rw [strs_sort]
        exact hq2
/-! ### shuffled -/
def sShuf : Spc := { ar := 2, pre := (fun | [.gen, .d (.list xs)], n => xs.length ≤ 1000 ∧ n < 2 ^ 59 | _, _ => False), post := (fun | [.gen, .d (.list xs)], n => fun r n' => n ≤ n' ∧ n' ≤ n + 64 * xs.length ∧ ∃ ys : List PyData, ys.Perm xs ∧ r = ⟨.d (.list ys), true⟩ | _, _ => fun _ _ => False) }
theorem wShuf (M : MonoPh Φ) {f : Nat} (h : Φ f = sRand.sp) : Body sShuf (bShuf f) nShuf Φ C := by
  intro ts n Q X hq hl hp hQ hX
  match ts, hp with
  | [.gen, .d (.list xs)], hp =>
    obtain ⟨h1, h2⟩ := hp
    have hz : (sizeLine : Nat) = 16777216 := sizeLine_eq
    simp [bShuf, nShuf, datas, srcW]
    refine for_by M (fun i ρ m => n ≤ m ∧ m ≤ n + 64 * i ∧ ∃ (ys : List PyData) (t : Option (Bool × T)), ys.Perm (xs.take i) ∧ ρ = [some (false, .gen), some (false, .d (.list xs)), some (true, .d (.list ys)), t]) ⟨Nat.le_refl _, by omega, [], none, by simp, rfl⟩ (fun i ρ m x e h' => ?_) fun ρ m h' => ?_
    · obtain ⟨a1, a2, ys, t, pm, rfl⟩ := h'
      have hi : i < xs.length := (List.getElem?_eq_some_iff.mp e).1
      have ly : ys.length = i := by rw [pm.length_eq, List.length_take]; omega
      refine ⟨_, rfl, ?_⟩
      simp [lShuf_0, stA, biW]
      rw [h]
      refine ⟨rfl, ⟨by omega, by rw [ly]; exact Int.lt_of_le_of_lt (show (i : Int) + 1 ≤ 1001 by omega) (by decide +kernel), by omega⟩, fun r n' hr => ?_, fun _ _ h => h.elim⟩
      obtain ⟨b1, b2, z, z0, z1, rfl⟩ := hr
      simp
      refine ⟨by omega, by omega, by omega, ?_⟩
      rw [List.take_add_one, e]
      refine List.Perm.trans ?_ (List.Perm.append_right _ pm)
      have : ys = ys.take z.toNat ++ ys.drop z.toNat := (List.take_append_drop ..).symm
      conv => rhs; rw [this]
      simp only [Option.toList_some, List.append_assoc]
      exact List.Perm.append_left _ (List.perm_append_singleton _ _).symm
    · obtain ⟨a1, a2, ys, t, pm, rfl⟩ := h'
      rw [List.take_of_length_le (Nat.le_refl _)] at pm
      simp
      exact hQ _ _ ⟨a1, a2, ys, pm, rfl⟩
end
end HL

set_option Elab.async false
set_option linter.all false
set_option maxRecDepth 100000
set_option maxHeartbeats 4000000
/-! MF4: a map drawn. -/
namespace HL
open PySem PySem.Spec PyProof.Rows L2 TL
def names8 : List Str := ["a", "ab", "b", "c1", "d", "e", "hut", "z"]
theorem names8_nm : ∀ x ∈ names8, nmB (.str x) = true := by decide +kernel
theorem names8_nd : names8.Nodup := by decide +kernel
def unS : PyData → Str
  | .str z => z
  | _ => ""
def unI : PyData → Int
  | .int z => z
  | _ => 0
theorem perm_strs {ys : List PyData} {l : List Str} (h : ys.Perm (l.map .str)) : ∃ l' : List Str, l'.Perm l ∧ ys = l'.map .str := by
  refine ⟨ys.map unS, ?_, ?_⟩
  · have := h.map unS
    rw [List.map_map] at this
    have e : List.map (unS ∘ PyData.str) l = l := by
      conv => rhs; rw [← List.map_id l]
      exact List.map_congr_left fun _ _ => rfl
    rw [e] at this
    exact this
  · rw [List.map_map]
    conv => lhs; rw [← List.map_id ys]
    refine List.map_congr_left fun y hy => ?_
    obtain ⟨z, _, rfl⟩ := List.mem_map.mp (h.mem_iff.mp hy)
    rfl
theorem perm_intsD {ys : List PyData} {l : List Int} (h : ys.Perm (l.map .int)) : ∃ l' : List Int, l'.Perm l ∧ ys = l'.map .int := by
  refine ⟨ys.map unI, ?_, ?_⟩
  · have := h.map unI
    rw [List.map_map] at this
    have e : List.map (unI ∘ PyData.int) l = l := by
      conv => rhs; rw [← List.map_id l]
      exact List.map_congr_left fun _ _ => rfl
    rw [e] at this
    exact this
  · rw [List.map_map]
    conv => lhs; rw [← List.map_id ys]
    refine List.map_congr_left fun y hy => ?_
    obtain ⟨z, _, rfl⟩ := List.mem_map.mp (h.mem_iff.mp hy)
    rfl
theorem mergeD_acc : ∀ (l acc : List (Str × Int)), (acc ++ l).map (·.1) |>.Nodup → (l.map hD).foldl (fun acc p => dPut acc p.1 p.2) (acc.map hD) = (acc ++ l).map hD
  | [], acc, _ => by rw [List.append_nil]; rfl
  | p :: l, acc, h => by
    have e : dPut (acc.map hD) (hD p).1 (hD p).2 = (acc ++ [p]).map hD := by
      unfold dPut
      rw [if_neg]
      · rw [List.map_append]; rfl
      · rw [List.any_map]
        simp only [Bool.not_eq_true, List.any_eq_false]
        intro q hq
        refine Bool.eq_false_iff.mpr fun hk => ?_
        have : q.1 = p.1 := of_decide_eq_true hk
        rw [List.map_append, List.nodup_append] at h
        exact h.2.2 q.1 (List.mem_map_of_mem hq) p.1 (by simp) this
    rw [List.map_cons, List.foldl_cons, e, mergeD_acc l (acc ++ [p]) (by rw [List.append_assoc]; exact h), List.append_assoc]
    rfl
theorem zip_hD : ∀ (l : List Str) (hs : List Int), (l.map PyData.str).zip (hs.map PyData.int) = (l.zip hs).map hD
  | [], _ => by simp
  | _ :: _, [] => by simp
  | a :: l, h :: hs => by rw [List.map_cons, List.map_cons, List.zip_cons_cons, List.zip_cons_cons, List.map_cons, zip_hD l hs]; rfl
theorem map_fst_zip {l : List Str} {hs : List Int} (h : l.length = hs.length) : (l.zip hs).map (·.1) = l := List.map_fst_zip (by omega)
theorem map_snd_zip {l : List Str} {hs : List Int} (h : l.length = hs.length) : (l.zip hs).map (·.2) = hs := List.map_snd_zip (by omega)
theorem mergeD_zip {l : List Str} {hs : List Int} (h : l.length = hs.length) (nd : l.Nodup) : mergeD ((l.map PyData.str).zip (hs.map PyData.int)) = (l.zip hs).map hD := by
  rw [zip_hD]
  exact mergeD_acc (l.zip hs) [] (by rw [List.nil_append, map_fst_zip h]; exact nd)
/-! ### sorted names -/
theorem ltS_of {a b : Str} (h : leS a b = true) (hn : a ≠ b) : ltS a b = true := by
  unfold leS at h
  unfold ltS
  have h := of_decide_eq_true h
  refine decide_eq_true ?_
  rcases List.le_iff_lt_or_eq.mp h with k | k
  · exact k
  · exact absurd (PySem.W.str_of_cps k) hn
theorem srt_up {l : List Str} (h : l.Nodup) : (l.mergeSort leS).Pairwise fun a b => ltS a b = true := by
  have hs := List.pairwise_mergeSort leS_trans leS_total l
  have hn : (l.mergeSort leS).Nodup := (List.mergeSort_perm _ _).nodup_iff.mpr h
  exact List.Pairwise.imp₂ (fun a b h1 h2 => ltS_of h1 h2) hs hn
def sLand : Spc := { ar := 2, pre := (fun | [.gen, .d (.int m)], n => 1 ≤ m ∧ m ≤ 8 ∧ n < 2 ^ 58 | _, _ => False), post := (fun | [.gen, .d (.int m)], n => fun r n' => n ≤ n' ∧ n' ≤ n + 20000 ∧ ∃ D : Ld, LdOk D ∧ (D.hs.length : Int) ≤ m ∧ (∀ p ∈ D.hs, p.2.natAbs ≤ 10 ^ 9) ∧ D.ps.length ≤ 64 ∧ (∀ x ∈ D.names, x ∈ names8) ∧ r = ⟨.d D.d, false⟩ | _, _ => fun _ _ => False) }
section
variable {Φ : Nat → TSp} {C : Nat → PyData}
/-- one place's paths -/
theorem land_row (M : MonoPh Φ) {f g k : Nat} (h : Φ f = sRand.sp) {sl : List Str} {x : Str} {many : Int} {ρ : Ev} {n : Nat} {Q : List PyData → Nat → Prop} (hl : sl.length ≤ 8) (hn : n < 2 ^ 59) (h0 : ρ[0]? = some (some (false, .gen))) (h10 : ρ[10]? = some (some (false, .d (.str x)))) (h9 : ρ[9]? = some (some (false, .d (.int many)))) (h12 : ρ.length = 12)
    (q : ∀ (os : List Str) (m : Nat), n ≤ m → m ≤ n + 64 * 8 → os.Sublist sl → (∀ o ∈ os, ltS x o = true) → Q (os.map fun o => pD (x, o)) m) : lcGo (.nm 11) ρ (cndW Φ C (cLand_1 f g k)) (eltW Φ C (eLand_2 f g k)) Q (sl.map .str) [] n := by
  have hz : (sizeLine : Nat) = 16777216 := sizeLine_eq
  refine lc_by M (fun i acc m => n ≤ m ∧ m ≤ n + 64 * i ∧ ∃ os : List Str, acc = os.map (fun o => pD (x, o)) ∧ os.Sublist (sl.take i) ∧ ∀ o ∈ os, ltS x o = true) ⟨Nat.le_refl _, by omega, [], rfl, by simp, by simp⟩ (fun i acc m d e h' => ?_) fun acc m h' => ?_
  · obtain ⟨a1, a2, os, rfl, sb, lt⟩ := h'
    rw [List.getElem?_map] at e
    obtain ⟨y, ey, rfl⟩ := Option.map_eq_some_iff.mp e
    have hi : i < sl.length := (List.getElem?_eq_some_iff.mp ey).1
    have lo : os.length ≤ i := by
      have := sb.length_le
      rw [List.length_take] at this
      omega
    have sb1 : os.Sublist (sl.take (i + 1)) := by
      rw [List.take_add_one, ey]
      exact sb.trans (List.sublist_append_left _ _)
    refine ⟨_, rfl, ?_⟩
    have i0 : (stA false (.d (.str y)) 11 ρ)[0]? = some (some (false, .gen)) := by unfold stA; rw [List.getElem?_set_ne (by decide)]; exact h0
    have i9 : (stA false (.d (.str y)) 11 ρ)[9]? = some (some (false, .d (.int many))) := by unfold stA; rw [List.getElem?_set_ne (by decide)]; exact h9
    have i10 : (stA false (.d (.str y)) 11 ρ)[10]? = some (some (false, .d (.str x))) := by unfold stA; rw [List.getElem?_set_ne (by decide)]; exact h10
    have i11 : (stA false (.d (.str y)) 11 ρ)[11]? = some (some (false, .d (.str y))) := by unfold stA; rw [List.getElem?_set_self (by omega)]
    simp [cndW_eq, cLand_1, i0, i9, i10, i11, ltOk_str, lt_str]
    cases hb : ltS x y with
    | false =>
      simp
      exact ⟨a1, by omega, os, rfl, sb1, lt⟩
    | true =>
      simp
      rw [h]
      refine ⟨rfl, ⟨by decide, by decide +kernel, by omega⟩, fun r n' hr => ?_, fun _ _ h => h.elim⟩
      obtain ⟨b1, b2, z, _, _, rfl⟩ := hr
      simp [ltOk_int, PySem.W.dataLt_int]
      split
      · simp [eltW_eq, eLand_2, i10, i11, datas]
        refine ⟨by omega, by omega, by omega, by omega, os ++ [y], by simp [pD], ?_, ?_⟩
        · rw [List.take_add_one, ey]
          exact List.Sublist.append sb (List.Sublist.refl _)
        · intro o ho
          rcases List.mem_append.mp ho with ho | ho
          · exact lt o ho
          · obtain rfl : o = y := by simpa using ho
            exact hb
      · exact ⟨by omega, by omega, os, rfl, sb1, lt⟩
  · obtain ⟨a1, a2, os, rfl, sb, lt⟩ := h'
    rw [List.length_map] at sb a2
    rw [List.take_of_length_le (Nat.le_refl _)] at sb
    exact q os m a1 (by omega) sb lt
theorem land5 (M : MonoPh Φ) {f g k : Nat} (h : Φ f = sRand.sp) {l : List Str} {hs : List Int} {many : Int} {a1 a3 a4 a5 a6 : Option (Bool × T)} {n : Nat} {Q : QE} {X : TL.XE} (hl : l.length ≤ 8) (h1 : 0 < l.length) (hlen : l.length = hs.length) (nd : l.Nodup) (nh : hs.Nodup) (hb : ∀ a ∈ hs, a.natAbs ≤ 10 ^ 9) (hin : ∀ x ∈ l, x ∈ names8) (hn : n < 2 ^ 58 + 10000)
    (q : ∀ (D : Ld) (m : Nat), n ≤ m → m ≤ n + 5000 → LdOk D → D.hs = l.zip hs → D.ps.length ≤ 64 → Q ⟨.d D.d, false⟩ m) :
    wpSs Φ C X (tLand_5 f g k) (endD Q) [some (false, .gen), a1, some (false, .d (.list (l.map .str))), a3, a4, a5, a6, some (false, .d (.dict ((l.zip hs).map hD))), some (false, .d (.list [])), some (false, .d (.int many)), none, none] n := by
  have hz : (sizeLine : Nat) = 16777216 := sizeLine_eq
  have so := sortOk_strs (l := l) (by omega)
  have up := srt_up nd
  have ml : ∀ x, x ∈ l.mergeSort leS ↔ x ∈ l := fun x => List.mem_mergeSort
  simp [tLand_5, srcW, strs_sort, so]
  refine for_by M (fun i ρ m => n ≤ m ∧ m ≤ n + 512 * i ∧ ∃ (ps : List (Str × Str)) (b : Bool) (a10 a11 : Option (Bool × T)), ρ = [some (false, .gen), a1, some (false, .d (.list (l.map .str))), a3, a4, a5, a6, some (false, .d (.dict ((l.zip hs).map hD))), some (b, .d (.list (ps.map pD))), some (false, .d (.int many)), a10, a11] ∧
    ps.length ≤ 8 * i ∧ (∀ p ∈ ps, p.1 ∈ (l.mergeSort leS).take i ∧ p.2 ∈ l ∧ ltS p.1 p.2 = true) ∧ ps.Pairwise fun p q => ltP p q = true) ⟨Nat.le_refl _, by omega, [], false, none, none, rfl, by simp, by simp, .nil⟩ (fun i ρ m d e h' => ?_) fun ρ m h' => ?_
  · obtain ⟨b1, b2, ps, b, a10, a11, rfl, c1, c2, c3⟩ := h'
    rw [List.getElem?_map] at e
    obtain ⟨x, ex, rfl⟩ := Option.map_eq_some_iff.mp e
    have hi : i < (l.mergeSort leS).length := (List.getElem?_eq_some_iff.mp ex).1
    rw [List.length_mergeSort] at hi
    have hx : x ∈ l := (ml x).mp (List.mem_of_getElem? ex)
    refine ⟨_, rfl, ?_⟩
    cases b <;> simp [lLand_3, stA, srcW, strs_sort, so]
    all_goals
      refine land_row (n := m) (sl := l.mergeSort leS) M h (x := x) (many := many) (by rw [List.length_mergeSort]; exact hl) (by omega) ?_ ?_ ?_ ?_ fun os m' d1 d2 sb lt => ?_
      · rfl
      · rfl
      · rfl
      · rfl
      have lo : os.length ≤ 8 := by
        have := sb.length_le
        rw [List.length_mergeSort] at this
        omega
      simp
      refine ⟨by omega, by omega, by omega, ps ++ os.map (fun o => (x, o)), ?_, by simp; omega, fun p p2 hp => ?_, ?_⟩
      · simp [pD, Function.comp_def]
      · rw [List.take_add_one, ex]
        rcases List.mem_append.mp hp with hp | hp
        · obtain ⟨e1, e2, e3⟩ := c2 _ hp
          exact ⟨List.mem_append_left _ e1, e2, e3⟩
        · obtain ⟨o, ho, e⟩ := List.mem_map.mp hp
          cases e
          exact ⟨by simp, (ml _).mp (sb.subset ho), lt _ ho⟩
      · refine List.pairwise_append.mpr ⟨c3, ?_, fun p hp p' hp' => ?_⟩
        · rw [List.pairwise_map]
          refine (up.sublist sb).imp fun {a b} e => ?_
          unfold ltP
          simp [e]
        · obtain ⟨o, ho, rfl⟩ := List.mem_map.mp hp'
          have e1 := (c2 p hp).1
          obtain ⟨j, hj, ej⟩ : ∃ j, j < i ∧ (l.mergeSort leS)[j]? = some p.1 := by
            obtain ⟨j, hj⟩ := List.getElem?_of_mem e1
            rw [List.getElem?_take] at hj
            split at hj
            · exact ⟨j, ‹_›, hj⟩
            · cases hj
          unfold ltP
          have : ltS p.1 x = true := by
            obtain ⟨w1, w2⟩ := List.getElem?_eq_some_iff.mp ej
            obtain ⟨w3, w4⟩ := List.getElem?_eq_some_iff.mp ex
            rw [← w2, ← w4]
            exact List.pairwise_iff_getElem.mp up j i w1 w3 hj
          simp [this]
  · obtain ⟨b1, b2, ps, b, a10, a11, rfl, c1, c2, c3⟩ := h'
    rw [List.length_map, List.length_mergeSort] at b2 c1
    simp [tLand_4, datas]
    refine ⟨by omega, ?_⟩
    have en : (l.zip hs).map (·.1) = l := map_fst_zip hlen
    refine q ⟨l.zip hs, ps⟩ m b1 (by omega) ⟨?_, ?_, ?_, ?_, ?_, ?_, ?_, c3, ?_⟩ rfl (by show ps.length ≤ 64; omega)
    · show 0 < (l.zip hs).length
      rw [List.length_zip]; omega
    · show (l.zip hs).length ≤ 60
      rw [List.length_zip]; omega
    · intro x hx
      have hx : x ∈ (l.zip hs).map (·.1) := hx
      rw [en] at hx
      exact names8_nm x (hin x hx)
    · show ((l.zip hs).map (·.1)).Nodup
      rw [en]; exact nd
    · show ((l.zip hs).map (·.2)).Nodup
      rw [map_snd_zip hlen]; exact nh
    · intro p hp
      have : p.2 ∈ hs := by
        rw [← map_snd_zip hlen]
        exact List.mem_map_of_mem hp
      exact Nat.lt_of_le_of_lt (hb _ this) (by decide +kernel)
    · intro p hp
      obtain ⟨e1, e2, e3⟩ := c2 p hp
      refine ⟨?_, ?_, e3⟩
      · show p.1 ∈ (l.zip hs).map (·.1)
        rw [en]; exact (ml _).mp (List.mem_of_mem_take e1)
      · show p.2 ∈ (l.zip hs).map (·.1)
        rw [en]; exact e2
    · show ps.length ≤ 2000
      omega
theorem cut_head {xs : List PyData} {j : Int} (h0 : 0 ≤ j) : TL.cutD xs none (some j) = xs.take j.toNat := by
  unfold TL.cutD
  rw [HT.sIx_none]
  have : HT.sIx xs.length xs.length (some j) = min j.toNat xs.length := by
    have := HT.sIx_nat xs.length xs.length j.toNat
    rw [Int.toNat_of_nonneg h0] at this
    exact this
  rw [this, List.drop_zero, Nat.sub_zero]
  by_cases h : j.toNat ≤ xs.length
  · rw [Nat.min_eq_left h]
  · rw [Nat.min_eq_right (by omega), List.take_of_length_le (Nat.le_refl _), List.take_of_length_le (by omega)]
theorem wLand (M : MonoPh Φ) {f g k : Nat} (h : Φ f = sRand.sp) (h2 : Φ g = sPick.sp) (h3 : Φ k = sShuf.sp) : Body sLand (bLand f g k) nLand Φ C := by
  intro ts n Q X hq hl hp hQ hX
  match ts, hp with
  | [.gen, .d (.int most)], hp =>
    obtain ⟨m1, m2, hn⟩ := hp
    have hz : (sizeLine : Nat) = 16777216 := sizeLine_eq
    simp [bLand, nLand, datas]
    refine ⟨by omega, ?_⟩
    rw [h3]
    refine ⟨rfl, ⟨by decide, by omega⟩, fun r n1 hr => ?_, fun _ _ h => h.elim⟩
    obtain ⟨b1, b2, ys, pm, rfl⟩ := hr
    obtain ⟨l8, p8, rfl⟩ := perm_strs (l := names8) pm
    have b2 : n1 ≤ n + 64 * 8 := b2
    simp [bnd, isNoB]
    rw [h]
    refine ⟨rfl, ⟨by omega, Int.lt_of_le_of_lt m2 (by decide +kernel), by omega⟩, fun r n2 hr => ?_, fun _ _ h => h.elim⟩
    obtain ⟨b3, b4, z, z0, z1, rfl⟩ := hr
    have l8l : l8.length = 8 := p8.length_eq
    obtain ⟨l, hll⟩ : ∃ l, l8.take (1 + z).toNat = l := ⟨_, rfl⟩
    have ec : TL.cutD (l8.map PyData.str) none (some (1 + z)) = l.map .str := by rw [cut_head (by omega), ← List.map_take, hll]
    simp [slW, ec]
    have ll : l.length = (1 + z).toNat := by rw [← hll, List.length_take, l8l]; omega
    have l8' : l.length ≤ 8 := by rw [ll]; omega
    have nd : l.Nodup := by
      rw [← hll]
      exact ((p8.nodup_iff.mpr names8_nd).sublist (List.take_sublist _ _))
    have hin : ∀ x ∈ l, x ∈ names8 := fun x hx => p8.mem_iff.mp (List.mem_of_mem_take (by rw [hll]; exact hx))
    simp [tLand_8, datas, Builtin.Int.intBits]
    refine ⟨by decide +kernel, by omega, ?_⟩
    rw [h2]
    refine ⟨rfl, ⟨rfl, by decide, by decide, by omega⟩, fun r n3 hr => ?_, fun _ _ h => h.elim⟩
    obtain ⟨b5, b6, st, hst, rfl⟩ := hr
    have hst : ∃ s : Int, st = .int s ∧ 1 ≤ s ∧ s ≤ 10000000 := by
      simp [its] at hst
      rcases hst with rfl | rfl | rfl | rfl <;> exact ⟨_, rfl, by decide, by decide⟩
    obtain ⟨s, rfl, s1, s2⟩ := hst
    simp
    rw [h]
    refine ⟨rfl, ⟨by decide, by decide +kernel, by omega⟩, fun r n4 hr => ?_, fun _ _ h => h.elim⟩
    obtain ⟨b7, b8, y, y0, y1, rfl⟩ := hr
    simp [datas, slot, tLand_7, srcW]
    refine for_by M (fun i ρ m => n4 ≤ m ∧ m ≤ n4 + 64 * i ∧ ∃ (hs : List Int) (t : Int) (a6 : Option (Bool × T)), ρ = [some (false, .gen), some (false, .d (.int most)), some (false, .d (.list (l.map .str))), some (false, .d (.int s)), some (false, .d (.int t)), some (true, .d (.list (hs.map .int))), a6, none, none, none, none, none] ∧
      hs.length = i ∧ hs.Nodup ∧ (∀ a ∈ hs, a ≤ t ∧ -20 ≤ a) ∧ -20 ≤ t ∧ t ≤ 20 + 10000001 * (i : Int)) ⟨Nat.le_refl _, by omega, [], y - 20, none, rfl, rfl, .nil, by simp, by omega, by omega⟩ (fun i ρ m d e h' => ?_) fun ρ m h' => ?_
    · obtain ⟨c1, c2, hs, t, a6, rfl, d1, d2, d3, d4, d5⟩ := h'
      have hi : i < l.length := by
        have := (List.getElem?_eq_some_iff.mp e).1
        simpa using this
      refine ⟨_, rfl, ?_⟩
      simp [lLand_0, stA]
      rw [h]
      refine ⟨rfl, ⟨by omega, Int.lt_of_le_of_lt s2 (by decide +kernel), by omega⟩, fun r n' hr => ?_, fun _ _ h => h.elim⟩
      obtain ⟨f1, f2, w, w0, w1, rfl⟩ := hr
      simp
      refine ⟨by omega, by omega, by omega, hs ++ [t + 1 + w], t + 1 + w, ⟨rfl, by simp⟩, by simp [d1], ?_, ?_, by omega, ?_⟩
      · refine List.nodup_append.mpr ⟨d2, by simp, fun a ha b hb => ?_⟩
        obtain rfl : b = t + 1 + w := by simpa using hb
        have := (d3 a ha).1
        omega
      · intro a ha
        rcases List.mem_append.mp ha with ha | ha
        · have := d3 a ha
          omega
        · obtain rfl : a = t + 1 + w := by simpa using ha
          omega
      · have : ((i + 1 : Nat) : Int) = i + 1 := by omega
        omega
    · obtain ⟨c1, c2, hs, t, a6, rfl, d1, d2, d3, d4, d5⟩ := h'
      rw [List.length_map] at c2 d1 d5
      simp [tLand_6]
      rw [h3]
      refine ⟨rfl, ⟨by simp; omega, by omega⟩, fun r n5 hr => ?_, fun _ _ h => h.elim⟩
      obtain ⟨g1, g2, ys, pm2, rfl⟩ := hr
      obtain ⟨hs', p9, rfl⟩ := perm_intsD pm2
      rw [List.length_map] at g2
      have e9 : l.length = hs'.length := by rw [p9.length_eq]; exact d1.symm
      simp
      refine ⟨fun a _ => trivial, ?_⟩
      rw [mergeD_zip e9 nd]
      simp [datas]
      rw [h]
      refine ⟨rfl, ⟨by decide, by decide +kernel, by omega⟩, fun r n6 hr => ?_, fun _ _ h => h.elim⟩
      obtain ⟨g3, g4, mn, _, _, rfl⟩ := hr
      simp [asgD, setAll, stA]
      refine ⟨_, ⟨_, rfl, rfl⟩, by show 3 ≤ _; omega, _, rfl, ?_⟩
      refine land5 (n := n6) M h (by omega) (by omega) e9 nd (p9.nodup_iff.mpr d2) (fun a ha => ?_) hin (by omega) fun D m' k1 k2 k3 k4 k5 => ?_
      · have := d3 a (p9.mem_iff.mp ha)
        have : (10 : Nat) ^ 9 = 1000000000 := by decide
        omega
      · have k6 : D.names = l := by unfold Ld.names; rw [k4, map_fst_zip e9]
        refine hQ _ _ ⟨by omega, by omega, D, k3, ?_, fun p hp => ?_, k5, fun x hx => hin x (by rw [← k6]; exact hx), rfl⟩
        · rw [k4, List.length_zip]; omega
        · rw [k4] at hp
          have : p.2 ∈ hs' := by
            rw [← map_snd_zip e9]
            exact List.mem_map_of_mem hp
          have := d3 p.2 (p9.mem_iff.mp this)
          have : (10 : Nat) ^ 9 = 1000000000 := by decide
          omega
end
end HL

set_option Elab.async false
set_option linter.all false
set_option maxRecDepth 100000
set_option maxHeartbeats 2000000
namespace K51
open PySem PySem.Spec PyProof.Rows L2 TL HL
def top (i : Nat) : Stmt := PySem.Challenge.pw_heightbook_k51_whole_climbs_of_ways.main.body.getD i (.Pass ⟨0, 0, 0, 0⟩)
/-- is_whole -/
abbrev n0 : List Str := ["value"]
abbrev p0 : List Str := ["value"]
abbrev s0 : Stmt := top 8
def b0 : Ss := HL.bWhole 
/-- is_signs -/
abbrev n1 : List Str := ["value", "signs", "sign"]
abbrev p1 : List Str := ["value", "signs"]
abbrev s1 : Stmt := top 9
def b1 : Ss := HL.bSigns 
/-- is_name -/
abbrev n2 : List Str := ["value"]
abbrev p2 : List Str := ["value"]
abbrev s2 : Stmt := top 10
def b2 : Ss := HL.bName 1 0 1 2
/-- ascends -/
abbrev n3 : List Str := ["items", "at"]
abbrev p3 : List Str := ["items"]
abbrev s3 : Stmt := top 11
def b3 : Ss := HL.bAsc 
/-- is_path_of -/
abbrev n4 : List Str := ["heights", "value", "name"]
abbrev p4 : List Str := ["heights", "value"]
abbrev s4 : Stmt := top 13
def b4 : Ss := HL.bPathOf 
/-- are_heights -/
abbrev n5 : List Str := ["value", "place"]
abbrev p5 : List Str := ["value"]
abbrev s5 : Stmt := top 14
def b5 : Ss := HL.bHeights 2 0 3
/-- is_map -/
abbrev n6 : List Str := ["value", "path"]
abbrev p6 : List Str := ["value"]
abbrev s6 : Stmt := top 15
def b6 : Ss := HL.bIsMap 4 5 3
/-- check_map -/
abbrev n7 : List Str := ["land"]
abbrev p7 : List Str := ["land"]
abbrev s7 : Stmt := top 16
def b7 : Ss := HL.bChkMap 6
/-- is_place_of -/
abbrev n8 : List Str := ["land", "value"]
abbrev p8 : List Str := ["land", "value"]
abbrev s8 : Stmt := top 17
def b8 : Ss := HL.bPlaceOf 
/-- by_height -/
abbrev n9 : List Str := ["land", "places", "place"]
abbrev p9 : List Str := ["land", "places"]
abbrev s9 : Stmt := top 18
def b9 : Ss := HL.bByHeight 
/-- joined_to -/
abbrev n10 : List Str := ["land", "place", "found", "one", "other"]
abbrev p10 : List Str := ["land", "place"]
abbrev s10 : Stmt := top 19
def b10 : Ss := HL.bJoined 9
/-- is_way_in -/
abbrev n11 : List Str := ["land", "value", "place", "at"]
abbrev p11 : List Str := ["land", "value"]
abbrev s11 : Stmt := top 21
def e11_0 : E := (.call 8 (.cons (.v 0) (.cons (.v 2) .nil)))
def e11_1 : E := (.cmp .in_ (.ix (.v 1) (.v 3)) (.call 10 (.cons (.v 0) (.cons (.ix (.v 1) (.bin .sub (.v 3) (.c (.int 1)))) .nil))))
def b11 : Ss := (.cons [] (.ite (.or (.not (.isi (.v 1) .list)) (.or (.cmp .eq (.v 1) (.lst .nil)) (.not (.bi .all (.cons (.lc [2] (.nm 2) .seq (.cons (.v 1) .nil) (.c (.bool true)) e11_0) .nil)))))
  (.cons [] (.ret (.c (.bool false)))
  .nil) .nil)
  (.cons [] (.ret (.bi .all (.cons (.lc [3] (.nm 3) .rng2 (.cons (.c (.int 1)) (.cons (.bi .len (.cons (.v 1) .nil)) .nil)) (.c (.bool true)) e11_1) .nil)))
  .nil))
/-- is_way -/
abbrev n12 : List Str := ["land", "value"]
abbrev p12 : List Str := ["land", "value"]
abbrev s12 : Stmt := top 22
def b12 : Ss := (.cons [] (.ex (.call 7 (.cons (.v 0) .nil)))
  (.cons [] (.ret (.call 11 (.cons (.v 0) (.cons (.v 1) .nil))))
  .nil))
/-- check_way -/
abbrev n13 : List Str := ["land", "way"]
abbrev p13 : List Str := ["land", "way"]
abbrev s13 : Stmt := top 23
def b13 : Ss := (.cons [] (.ex (.call 7 (.cons (.v 0) .nil)))
  (.cons [] (.ite (.not (.call 11 (.cons (.v 0) (.cons (.v 1) .nil))))
  (.cons [] .no
  .nil) .nil)
  .nil))
/-- rise_to -/
abbrev n14 : List Str := ["land", "one", "other"]
abbrev p14 : List Str := ["land", "one", "other"]
abbrev s14 : Stmt := top 24
def b14 : Ss := (.cons [] (.ret (.bi .max2 (.cons (.c (.int 0)) (.cons (.bin .sub (.ix (.ix (.v 0) (.c (.int 1))) (.v 2)) (.ix (.ix (.v 0) (.c (.int 1))) (.v 1))) .nil))))
  .nil)
/-- climb_in -/
abbrev n15 : List Str := ["land", "way", "at"]
abbrev p15 : List Str := ["land", "way"]
abbrev s15 : Stmt := top 25
def e15_0 : E := (.call 14 (.cons (.v 0) (.cons (.ix (.v 1) (.bin .sub (.v 2) (.c (.int 1)))) (.cons (.ix (.v 1) (.v 2)) .nil))))
def b15 : Ss := (.cons [] (.ret (.bi .sum (.cons (.lc [2] (.nm 2) .rng2 (.cons (.c (.int 1)) (.cons (.bi .len (.cons (.v 1) .nil)) .nil)) (.c (.bool true)) e15_0) .nil)))
  .nil)
/-- climb_of -/
abbrev n16 : List Str := ["land", "way"]
abbrev p16 : List Str := ["land", "way"]
abbrev s16 : Stmt := top 26
def b16 : Ss := (.cons [] (.ex (.call 13 (.cons (.v 0) (.cons (.v 1) .nil))))
  (.cons [] (.ret (.call 15 (.cons (.v 0) (.cons (.v 1) .nil))))
  .nil))
/-- fall_of -/
abbrev n17 : List Str := ["land", "way"]
abbrev p17 : List Str := ["land", "way"]
abbrev s17 : Stmt := top 27
def b17 : Ss := (.cons [] (.ex (.call 13 (.cons (.v 0) (.cons (.v 1) .nil))))
  (.cons [] (.ret (.call 15 (.cons (.v 0) (.cons (.rev (.v 1)) .nil))))
  .nil))
/-- roof_in -/
abbrev n18 : List Str := ["land", "way", "place"]
abbrev p18 : List Str := ["land", "way"]
abbrev s18 : Stmt := top 28
def e18_0 : E := (.ix (.ix (.v 0) (.c (.int 1))) (.v 2))
def b18 : Ss := (.cons [] (.ret (.bi .max1 (.cons (.lc [2] (.nm 2) .seq (.cons (.v 1) .nil) (.c (.bool true)) e18_0) .nil)))
  .nil)
/-- roof_of -/
abbrev n19 : List Str := ["land", "way"]
abbrev p19 : List Str := ["land", "way"]
abbrev s19 : Stmt := top 29
def b19 : Ss := (.cons [] (.ex (.call 13 (.cons (.v 0) (.cons (.v 1) .nil))))
  (.cons [] (.ret (.call 18 (.cons (.v 0) (.cons (.v 1) .nil))))
  .nil))
/-- _law_cell -/
abbrev n20 : List Str := ["script", "index"]
abbrev p20 : List Str := ["script", "index"]
abbrev s20 : Stmt := top 31
def b20 : Ss := HL.bCell 
/-- _law_hash -/
abbrev n21 : List Str := ["seed", "index", "mixed"]
abbrev p21 : List Str := ["seed", "index"]
abbrev s21 : Stmt := top 32
def b21 : Ss := HL.bHash 
/-- _law_random -/
abbrev n22 : List Str := ["generator", "bound", "drawn", "turn"]
abbrev p22 : List Str := ["generator", "bound"]
abbrev s22 : Stmt := top 33
def b22 : Ss := HL.bRand 21
/-- _law_generator -/
abbrev n23 : List Str := ["script", "index", "seed"]
abbrev p23 : List Str := ["script", "index"]
abbrev s23 : Stmt := top 34
def b23 : Ss := HL.bGen 20
/-- _law_pick -/
abbrev n24 : List Str := ["generator", "some"]
abbrev p24 : List Str := ["generator", "some"]
abbrev s24 : Stmt := top 35
def b24 : Ss := HL.bPick 22
/-- _law_shuffled -/
abbrev n25 : List Str := ["generator", "some", "found", "thing"]
abbrev p25 : List Str := ["generator", "some"]
abbrev s25 : Stmt := top 36
def b25 : Ss := HL.bShuf 22
/-- _law_land -/
abbrev n26 : List Str := ["generator", "most", "names", "step", "height", "heights", "name", "table", "paths", "many", "one", "other"]
abbrev p26 : List Str := ["generator", "most"]
abbrev s26 : Stmt := top 37
def b26 : Ss := HL.bLand 22 24 25
/-- _law_nexts -/
abbrev n27 : List Str := ["land", "place", "one", "other"]
abbrev p27 : List Str := ["land", "place"]
abbrev s27 : Stmt := top 38
def b27 : Ss := HL.bNexts 
/-- _law_is_way -/
abbrev n28 : List Str := ["land", "value", "place", "at"]
abbrev p28 : List Str := ["land", "value"]
abbrev s28 : Stmt := top 39
def c28_0 : E := (.or (.not (.isi (.v 2) .str)) (.cmp .nin (.v 2) (.ix (.v 0) (.c (.int 1)))))
def c28_1 : E := (.cmp .nin (.ix (.v 1) (.v 3)) (.call 27 (.cons (.v 0) (.cons (.ix (.v 1) (.bin .sub (.v 3) (.c (.int 1)))) .nil))))
def b28 : Ss := (.cons [] (.ite (.or (.not (.isi (.v 1) .list)) (.or (.cmp .eq (.v 1) (.lst .nil)) (.cmp .ne (.lc [2] (.nm 2) .seq (.cons (.v 1) .nil) c28_0 (.v 2)) (.lst .nil))))
  (.cons [] (.ret (.c (.bool false)))
  .nil) .nil)
  (.cons [] (.ret (.cmp .eq (.lc [3] (.nm 3) .rng2 (.cons (.c (.int 1)) (.cons (.bi .len (.cons (.v 1) .nil)) .nil)) c28_1 (.v 3)) (.lst .nil)))
  .nil))
/-- _law_climb -/
abbrev n29 : List Str := ["land", "way", "at"]
abbrev p29 : List Str := ["land", "way"]
abbrev s29 : Stmt := top 40
def e29_0 : E := (.bi .max2 (.cons (.c (.int 0)) (.cons (.bin .sub (.ix (.ix (.v 0) (.c (.int 1))) (.ix (.v 1) (.v 2))) (.ix (.ix (.v 0) (.c (.int 1))) (.ix (.v 1) (.bin .sub (.v 2) (.c (.int 1)))))) .nil)))
def b29 : Ss := (.cons [] (.ret (.bi .sum (.cons (.lc [2] (.nm 2) .rng2 (.cons (.c (.int 1)) (.cons (.bi .len (.cons (.v 1) .nil)) .nil)) (.c (.bool true)) e29_0) .nil)))
  .nil)
/-- _law_roof -/
abbrev n30 : List Str := ["land", "way", "place"]
abbrev p30 : List Str := ["land", "way"]
abbrev s30 : Stmt := top 41
def e30_0 : E := (.ix (.ix (.v 0) (.c (.int 1))) (.v 2))
def b30 : Ss := (.cons [] (.ret (.bi .max1 (.cons (.lc [2] (.nm 2) .seq (.cons (.v 1) .nil) (.c (.bool true)) e30_0) .nil)))
  .nil)
/-- _law_walk -/
abbrev n31 : List Str := ["generator", "land", "steps", "way", "turn", "nexts"]
abbrev p31 : List Str := ["generator", "land", "steps"]
abbrev s31 : Stmt := top 42
def l31_0 : Ss := (.cons [] (.set 5 (.call 27 (.cons (.v 1) (.cons (.ix (.w 3) (.neg (.c (.int 1)))) .nil))))
  (.cons [3, 5] (.set 3 (.ife (.cmp .ne (.w 5) (.lst .nil)) (.bin .add (.w 3) (.lst (.cons (.call 24 (.cons (.v 0) (.cons (.v 5) .nil))) .nil))) (.v 3)))
  .nil))
def b31 : Ss := (.cons [] (.set 3 (.lst (.cons (.call 24 (.cons (.v 0) (.cons (.bi .sorted (.cons (.ix (.v 1) (.c (.int 1))) .nil)) .nil))) .nil)))
  (.cons [] (.for_ (.nm 4) .rng1 (.cons (.v 2) .nil) l31_0)
  (.cons [3] (.ret (.v 3))
  .nil)))
/-- _law_values -/
abbrev n32 : List Str := ["generator", "land", "way", "at", "found", "place"]
abbrev p32 : List Str := ["generator", "land", "way"]
abbrev s32 : Stmt := top 43
def l32_0 : Ss := (.cons [] (.app 4 (.bin .add (.bin .add (.sl (.v 2) (.c .none) (.w 3)) (.lst (.cons (.v 5) .nil))) (.sl (.v 2) (.bin .add (.w 3) (.c (.int 1))) (.c .none))))
  .nil)
def b32 : Ss := (.cons [] (.set 3 (.call 22 (.cons (.v 0) (.cons (.bi .len (.cons (.v 2) .nil)) .nil))))
  (.cons [] (.set 4 (.lst (.cons (.v 2) (.cons (.rev (.v 2)) (.cons (.bin .add (.v 2) (.sl (.v 2) (.neg (.c (.int 1))) (.c .none))) (.cons (.bin .add (.sl (.v 2) (.c .none) (.w 3)) (.sl (.v 2) (.bin .add (.w 3) (.c (.int 1))) (.c .none))) (.cons (.bi .tuple (.cons (.v 2) .nil)) (.cons (.c .none) (.cons (.tup .nil) (.cons (.dct []) (.cons (.lst .nil) (.cons (.c (.str "way")) (.cons (.bin .add (.v 2) (.lst (.cons (.c (.str "zz")) .nil))) (.cons (.bin .add (.v 2) (.lst (.cons (.c .none) .nil))) (.cons (.lst (.cons (.v 2) .nil)) (.cons (.lst (.cons (.ix (.v 2) (.c (.int 0))) .nil)) (.cons (.bin .add (.bin .add (.sl (.v 2) (.c .none) (.w 3)) (.lst (.cons (.c (.int 7)) .nil))) (.sl (.v 2) (.bin .add (.w 3) (.c (.int 1))) (.c .none))) .nil)))))))))))))))))
  (.cons [] (.for_ (.nm 5) .seq (.cons (.bi .sorted (.cons (.ix (.v 1) (.c (.int 1))) .nil)) .nil) l32_0)
  (.cons [] (.ret (.bin .add (.w 4) (.lst (.cons (.bin .add (.bin .add (.sl (.v 2) (.c .none) (.w 3)) (.lst (.cons (.lst (.cons (.ix (.v 2) (.w 3)) .nil)) .nil))) (.sl (.v 2) (.bin .add (.w 3) (.c (.int 1))) (.c .none))) (.cons (.bin .add (.bin .add (.sl (.v 2) (.c .none) (.w 3)) (.lst (.cons (.tup (.cons (.ix (.v 2) (.w 3)) .nil)) .nil))) (.sl (.v 2) (.bin .add (.w 3) (.c (.int 1))) (.c .none))) (.cons (.c (.bool true)) (.cons (.c (.int 7)) .nil)))))))
  .nil))))
/-- _law_right -/
abbrev n33 : List Str := ["generator", "land", "kept", "way", "climb", "fall", "roof", "told", "value", "due", "shown"]
abbrev p33 : List Str := ["generator"]
abbrev s33 : Stmt := top 44
def l33_0 : Ss := (.cons [1] (.par [9, 10] (.cons (.call 28 (.cons (.v 1) (.cons (.v 8) .nil))) (.cons (.bi .repr (.cons (.v 8) .nil)) .nil)))
  (.cons [1, 9] (.ite (.or (.cmp .ne (.bi .repr (.cons (.lst (.cons (.call 12 (.cons (.v 1) (.cons (.v 8) .nil))) (.cons (.callk 12 .nil [1, 0] (.cons (.v 8) (.cons (.v 1) .nil))) .nil))) .nil)) (.bi .repr (.cons (.lst (.cons (.v 9) (.cons (.v 9) .nil))) .nil))) (.cmp .ne (.bi .repr (.cons (.v 8) .nil)) (.v 10)))
  (.cons [] (.ret (.c (.bool false)))
  .nil) .nil)
  .nil))
def t33_1 : Ss := (.cons [] (.ret (.cmp .eq (.bi .repr (.cons (.w 1) .nil)) (.v 2)))
  .nil)
def t33_2 : Ss := (.cons [1, 3] (.for_ (.nm 8) .seq (.cons (.call 32 (.cons (.v 0) (.cons (.v 1) (.cons (.v 3) .nil)))) .nil) l33_0)
  t33_1)
def t33_3 : Ss := (.cons [1, 4, 5] (.ite (.or (.cmp .ne (.bin .sub (.w 4) (.w 5)) (.bin .sub (.ix (.ix (.w 1) (.c (.int 1))) (.ix (.w 3) (.neg (.c (.int 1))))) (.ix (.ix (.w 1) (.c (.int 1))) (.ix (.w 3) (.c (.int 0)))))) (.cmp .ne (.lst (.cons (.call 16 (.cons (.v 1) (.cons (.rev (.w 3)) .nil))) (.cons (.call 17 (.cons (.v 1) (.cons (.rev (.w 3)) .nil))) .nil))) (.lst (.cons (.v 5) (.cons (.v 4) .nil)))))
  (.cons [] (.ret (.c (.bool false)))
  .nil) .nil)
  t33_2)
def t33_4 : Ss := (.cons [4, 5, 6] (.ite (.cmp .ne (.bi .repr (.cons (.w 7) .nil)) (.bi .repr (.cons (.lst (.cons (.v 4) (.cons (.v 4) (.cons (.v 5) (.cons (.v 5) (.cons (.v 6) (.cons (.v 6) .nil))))))) .nil)))
  (.cons [] (.ret (.c (.bool false)))
  .nil) .nil)
  t33_3)
def t33_5 : Ss := (.cons [1, 3] (.set 7 (.lst (.cons (.call 16 (.cons (.v 1) (.cons (.v 3) .nil))) (.cons (.callk 16 .nil [1, 0] (.cons (.v 3) (.cons (.v 1) .nil))) (.cons (.call 17 (.cons (.v 1) (.cons (.v 3) .nil))) (.cons (.callk 17 .nil [1, 0] (.cons (.v 3) (.cons (.v 1) .nil))) (.cons (.call 19 (.cons (.v 1) (.cons (.v 3) .nil))) (.cons (.callk 19 .nil [1, 0] (.cons (.v 3) (.cons (.v 1) .nil))) .nil))))))))
  t33_4)
def t33_6 : Ss := (.cons [1, 3] (.par [4, 5, 6] (.cons (.call 29 (.cons (.v 1) (.cons (.v 3) .nil))) (.cons (.call 29 (.cons (.v 1) (.cons (.rev (.w 3)) .nil))) (.cons (.call 30 (.cons (.v 1) (.cons (.v 3) .nil))) .nil))))
  t33_5)
def t33_7 : Ss := (.cons [1] (.par [2, 3] (.cons (.bi .repr (.cons (.w 1) .nil)) (.cons (.call 31 (.cons (.v 0) (.cons (.v 1) (.cons (.call 22 (.cons (.v 0) (.cons (.c (.int 12)) .nil))) .nil)))) .nil)))
  t33_6)
def b33 : Ss := (.cons [] (.set 1 (.call 26 (.cons (.v 0) (.cons (.c (.int 7)) .nil))))
  t33_7)
/-- law -/
abbrev n34 : List Str := ["script", "index", "generator", "turn", "lone"]
abbrev p34 : List Str := ["script"]
abbrev s34 : Stmt := top 45
def l34_0 : Ss := (.cons [2] (.ite (.not (.call 33 (.cons (.v 2) .nil)))
  (.cons [] (.ret (.c (.bool false)))
  .nil) .nil)
  .nil)
def l34_1 : Ss := (.cons [] (.set 2 (.call 23 (.cons (.v 0) (.cons (.v 1) .nil))))
  (.cons [] (.for_ (.nm 3) .rng1 (.cons (.c (.int 4)) .nil) l34_0)
  .nil))
def b34 : Ss := (.cons [] (.for_ (.nm 1) .rng1 (.cons (.c (.int 3)) .nil) l34_1)
  (.cons [] (.set 4 (.tup (.cons (.c (.str "map")) (.cons (.dct [(.inr "a", (.int 5))]) (.cons (.lst .nil) .nil)))))
  (.cons [] (.ret (.cmp .eq (.lst (.cons (.call 12 (.cons (.v 4) (.cons (.lst (.cons (.c (.str "a")) .nil)) .nil))) (.cons (.call 12 (.cons (.v 4) (.cons (.lst (.cons (.c (.str "a")) (.cons (.c (.str "a")) .nil))) .nil))) (.cons (.call 16 (.cons (.v 4) (.cons (.lst (.cons (.c (.str "a")) .nil)) .nil))) (.cons (.call 19 (.cons (.v 4) (.cons (.lst (.cons (.c (.str "a")) .nil)) .nil))) .nil))))) (.lst (.cons (.c (.bool true)) (.cons (.c (.bool false)) (.cons (.c (.int 0)) (.cons (.c (.int 5)) .nil)))))))
  .nil)))
def tb (Φ : Nat → TSp) (k : Nat) (lm : Bool := false) : TCx where
  Φ := Φ
  C := fun i => ([(.str "abcdefghijklmnopqrstuvwxyz"), (.str "0123456789"), (.int 8)] : List PyData).getD i .none
  nm := fun i => ([("is_whole" : Str), ("is_signs" : Str), ("is_name" : Str), ("ascends" : Str), ("is_path_of" : Str), ("are_heights" : Str), ("is_map" : Str), ("check_map" : Str), ("is_place_of" : Str), ("by_height" : Str), ("joined_to" : Str), ("is_way_in" : Str), ("is_way" : Str), ("check_way" : Str), ("rise_to" : Str), ("climb_in" : Str), ("climb_of" : Str), ("fall_of" : Str), ("roof_in" : Str), ("roof_of" : Str), ("_law_cell" : Str), ("_law_hash" : Str), ("_law_random" : Str), ("_law_generator" : Str), ("_law_pick" : Str), ("_law_shuffled" : Str), ("_law_land" : Str), ("_law_nexts" : Str), ("_law_is_way" : Str), ("_law_climb" : Str), ("_law_roof" : Str), ("_law_walk" : Str), ("_law_values" : Str), ("_law_right" : Str), ("law" : Str)] : List Str).getD i ""
  hf := fun i => decide (i < k)
  ar := fun i => ([1, 2, 1, 1, 2, 1, 1, 1, 2, 2, 2, 2, 2, 2, 3, 2, 2, 2, 2, 2, 2, 2, 2, 2, 2, 2, 2, 2, 2, 2, 2, 3, 3, 1, 1] : List Nat).getD i 0
  gm := fun i => (["SMALL", "FIGURES", "MOST_NAME"] : List Str).getD i ""
  hc := fun i => decide (i < 3)
  cn := fun i => (["HeightError", "InvalidMap", "InvalidWay"] : List Str).getD i ""
  bl := ["all", "bool", "dict", "int", "isinstance", "len", "list", "max", "range", "repr", "sorted", "str", "sum", "tuple", "zip"]
  kw := fun f pm n ks => decide (f < k) && decide ((f, pm, n, ks) ∈ ([(16, [1, 0], 0, ["way", "land"]), (17, [1, 0], 0, ["way", "land"]), (12, [1, 0], 0, ["value", "land"]), (19, [1, 0], 0, ["way", "land"])] : List (Nat × List Nat × Nat × List Str)))
  lm := lm
def lms : Nat → Bool := fun i => [9].contains i
theorem sc0 : FnScope n0 p0 (defScope s0) := ⟨rfl, rfl, rfl, by decide +kernel, rfl, by decide +kernel, by decide +kernel⟩
theorem sc1 : FnScope n1 p1 (defScope s1) := ⟨rfl, rfl, rfl, by decide +kernel, rfl, by decide +kernel, by decide +kernel⟩
theorem sc2 : FnScope n2 p2 (defScope s2) := ⟨rfl, rfl, rfl, by decide +kernel, rfl, by decide +kernel, by decide +kernel⟩
theorem sc3 : FnScope n3 p3 (defScope s3) := ⟨rfl, rfl, rfl, by decide +kernel, rfl, by decide +kernel, by decide +kernel⟩
theorem sc4 : FnScope n4 p4 (defScope s4) := ⟨rfl, rfl, rfl, by decide +kernel, rfl, by decide +kernel, by decide +kernel⟩
theorem sc5 : FnScope n5 p5 (defScope s5) := ⟨rfl, rfl, rfl, by decide +kernel, rfl, by decide +kernel, by decide +kernel⟩
theorem sc6 : FnScope n6 p6 (defScope s6) := ⟨rfl, rfl, rfl, by decide +kernel, rfl, by decide +kernel, by decide +kernel⟩
theorem sc7 : FnScope n7 p7 (defScope s7) := ⟨rfl, rfl, rfl, by decide +kernel, rfl, by decide +kernel, by decide +kernel⟩
theorem sc8 : FnScope n8 p8 (defScope s8) := ⟨rfl, rfl, rfl, by decide +kernel, rfl, by decide +kernel, by decide +kernel⟩
theorem sc9 : FnScope n9 p9 (defScope s9) := ⟨rfl, rfl, rfl, by decide +kernel, rfl, by decide +kernel, by decide +kernel⟩
theorem sc10 : FnScope n10 p10 (defScope s10) := ⟨rfl, rfl, rfl, by decide +kernel, rfl, by decide +kernel, by decide +kernel⟩
theorem sc11 : FnScope n11 p11 (defScope s11) := ⟨rfl, rfl, rfl, by decide +kernel, rfl, by decide +kernel, by decide +kernel⟩
theorem sc12 : FnScope n12 p12 (defScope s12) := ⟨rfl, rfl, rfl, by decide +kernel, rfl, by decide +kernel, by decide +kernel⟩
theorem sc13 : FnScope n13 p13 (defScope s13) := ⟨rfl, rfl, rfl, by decide +kernel, rfl, by decide +kernel, by decide +kernel⟩
theorem sc14 : FnScope n14 p14 (defScope s14) := ⟨rfl, rfl, rfl, by decide +kernel, rfl, by decide +kernel, by decide +kernel⟩
theorem sc15 : FnScope n15 p15 (defScope s15) := ⟨rfl, rfl, rfl, by decide +kernel, rfl, by decide +kernel, by decide +kernel⟩
theorem sc16 : FnScope n16 p16 (defScope s16) := ⟨rfl, rfl, rfl, by decide +kernel, rfl, by decide +kernel, by decide +kernel⟩
theorem sc17 : FnScope n17 p17 (defScope s17) := ⟨rfl, rfl, rfl, by decide +kernel, rfl, by decide +kernel, by decide +kernel⟩
theorem sc18 : FnScope n18 p18 (defScope s18) := ⟨rfl, rfl, rfl, by decide +kernel, rfl, by decide +kernel, by decide +kernel⟩
theorem sc19 : FnScope n19 p19 (defScope s19) := ⟨rfl, rfl, rfl, by decide +kernel, rfl, by decide +kernel, by decide +kernel⟩
theorem sc20 : FnScope n20 p20 (defScope s20) := ⟨rfl, rfl, rfl, by decide +kernel, rfl, by decide +kernel, by decide +kernel⟩
theorem sc21 : FnScope n21 p21 (defScope s21) := ⟨rfl, rfl, rfl, by decide +kernel, rfl, by decide +kernel, by decide +kernel⟩
theorem sc22 : FnScope n22 p22 (defScope s22) := ⟨rfl, rfl, rfl, by decide +kernel, rfl, by decide +kernel, by decide +kernel⟩
theorem sc23 : FnScope n23 p23 (defScope s23) := ⟨rfl, rfl, rfl, by decide +kernel, rfl, by decide +kernel, by decide +kernel⟩
theorem sc24 : FnScope n24 p24 (defScope s24) := ⟨rfl, rfl, rfl, by decide +kernel, rfl, by decide +kernel, by decide +kernel⟩
theorem sc25 : FnScope n25 p25 (defScope s25) := ⟨rfl, rfl, rfl, by decide +kernel, rfl, by decide +kernel, by decide +kernel⟩
theorem sc26 : FnScope n26 p26 (defScope s26) := ⟨rfl, rfl, rfl, by decide +kernel, rfl, by decide +kernel, by decide +kernel⟩
theorem sc27 : FnScope n27 p27 (defScope s27) := ⟨rfl, rfl, rfl, by decide +kernel, rfl, by decide +kernel, by decide +kernel⟩
theorem sc28 : FnScope n28 p28 (defScope s28) := ⟨rfl, rfl, rfl, by decide +kernel, rfl, by decide +kernel, by decide +kernel⟩
theorem sc29 : FnScope n29 p29 (defScope s29) := ⟨rfl, rfl, rfl, by decide +kernel, rfl, by decide +kernel, by decide +kernel⟩
theorem sc30 : FnScope n30 p30 (defScope s30) := ⟨rfl, rfl, rfl, by decide +kernel, rfl, by decide +kernel, by decide +kernel⟩
theorem sc31 : FnScope n31 p31 (defScope s31) := ⟨rfl, rfl, rfl, by decide +kernel, rfl, by decide +kernel, by decide +kernel⟩
theorem sc32 : FnScope n32 p32 (defScope s32) := ⟨rfl, rfl, rfl, by decide +kernel, rfl, by decide +kernel, by decide +kernel⟩
theorem sc33 : FnScope n33 p33 (defScope s33) := ⟨rfl, rfl, rfl, by decide +kernel, rfl, by decide +kernel, by decide +kernel⟩
theorem sc34 : FnScope n34 p34 (defScope s34) := ⟨rfl, rfl, rfl, by decide +kernel, rfl, by decide +kernel, by decide +kernel⟩
theorem ch0 : ∀ Φ, chkSs (tb Φ 0 false) n0 (defScope s0) b0 (defBody s0) = true := fun _ => by kernel_rfl
theorem ch1 : ∀ Φ, chkSs (tb Φ 1 false) n1 (defScope s1) b1 (defBody s1) = true := fun _ => by kernel_rfl
theorem ch2 : ∀ Φ, chkSs (tb Φ 2 false) n2 (defScope s2) b2 (defBody s2) = true := fun _ => by kernel_rfl
theorem ch3 : ∀ Φ, chkSs (tb Φ 3 false) n3 (defScope s3) b3 (defBody s3) = true := fun _ => by kernel_rfl
theorem ch4 : ∀ Φ, chkSs (tb Φ 4 false) n4 (defScope s4) b4 (defBody s4) = true := fun _ => by kernel_rfl
theorem ch5 : ∀ Φ, chkSs (tb Φ 5 false) n5 (defScope s5) b5 (defBody s5) = true := fun _ => by kernel_rfl
theorem ch6 : ∀ Φ, chkSs (tb Φ 6 false) n6 (defScope s6) b6 (defBody s6) = true := fun _ => by kernel_rfl
theorem ch7 : ∀ Φ, chkSs (tb Φ 7 false) n7 (defScope s7) b7 (defBody s7) = true := fun _ => by kernel_rfl
theorem ch8 : ∀ Φ, chkSs (tb Φ 8 false) n8 (defScope s8) b8 (defBody s8) = true := fun _ => by kernel_rfl
theorem ch9 : ∀ Φ, chkSs (tb Φ 9 true) n9 (defScope s9) b9 (defBody s9) = true := fun _ => by kernel_rfl
theorem ch10 : ∀ Φ, chkSs (tb Φ 10 false) n10 (defScope s10) b10 (defBody s10) = true := fun _ => by kernel_rfl
theorem ch11 : ∀ Φ, chkSs (tb Φ 11 false) n11 (defScope s11) b11 (defBody s11) = true := fun _ => by kernel_rfl
theorem ch12 : ∀ Φ, chkSs (tb Φ 12 false) n12 (defScope s12) b12 (defBody s12) = true := fun _ => by kernel_rfl
theorem ch13 : ∀ Φ, chkSs (tb Φ 13 false) n13 (defScope s13) b13 (defBody s13) = true := fun _ => by kernel_rfl
theorem ch14 : ∀ Φ, chkSs (tb Φ 14 false) n14 (defScope s14) b14 (defBody s14) = true := fun _ => by kernel_rfl
theorem ch15 : ∀ Φ, chkSs (tb Φ 15 false) n15 (defScope s15) b15 (defBody s15) = true := fun _ => by kernel_rfl
theorem ch16 : ∀ Φ, chkSs (tb Φ 16 false) n16 (defScope s16) b16 (defBody s16) = true := fun _ => by kernel_rfl
theorem ch17 : ∀ Φ, chkSs (tb Φ 17 false) n17 (defScope s17) b17 (defBody s17) = true := fun _ => by kernel_rfl
theorem ch18 : ∀ Φ, chkSs (tb Φ 18 false) n18 (defScope s18) b18 (defBody s18) = true := fun _ => by kernel_rfl
theorem ch19 : ∀ Φ, chkSs (tb Φ 19 false) n19 (defScope s19) b19 (defBody s19) = true := fun _ => by kernel_rfl
theorem ch20 : ∀ Φ, chkSs (tb Φ 20 false) n20 (defScope s20) b20 (defBody s20) = true := fun _ => by kernel_rfl
theorem ch21 : ∀ Φ, chkSs (tb Φ 21 false) n21 (defScope s21) b21 (defBody s21) = true := fun _ => by kernel_rfl
theorem ch22 : ∀ Φ, chkSs (tb Φ 22 false) n22 (defScope s22) b22 (defBody s22) = true := fun _ => by kernel_rfl
theorem ch23 : ∀ Φ, chkSs (tb Φ 23 false) n23 (defScope s23) b23 (defBody s23) = true := fun _ => by kernel_rfl
theorem ch24 : ∀ Φ, chkSs (tb Φ 24 false) n24 (defScope s24) b24 (defBody s24) = true := fun _ => by kernel_rfl
theorem ch25 : ∀ Φ, chkSs (tb Φ 25 false) n25 (defScope s25) b25 (defBody s25) = true := fun _ => by kernel_rfl
theorem ch26 : ∀ Φ, chkSs (tb Φ 26 false) n26 (defScope s26) b26 (defBody s26) = true := fun _ => by kernel_rfl
theorem ch27 : ∀ Φ, chkSs (tb Φ 27 false) n27 (defScope s27) b27 (defBody s27) = true := fun _ => by kernel_rfl
theorem ch28 : ∀ Φ, chkSs (tb Φ 28 false) n28 (defScope s28) b28 (defBody s28) = true := fun _ => by kernel_rfl
theorem ch29 : ∀ Φ, chkSs (tb Φ 29 false) n29 (defScope s29) b29 (defBody s29) = true := fun _ => by kernel_rfl
theorem ch30 : ∀ Φ, chkSs (tb Φ 30 false) n30 (defScope s30) b30 (defBody s30) = true := fun _ => by kernel_rfl
theorem ch31 : ∀ Φ, chkSs (tb Φ 31 false) n31 (defScope s31) b31 (defBody s31) = true := fun _ => by kernel_rfl
theorem ch32 : ∀ Φ, chkSs (tb Φ 32 false) n32 (defScope s32) b32 (defBody s32) = true := fun _ => by kernel_rfl
theorem ch33 : ∀ Φ, chkSs (tb Φ 33 false) n33 (defScope s33) b33 (defBody s33) = true := fun _ => by kernel_rfl
theorem ch34 : ∀ Φ, chkSs (tb Φ 34 false) n34 (defScope s34) b34 (defBody s34) = true := fun _ => by kernel_rfl
end K51

set_option Elab.async false
set_option linter.all false
set_option maxRecDepth 100000
set_option maxHeartbeats 4000000
namespace K51
open PySem PySem.Spec PyProof.Rows L2 TL HL
/-! ### ways, in plain words -/
def pairs {α : Type} (l : List α) : List (α × α) := l.zip l.tail
theorem pairs_cons {α : Type} {a b : α} {l : List α} : pairs (a :: b :: l) = (a, b) :: pairs (b :: l) := rfl
theorem pairs_snoc {α : Type} : ∀ (l : List α) (b a : α), pairs (l ++ [b, a]) = pairs (l ++ [b]) ++ [(b, a)]
  | [], b, a => rfl
  | [c], b, a => rfl
  | c :: d :: l, b, a => by
    have := pairs_snoc (d :: l) b a
    show (c, d) :: pairs (d :: l ++ [b, a]) = ((c, d) :: pairs (d :: l ++ [b])) ++ [(b, a)]
    rw [this]; rfl
theorem pairs_rev {α : Type} : ∀ l : List α, pairs l.reverse = ((pairs l).map fun p => (p.2, p.1)).reverse
  | [] => rfl
  | [a] => rfl
  | a :: b :: l => by
    have ih := pairs_rev (b :: l)
    rw [List.reverse_cons, List.reverse_cons, List.append_assoc]
    show pairs (l.reverse ++ [b, a]) = _
    rw [pairs_snoc, pairs_cons, List.map_cons, List.reverse_cons, ← ih, List.reverse_cons]
theorem rng_pairs {α β : Type} (d : α) (g : α → α → β) : ∀ l : List α, ((List.range (l.length - 1)).map fun m => g (l.getD m d) (l.getD (m + 1) d)) = (pairs l).map fun p => g p.1 p.2
  | [] => rfl
  | [a] => rfl
  | a :: b :: l => by
    have ih := rng_pairs d g (b :: l)
    rw [show (a :: b :: l).length - 1 = (b :: l).length - 1 + 1 by simp, List.range_succ_eq_map, List.map_cons, List.map_map, pairs_cons, List.map_cons, ← ih]
    rfl
def pos (d : Int) : Int := if d > 0 then d else 0
def climb (D : Ld) (l : List Str) : Int := ((pairs l).map fun p => pos (D.ht p.2 - D.ht p.1)).sum
def adj (D : Ld) (l : List Str) : Bool := (pairs l).all fun p => decide (p.2 ∈ nb D p.1)
def wayS (D : Ld) (l : List Str) : Bool := !l.isEmpty && l.all (fun x => decide (x ∈ D.names)) && adj D l
def unL : PyData → List Str
  | .list xs => xs.map unS
  | _ => []
def allS (xs : List PyData) : Bool := xs.all fun x => match x with | .str _ => true | _ => false
def wayB (D : Ld) : PyData → Bool
  | .list xs => allS xs && wayS D (xs.map unS)
  | _ => false
theorem climb_rev {D : Ld} {l : List Str} : climb D l.reverse = ((pairs l).map fun p => pos (D.ht p.1 - D.ht p.2)).sum := by
  unfold climb
  rw [pairs_rev, List.map_reverse, List.sum_reverse, List.map_map]
  rfl
theorem adj_rev {D : Ld} {l : List Str} : adj D l.reverse = adj D l := by
  unfold adj
  rw [pairs_rev, List.all_reverse, List.all_map, Bool.eq_iff_iff, List.all_eq_true, List.all_eq_true]
  constructor
  · intro h p hp
    have := of_decide_eq_true (h p hp)
    exact decide_eq_true (nb_sym.mp this)
  · intro h p hp
    have := of_decide_eq_true (h p hp)
    exact decide_eq_true (nb_sym.mp this)
theorem wayS_rev {D : Ld} {l : List Str} : wayS D l.reverse = wayS D l := by
  unfold wayS
  rw [adj_rev, List.all_reverse]
  congr 2
  cases l with
  | nil => rfl
  | cons a l => simp
theorem pos_sub (d : Int) : pos d - pos (-d) = d := by
  unfold pos
  split <;> split <;> omega
theorem climb_diff {D : Ld} : ∀ (l : List Str) (a z : Str), l.head? = some a → l.getLast? = some z → climb D l - climb D l.reverse = D.ht z - D.ht a
  | [], _, _, h, _ => nomatch h
  | [x], a, z, h1, h2 => by
    cases h1
    cases h2
    rw [climb_rev]
    show (0 : Int) - 0 = D.ht x - D.ht x
    omega
  | x :: y :: l, a, z, h1, h2 => by
    cases h1
    have ih := climb_diff (D := D) (y :: l) y z rfl (by rw [List.getLast?_cons_cons] at h2; exact h2)
    rw [climb_rev] at ih ⊢
    unfold climb at ih ⊢
    rw [pairs_cons, List.map_cons, List.map_cons, List.sum_cons, List.sum_cons]
    have := pos_sub (D.ht y - D.ht x)
    rw [show -(D.ht y - D.ht x) = D.ht x - D.ht y by omega] at this
    show pos (D.ht y - D.ht x) + _ - (pos (D.ht x - D.ht y) + _) = _
    omega
/-- the greatest -/
def Top (ns : List Int) (m : Int) : Prop := m ∈ ns ∧ ∀ a ∈ ns, a ≤ m
theorem Top.one {ns : List Int} {a b : Int} (h : Top ns a) (h' : Top ns b) : a = b := Int.le_antisymm (h'.2 _ h.1) (h.2 _ h'.1)
theorem wayS_in {D : Ld} {l : List Str} (h : wayS D l = true) : ∀ x ∈ l, x ∈ D.names := fun x hx => by
  unfold wayS at h
  simp only [Bool.and_eq_true] at h
  exact of_decide_eq_true (List.all_eq_true.mp h.1.2 x hx)
theorem wayS_ne {D : Ld} {l : List Str} (h : wayS D l = true) : l ≠ [] := fun e => by
  rw [e] at h
  cases h
theorem wayS_str {D : Ld} {l : List Str} : wayB D (strsD l) = wayS D l := by
  unfold wayB strsD allS
  have e : (l.map PyData.str).map unS = l := by
    rw [List.map_map]
    conv => rhs; rw [← List.map_id l]
    exact List.map_congr_left fun _ _ => rfl
  simp only [e]
  rw [List.all_map]
  have : (l.all ((fun x => match x with | .str _ => true | _ => false) ∘ PyData.str)) = true := by
    rw [List.all_eq_true]
    exact fun _ _ => rfl
  rw [this, Bool.true_and]
/-- what is judged -/
def okV (x : PyData) : Prop := ∀ xs, x = .list xs → xs.length ≤ 1000 ∧ PyData.plainAll xs = true ∧ (PyData.list xs).depth ≤ 50
theorem okV_strs {l : List Str} (h : l.length ≤ 1000) : okV (strsD l) := fun xs e => by
  cases e
  refine ⟨by rw [List.length_map]; exact h, ?_, ?_⟩
  · rw [plainAll_iff]
    intro x hx
    obtain ⟨z, _, rfl⟩ := List.mem_map.mp hx
    rfl
  · show PyData.depthAll (l.map .str) + 1 ≤ 50
    have : PyData.depthAll (l.map .str) ≤ 0 := depthAll_le.mpr fun x hx => by
      obtain ⟨z, _, rfl⟩ := List.mem_map.mp hx
      exact Nat.le_refl _
    omega
/-! ### promises -/
def oneD (ok : Ld → PyData → Prop) : List T → Nat → Prop
  | [.d x, .d y], _ => ∃ D : Ld, x = D.d ∧ LdOk D ∧ ok D y
  | _, _ => False
def resD (P : Ld → PyData → R → Prop) : List T → Nat → R → Nat → Prop
  | [.d x, .d y], n => fun r n' => n' = n ∧ ∀ D : Ld, x = D.d → P D y r
  | _, _ => fun _ _ => False
theorem resD_one {P : Ld → PyData → R → Prop} {D : Ld} {y : PyData} {n : Nat} {r : R} (h : P D y r) : resD P [.d D.d, .d y] n r n := ⟨rfl, fun D' e => by rw [← Ld.d_inj e]; exact h⟩
def isWay (D : Ld) (y : PyData) : Prop := ∃ l, y = strsD l ∧ wayS D l = true ∧ l.length ≤ 1000
def inN (D : Ld) (y : PyData) : Prop := ∃ l, y = strsD l ∧ (∀ x ∈ l, x ∈ D.names) ∧ l ≠ [] ∧ l.length ≤ 1000
def sWayIn : Spc := { ar := 2, pre := oneD fun _ y => okV y, post := resD fun D y r => r = bl (wayB D y) }
def sChkWay : Spc := { ar := 2, pre := oneD isWay, post := resD fun D y r => r = nn }
def sRise : Spc := { ar := 3, pre := (fun | [.d x, .d (.str a), .d (.str b)], _ => ∃ D : Ld, x = D.d ∧ a ∈ D.names ∧ b ∈ D.names | _, _ => False), post := (fun | [.d x, .d (.str a), .d (.str b)], n => fun r n' => n' = n ∧ ∀ D : Ld, x = D.d → r = ⟨.d (.int (pos (D.ht b - D.ht a))), false⟩ | _, _ => fun _ _ => False) }
def sClimbIn : Spc := { ar := 2, pre := oneD inN, post := resD fun D y r => r = ⟨.d (.int (climb D (unL y))), false⟩ }
def sClimbOf : Spc := { ar := 2, pre := oneD isWay, post := resD fun D y r => r = ⟨.d (.int (climb D (unL y))), false⟩ }
def sFallOf : Spc := { ar := 2, pre := oneD isWay, post := resD fun D y r => r = ⟨.d (.int (climb D (unL y).reverse)), false⟩ }
def sRoofIn : Spc := { ar := 2, pre := oneD inN, post := resD fun D y r => ∃ m, Top ((unL y).map D.ht) m ∧ r = ⟨.d (.int m), false⟩ }
def sRoofOf : Spc := { ar := 2, pre := oneD isWay, post := resD fun D y r => ∃ m, Top ((unL y).map D.ht) m ∧ r = ⟨.d (.int m), false⟩ }
theorem unL_strs {l : List Str} : unL (strsD l) = l := by
  unfold unL strsD
  simp only
  rw [List.map_map]
  conv => rhs; rw [← List.map_id l]
  exact List.map_congr_left fun _ _ => rfl
theorem isWay.inN {D : Ld} {y : PyData} (h : isWay D y) : inN D y := by
  obtain ⟨l, rfl, h1, h2⟩ := h
  exact ⟨l, rfl, wayS_in h1, wayS_ne h1, h2⟩
theorem intsOf_map {l : List Int} : intsOf (l.map PyData.int) = some l := by
  induction l with
  | nil => rfl
  | cons x l ih => rw [List.map_cons, intsOf, ih]; rfl
theorem ix_strs {l : List Str} {i : Int} {P : TL.T → Prop} (h0 : 0 ≤ i) (h1 : i.toNat < l.length) : ixW (.d (.list (l.map .str))) (.d (.int i)) P = P (.d (.str (l.getD i.toNat ""))) := by
  have e : L2.atI (l.map PyData.str) i = some (.str (l.getD i.toNat "")) := by
    have := atI_nat (xs := l.map PyData.str) (j := i.toNat) (v := .str (l.getD i.toNat "")) (by rw [List.getElem?_map, List.getD_eq_getElem?_getD, List.getElem?_eq_getElem h1]; rfl)
    rwa [Int.toNat_of_nonneg h0] at this
  refine propext ⟨fun ⟨x, e', h⟩ => ?_, fun h => ⟨_, e, h⟩⟩
  rw [e] at e'
  cases e'
  exact h
section
variable {Φ : Nat → TSp} {C : Nat → PyData}
theorem wWayIn (M : MonoPh Φ) (h8 : Φ 8 = sPlaceOf.sp) (h10 : Φ 10 = sJoined.sp) : Body sWayIn b11 n11 Φ C := by
  intro ts n Q X hq hl hp hQ hX
  match ts, hp with
  | [.d x, .d y], hp =>
    obtain ⟨D, rfl, ok, hy⟩ := hp
    have hq2 := hQ (bl (wayB D y)) n (resD_one (P := fun D y r => r = bl (wayB D y)) rfl)
    have hz : (sizeLine : Nat) = 16777216 := sizeLine_eq
    simp [b11, n11]
    cases y <;> simp [isTy] <;> try exact hq2
    rename_i xs
    obtain ⟨k1, k2, k3⟩ := hy xs rfl
    simp [datas, eqv_nil, eqOk_nil k2 (Nat.le_trans k3 (by decide))]
    split
    · rename_i e
      subst e
      exact hq2
    · rename_i hne
      simp [srcW]
      refine lc_pure M (fun _ => true) (fun x => .bool (isPl D x)) (by omega) (fun x hx => ?_) ?_
      · refine ⟨_, rfl, fun P h => by simpa [cndW_eq] using h, fun _ P h => ?_⟩
        simp [eltW_eq, e11_0, stA, wipeE]
        rw [h8]
        refine ⟨rfl, ⟨D, rfl⟩, fun r n' hr => ?_, fun _ _ h => h.elim⟩
        obtain ⟨rfl, hr⟩ := hr
        rw [hr D rfl]
        exact h _
      · refine bi_allB (f := isPl D) (fun _ _ => rfl) ?_
        simp
        by_cases hall : ∀ x ∈ xs, isPl D x = true
        · rw [if_pos hall]
          obtain ⟨l, rfl⟩ : ∃ l : List Str, xs = l.map .str := ⟨xs.map unS, by
            rw [List.map_map]
            conv => lhs; rw [← List.map_id xs]
            refine List.map_congr_left fun x hx => ?_
            have := hall x hx
            cases x <;> first | cases this | rfl⟩
          have hin : ∀ z ∈ l, z ∈ D.names := fun z hz' => of_decide_eq_true (hall (.str z) (List.mem_map_of_mem hz'))
          have hle : l.length ≤ 1000 := by rw [List.length_map] at k1; exact k1
          rw [show wayB D (.list (l.map .str)) = wayS D l from wayS_str] at hq2
          have hlne : l ≠ [] := fun e => hne (by rw [e]; rfl)
          have hw : wayS D l = adj D l := by
            unfold wayS
            have h1 : l.all (fun x => decide (x ∈ D.names)) = true := List.all_eq_true.mpr fun x hx => decide_eq_true (hin x hx)
            rw [h1]
            cases l with
            | nil => exact absurd rfl hlne
            | cons a l => rfl
          simp only [List.length_map]
          have hr : ((l.length : Int) - 1).toNat = l.length - 1 := by omega
          refine ⟨by omega, ?_⟩
          let g : PyData → PyData := fun x => match x with
            | .int i => .bool (decide (l.getD i.toNat "" ∈ nb D (l.getD (i - 1).toNat "")))
            | _ => .none
          refine lc_pure M (fun _ => true) g (by simp; omega) (fun x hx => ?_) ?_
          · obtain ⟨m, hm, rfl⟩ := List.mem_map.mp hx
            have hm : m < l.length - 1 := List.mem_range.mp hm
            have t1 : (1 + (m : Int)).toNat = m + 1 := by omega
            have t0 : (1 + (m : Int) - 1).toNat = m := by omega
            refine ⟨_, rfl, fun P h => by simpa [cndW_eq] using h, fun _ P h => ?_⟩
            simp [eltW_eq, e11_1, stA, wipeE]
            rw [ix_strs (by omega) (by rw [t1]; omega), ix_strs (by omega) (by rw [t0]; omega), t1, t0]
            have eg : g (.int (1 + (m : Int))) = .bool (decide (l.getD (m + 1) "" ∈ nb D (l.getD m ""))) := by
              show PyData.bool (decide (l.getD (1 + (m : Int)).toNat "" ∈ nb D (l.getD (1 + (m : Int) - 1).toNat ""))) = _
              rw [t1, t0]
            rw [eg] at h
            generalize l.getD (m + 1) "" = u at h ⊢
            generalize l.getD m "" = v at h ⊢
            try dsimp only
            rw [h10]
            refine ⟨rfl, ⟨D, rfl, ok⟩, fun r n' hr => ?_, fun _ _ h => h.elim⟩
            obtain ⟨rfl, hr⟩ := hr
            rw [hr D rfl]
            have pl : PyData.plainAll ((srtH D (nb D v)).map PyData.str) = true := plainAll_iff.mpr fun x hx => by
              obtain ⟨z, _, rfl⟩ := List.mem_map.mp hx
              rfl
            have hv : (((srtH D (nb D v)).map PyData.str).any fun y => PyData.eqv y (.str u)) = decide (u ∈ nb D v) := by
              rw [Bool.eq_iff_iff, List.any_eq_true, decide_eq_true_eq]
              constructor
              · rintro ⟨x, hx, e⟩
                obtain ⟨z, hz', rfl⟩ := List.mem_map.mp hx
                rw [eqv_str] at e
                rw [← of_decide_eq_true e]
                exact List.mem_mergeSort.mp hz'
              · exact fun h => ⟨_, List.mem_map_of_mem (List.mem_mergeSort.mpr h), by rw [eqv_str]; exact decide_eq_true rfl⟩
            simp only [strsD, cw_in, inW]
            refine ⟨⟨rfl, pl, by simp [PyData.depth]⟩, ?_⟩
            rw [hv]
            exact h _
          · have eg : (((List.range (l.length - 1)).map fun (m : Nat) => PyData.int (1 + m)).filter fun _ => true).map g = ((((List.range (l.length - 1)).map fun (m : Nat) => PyData.int (1 + m)).filter fun _ => true)).map fun x => .bool (truD (g x)) := by
              refine List.map_congr_left fun x hx => ?_
              obtain ⟨m, _, rfl⟩ := List.mem_map.mp (List.mem_filter.mp hx).1
              rfl
            rw [eg]
            refine bi_allB (f := fun x => truD (g x)) (fun _ _ => rfl) ?_
            have : (((List.range (l.length - 1)).map fun (m : Nat) => PyData.int (1 + m)).all fun x => truD (g x)) = wayS D l := by
              rw [hw]
              unfold adj
              have e2 := rng_pairs ("" : Str) (fun a b => decide (b ∈ nb D a)) l
              have e3 : (((List.range (l.length - 1)).map fun (m : Nat) => PyData.int (1 + m)).all fun x => truD (g x)) = (((List.range (l.length - 1)).map fun m => decide (l.getD (m + 1) ("" : Str) ∈ nb D (l.getD m ("" : Str)))).all id) := by
                rw [List.all_map, List.all_map]
                congr 1
                funext m
                have t1 : (1 + (m : Int)).toNat = m + 1 := by omega
                have t0 : (1 + (m : Int) - 1).toNat = m := by omega
                show decide (l.getD (1 + (m : Int)).toNat "" ∈ nb D (l.getD (1 + (m : Int) - 1).toNat "")) = _
                rw [t1, t0]
                rfl
              rw [e3, e2, List.all_map]
              rfl
            rw [this]
            exact hq2
        · rw [if_neg hall]
          have : wayB D (.list xs) = false := by
            obtain ⟨x, hx, hn⟩ : ∃ x, x ∈ xs ∧ isPl D x = false := by
              apply Classical.byContradiction
              intro hno
              refine hall fun x hx => ?_
              cases e : isPl D x with
              | true => rfl
              | false => exact absurd ⟨x, hx, e⟩ hno
            unfold wayB
            cases ha : allS xs with
            | false =>
              show (allS xs && _) = false
              rw [ha]; rfl
            | true =>
              have hs := List.all_eq_true.mp ha x hx
              cases x <;> first | cases hs | skip
              rename_i z
              have hz' : z ∉ D.names := fun k => by
                have hn : decide (z ∈ D.names) = false := hn
                rw [decide_eq_true k] at hn
                cases hn
              show (allS xs && wayS D (xs.map unS)) = false
              unfold wayS
              have : (xs.map unS).all (fun x => decide (x ∈ D.names)) = false := by
                rw [List.all_eq_false]
                exact ⟨z, List.mem_map.mpr ⟨_, hx, rfl⟩, by simpa using hz'⟩
              rw [this]
              simp
          rw [this] at hq2
          exact hq2
end
end K51

set_option Elab.async false
set_option linter.all false
set_option maxRecDepth 100000
set_option maxHeartbeats 4000000
namespace K51
open PySem PySem.Spec PyProof.Rows L2 TL HL
theorem ix_str1 {D : Ld} {P : TL.T → Prop} {x : Str} (h : x ∈ D.names) : (ixW (.d D.d) (.d (.int 1)) fun t => ixW t (.d (.str x)) P) = P (.d (.int (D.ht x))) := by
  rw [ix_d1, ix_h h]
section
variable {Φ : Nat → TSp} {C : Nat → PyData}
theorem wIsWay (h7 : Φ 7 = sChkMap.sp) (h11 : Φ 11 = sWayIn.sp) : Body sWayIn b12 n12 Φ C := by
  intro ts n Q X hq hl hp hQ hX
  match ts, hp with
  | [.d x, .d y], hp =>
    obtain ⟨D, rfl, ok, hy⟩ := hp
    have hq2 := hQ (bl (wayB D y)) n (resD_one (P := fun D y r => r = bl (wayB D y)) rfl)
    simp [b12, n12]
    rw [h7]
    refine ⟨rfl, ⟨D, rfl, ok⟩, fun r n' hr => ?_, fun _ _ h => h.elim⟩
    obtain ⟨rfl, rfl⟩ := hr
    try simp
    rw [h11]
    refine ⟨rfl, ⟨D, rfl, ok, hy⟩, fun r n' hr => ?_, fun _ _ h => h.elim⟩
    obtain ⟨rfl, hr⟩ := hr
    rw [hr D rfl]
    exact hq2
theorem isWay.okV {D : Ld} {y : PyData} (h : isWay D y) : okV y ∧ wayB D y = true := by
  obtain ⟨l, rfl, h1, h2⟩ := h
  exact ⟨okV_strs h2, by rw [wayS_str]; exact h1⟩
theorem wChkWay (h7 : Φ 7 = sChkMap.sp) (h11 : Φ 11 = sWayIn.sp) : Body sChkWay b13 n13 Φ C := by
  intro ts n Q X hq hl hp hQ hX
  match ts, hp with
  | [.d x, .d y], hp =>
    obtain ⟨D, rfl, ok, hy⟩ := hp
    have hq2 := hQ nn n (resD_one (y := y) (P := fun D y r => r = nn) rfl)
    obtain ⟨k1, k2⟩ := hy.okV
    simp [b13, n13]
    rw [h7]
    refine ⟨rfl, ⟨D, rfl, ok⟩, fun r n' hr => ?_, fun _ _ h => h.elim⟩
    obtain ⟨rfl, rfl⟩ := hr
    try simp
    rw [h11]
    refine ⟨rfl, ⟨D, rfl, ok, k1⟩, fun r n' hr => ?_, fun _ _ h => h.elim⟩
    obtain ⟨rfl, hr⟩ := hr
    rw [hr D rfl, k2]
    simp [bl]
    exact hq2
theorem wRise : Body sRise b14 n14 Φ C := by
  intro ts n Q X hq hl hp hQ hX
  match ts, hp with
  | [.d x, .d (.str a), .d (.str b)], hp =>
    obtain ⟨D, rfl, ha, hb⟩ := hp
    have hq2 := hQ ⟨.d (.int (pos (D.ht b - D.ht a))), false⟩ n ⟨rfl, fun D' e => by rw [← Ld.d_inj e]⟩
    simp [b14, n14, ix_str1 ha, ix_str1 hb]
    rw [show (if D.ht a < D.ht b then D.ht b - D.ht a else 0) = pos (D.ht b - D.ht a) by unfold pos; split <;> split <;> omega]
    exact hq2
/-- a sum of steps -/
theorem climb_sum {D : Ld} {l : List Str} {g : PyData → PyData} {W : R → Prop} (hg : ∀ m : Nat, m + 1 < l.length → g (.int (1 + m)) = .int (pos (D.ht (l.getD (m + 1) "") - D.ht (l.getD m "")))) (h : W ⟨.d (.int (climb D l)), false⟩) :
    biW .sum [.d (.list ((((List.range (l.length - 1)).map fun (m : Nat) => PyData.int (1 + m)).filter fun _ => true).map g))] W := by
  have e : (((List.range (l.length - 1)).map fun (m : Nat) => PyData.int (1 + m)).filter fun _ => true).map g = ((pairs l).map fun p => pos (D.ht p.2 - D.ht p.1)).map .int := by
    rw [List.filter_eq_self.mpr fun _ _ => rfl, ← rng_pairs ("" : Str) (fun a b => pos (D.ht b - D.ht a)), List.map_map, List.map_map]
    refine List.map_congr_left fun m hm => ?_
    have hm := List.mem_range.mp hm
    exact hg m (by omega)
  rw [e, bi_sumL]
  exact ⟨_, intsOf_map, h⟩
theorem wClimbIn (M : MonoPh Φ) (h14 : Φ 14 = sRise.sp) : Body sClimbIn b15 n15 Φ C := by
  intro ts n Q X hq hl hp hQ hX
  match ts, hp with
  | [.d x, .d y], hp =>
    obtain ⟨D, rfl, ok, l, rfl, hin, hne, hle⟩ := hp
    have hq2 := hQ ⟨.d (.int (climb D (unL (strsD l)))), false⟩ n (resD_one (P := fun D y r => r = ⟨.d (.int (climb D (unL y))), false⟩) rfl)
    rw [unL_strs] at hq2
    have hz : (sizeLine : Nat) = 16777216 := sizeLine_eq
    have h0 : 0 < l.length := List.length_pos_iff.mpr hne
    simp [b15, n15, strsD, srcW, -bi_sumL]
    refine ⟨by omega, ?_⟩
    refine lc_pure M (fun _ => true) (fun x => match x with | .int i => .int (pos (D.ht (l.getD i.toNat "") - D.ht (l.getD (i - 1).toNat ""))) | _ => .none) (by simp; omega) (fun x hx => ?_) (climb_sum (D := D) (fun m hm => ?_) hq2)
    · obtain ⟨m, hm, rfl⟩ := List.mem_map.mp hx
      have hm : m < l.length - 1 := List.mem_range.mp hm
      have t1 : (1 + (m : Int)).toNat = m + 1 := by omega
      have t0 : (1 + (m : Int) - 1).toNat = m := by omega
      have i1 : l.getD (m + 1) ("" : Str) ∈ l := by rw [List.getD_eq_getElem?_getD, List.getElem?_eq_getElem (by omega)]; exact List.getElem_mem _
      have i0 : l.getD m ("" : Str) ∈ l := by rw [List.getD_eq_getElem?_getD, List.getElem?_eq_getElem (by omega)]; exact List.getElem_mem _
      refine ⟨_, rfl, fun P h => by simpa [cndW_eq] using h, fun _ P h => ?_⟩
      simp only [t1, t0] at h
      simp [eltW_eq, e15_0, stA, wipeE]
      rw [ix_strs (by omega) (by rw [t0]; omega), ix_strs (by omega) (by rw [t1]; omega), t1, t0]
      rw [h14]
      refine ⟨rfl, ⟨D, rfl, hin _ i0, hin _ i1⟩, fun r n' hr => ?_, fun _ _ h => h.elim⟩
      obtain ⟨rfl, hr⟩ := hr
      rw [hr D rfl]
      exact h _
    · have t1 : (1 + (m : Int)).toNat = m + 1 := by omega
      have t0 : (1 + (m : Int) - 1).toNat = m := by omega
      simp only [t1, t0]
theorem wClimbOf (h13 : Φ 13 = sChkWay.sp) (h15 : Φ 15 = sClimbIn.sp) : Body sClimbOf b16 n16 Φ C := by
  intro ts n Q X hq hl hp hQ hX
  match ts, hp with
  | [.d x, .d y], hp =>
    obtain ⟨D, rfl, ok, hy⟩ := hp
    have hq2 := hQ ⟨.d (.int (climb D (unL y))), false⟩ n (resD_one (P := fun D y r => r = ⟨.d (.int (climb D (unL y))), false⟩) rfl)
    simp [b16, n16]
    rw [h13]
    refine ⟨rfl, ⟨D, rfl, ok, hy⟩, fun r n' hr => ?_, fun _ _ h => h.elim⟩
    obtain ⟨rfl, _⟩ := hr
    try simp
    rw [h15]
    refine ⟨rfl, ⟨D, rfl, ok, hy.inN⟩, fun r n' hr => ?_, fun _ _ h => h.elim⟩
    obtain ⟨rfl, hr⟩ := hr
    rw [hr D rfl]
    exact hq2
theorem wFallOf (h13 : Φ 13 = sChkWay.sp) (h15 : Φ 15 = sClimbIn.sp) : Body sFallOf b17 n17 Φ C := by
  intro ts n Q X hq hl hp hQ hX
  match ts, hp with
  | [.d x, .d y], hp =>
    obtain ⟨D, rfl, ok, hy⟩ := hp
    have hq2 := hQ ⟨.d (.int (climb D (unL y).reverse)), false⟩ n (resD_one (P := fun D y r => r = ⟨.d (.int (climb D (unL y).reverse)), false⟩) rfl)
    have hy' := hy
    obtain ⟨l, rfl, h1, h2⟩ := hy
    rw [unL_strs] at hq2
    simp [b17, n17]
    rw [h13]
    refine ⟨rfl, ⟨D, rfl, ok, hy'⟩, fun r n' hr => ?_, fun _ _ h => h.elim⟩
    obtain ⟨rfl, _⟩ := hr
    simp [strsD]
    rw [← List.map_reverse]
    rw [h15]
    refine ⟨rfl, ⟨D, rfl, ok, l.reverse, rfl, fun x hx => wayS_in h1 x (List.mem_reverse.mp hx), fun e => wayS_ne h1 (List.reverse_eq_nil_iff.mp e), by rw [List.length_reverse]; exact h2⟩, fun r n' hr => ?_, fun _ _ h => h.elim⟩
    obtain ⟨rfl, hr⟩ := hr
    rw [hr D rfl, show PyData.list (l.reverse.map .str) = strsD l.reverse from rfl, unL_strs]
    exact hq2
theorem roof_go (M : MonoPh Φ) {D : Ld} {l : List Str} {e : E} {ρ : Ev} {n : Nat} {Q : QE} (hne : l ≠ []) (hle : l.length ≤ 1000) (he : ∀ z ∈ l, ∀ P : QE, (∀ fr, P ⟨.d (.int (D.ht z)), fr⟩ n) → eltW Φ C e (stA false (.d (.str z)) 2 ρ) n P)
    (q : ∀ m, Top (l.map D.ht) m → Q ⟨.d (.int m), false⟩ n) : lcGo (.nm 2) ρ (cndW Φ C (.c (.bool true))) (eltW Φ C e) (fun acc n => biW .max1 [.d (.list acc)] fun r => Q r n) (l.map .str) [] n := by
  have hz : (sizeLine : Nat) = 16777216 := sizeLine_eq
  refine lc_pure M (fun _ => true) (fun x => .int (D.ht (unS x))) (by simp; omega) (fun x hx => ?_) ?_
  · obtain ⟨z, hz', rfl⟩ := List.mem_map.mp hx
    exact ⟨_, rfl, fun P h => by simpa [cndW_eq] using h, fun _ P h => he z hz' P h⟩
  · rw [List.filter_eq_self.mpr fun _ _ => rfl, List.map_map, bi_max1]
    have e1 : l.map ((fun x => PyData.int (D.ht (unS x))) ∘ PyData.str) = (l.map D.ht).map .int := by rw [List.map_map]; rfl
    rw [e1]
    exact ⟨_, intsOf_map, fun e => hne (List.map_eq_nil_iff.mp e), fun m h1 h2 => q m ⟨h1, h2⟩⟩
theorem wRoofIn (M : MonoPh Φ) : Body sRoofIn b18 n18 Φ C := by
  intro ts n Q X hq hl hp hQ hX
  match ts, hp with
  | [.d x, .d y], hp =>
    obtain ⟨D, rfl, ok, l, rfl, hin, hne, hle⟩ := hp
    simp [b18, n18, strsD, srcW]
    refine roof_go (D := D) M hne hle (fun z hz' P h => ?_) fun m hm => hQ ⟨.d (.int m), false⟩ n (resD_one (P := fun D y r => ∃ m, Top ((unL y).map D.ht) m ∧ r = ⟨.d (.int m), false⟩) ⟨m, by rw [unL_strs]; exact hm, rfl⟩)
    simp [eltW_eq, e18_0, stA, wipeE]
    rw [ix_d1, ix_h (hin z hz')]
    exact h _
theorem wRoofOf (h13 : Φ 13 = sChkWay.sp) (h18 : Φ 18 = sRoofIn.sp) : Body sRoofOf b19 n19 Φ C := by
  intro ts n Q X hq hl hp hQ hX
  match ts, hp with
  | [.d x, .d y], hp =>
    obtain ⟨D, rfl, ok, hy⟩ := hp
    simp [b19, n19]
    rw [h13]
    refine ⟨rfl, ⟨D, rfl, ok, hy⟩, fun r n' hr => ?_, fun _ _ h => h.elim⟩
    obtain ⟨rfl, _⟩ := hr
    try simp
    rw [h18]
    refine ⟨rfl, ⟨D, rfl, ok, hy.inN⟩, fun r n' hr => ?_, fun _ _ h => h.elim⟩
    exact hQ _ _ hr
end
end K51

set_option Elab.async false
set_option linter.all false
set_option maxRecDepth 100000
set_option maxHeartbeats 4000000
namespace K51
open PySem PySem.Spec PyProof.Rows L2 TL HL
theorem atI_last {xs : List PyData} {z : PyData} : L2.atI (xs ++ [z]) (-1) = some z := by
  unfold L2.atI L2.ixN
  rw [if_neg (by decide), if_pos (by rw [List.length_append]; simp; omega)]
  have : ((-1 : Int) + ((xs ++ [z]).length : Nat)).toNat = xs.length := by simp only [List.length_append, List.length_cons, List.length_nil]; omega
  simp only [Option.bind_some]
  rw [this]
  simp
theorem adj_snoc {D : Ld} {l : List Str} {z x : Str} (h : adj D (l ++ [z]) = true) (hx : x ∈ nb D z) : adj D (l ++ [z, x]) = true := by
  unfold adj at h ⊢
  rw [pairs_snoc, List.all_append, h]
  simpa using hx
theorem wayS_snoc {D : Ld} {l : List Str} {z x : Str} (ok : LdOk D) (h : wayS D (l ++ [z]) = true) (hx : x ∈ nb D z) : wayS D (l ++ [z, x]) = true := by
  have hin := wayS_in h
  unfold wayS at h ⊢
  simp only [Bool.and_eq_true] at h ⊢
  refine ⟨⟨by simp, List.all_eq_true.mpr fun y hy => ?_⟩, adj_snoc h.2 hx⟩
  refine decide_eq_true ?_
  have : y ∈ l ++ [z] ∨ y = x := by
    simp at hy ⊢
    rcases hy with h | h | h
    · exact .inl (.inl h)
    · exact .inl (.inr h)
    · exact .inr h
  rcases this with h | rfl
  · exact hin y h
  · exact (nb_in ok hx).1
section
variable {Φ : Nat → TSp} {C : Nat → PyData}
theorem wLWay (M : MonoPh Φ) (h27 : Φ 27 = sNexts.sp) : Body sWayIn b28 n28 Φ C := by
  intro ts n Q X hq hl hp hQ hX
  match ts, hp with
  | [.d x, .d y], hp =>
    obtain ⟨D, rfl, ok, hy⟩ := hp
    have hq2 := hQ (bl (wayB D y)) n (resD_one (P := fun D y r => r = bl (wayB D y)) rfl)
    have hz : (sizeLine : Nat) = 16777216 := sizeLine_eq
    simp [b28, n28]
    cases y <;> simp [isTy] <;> try exact hq2
    rename_i xs
    obtain ⟨k1, k2, k3⟩ := hy xs rfl
    simp [datas, eqv_nil, eqOk_nil k2 (Nat.le_trans k3 (by decide))]
    split
    · rename_i e
      subst e
      exact hq2
    · rename_i hne
      simp [srcW]
      refine lc_pure M (fun x => !isPl D x) id (by omega) (fun x hx => ?_) ?_
      · refine ⟨_, rfl, fun P h => ?_, fun _ P h => ?_⟩
        · simp [cndW_eq, c28_0, stA, wipeE]
          cases x <;> simp [isTy] <;> first | exact h | skip
          rw [ix_d1, cw_nin, in_h]
          exact h
        · simp [eltW_eq, stA, wipeE]
          exact h _
      · rw [List.map_id]
        refine ⟨eqOk_nil (plain_filter k2) (Nat.le_trans (depth_filter k3) (by decide)), ?_⟩
        have e1 : ((xs.filter fun x => !isPl D x) = []) ↔ ∀ x ∈ xs, isPl D x = true := by
          rw [List.filter_eq_nil_iff]
          constructor
          · intro h x hx
            have := h x hx
            simpa using this
          · intro h x hx
            rw [h x hx]
            decide
        by_cases hall : ∀ x ∈ xs, isPl D x = true
        · rw [if_pos (e1.mpr hall)]
          obtain ⟨l, rfl⟩ : ∃ l : List Str, xs = l.map .str := ⟨xs.map unS, by
            rw [List.map_map]
            conv => lhs; rw [← List.map_id xs]
            refine List.map_congr_left fun x hx => ?_
            have := hall x hx
            cases x <;> first | cases this | rfl⟩
          have hin : ∀ z ∈ l, z ∈ D.names := fun z hz' => of_decide_eq_true (hall (.str z) (List.mem_map_of_mem hz'))
          have hle : l.length ≤ 1000 := by rw [List.length_map] at k1; exact k1
          rw [show wayB D (.list (l.map .str)) = wayS D l from wayS_str] at hq2
          have hlne : l ≠ [] := fun e => hne (by rw [e]; rfl)
          have hw : wayS D l = adj D l := by
            unfold wayS
            have h1 : l.all (fun x => decide (x ∈ D.names)) = true := List.all_eq_true.mpr fun x hx => decide_eq_true (hin x hx)
            rw [h1]
            cases l with
            | nil => exact absurd rfl hlne
            | cons a l => rfl
          simp only [List.length_map]
          refine ⟨by omega, ?_⟩
          let g : PyData → Bool := fun x => match x with
            | .int i => !(decide (l.getD i.toNat "" ∈ nb D (l.getD (i - 1).toNat "")))
            | _ => false
          refine lc_pure M g id (by simp; omega) (fun x hx => ?_) ?_
          · obtain ⟨m, hm, rfl⟩ := List.mem_map.mp hx
            have hm : m < l.length - 1 := List.mem_range.mp hm
            have t1 : (1 + (m : Int)).toNat = m + 1 := by omega
            have t0 : (1 + (m : Int) - 1).toNat = m := by omega
            refine ⟨_, rfl, fun P h => ?_, fun _ P h => ?_⟩
            · simp [cndW_eq, c28_1, stA, wipeE]
              rw [ix_strs (by omega) (by rw [t1]; omega), ix_strs (by omega) (by rw [t0]; omega), t1, t0]
              have eg : g (.int (1 + (m : Int))) = !(decide (l.getD (m + 1) "" ∈ nb D (l.getD m ""))) := by
                show (!(decide (l.getD (1 + (m : Int)).toNat "" ∈ nb D (l.getD (1 + (m : Int) - 1).toNat "")))) = _
                rw [t1, t0]
              rw [eg] at h
              generalize l.getD (m + 1) "" = u at h ⊢
              generalize l.getD m "" = v at h ⊢
              rw [h27]
              refine ⟨rfl, ⟨D, rfl, ok⟩, fun r n' hr => ?_, fun _ _ h => h.elim⟩
              obtain ⟨rfl, hr⟩ := hr
              rw [hr D rfl]
              have pl : PyData.plainAll (((nb D v).mergeSort leS).map PyData.str) = true := plainAll_iff.mpr fun x hx => by
                obtain ⟨z, _, rfl⟩ := List.mem_map.mp hx
                rfl
              have hv : ((((nb D v).mergeSort leS).map PyData.str).any fun y => PyData.eqv y (.str u)) = decide (u ∈ nb D v) := by
                rw [Bool.eq_iff_iff, List.any_eq_true, decide_eq_true_eq]
                constructor
                · rintro ⟨x, hx, e⟩
                  obtain ⟨z, hz', rfl⟩ := List.mem_map.mp hx
                  rw [eqv_str] at e
                  rw [← of_decide_eq_true e]
                  exact List.mem_mergeSort.mp hz'
                · exact fun h => ⟨_, List.mem_map_of_mem (List.mem_mergeSort.mpr h), by rw [eqv_str]; exact decide_eq_true rfl⟩
              simp only [strsD, cw_nin, inW]
              refine ⟨⟨rfl, pl, by simp [PyData.depth]⟩, ?_⟩
              rw [hv]
              simpa using h
            · simp [eltW_eq, stA, wipeE]
              exact h _
          · rw [List.map_id]
            have pl : PyData.plainAll (((List.range (l.length - 1)).map fun (m : Nat) => PyData.int (1 + m)).filter g) = true := plain_filter (plainAll_iff.mpr fun x hx => by
              obtain ⟨m, _, rfl⟩ := List.mem_map.mp hx
              rfl)
            have dp : (PyData.list (((List.range (l.length - 1)).map fun (m : Nat) => PyData.int (1 + m)).filter g)).depth ≤ 1 := depth_filter (by
              show PyData.depthAll _ + 1 ≤ 1
              have : PyData.depthAll ((List.range (l.length - 1)).map fun (m : Nat) => PyData.int (1 + m)) ≤ 0 := depthAll_le.mpr fun x hx => by
                obtain ⟨m, _, rfl⟩ := List.mem_map.mp hx
                exact Nat.le_refl _
              omega)
            refine ⟨eqOk_nil pl (Nat.le_trans dp (by decide)), ?_⟩
            have : (((List.range (l.length - 1)).map fun (m : Nat) => PyData.int (1 + m)).filter g).isEmpty = wayS D l := by
              rw [hw, filter_none]
              unfold adj
              have e2 := rng_pairs ("" : Str) (fun a b => decide (b ∈ nb D a)) l
              have e3 : (((List.range (l.length - 1)).map fun (m : Nat) => PyData.int (1 + m)).all fun x => !g x) = (((List.range (l.length - 1)).map fun m => decide (l.getD (m + 1) ("" : Str) ∈ nb D (l.getD m ("" : Str)))).all id) := by
                rw [List.all_map, List.all_map]
                congr 1
                funext m
                have t1 : (1 + (m : Int)).toNat = m + 1 := by omega
                have t0 : (1 + (m : Int) - 1).toNat = m := by omega
                show (!(!(decide (l.getD (1 + (m : Int)).toNat "" ∈ nb D (l.getD (1 + (m : Int) - 1).toNat ""))))) = _
                rw [t1, t0, Bool.not_not]
                rfl
              rw [e3, e2, List.all_map]
              rfl
            rw [this]
            exact hq2
        · rw [if_neg fun e => hall (e1.mp e)]
          have : wayB D (.list xs) = false := by
            cases hw : wayB D (.list xs) with
            | false => rfl
            | true =>
              have hw : (allS xs && wayS D (xs.map unS)) = true := hw
              rw [Bool.and_eq_true] at hw
              refine absurd (fun x hx => ?_) hall
              have hs := List.all_eq_true.mp hw.1 x hx
              have hi := wayS_in hw.2 (unS x) (List.mem_map_of_mem hx)
              cases x <;> first | exact decide_eq_true hi | cases hs
          rw [this] at hq2
          exact hq2
theorem wLClimb (M : MonoPh Φ) : Body sClimbIn b29 n29 Φ C := by
  intro ts n Q X hq hl hp hQ hX
  match ts, hp with
  | [.d x, .d y], hp =>
    obtain ⟨D, rfl, ok, l, rfl, hin, hne, hle⟩ := hp
    have hq2 := hQ ⟨.d (.int (climb D (unL (strsD l)))), false⟩ n (resD_one (P := fun D y r => r = ⟨.d (.int (climb D (unL y))), false⟩) rfl)
    rw [unL_strs] at hq2
    have hz : (sizeLine : Nat) = 16777216 := sizeLine_eq
    have h0 : 0 < l.length := List.length_pos_iff.mpr hne
    simp [b29, n29, strsD, srcW, -bi_sumL]
    refine ⟨by omega, ?_⟩
    refine lc_pure M (fun _ => true) (fun x => match x with | .int i => .int (pos (D.ht (l.getD i.toNat "") - D.ht (l.getD (i - 1).toNat ""))) | _ => .none) (by simp; omega) (fun x hx => ?_) (climb_sum (D := D) (fun m hm => ?_) hq2)
    · obtain ⟨m, hm, rfl⟩ := List.mem_map.mp hx
      have hm : m < l.length - 1 := List.mem_range.mp hm
      have t1 : (1 + (m : Int)).toNat = m + 1 := by omega
      have t0 : (1 + (m : Int) - 1).toNat = m := by omega
      have i1 : l.getD (m + 1) ("" : Str) ∈ l := by rw [List.getD_eq_getElem?_getD, List.getElem?_eq_getElem (by omega)]; exact List.getElem_mem _
      have i0 : l.getD m ("" : Str) ∈ l := by rw [List.getD_eq_getElem?_getD, List.getElem?_eq_getElem (by omega)]; exact List.getElem_mem _
      refine ⟨_, rfl, fun P h => by simpa [cndW_eq] using h, fun _ P h => ?_⟩
      simp only [t1, t0] at h
      simp [eltW_eq, e29_0, stA, wipeE, ix_d1]
      rw [ix_strs (by omega) (by rw [t1]; omega), t1, ix_h (hin _ i1), ix_strs (by omega) (by rw [t0]; omega), t0, ix_h (hin _ i0)]
      simp only [bw_subI, bi_max2]
      exact h _
    · have t1 : (1 + (m : Int)).toNat = m + 1 := by omega
      have t0 : (1 + (m : Int) - 1).toNat = m := by omega
      simp only [t1, t0]
theorem wLRoof (M : MonoPh Φ) : Body sRoofIn b30 n30 Φ C := by
  intro ts n Q X hq hl hp hQ hX
  match ts, hp with
  | [.d x, .d y], hp =>
    obtain ⟨D, rfl, ok, l, rfl, hin, hne, hle⟩ := hp
    simp [b30, n30, strsD, srcW]
    refine roof_go (D := D) M hne hle (fun z hz' P h => ?_) fun m hm => hQ ⟨.d (.int m), false⟩ n (resD_one (P := fun D y r => ∃ m, Top ((unL y).map D.ht) m ∧ r = ⟨.d (.int m), false⟩) ⟨m, by rw [unL_strs]; exact hm, rfl⟩)
    simp [eltW_eq, e30_0, stA, wipeE]
    rw [ix_d1, ix_h (hin z hz')]
    exact h _
def sWalk : Spc := { ar := 3, pre := (fun | [.gen, .d x, .d (.int k)], n => (∃ D : Ld, x = D.d ∧ LdOk D) ∧ 0 ≤ k ∧ k ≤ 100 ∧ n < 2 ^ 58 | _, _ => False), post := (fun | [.gen, .d x, .d (.int k)], n => fun r n' => n ≤ n' ∧ n' ≤ n + 7000 ∧ ∀ D : Ld, x = D.d → ∃ l : List Str, wayS D l = true ∧ (l.length : Int) ≤ k + 1 ∧ r = ⟨.d (strsD l), false⟩ | _, _ => fun _ _ => False) }
theorem sort_keys {D : Ld} {W : R → Prop} (ok : LdOk D) (h : W ⟨.d (strsD (D.names.mergeSort leS)), true⟩) : biW .sorted [.d (.dict (D.hs.map hD))] W := by
  have e : (D.hs.map hD).map (fun p : PyData × PyData => p.1) = D.names.map .str := by unfold Ld.names; rw [List.map_map, List.map_map]; rfl
  have hs : ∀ l : List Str, strsOf (l.map .str) = some l := fun l => by
    induction l with
    | nil => rfl
    | cons a l ih => rw [List.map_cons]; show (strsOf (l.map .str)).map (a :: ·) = _; rw [ih]; rfl
  rw [bi_sortD, e, strs_sort]
  exact ⟨⟨kOk_h, by rw [List.length_map]; have := ok.le; omega, _, hs _⟩, h⟩
theorem wWalk (M : MonoPh Φ) (h24 : Φ 24 = sPick.sp) (h27 : Φ 27 = sNexts.sp) : Body sWalk b31 n31 Φ C := by
  intro ts n Q X hq hl hp hQ hX
  match ts, hp with
  | [.gen, .d x, .d (.int k)], hp =>
    obtain ⟨⟨D, rfl, ok⟩, k0, k1, hn⟩ := hp
    have hz : (sizeLine : Nat) = 16777216 := sizeLine_eq
    have hne := ok.ne
    have hle := ok.le
    simp [b31, n31, -bi_sortD]
    rw [ix_d1]
    refine sort_keys ok ?_
    rw [h24]
    have ln : (D.names.mergeSort leS).length = D.hs.length := by rw [List.length_mergeSort]; unfold Ld.names; rw [List.length_map]
    refine ⟨rfl, ⟨rfl, by show 0 < ((D.names.mergeSort leS).map PyData.str).length; rw [List.length_map, ln]; exact hne, by show ((D.names.mergeSort leS).map PyData.str).length ≤ _; rw [List.length_map, ln]; omega, by omega⟩, fun r n1 hr => ?_, fun _ _ h => h.elim⟩
    obtain ⟨b1, b2, st, hst, rfl⟩ := hr
    obtain ⟨a, ha, rfl⟩ := List.mem_map.mp hst
    have ha : a ∈ D.names := List.mem_mergeSort.mp ha
    simp [datas, srcW]
    refine ⟨by omega, by omega, by omega, ?_⟩
    refine for_by M (fun i ρ m => n1 ≤ m ∧ m ≤ n1 + 64 * i ∧ ∃ (l : List Str) (z : Str) (b : Bool) (a4 a5 : Option (Bool × T)), ρ = [some (false, .gen), some (false, .d D.d), some (false, .d (.int k)), some (b, .d (strsD (l ++ [z]))), a4, a5] ∧ wayS D (l ++ [z]) = true ∧ l.length ≤ i) ⟨Nat.le_refl _, by omega, [], a, true, none, none, rfl, ?_, by simp⟩ (fun i ρ m x e h' => ?_) fun ρ m h' => ?_
    · unfold wayS adj pairs
      simp [ha]
    · obtain ⟨c1, c2, l, z, b, a4, a5, rfl, hw, hl'⟩ := h'
      have hi : i < k.toNat := by
        have := (List.getElem?_eq_some_iff.mp e).1
        simpa using this
      refine ⟨_, rfl, ?_⟩
      have el : ∀ P : TL.T → Prop, ixW (.d (strsD (l ++ [z]))) (.d (.int (-1))) P = P (.d (.str z)) := fun P => by
        have e1 : strsD (l ++ [z]) = .list (l.map PyData.str ++ [.str z]) := by unfold strsD; rw [List.map_append]; rfl
        rw [e1]
        refine propext ⟨fun ⟨x, e', h⟩ => ?_, fun h => ⟨_, atI_last, h⟩⟩
        rw [atI_last] at e'
        cases e'
        exact h
      cases b <;> simp [l31_0, stA, el]
      all_goals
        rw [h27]
        refine ⟨rfl, ⟨D, rfl, ok⟩, fun r n' hr => ?_, fun _ _ h => h.elim⟩
        obtain ⟨rfl, hr⟩ := hr
        rw [hr D rfl]
        have pl : PyData.plainAll (((nb D z).mergeSort leS).map PyData.str) = true := plainAll_iff.mpr fun x hx => by
          obtain ⟨z, _, rfl⟩ := List.mem_map.mp hx
          rfl
        have dp : (strsD ((nb D z).mergeSort leS)).depth ≤ 1 := by
          show PyData.depthAll _ + 1 ≤ 1
          have : PyData.depthAll (((nb D z).mergeSort leS).map PyData.str) ≤ 0 := depthAll_le.mpr fun x hx => by
            obtain ⟨m, _, rfl⟩ := List.mem_map.mp hx
            exact Nat.le_refl _
          omega
        have ln := nb_len (x := z) ok
        simp [datas, strsD]
        refine ⟨eqOk_nil pl (Nat.le_trans dp (by decide)), ?_⟩
        rw [eqv_nil]
        cases hs : (nb D z).mergeSort leS with
        | nil =>
          simp
          refine ⟨by omega, by omega, l, z, ?_, hw, by omega⟩
          simp
        | cons y ys =>
          simp
          rw [h24]
          have hlen : (y :: ys).length ≤ 4000 := by rw [← hs, List.length_mergeSort]; exact ln
          refine ⟨rfl, ⟨rfl, by show 0 < ((y :: ys).map PyData.str).length; simp, by show ((y :: ys).map PyData.str).length ≤ _; rw [List.length_map]; omega, by omega⟩, fun r n2 hr => ?_, fun _ _ h => h.elim⟩
          obtain ⟨d1, d2, st, hst, rfl⟩ := hr
          have hst : st ∈ (y :: ys).map PyData.str := hst
          obtain ⟨w, hw', rfl⟩ := List.mem_map.mp hst
          have hw' : w ∈ nb D z := List.mem_mergeSort.mp (by rw [hs]; exact hw')
          simp [datas]
          refine ⟨by omega, by omega, by omega, by omega, l ++ [z], w, ?_, by rw [List.append_assoc]; exact wayS_snoc ok hw hw', by simp; omega⟩
          simp
    · obtain ⟨c1, c2, l, z, b, a4, a5, rfl, hw, hl'⟩ := h'
      simp at c2 hl'
      cases b <;> simp
      all_goals exact hQ _ _ ⟨by omega, by omega, fun D' e => ⟨l ++ [z], by rw [← Ld.d_inj e]; exact hw, by simp; omega, rfl⟩⟩
end
end K51

set_option Elab.async false
set_option linter.all false
set_option maxRecDepth 100000
set_option maxHeartbeats 4000000
namespace K51
open PySem PySem.Spec PyProof.Rows L2 TL HL
/-! ### what is shown -/
def It (x : PyData) : Prop := x.leavesShort 64 = true ∧ x.showable = true ∧ x.weight ≤ 2000 ∧ x.depth ≤ 1 ∧ x.plain = true
def Vl (x : PyData) : Prop := okV x ∧ showOk x
theorem it_all {xs : List PyData} (h : ∀ x ∈ xs, It x) : PyData.leavesShortAll 64 xs = true ∧ PyData.showableAll xs = true ∧ PyData.weightAll xs ≤ 2001 * xs.length ∧ PyData.depthAll xs ≤ 1 ∧ PyData.plainAll xs = true := by
  induction xs with
  | nil => exact ⟨rfl, rfl, Nat.le_refl _, Nat.zero_le _, rfl⟩
  | cons x xs ih =>
    obtain ⟨a1, a2, a3, a4, a5⟩ := ih fun y hy => h y (List.mem_cons_of_mem _ hy)
    obtain ⟨b1, b2, b3, b4, b5⟩ := h x (List.mem_cons_self ..)
    refine ⟨by rw [PyData.leavesShortAll, b1, a1]; rfl, by rw [PyData.showableAll, b2, a2]; rfl, ?_, by rw [PyData.depthAll]; omega, by rw [PyData.plainAll, b5, a5]; rfl⟩
    show x.weight + 1 + PyData.weightAll xs ≤ 2001 * (xs.length + 1)
    omega
theorem vl_list {xs : List PyData} (h : ∀ x ∈ xs, It x) (hl : xs.length ≤ 60) : Vl (.list xs) := by
  have hz : (sizeLine : Nat) = 16777216 := sizeLine_eq
  obtain ⟨k1, k2, k3, k4, k5⟩ := it_all h
  refine ⟨fun ys e => ?_, k2, ?_, by show PyData.depthAll xs + 1 ≤ 60; omega⟩
  · cases e
    exact ⟨by omega, k5, by show PyData.depthAll xs + 1 ≤ 50; omega⟩
  · have := PyData.shown_le 64 (by decide) (.list xs) k1
    have e : (PyData.list xs).weight = PyData.weightAll xs := rfl
    rw [e] at this
    have : (64 + 2) * PyData.weightAll xs ≤ 66 * 120060 := Nat.mul_le_mul (by omega) (by omega)
    omega
theorem vl_lit {x : PyData} (h : good x = true) (h2 : ∀ xs, x ≠ .list xs) : Vl x := ⟨fun xs e => absurd e (h2 xs), good_show h⟩
theorem goodA_it {x : PyData} (h : goodA x = true) : It x := by
  unfold goodA at h
  simp only [Bool.and_eq_true, decide_eq_true_eq] at h
  obtain ⟨⟨⟨⟨b1, b2⟩, b3⟩, b4⟩, b5⟩ := h
  exact ⟨b1, b2, by omega, by omega, b5⟩
theorem names8_goodA : ∀ x ∈ names8, goodA (.str x) = true := by decide +kernel
theorem it_nest {xs : List PyData} (h : ∀ x ∈ xs, goodA x = true) (hl : xs.length ≤ 19) : It (.list xs) ∧ It (.tuple xs) := by
  obtain ⟨a1, a2, a3, a4, a5⟩ := goodA_all h
  have d : PyData.depthAll xs + 1 ≤ 1 := by omega
  have w : PyData.weightAll xs ≤ 2000 := by omega
  exact ⟨⟨a1, a2, w, d, a5⟩, ⟨a1, a2, w, d, a5⟩⟩
theorem cut_mem {xs : List PyData} {lo hi : Option Int} {x : PyData} (h : x ∈ TL.cutD xs lo hi) : x ∈ xs := by
  unfold TL.cutD at h
  exact List.mem_of_mem_drop (List.mem_of_mem_take h)
theorem cut_len {xs : List PyData} {lo hi : Option Int} : (TL.cutD xs lo hi).length ≤ xs.length := by
  unfold TL.cutD
  rw [List.length_take, List.length_drop]
  omega
def sValues : Spc := { ar := 3, pre := (fun | [.gen, .d x, .d y], n => (∃ (D : Ld) (l : List Str), x = D.d ∧ LdOk D ∧ D.hs.length ≤ 8 ∧ (∀ a ∈ D.names, a ∈ names8) ∧ y = strsD l ∧ wayS D l = true ∧ l.length ≤ 13) ∧ n < 2 ^ 59 | _, _ => False),
                       post := (fun _ n => fun r n' => n ≤ n' ∧ n' ≤ n + 64 ∧ ∃ vs : List PyData, (∀ v ∈ vs, Vl v) ∧ vs.length ≤ 100 ∧ r = ⟨.d (.list vs), true⟩) }
section
variable {Φ : Nat → TSp} {C : Nat → PyData}
theorem wValues (M : MonoPh Φ) (h22 : Φ 22 = sRand.sp) : Body sValues b32 n32 Φ C := by
  intro ts n Q X hq hl hp hQ hX
  match ts, hp with
  | [.gen, .d x, .d y], hp =>
    obtain ⟨⟨D, l, rfl, ok, h8, hin8, rfl, hw, hlen⟩, hn⟩ := hp
    have hz : (sizeLine : Nat) = 16777216 := sizeLine_eq
    have h0 : 0 < l.length := List.length_pos_iff.mpr (wayS_ne hw)
    have hin := wayS_in hw
    have gA : ∀ x ∈ l.map PyData.str, goodA x = true := fun x hx => by
      obtain ⟨z, hz', rfl⟩ := List.mem_map.mp hx
      exact names8_goodA z (hin8 z (hin z hz'))
    have gI : ∀ x ∈ l.map PyData.str, It x := fun x hx => goodA_it (gA x hx)
    simp [b32, n32, strsD]
    rw [h22]
    refine ⟨rfl, ⟨by omega, Int.lt_of_le_of_lt (show (l.length : Int) ≤ 13 by omega) (by decide +kernel), by omega⟩, fun r n1 hr => ?_, fun _ _ h => h.elim⟩
    obtain ⟨b1, b2, z, z0, z1, rfl⟩ := hr
    obtain ⟨c1, e1⟩ : ∃ c, TL.cutD (l.map PyData.str) none (some z) = c := ⟨_, rfl⟩
    obtain ⟨c2, e2⟩ : ∃ c, TL.cutD (l.map PyData.str) (some (z + 1)) none = c := ⟨_, rfl⟩
    obtain ⟨c3, e3⟩ : ∃ c, TL.cutD (l.map PyData.str) (some (-1)) none = c := ⟨_, rfl⟩
    have m1 : ∀ x ∈ c1, It x := fun x hx => gI x (cut_mem (by rw [e1]; exact hx))
    have m2 : ∀ x ∈ c2, It x := fun x hx => gI x (cut_mem (by rw [e2]; exact hx))
    have m3 : ∀ x ∈ c3, It x := fun x hx => gI x (cut_mem (by rw [e3]; exact hx))
    have l1 : c1.length ≤ l.length := by rw [← e1]; have := cut_len (xs := l.map PyData.str) (lo := none) (hi := some z); rwa [List.length_map] at this
    have l2 : c2.length ≤ l.length := by rw [← e2]; have := cut_len (xs := l.map PyData.str) (lo := some (z + 1)) (hi := none); rwa [List.length_map] at this
    have l3 : c3.length ≤ l.length := by rw [← e3]; have := cut_len (xs := l.map PyData.str) (lo := some (-1)) (hi := none); rwa [List.length_map] at this
    have ez : ∀ P : TL.T → Prop, ixW (.d (.list (l.map .str))) (.d (.int 0)) P = P (.d (.str (l.getD 0 ""))) := fun P => ix_strs (i := 0) (by decide) h0
    have ea : ∀ P : TL.T → Prop, ixW (.d (.list (l.map .str))) (.d (.int z)) P = P (.d (.str (l.getD z.toNat ""))) := fun P => ix_strs z0 (by omega)
    have iz : l.getD 0 ("" : Str) ∈ l := by rw [List.getD_eq_getElem?_getD, List.getElem?_eq_getElem h0]; exact List.getElem_mem _
    have ia : l.getD z.toNat ("" : Str) ∈ l := by rw [List.getD_eq_getElem?_getD, List.getElem?_eq_getElem (by omega)]; exact List.getElem_mem _
    generalize hgz : l.getD 0 ("" : Str) = u at ez iz
    generalize hga : l.getD z.toNat ("" : Str) = v at ea ia
    have gu : goodA (.str u) = true := gA _ (List.mem_map_of_mem iz)
    have gv : goodA (.str v) = true := gA _ (List.mem_map_of_mem ia)
    simp [slW, bnd, isNoB, e1, e2, e3, ez, ea, datas]
    refine ⟨by omega, by omega, by omega, by omega, by omega, by omega, by omega, by omega, by omega, by omega, ?_⟩
    rw [ix_d1]
    refine sort_keys ok ?_
    simp only [strsD, srcW]
    have iA : ∀ {x : PyData}, goodA x = true → It x := goodA_it
    have app : ∀ {xs ys : List PyData}, (∀ x ∈ xs, It x) → (∀ x ∈ ys, It x) → ∀ x ∈ xs ++ ys, It x := fun h1 h2 x hx => (List.mem_append.mp hx).elim (h1 x) (h2 x)
    have one : ∀ {y : PyData}, It y → ∀ x ∈ [y], It x := fun h x hx => by
      obtain rfl : x = _ := by simpa using hx
      exact h
    have g7 : goodA (.int 7) = true := by decide +kernel
    have gn : goodA .none = true := by decide +kernel
    have gz : goodA (.str "zz") = true := by decide +kernel
    have nw := it_nest (xs := l.map PyData.str) gA (by rw [List.length_map]; omega)
    have nv := it_nest (xs := [.str v]) (fun x hx => by
      obtain rfl : x = _ := by simpa using hx
      exact gv) (by simp)
    have lr : (l.map PyData.str).length = l.length := List.length_map _
    have ls : (D.names.mergeSort leS).length ≤ 8 := by rw [List.length_mergeSort]; unfold Ld.names; rw [List.length_map]; exact h8
    refine for_by M (fun i ρ m => m = n1 ∧ ∃ (fs : List PyData) (a5 : Option (Bool × T)), ρ = [some (false, .gen), some (false, .d D.d), some (false, .d (.list (l.map .str))), some (false, .d (.int z)), some (true, .d (.list fs)), a5] ∧ (∀ x ∈ fs, Vl x) ∧ fs.length = 15 + i) ⟨rfl, _, _, rfl, ?_, by simp⟩ (fun i ρ m x e h' => ?_) fun ρ m h' => ?_
    · intro x hx
      simp only [List.mem_cons, List.not_mem_nil, or_false] at hx
      rcases hx with rfl | rfl | rfl | rfl | rfl | rfl | rfl | rfl | rfl | rfl | rfl | rfl | rfl | rfl | rfl
      · exact vl_list gI (by omega)
      · exact vl_list (fun x hx => gI x (List.mem_reverse.mp hx)) (by rw [List.length_reverse]; omega)
      · exact vl_list (app gI m3) (by rw [List.length_append]; omega)
      · exact vl_list (app m1 m2) (by rw [List.length_append]; omega)
      · exact ⟨(fun xs e => by cases e), good_show (good_list gA (by omega)).2⟩
      · exact vl_lit (by decide +kernel) fun _ e => by cases e
      · exact vl_lit (by decide +kernel) fun _ e => by cases e
      · exact vl_lit (by decide +kernel) fun _ e => by cases e
      · exact vl_list (fun x hx => by cases hx) (by decide)
      · exact vl_lit (by decide +kernel) fun _ e => by cases e
      · exact vl_list (app gI (one (iA gz))) (by rw [List.length_append]; simp; omega)
      · exact vl_list (app gI (one (iA gn))) (by rw [List.length_append]; simp; omega)
      · exact vl_list (one nw.1) (by simp)
      · exact vl_list (one (iA gu)) (by simp)
      · exact vl_list (app m1 fun x hx => by
          rcases List.mem_cons.mp hx with rfl | hx
          · exact iA g7
          · exact m2 x hx) (by rw [List.length_append, List.length_cons]; omega)
    · obtain ⟨rfl, fs, a5, rfl, hv, hl'⟩ := h'
      rw [List.getElem?_map] at e
      obtain ⟨p, ep, rfl⟩ := Option.map_eq_some_iff.mp e
      have hp : p ∈ D.names := List.mem_mergeSort.mp (List.mem_of_getElem? ep)
      have hi : i < 8 := Nat.lt_of_lt_of_le (List.getElem?_eq_some_iff.mp ep).1 ls
      have gp : goodA (.str p) = true := names8_goodA p (hin8 p hp)
      refine ⟨_, rfl, ?_⟩
      simp [l32_0, stA, slW, bnd, isNoB, e1, e2, e3, datas]
      refine ⟨by omega, by omega, by omega, by omega, fun x hx => ?_, by omega⟩
      rcases hx with hx | rfl
      · exact hv x hx
      · exact vl_list (app m1 fun x hx => by
          rcases List.mem_cons.mp hx with rfl | hx
          · exact iA gp
          · exact m2 x hx) (by rw [List.length_append, List.length_cons]; omega)
    · obtain ⟨rfl, fs, a5, rfl, hv, hl'⟩ := h'
      rw [List.length_map] at hl'
      simp [slW, bnd, isNoB, e1, e2, e3, ea, datas]
      refine ⟨by omega, by omega, by omega, by omega, by omega, by omega, by omega, by omega, hQ _ _ ⟨b1, b2, _, fun x hx => ?_, ?_, rfl⟩⟩
      · rcases List.mem_append.mp hx with hx | hx
        · exact hv x hx
        · simp only [List.mem_cons, List.not_mem_nil, or_false] at hx
          rcases hx with rfl | rfl | rfl | rfl
          · exact vl_list (app m1 fun x hx => by
              rcases List.mem_cons.mp hx with rfl | hx
              · exact nv.1
              · exact m2 x hx) (by rw [List.length_append, List.length_cons]; omega)
          · exact vl_list (app m1 fun x hx => by
              rcases List.mem_cons.mp hx with rfl | hx
              · exact nv.2
              · exact m2 x hx) (by rw [List.length_append, List.length_cons]; omega)
          · exact vl_lit (by decide +kernel) fun _ e => by cases e
          · exact vl_lit (by decide +kernel) fun _ e => by cases e
      · simp; omega
end
end K51

set_option Elab.async false
set_option linter.all false
set_option maxRecDepth 100000
set_option maxHeartbeats 4000000
namespace K51
open PySem PySem.Spec PyProof.Rows L2 TL HL
/-! ### a map is shown -/
theorem kvs_show {hs : List (Str × Int)} (h1 : ∀ p ∈ hs, goodA (.str p.1) = true) (h2 : ∀ p ∈ hs, goodA (.int p.2) = true) : PyData.leavesShortKv 64 (hs.map hD) = true ∧ PyData.showableKv (hs.map hD) = true ∧ PyData.weightKv (hs.map hD) ≤ 210 * hs.length ∧ PyData.depthKv (hs.map hD) = 0 := by
  induction hs with
  | nil => exact ⟨rfl, rfl, Nat.le_refl _, rfl⟩
  | cons p hs ih =>
    obtain ⟨a1, a2, a3, a4⟩ := ih (fun q hq => h1 q (List.mem_cons_of_mem _ hq)) fun q hq => h2 q (List.mem_cons_of_mem _ hq)
    have b := h1 p (List.mem_cons_self ..)
    have c := h2 p (List.mem_cons_self ..)
    unfold goodA at b c
    simp only [Bool.and_eq_true, decide_eq_true_eq] at b c
    obtain ⟨⟨⟨⟨b1, b2⟩, b3⟩, b4⟩, b5⟩ := b
    obtain ⟨⟨⟨⟨c1, c2⟩, c3⟩, c4⟩, c5⟩ := c
    rw [List.map_cons]
    unfold hD
    refine ⟨?_, ?_, ?_, ?_⟩
    · simp only [PyData.leavesShortKv, b1, c1, Bool.true_and]
      exact a1
    · simp only [PyData.showableKv, b2, c2, Bool.true_and]
      exact a2
    · simp only [PyData.weightKv, List.length_cons]
      have : PyData.weightKv (List.map (fun p => (PyData.str p.1, PyData.int p.2)) hs) ≤ 210 * hs.length := a3
      omega
    · simp only [PyData.depthKv, b4, c4]
      have : PyData.depthKv (List.map (fun p => (PyData.str p.1, PyData.int p.2)) hs) = 0 := a4
      omega
theorem land_show {D : Ld} (h8 : D.hs.length ≤ 8) (hin : ∀ a ∈ D.names, a ∈ names8) (hb : ∀ p ∈ D.hs, p.2.natAbs ≤ 10 ^ 9) (ok : LdOk D) (hp : D.ps.length ≤ 64) : showOk D.d := by
  have hz : (sizeLine : Nat) = 16777216 := sizeLine_eq
  have e9 : (10 : Nat) ^ 9 < 10 ^ 30 := by decide
  obtain ⟨a1, a2, a3, a4⟩ := kvs_show (hs := D.hs) (fun p hp => names8_goodA _ (hin _ (List.mem_map_of_mem hp))) fun p hp => goodA_int (Nat.lt_of_le_of_lt (hb p hp) e9)
  obtain ⟨k1, k2, k3, k4, k5⟩ := it_all (xs := D.ps.map pD) fun x hx => by
    obtain ⟨p, hp, rfl⟩ := List.mem_map.mp hx
    obtain ⟨q1, q2, _⟩ := ok.inn p hp
    refine (it_nest (xs := [.str p.1, .str p.2]) (fun y hy => ?_) (by simp)).2
    have hy : y = .str p.1 ∨ y = .str p.2 := by simpa using hy
    rcases hy with rfl | rfl
    · exact names8_goodA _ (hin _ q1)
    · exact names8_goodA _ (hin _ q2)
  have m1 : (PyData.str "map").leavesShort 64 = true := by decide +kernel
  have m2 : (PyData.str "map").showable = true := by decide +kernel
  have m3 : (PyData.str "map").weight ≤ 10 := by decide +kernel
  have ls : D.d.leavesShort 64 = true := by
    unfold Ld.d
    simp only [PyData.leavesShort, PyData.leavesShortAll, a1, k1, Bool.and_true]
    exact m1
  have wt : D.d.weight ≤ 140000 := by
    unfold Ld.d
    simp only [PyData.weight, PyData.weightAll]
    have : (PyData.str "map").weight ≤ 10 := m3
    simp only [PyData.weight] at this
    rw [List.length_map] at k3
    omega
  refine ⟨?_, ?_, ?_⟩
  · unfold Ld.d
    simp only [PyData.showable, PyData.showableAll, a2, k2, Bool.and_true]
  · have := PyData.shown_le 64 (by decide) D.d ls
    have : (64 + 2) * D.d.weight ≤ 66 * 140000 := Nat.mul_le_mul (by omega) wt
    omega
  · unfold Ld.d
    simp only [PyData.depth, PyData.depthAll, a4]
    omega
theorem ht_bd {D : Ld} (ok : LdOk D) (hb : ∀ p ∈ D.hs, p.2.natAbs ≤ 10 ^ 9) {x : Str} (hx : x ∈ D.names) : (D.ht x).natAbs ≤ 10 ^ 9 := by
  obtain ⟨p, hp, rfl⟩ := List.mem_map.mp hx
  rw [Ld.ht_at ok hp]
  exact hb p hp
theorem sum_bd {l : List Int} {k : Int} (h : ∀ a ∈ l, 0 ≤ a ∧ a ≤ k) : 0 ≤ l.sum ∧ l.sum ≤ k * l.length := by
  induction l with
  | nil => simp
  | cons a l ih =>
    obtain ⟨h1, h2⟩ := ih fun b hb => h b (List.mem_cons_of_mem _ hb)
    obtain ⟨h3, h4⟩ := h a (List.mem_cons_self ..)
    rw [List.sum_cons, List.length_cons]
    have : k * ((l.length + 1 : Nat) : Int) = k * l.length + k := by
      rw [Int.natCast_add, Int.mul_add]; simp
    omega
theorem climb_bd {D : Ld} (ok : LdOk D) (hb : ∀ p ∈ D.hs, p.2.natAbs ≤ 10 ^ 9) {l : List Str} (hin : ∀ x ∈ l, x ∈ D.names) (hl : l.length ≤ 100) : (climb D l).natAbs < 10 ^ 30 := by
  have e9 : (10 : Nat) ^ 9 = 1000000000 := by decide
  have key := sum_bd (l := (pairs l).map fun p => pos (D.ht p.2 - D.ht p.1)) (k := 2000000000) fun a ha => by
    obtain ⟨p, hp, rfl⟩ := List.mem_map.mp ha
    have p1 := ht_bd ok hb (hin _ (List.of_mem_zip hp).1)
    have p2 := ht_bd ok hb (hin _ (List.mem_of_mem_tail (List.of_mem_zip hp).2))
    unfold pos
    split <;> omega
  rw [List.length_map] at key
  have ln : (pairs l).length ≤ 100 := by unfold pairs; rw [List.length_zip]; omega
  have e30 : (10 : Nat) ^ 30 = 1000000000000000000000000000000 := by decide +kernel
  unfold climb
  omega
theorem show_ints {l : List Int} (h : ∀ a ∈ l, a.natAbs < 10 ^ 30) (hl : l.length ≤ 100) : showOk (.list (l.map .int)) := by
  refine good_show (good_list (fun x hx => ?_) (by rw [List.length_map]; omega)).1
  obtain ⟨a, ha, rfl⟩ := List.mem_map.mp hx
  exact goodA_int (h a ha)
theorem show_bl2 {a b : Bool} : showOk (.list [.bool a, .bool b]) := by
  refine good_show ?_
  cases a <;> cases b <;> decide +kernel
end K51

set_option Elab.async false
set_option linter.all false
set_option maxRecDepth 100000
set_option maxHeartbeats 4000000
namespace K51
open PySem PySem.Spec PyProof.Rows L2 TL HL
def sRight : Spc := { ar := 1, pre := (fun | [.gen], n => n < 2 ^ 57 | _, _ => False), post := (fun _ n => fun r n' => n ≤ n' ∧ n' ≤ n + 30000 ∧ r = bl true) }
theorem ix_last {l : List Str} {P : TL.T → Prop} (h : 0 < l.length) : ixW (.d (strsD l)) (.d (.int (-1))) P = P (.d (.str (l.getLast (List.length_pos_iff.mp h)))) := by
  have hne := List.length_pos_iff.mp h
  have e1 : strsD l = .list (l.dropLast.map PyData.str ++ [.str (l.getLast hne)]) := by
    unfold strsD
    conv => lhs; rw [← List.dropLast_concat_getLast hne]
    rw [List.map_append]; rfl
  rw [e1]
  refine propext ⟨fun ⟨x, e', h⟩ => ?_, fun h => ⟨_, atI_last, h⟩⟩
  rw [atI_last] at e'
  cases e'
  exact h
section
variable {Φ : Nat → TSp} {C : Nat → PyData}
theorem call_one {f n : Nat} {Q : QE} {X : TL.XE} {s : Spc} {ok : Ld → PyData → Prop} {P : Ld → PyData → R → Prop} (h : Φ f = s.sp) (e : s = { ar := 2, pre := oneD ok, post := resD P }) {D : Ld} {y : PyData} (ld : LdOk D) (hy : ok D y) (q : ∀ r, P D y r → Q r n) : Φ f [.d D.d, .d y] n Q X := by
  subst e
  rw [h]
  refine ⟨rfl, ⟨D, rfl, ld, hy⟩, fun r n' hr => ?_, fun _ _ h => h.elim⟩
  obtain ⟨rfl, hr⟩ := hr
  exact q r (hr D rfl)
/-- one value judged -/
theorem turn (M : MonoPh Φ) (h12 : Φ 12 = sWayIn.sp) (h28 : Φ 28 = sWayIn.sp) {D : Ld} (ok : LdOk D) {v : PyData} (hv : Vl v) {a0 a2 a3 a4 a5 a6 a7 a9 a10 : Option (Bool × T)} {b1 : Bool} {n : Nat} {D' : EndT} {X : TL.XE}
    (q : ∀ a9 a10 : Option (Bool × T), D'.nx [a0, some (false, .d D.d), a2, a3, a4, a5, a6, a7, some (false, .d v), a9, a10] n) :
    wpSs Φ C X l33_0 D' [a0, some (b1, .d D.d), a2, a3, a4, a5, a6, a7, some (false, .d v), a9, a10] n := by
  obtain ⟨ov, sv⟩ := hv
  simp [l33_0]
  refine call_one h28 rfl ok ov fun r hr => ?_
  subst hr
  simp [bl, sv, slot]
  refine call_one h12 rfl ok ov fun r hr => ?_
  subst hr
  simp [bl]
  refine call_one h12 rfl ok ov fun r hr => ?_
  subst hr
  simp [bl, datas, sv, show_bl2, eqOk_str, eqv_str]
  exact ⟨by rw [sizeLine_eq]; decide, q _ _⟩
theorem w33 (M : MonoPh Φ) (h12 : Φ 12 = sWayIn.sp) (h16 : Φ 16 = sClimbOf.sp) (h17 : Φ 17 = sFallOf.sp) (h19 : Φ 19 = sRoofOf.sp) (h22 : Φ 22 = sRand.sp) (h26 : Φ 26 = sLand.sp) (h28 : Φ 28 = sWayIn.sp) (h29 : Φ 29 = sClimbIn.sp) (h30 : Φ 30 = sRoofIn.sp) (h31 : Φ 31 = sWalk.sp) (h32 : Φ 32 = sValues.sp) : Body sRight b33 n33 Φ C := by
  intro ts n Q X hq hl hp hQ hX
  match ts, hp with
  | [.gen], hp =>
    have hz : (sizeLine : Nat) = 16777216 := sizeLine_eq
    have hp : n < 2 ^ 57 := hp
    simp [b33, n33]
    rw [h26]
    refine ⟨rfl, ⟨by decide, by decide, by omega⟩, fun r n1 hr => ?_, fun _ _ h => h.elim⟩
    obtain ⟨b1, b2, D, ok, h7, hb, hps, hin8, rfl⟩ := hr
    have so := land_show (by omega) hin8 hb ok hps
    simp [t33_7, so]
    rw [h22]
    refine ⟨rfl, ⟨by decide, by decide +kernel, by omega⟩, fun r n2 hr => ?_, fun _ _ h => h.elim⟩
    obtain ⟨b3, b4, k, k0, k1, rfl⟩ := hr
    simp
    rw [h31]
    refine ⟨rfl, ⟨⟨D, rfl, ok⟩, k0, by omega, by omega⟩, fun r n3 hr => ?_, fun _ _ h => h.elim⟩
    obtain ⟨b5, b6, hr⟩ := hr
    obtain ⟨l, hw, hlen, rfl⟩ := hr D rfl
    have lw : l.length ≤ 13 := by omega
    have hin := wayS_in hw
    have hne := wayS_ne hw
    have h0 : 0 < l.length := List.length_pos_iff.mpr hne
    have iw : isWay D (strsD l) := ⟨l, rfl, hw, by omega⟩
    have iwr : isWay D (strsD l.reverse) := ⟨l.reverse, rfl, by rw [wayS_rev]; exact hw, by rw [List.length_reverse]; omega⟩
    have er : PyData.list ((l.map PyData.str).reverse) = strsD l.reverse := by unfold strsD; rw [List.map_reverse]
    have rv : ∀ Q : QE, ∀ n, (∃ xs, (T.d (strsD l)) = .d (.list xs) ∧ Q ⟨.d (.list xs.reverse), true⟩ n) = Q ⟨.d (strsD l.reverse), true⟩ n := fun Q n => propext ⟨fun ⟨xs, e, h⟩ => by
      cases e
      rw [er] at h
      exact h, fun h => ⟨_, rfl, by rw [er]; exact h⟩⟩
    simp [slot, t33_6]
    refine call_one h29 rfl ok iw.inN fun r hr => ?_
    subst hr
    rw [unL_strs]
    refine ⟨_, rfl, ?_⟩
    rw [er]
    refine call_one h29 rfl ok iwr.inN fun r hr => ?_
    subst hr
    rw [unL_strs]
    refine call_one h30 rfl ok iw.inN fun r hr => ?_
    obtain ⟨m, hm, rfl⟩ := hr
    rw [unL_strs] at hm
    have c1 := climb_bd ok hb hin (by omega)
    have c2 := climb_bd ok hb (l := l.reverse) (fun x hx => hin x (List.mem_reverse.mp hx)) (by rw [List.length_reverse]; omega)
    have c3 : m.natAbs < 10 ^ 30 := by
      obtain ⟨x, hx, rfl⟩ := List.mem_map.mp hm.1
      exact Nat.lt_of_le_of_lt (ht_bd ok hb (hin x hx)) (by decide)
    have cd := climb_diff (D := D) l (l.head hne) (l.getLast hne) (List.head?_eq_some_head hne) (List.getLast?_eq_some_getLast hne)
    have i0 : ∀ P : TL.T → Prop, ixW (.d (strsD l)) (.d (.int 0)) P = P (.d (.str (l.head hne))) := fun P => by
      have := ix_strs (l := l) (i := 0) (P := P) (by decide) h0
      have e : l.getD 0 ("" : Str) = l.head hne := by
        cases l with
        | nil => exact absurd rfl hne
        | cons a l => rfl
      show ixW (.d (.list (l.map .str))) _ _ = _
      rw [this]
      show P (.d (.str (l.getD 0 ""))) = _
      rw [e]
    have il : ∀ P : TL.T → Prop, ixW (.d (strsD l)) (.d (.int (-1))) P = P (.d (.str (l.getLast hne))) := fun P => ix_last h0
    have hh : l.head hne ∈ D.names := hin _ (List.head_mem hne)
    have hl' : l.getLast hne ∈ D.names := hin _ (List.getLast_mem hne)
    generalize l.head hne = p at i0 hh cd
    generalize l.getLast hne = w at il hl' cd
    generalize hcl : climb D l = a at c1 cd
    generalize hcr : climb D l.reverse = b at c2 cd
    have told : ∀ Q : List PyData → Nat → Prop, True := fun _ => trivial
    simp [t33_5]
    refine call_one h16 rfl ok iw fun r hr => ?_
    subst hr
    rw [unL_strs, hcl]
    refine call_one h16 rfl ok iw fun r hr => ?_
    subst hr
    rw [unL_strs, hcl]
    refine call_one h17 rfl ok iw fun r hr => ?_
    subst hr
    rw [unL_strs, hcr]
    refine call_one h17 rfl ok iw fun r hr => ?_
    subst hr
    rw [unL_strs, hcr]
    refine call_one h19 rfl ok iw fun r hr => ?_
    obtain ⟨m1, hm1, rfl⟩ := hr
    rw [unL_strs] at hm1
    obtain rfl := hm1.one hm
    refine call_one h19 rfl ok iw fun r hr => ?_
    obtain ⟨m2, hm2, rfl⟩ := hr
    rw [unL_strs] at hm2
    obtain rfl := hm2.one hm1
    have st : showOk (.list ([a, a, b, b, m2, m2].map .int)) := show_ints (fun x hx => by
      simp only [List.mem_cons, List.not_mem_nil, or_false] at hx
      rcases hx with rfl | rfl | rfl | rfl | rfl | rfl <;> assumption) (by simp)
    simp only [List.map_cons, List.map_nil] at st
    simp [datas, t33_4, st, eqOk_str, eqv_str]
    refine ⟨by omega, ?_⟩
    simp [t33_3, ix_d1, il, i0, ix_h hl', ix_h hh, eqOk_int, eqv_int, cd]
    refine ⟨_, rfl, ?_⟩
    rw [er]
    refine call_one h16 rfl ok iwr fun r hr => ?_
    subst hr
    rw [unL_strs, hcr]
    refine ⟨_, rfl, ?_⟩
    rw [er]
    refine call_one h17 rfl ok iwr fun r hr => ?_
    subst hr
    rw [unL_strs, List.reverse_reverse, hcl]
    have e2 : PyData.eqv (.list [.int b, .int a]) (.list [.int b, .int a]) = true := eqv_self _ rfl
    have o2 : eqOk (.list [.int b, .int a]) (.list [.int b, .int a]) := ⟨rfl, rfl, by simp [PyData.depth, PyData.depthAll]⟩
    simp [datas, e2, o2]
    refine ⟨by omega, ?_⟩
    simp [t33_2]
    rw [h32]
    refine ⟨rfl, ⟨⟨D, l, rfl, ok, by omega, hin8, rfl, hw, lw⟩, by omega⟩, fun r n4 hr => ?_, fun _ _ h => h.elim⟩
    obtain ⟨b7, b8, vs, hvs, _, rfl⟩ := hr
    simp only [srcW]
    refine for_by M (fun i ρ k => k = n4 ∧ ∃ (a8 a9 a10 : Option (Bool × T)), ρ = [some (false, .gen), some (false, .d D.d), some (false, .d (.str D.d.shown)), some (false, .d (strsD l)), some (false, .d (.int a)), some (false, .d (.int b)), some (false, .d (.int m2)), some (true, .d (.list [.int a, .int a, .int b, .int b, .int m2, .int m2])), a8, a9, a10]) ⟨rfl, _, _, _, rfl⟩ (fun i ρ k x e h' => ?_) fun ρ k h' => ?_
    · obtain ⟨rfl, a8, a9, a10, rfl⟩ := h'
      exact ⟨_, rfl, turn M h12 h28 ok (hvs x (List.mem_of_getElem? e)) fun _ _ => ⟨rfl, _, _, _, rfl⟩⟩
    · obtain ⟨rfl, a8, a9, a10, rfl⟩ := h'
      simp [t33_1, so, eqOk_str, eqv_str]
      exact hQ _ _ ⟨by omega, by omega, rfl⟩
end
end K51

set_option Elab.async false
set_option linter.all false
set_option maxRecDepth 100000
set_option maxHeartbeats 4000000
namespace K51
open PySem PySem.Spec PyProof.Rows L2 TL HL
theorem step_le {a b c d t : Nat} (h : a ≤ b + c * t) (h2 : d ≤ a + c) : d ≤ b + c * (t + 1) := by
  rw [Nat.mul_add, Nat.mul_one]
  omega
def sLaw : Spc := { ar := 1, pre := (fun | [.scr ns], n => ns.length ≤ 63 ∧ n = 0 | _, _ => False), post := (fun _ _ => fun r _ => r = bl true) }
def D0 : Ld := ⟨[("a", 5)], []⟩
theorem D0_ok : LdOk D0 := by
  refine ⟨by decide, by decide, by decide +kernel, by decide +kernel, by decide +kernel, by decide +kernel, ?_, List.Pairwise.nil, by decide⟩
  intro p hp
  cases hp
section
variable {Φ : Nat → TSp} {C : Nat → PyData}
theorem w34 (M : MonoPh Φ) (h12 : Φ 12 = sWayIn.sp) (h16 : Φ 16 = sClimbOf.sp) (h19 : Φ 19 = sRoofOf.sp) (h23 : Φ 23 = sGen.sp) (h33 : Φ 33 = sRight.sp) : Body sLaw b34 n34 Φ C := by
  intro ts n Q X hq hl hp hQ hX
  match ts, hp with
  | [.scr ns], hp =>
    obtain ⟨l63, n0⟩ := hp
    have hq2 : ∀ m, Q (bl true) m := fun m => hQ _ m rfl
    have hz : (sizeLine : Nat) = 16777216 := sizeLine_eq
    simp [b34, n34, srcW]
    refine for_by M (fun t ρ m => m ≤ 0 + 120000 * t ∧ ∃ a b c d : Option (Bool × T), ρ = [some (false, .scr ns), a, b, c, d]) ⟨by omega, none, none, none, none, rfl⟩ (fun t ρ m x e h => ?_) fun ρ m h => ?_
    · obtain ⟨hm, a, b, c, d, rfl⟩ := h
      have ht : t < 3 := by
        have := (List.getElem?_eq_some_iff.mp e).1
        simpa using this
      have ex : x = .int t := by
        rw [List.getElem?_map, List.getElem?_range (by omega)] at e
        exact (Option.some.inj e).symm
      subst ex
      refine ⟨_, rfl, ?_⟩
      simp [l34_1, stA]
      rw [h23]
      refine ⟨rfl, ⟨by omega, by omega, l63⟩, fun r n' hr => ?_, fun _ _ h => h.elim⟩
      obtain ⟨rfl, rfl⟩ := hr
      simp [srcW]
      refine for_by M (fun u ρ m' => m' ≤ n' + 30000 * u ∧ ∃ b d : Option (Bool × T), ρ = [some (false, .scr ns), some (false, .d (.int t)), some (false, .gen), b, d]) ⟨by omega, _, _, rfl⟩ (fun u ρ m' x e h => ?_) fun ρ m' h => ?_
      · obtain ⟨hm', b, d, rfl⟩ := h
        have hu : u < 4 := by
          have := (List.getElem?_eq_some_iff.mp e).1
          simpa using this
        refine ⟨_, rfl, ?_⟩
        simp [l34_0, stA]
        rw [h33]
        refine ⟨rfl, ?_, fun r n2 hr => ?_, fun _ _ h => h.elim⟩
        · show m' < 2 ^ 57
          omega
        · obtain ⟨e1, e2, rfl⟩ := hr
          have g1 : n2 ≤ n' + 30000 * (u + 1) := step_le hm' (by omega)
          simp [bl]
          exact g1
      · obtain ⟨hm', b, d, rfl⟩ := h
        have hm' : m' ≤ n' + 30000 * 4 := by simpa using hm'
        have g1 : m' ≤ 0 + 120000 * (t + 1) := step_le hm (by omega)
        refine ⟨?_, _, _, _, _, rfl⟩
        simpa only [Nat.zero_add] using g1
    · obtain ⟨hm, a, b, c, d, rfl⟩ := h
      have eD : PyData.tuple [.str "map", .dict [(.str "a", .int 5)], .list []] = D0.d := rfl
      have e1 : PyData.list [.str "a"] = strsD ["a"] := rfl
      have iw : isWay D0 (strsD ["a"]) := ⟨_, rfl, by decide +kernel, by decide⟩
      have w1 : wayB D0 (strsD ["a"]) = true := by decide +kernel
      have w2 : wayB D0 (strsD ["a", "a"]) = false := by decide +kernel
      simp [datas]
      refine ⟨by omega, by omega, ?_⟩
      refine call_one (D := D0) (y := strsD ["a"]) h12 rfl D0_ok (okV_strs (by decide)) fun r hr => ?_
      subst hr
      rw [w1]
      refine ⟨by omega, ?_⟩
      refine call_one (D := D0) (y := strsD ["a", "a"]) h12 rfl D0_ok (okV_strs (by decide)) fun r hr => ?_
      subst hr
      rw [w2]
      refine ⟨by omega, ?_⟩
      refine call_one (D := D0) (y := strsD ["a"]) h16 rfl D0_ok iw fun r hr => ?_
      subst hr
      refine ⟨by omega, ?_⟩
      refine call_one (D := D0) (y := strsD ["a"]) h19 rfl D0_ok iw fun r hr => ?_
      obtain ⟨k, hk, rfl⟩ := hr
      have ek : k = 5 := by
        have hk : k ∈ (unL (strsD ["a"])).map D0.ht := hk.1
        rw [unL_strs] at hk
        have e5 : (["a"] : List Str).map D0.ht = [5] := by decide +kernel
        rw [e5] at hk
        simpa using hk
      subst ek
      have ec : climb D0 (unL (strsD ["a"])) = 0 := by decide +kernel
      rw [ec]
      have e2 : PyData.eqv (.list [.bool true, .bool false, .int 0, .int 5]) (.list [.bool true, .bool false, .int 0, .int 5]) = true := eqv_self _ rfl
      have o2 : eqOk (.list [.bool true, .bool false, .int 0, .int 5]) (.list [.bool true, .bool false, .int 0, .int 5]) := ⟨rfl, rfl, by simp [PyData.depth, PyData.depthAll]⟩
      simp [bl]
      refine ⟨_, rfl, by show 4 ≤ _; omega, by omega, o2, ?_⟩
      rw [e2]
      exact hq2 _
end
end K51

set_option Elab.async false
set_option linter.all false
set_option maxRecDepth 100000
set_option maxHeartbeats 4000000
namespace K51
open PySem PySem.Spec PyProof.Rows L2 TL HL
def S : Nat → Spc
  | 0 => sWhole
  | 1 => sSigns
  | 2 => sName
  | 3 => sAscD
  | 4 => sPathOf
  | 5 => sHeights
  | 6 => sIsMap
  | 7 => sChkMap
  | 8 => sPlaceOf
  | 9 => sByHeight
  | 10 => sJoined
  | 11 => sWayIn
  | 12 => sWayIn
  | 13 => sChkWay
  | 14 => sRise
  | 15 => sClimbIn
  | 16 => sClimbOf
  | 17 => sFallOf
  | 18 => sRoofIn
  | 19 => sRoofOf
  | 20 => sCell
  | 21 => sHash
  | 22 => sRand
  | 23 => sGen
  | 24 => sPick
  | 25 => sShuf
  | 26 => sLand
  | 27 => sNexts
  | 28 => sWayIn
  | 29 => sClimbIn
  | 30 => sRoofIn
  | 31 => sWalk
  | 32 => sValues
  | 33 => sRight
  | 34 => sLaw
  | _ => Spc.no 0
def put (i : Nat) (s : Spc) (T : Nat → Spc) : Nat → Spc := fun j => if j = i then s else T j
def kws : Nat → List (List Nat × Nat × List Str)
  | 12 => [([1, 0], 0, ["value", "land"])]
  | 16 => [([1, 0], 0, ["way", "land"])]
  | 17 => [([1, 0], 0, ["way", "land"])]
  | 19 => [([1, 0], 0, ["way", "land"])]
  | _ => []
section
variable {P : Program} {w : World} {K : PySem.W.Frag} {mg : Str → Option Value} {base : Heap}
/-- what the module gives -/
structure Md (K : PySem.W.Frag) (mg : Str → Option Value) : Prop where
  dg : PySem.W.nsIn K cStatics "sys.int_max_str_digits" = some none
  bl : ∀ x, (tb (fun _ => spNo) 0).bl.contains x = true → mg x = none
  gc : ∀ k, (tb (fun _ => spNo) 0).hc k = true → ∃ u v, mg ((tb (fun _ => spNo) 0).gm k) = some u ∧ RelV v u ∧ ∀ H, Rp K H v ((tb (fun _ => spNo) 0).C k)
variable [TabsC]
abbrev At (P : Program) (w : World) (K : PySem.W.Frag) (mg : Str → Option Value) (base : Heap) (i L : Nat) (s : Spc) : Prop := Has P w K mg base (tb (fun _ => spNo) 0).cn ((tb (fun _ => spNo) 0).nm i) ((tb (fun _ => spNo) 0).ar i) (kws i) L s.sp
theorem fz {T : Nat → Spc} {k L : Nat} {lm : Bool} (m : Md K mg) (ta : TbAt base mg) (ha : ∀ i, (T i).ar = (tb (fun _ => spNo) 0).ar i) (h : ∀ i, i < k → At P w K mg base i L (T i)) : Fz (tb (fun i => (T i).sp) k lm) P w K mg base L := by
  refine ⟨ta, m.dg, mono_sp T, fun f ts n Q Xt hf => hf.1.trans (ha f), m.bl, m.gc, fun f hf => ?_, fun f pm n ks hf => ?_⟩
  · have hf : f < k := of_decide_eq_true hf
    obtain ⟨a, fd, ps, F, r1, r2, r3, r4, _⟩ := h f hf
    exact ⟨a, fd, ps, F, r1, r2, r3, r4⟩
  · have hf : (decide (f < k) && decide ((f, pm, n, ks) ∈ ([(16, [1, 0], 0, ["way", "land"]), (17, [1, 0], 0, ["way", "land"]), (12, [1, 0], 0, ["value", "land"]), (19, [1, 0], 0, ["way", "land"])] : List (Nat × List Nat × Nat × List Str)))) = true := hf
    simp only [Bool.and_eq_true, decide_eq_true_eq] at hf
    obtain ⟨h1, h2⟩ := hf
    obtain ⟨a, fd, ps, F, r1, r2, r3, _, r5⟩ := h f h1
    refine ⟨a, fd, ps, F, r1, r2, r3, ?_⟩
    have : (pm, n, ks) ∈ kws f := by
      simp only [List.mem_cons, List.not_mem_nil, or_false, Prod.mk.injEq] at h2
      rcases h2 with ⟨rfl, rfl, rfl, rfl⟩ | ⟨rfl, rfl, rfl, rfl⟩ | ⟨rfl, rfl, rfl, rfl⟩ | ⟨rfl, rfl, rfl, rfl⟩ <;> simp [kws]
    exact r5 _ this
/-- a def of the text as the module holds it -/
def Df (K : PySem.W.Frag) (mg : Str → Option Value) (i : Nat) (x : Str) (st : Stmt) (ps : List Str) : Prop := ∃ f fd, Fun K x x st f fd ∧ mg x = some (.ref f) ∧ Binds K fd ps [] ∧ (∀ q ∈ kws i, KBinds K fd ps q.2.2 (kwG q.2.1 q.2.2.length q.1) (kwG q.2.1 q.2.2.length q.1)) ∧ (lms i = true → LamF K x fd.code)
theorem step {T : Nat → Spc} {k i L : Nat} {x : Str} {st : Stmt} {N ps : List Str} {s : Spc} {b : Ss} (hx : (tb (fun _ => spNo) 0).nm i = x) (hp : ps.length = (tb (fun _ => spNo) 0).ar i) (D : Df K mg i x st ps) (Z : Fz (tb (fun i => (T i).sp) k (lms i)) P w K mg base L)
    (S : FnScope N ps (defScope st)) (hc : chkSs (tb (fun i => (T i).sp) k (lms i)) N (defScope st) b (defBody st) = true) (B : Body s b N (fun i => (T i).sp) (tb (fun _ => spNo) 0).C) : At P w K mg base i (L + 2) s := by
  obtain ⟨f, fd, F, e, bd, kb, lo⟩ := D
  refine ⟨f, fd, ps, def_sp (Γ := tb (fun i => (T i).sp) k (lms i)) b Z lo F S hc fun ts n Q X hq hl hp hQ hX => B ts n Q X hq hl hp hQ hX, hp, by rw [hx]; exact e, F.kp, bd, kb⟩
/-- a spec that is never asked -/
theorem never {i L : Nat} {x : Str} {st : Stmt} {ps : List Str} {s : Spc} (hx : (tb (fun _ => spNo) 0).nm i = x) (hp : ps.length = (tb (fun _ => spNo) 0).ar i) (D : Df K mg i x st ps) (h : ∀ ts n, ¬ s.pre ts n) : At P w K mg base i L s := by
  obtain ⟨f, fd, F, e, bd, kb, _⟩ := D
  exact ⟨f, fd, ps, fn_false h, hp, by rw [hx]; exact e, F.kp, bd, kb⟩
theorem arS : ∀ i, (S i).ar = (tb (fun _ => spNo) 0).ar i
  | 0 => rfl | 1 => rfl | 2 => rfl | 3 => rfl | 4 => rfl | 5 => rfl | 6 => rfl | 7 => rfl | 8 => rfl | 9 => rfl | 10 => rfl | 11 => rfl | 12 => rfl | 13 => rfl | 14 => rfl | 15 => rfl | 16 => rfl | 17 => rfl | 18 => rfl | 19 => rfl | 20 => rfl | 21 => rfl | 22 => rfl | 23 => rfl | 24 => rfl | 25 => rfl | 26 => rfl | 27 => rfl | 28 => rfl | 29 => rfl | 30 => rfl | 31 => rfl | 32 => rfl | 33 => rfl | 34 => rfl
  | _ + 35 => rfl
theorem ar_put {j : Nat} {s : Spc} (h : s.ar = (tb (fun _ => spNo) 0).ar j) : ∀ i, (put j s S i).ar = (tb (fun _ => spNo) 0).ar i := fun i => by
  unfold put
  by_cases e : i = j
  · rw [if_pos e, e]; exact h
  · rw [if_neg e]; exact arS i
theorem more {T : Nat → Spc} {k L L' : Nat} (h : ∀ i, i < k → At P w K mg base i L (T i)) (hk : At P w K mg base k L' (T k)) (hl : L ≤ L') : ∀ i, i < k + 1 → At P w K mg base i L' (T i) := fun i hi => by
  by_cases e : i = k
  · rw [e]; exact hk
  · exact (h i (by omega)).up hl
theorem with_ {j L : Nat} {s : Spc} (h : ∀ i, i < j → At P w K mg base i L (S i)) (hj : At P w K mg base j L s) : ∀ i, i < j + 1 → At P w K mg base i L (put j s S i) := fun i hi => by
  unfold put
  by_cases e : i = j
  · rw [if_pos e, e]; exact hj
  · rw [if_neg e]; exact h i (by omega)
theorem all_at (m : Md K mg) (ta : TbAt base mg) (d0 : Df K mg 0 "is_whole" s0 p0) (d1 : Df K mg 1 "is_signs" s1 p1) (d2 : Df K mg 2 "is_name" s2 p2) (d3 : Df K mg 3 "ascends" s3 p3) (d4 : Df K mg 4 "is_path_of" s4 p4) (d5 : Df K mg 5 "are_heights" s5 p5) (d6 : Df K mg 6 "is_map" s6 p6) (d7 : Df K mg 7 "check_map" s7 p7) (d8 : Df K mg 8 "is_place_of" s8 p8) (d9 : Df K mg 9 "by_height" s9 p9) (d10 : Df K mg 10 "joined_to" s10 p10) (d11 : Df K mg 11 "is_way_in" s11 p11) (d12 : Df K mg 12 "is_way" s12 p12) (d13 : Df K mg 13 "check_way" s13 p13) (d14 : Df K mg 14 "rise_to" s14 p14) (d15 : Df K mg 15 "climb_in" s15 p15) (d16 : Df K mg 16 "climb_of" s16 p16) (d17 : Df K mg 17 "fall_of" s17 p17) (d18 : Df K mg 18 "roof_in" s18 p18) (d19 : Df K mg 19 "roof_of" s19 p19) (d20 : Df K mg 20 "_law_cell" s20 p20) (d21 : Df K mg 21 "_law_hash" s21 p21) (d22 : Df K mg 22 "_law_random" s22 p22) (d23 : Df K mg 23 "_law_generator" s23 p23) (d24 : Df K mg 24 "_law_pick" s24 p24) (d25 : Df K mg 25 "_law_shuffled" s25 p25) (d26 : Df K mg 26 "_law_land" s26 p26) (d27 : Df K mg 27 "_law_nexts" s27 p27) (d28 : Df K mg 28 "_law_is_way" s28 p28) (d29 : Df K mg 29 "_law_climb" s29 p29) (d30 : Df K mg 30 "_law_roof" s30 p30) (d31 : Df K mg 31 "_law_walk" s31 p31) (d32 : Df K mg 32 "_law_values" s32 p32) (d33 : Df K mg 33 "_law_right" s33 p33) : ∀ i, i < 34 → At P w K mg base i 68 (S i) := by
  have M : MonoPh (fun i => (S i).sp) := mono_sp S
  have H0 : ∀ i, i < 0 → At P w K mg base i 0 (S i) := fun i h => absurd h (Nat.not_lt_zero i)
  have h0 : At P w K mg base 0 2 (S 0) := step rfl rfl d0 (fz m ta arS H0) sc0 (ch0 _) (wWhole)
  have H1 := more H0 h0 (by decide)
  have h1 : At P w K mg base 1 4 (S 1) := step rfl rfl d1 (fz m ta arS H1) sc1 (ch1 _) (wSigns M)
  have H2 := more H1 h1 (by decide)
  have h2 : At P w K mg base 2 6 (S 2) := step rfl rfl d2 (fz m ta arS H2) sc2 (ch2 _) (wName rfl rfl rfl rfl)
  have H3 := more H2 h2 (by decide)
  have h3 : At P w K mg base 3 8 (S 3) := step rfl rfl d3 (fz m ta arS H3) sc3 (ch3 _) (wAscD M)
  have H4 := more H3 h3 (by decide)
  have h4 : At P w K mg base 4 10 (S 4) := step rfl rfl d4 (fz m ta arS H4) sc4 (ch4 _) (wPathOf M)
  have H5 := more H4 h4 (by decide)
  have h5 : At P w K mg base 5 12 (S 5) := step rfl rfl d5 (fz m ta arS H5) sc5 (ch5 _) (wHeights M rfl rfl rfl)
  have H6 := more H5 h5 (by decide)
  have h6 : At P w K mg base 6 14 (S 6) := step rfl rfl d6 (fz m ta arS H6) sc6 (ch6 _) (wIsMap M rfl rfl rfl)
  have H7 := more H6 h6 (by decide)
  have h7 : At P w K mg base 7 16 (S 7) := step rfl rfl d7 (fz m ta arS H7) sc7 (ch7 _) (wChkMap rfl)
  have H8 := more H7 h7 (by decide)
  have h8 : At P w K mg base 8 18 (S 8) := step rfl rfl d8 (fz m ta arS H8) sc8 (ch8 _) (wPlaceOf)
  have H9 := more H8 h8 (by decide)
  have h9 : At P w K mg base 9 20 (S 9) := step rfl rfl d9 (fz m ta arS H9) sc9 (ch9 _) (wByHeight M)
  have H10 := more H9 h9 (by decide)
  have h10 : At P w K mg base 10 22 (S 10) := step rfl rfl d10 (fz m ta arS H10) sc10 (ch10 _) (wJoined M rfl)
  have H11 := more H10 h10 (by decide)
  have h11 : At P w K mg base 11 24 (S 11) := step rfl rfl d11 (fz m ta arS H11) sc11 (ch11 _) (wWayIn M rfl rfl)
  have H12 := more H11 h11 (by decide)
  have h12 : At P w K mg base 12 26 (S 12) := step rfl rfl d12 (fz m ta arS H12) sc12 (ch12 _) (wIsWay rfl rfl)
  have H13 := more H12 h12 (by decide)
  have h13 : At P w K mg base 13 28 (S 13) := step rfl rfl d13 (fz m ta arS H13) sc13 (ch13 _) (wChkWay rfl rfl)
  have H14 := more H13 h13 (by decide)
  have h14 : At P w K mg base 14 30 (S 14) := step rfl rfl d14 (fz m ta arS H14) sc14 (ch14 _) (wRise)
  have H15 := more H14 h14 (by decide)
  have h15 : At P w K mg base 15 32 (S 15) := step rfl rfl d15 (fz m ta arS H15) sc15 (ch15 _) (wClimbIn M rfl)
  have H16 := more H15 h15 (by decide)
  have h16 : At P w K mg base 16 34 (S 16) := step rfl rfl d16 (fz m ta arS H16) sc16 (ch16 _) (wClimbOf rfl rfl)
  have H17 := more H16 h16 (by decide)
  have h17 : At P w K mg base 17 36 (S 17) := step rfl rfl d17 (fz m ta arS H17) sc17 (ch17 _) (wFallOf rfl rfl)
  have H18 := more H17 h17 (by decide)
  have h18 : At P w K mg base 18 38 (S 18) := step rfl rfl d18 (fz m ta arS H18) sc18 (ch18 _) (wRoofIn M)
  have H19 := more H18 h18 (by decide)
  have h19 : At P w K mg base 19 40 (S 19) := step rfl rfl d19 (fz m ta arS H19) sc19 (ch19 _) (wRoofOf rfl rfl)
  have H20 := more H19 h19 (by decide)
  have h20 : At P w K mg base 20 42 (S 20) := step rfl rfl d20 (fz m ta arS H20) sc20 (ch20 _) (wCell)
  have H21 := more H20 h20 (by decide)
  have h21 : At P w K mg base 21 44 (S 21) := step rfl rfl d21 (fz m ta arS H21) sc21 (ch21 _) (wHash)
  have H22 := more H21 h21 (by decide)
  have h22 : At P w K mg base 22 46 (S 22) := step rfl rfl d22 (fz m ta arS H22) sc22 (ch22 _) (wRand M rfl)
  have H23 := more H22 h22 (by decide)
  have g23 : At P w K mg base 23 48 sGenL := step rfl rfl d23 (fz m ta arS H23) sc23 (ch23 _) (wGen rfl)
  have h23 : At P w K mg base 23 48 (S 23) := by
    obtain ⟨a, fd, ps, F, r⟩ := g23
    exact ⟨a, fd, ps, F.imp (gen_of rfl (fun ts n h => by
      match ts, h with
      | [.scr ns, .d (.int i)], h => exact h) (fun ts n r n' h => h) (fun ts n => ⟨rfl, rfl⟩) fun _ _ _ _ h => h), r⟩
  have H24 := more H23 h23 (by decide)
  have h24 : At P w K mg base 24 50 (S 24) := step rfl rfl d24 (fz m ta arS H24) sc24 (ch24 _) (wPick rfl)
  have H25 := more H24 h24 (by decide)
  have h25 : At P w K mg base 25 52 (S 25) := step rfl rfl d25 (fz m ta arS H25) sc25 (ch25 _) (wShuf M rfl)
  have H26 := more H25 h25 (by decide)
  have h26 : At P w K mg base 26 54 (S 26) := step rfl rfl d26 (fz m ta arS H26) sc26 (ch26 _) (wLand M rfl rfl rfl)
  have H27 := more H26 h26 (by decide)
  have h27 : At P w K mg base 27 56 (S 27) := step rfl rfl d27 (fz m ta arS H27) sc27 (ch27 _) (wNexts M)
  have H28 := more H27 h27 (by decide)
  have h28 : At P w K mg base 28 58 (S 28) := step rfl rfl d28 (fz m ta arS H28) sc28 (ch28 _) (wLWay M rfl)
  have H29 := more H28 h28 (by decide)
  have h29 : At P w K mg base 29 60 (S 29) := step rfl rfl d29 (fz m ta arS H29) sc29 (ch29 _) (wLClimb M)
  have H30 := more H29 h29 (by decide)
  have h30 : At P w K mg base 30 62 (S 30) := step rfl rfl d30 (fz m ta arS H30) sc30 (ch30 _) (wLRoof M)
  have H31 := more H30 h30 (by decide)
  have h31 : At P w K mg base 31 64 (S 31) := step rfl rfl d31 (fz m ta arS H31) sc31 (ch31 _) (wWalk M rfl rfl)
  have H32 := more H31 h31 (by decide)
  have h32 : At P w K mg base 32 66 (S 32) := step rfl rfl d32 (fz m ta arS H32) sc32 (ch32 _) (wValues M rfl)
  have H33 := more H32 h32 (by decide)
  have h33 : At P w K mg base 33 68 (S 33) := step rfl rfl d33 (fz m ta arS H33) sc33 (ch33 _) (w33 M rfl rfl rfl rfl rfl rfl rfl rfl rfl rfl rfl)
  have H34 := more H33 h33 (by decide)
  exact fun i hi => (H34 i hi).up (by decide)
end
end K51

set_option Elab.async false
set_option linter.all false
set_option maxRecDepth 100000
set_option maxHeartbeats 4000000
set_option pp.maxSteps 300
set_option pp.deepTerms false
namespace K51
open PySem PySem.Spec PyProof.Rows L2 TL HL
theorem kw_16_0 {K : PySem.W.Frag} {fd : FuncData} (h : ∀ v0 v1 : Value, bindArgs fd ⟨[], [(("way" : Str), v0), (("land" : Str), v1)]⟩ = (pure [(("land" : Str), v1), (("way" : Str), v0)] : Sem (List (Str × Value)))) : KBinds K fd ["land", "way"] ["way", "land"] (kwG 0 2 [1, 0]) (kwG 0 2 [1, 0]) := by
  refine ⟨fun s us ws _ hl => ?_, fun {vs us zs ws} r1 r2 => ?_⟩
  · unfold kwG at hl ⊢
    by_cases c : us.length = 0 ∧ ws.length = 2
    · rw [if_pos c] at hl ⊢
      match us, ws, c with
      | [], [v0, v1], _ => exact .of_eq (h v0 v1)
    · rw [if_neg c] at hl
      cases hl
  · have e1 := r1.length
    have e2 := r2.length
    unfold kwG
    by_cases c : us.length = 0 ∧ ws.length = 2
    · rw [if_pos c, if_pos ⟨e1.trans c.1, e2.trans c.2⟩]
      exact kwF_rel r1 r2 _
    · rw [if_neg c, if_neg fun z => c ⟨e1.symm.trans z.1, e2.symm.trans z.2⟩]
      exact .nil
theorem kw_17_0 {K : PySem.W.Frag} {fd : FuncData} (h : ∀ v0 v1 : Value, bindArgs fd ⟨[], [(("way" : Str), v0), (("land" : Str), v1)]⟩ = (pure [(("land" : Str), v1), (("way" : Str), v0)] : Sem (List (Str × Value)))) : KBinds K fd ["land", "way"] ["way", "land"] (kwG 0 2 [1, 0]) (kwG 0 2 [1, 0]) := by
  refine ⟨fun s us ws _ hl => ?_, fun {vs us zs ws} r1 r2 => ?_⟩
  · unfold kwG at hl ⊢
    by_cases c : us.length = 0 ∧ ws.length = 2
    · rw [if_pos c] at hl ⊢
      match us, ws, c with
      | [], [v0, v1], _ => exact .of_eq (h v0 v1)
    · rw [if_neg c] at hl
      cases hl
  · have e1 := r1.length
    have e2 := r2.length
    unfold kwG
    by_cases c : us.length = 0 ∧ ws.length = 2
    · rw [if_pos c, if_pos ⟨e1.trans c.1, e2.trans c.2⟩]
      exact kwF_rel r1 r2 _
    · rw [if_neg c, if_neg fun z => c ⟨e1.symm.trans z.1, e2.symm.trans z.2⟩]
      exact .nil
theorem kw_12_0 {K : PySem.W.Frag} {fd : FuncData} (h : ∀ v0 v1 : Value, bindArgs fd ⟨[], [(("value" : Str), v0), (("land" : Str), v1)]⟩ = (pure [(("land" : Str), v1), (("value" : Str), v0)] : Sem (List (Str × Value)))) : KBinds K fd ["land", "value"] ["value", "land"] (kwG 0 2 [1, 0]) (kwG 0 2 [1, 0]) := by
  refine ⟨fun s us ws _ hl => ?_, fun {vs us zs ws} r1 r2 => ?_⟩
  · unfold kwG at hl ⊢
    by_cases c : us.length = 0 ∧ ws.length = 2
    · rw [if_pos c] at hl ⊢
      match us, ws, c with
      | [], [v0, v1], _ => exact .of_eq (h v0 v1)
    · rw [if_neg c] at hl
      cases hl
  · have e1 := r1.length
    have e2 := r2.length
    unfold kwG
    by_cases c : us.length = 0 ∧ ws.length = 2
    · rw [if_pos c, if_pos ⟨e1.trans c.1, e2.trans c.2⟩]
      exact kwF_rel r1 r2 _
    · rw [if_neg c, if_neg fun z => c ⟨e1.symm.trans z.1, e2.symm.trans z.2⟩]
      exact .nil
theorem kw_19_0 {K : PySem.W.Frag} {fd : FuncData} (h : ∀ v0 v1 : Value, bindArgs fd ⟨[], [(("way" : Str), v0), (("land" : Str), v1)]⟩ = (pure [(("land" : Str), v1), (("way" : Str), v0)] : Sem (List (Str × Value)))) : KBinds K fd ["land", "way"] ["way", "land"] (kwG 0 2 [1, 0]) (kwG 0 2 [1, 0]) := by
  refine ⟨fun s us ws _ hl => ?_, fun {vs us zs ws} r1 r2 => ?_⟩
  · unfold kwG at hl ⊢
    by_cases c : us.length = 0 ∧ ws.length = 2
    · rw [if_pos c] at hl ⊢
      match us, ws, c with
      | [], [v0, v1], _ => exact .of_eq (h v0 v1)
    · rw [if_neg c] at hl
      cases hl
  · have e1 := r1.length
    have e2 := r2.length
    unfold kwG
    by_cases c : us.length = 0 ∧ ws.length = 2
    · rw [if_pos c, if_pos ⟨e1.trans c.1, e2.trans c.2⟩]
      exact kwF_rel r1 r2 _
    · rw [if_neg c, if_neg fun z => c ⟨e1.symm.trans z.1, e2.symm.trans z.2⟩]
      exact .nil
theorem mk {l : PySem.W.OpenLaw} {w : World} {K : PySem.W.Frag} {h : Heap} {mg : Str → Option Value} {fa f0 f1 f2 f3 f4 f5 f6 f7 f8 f9 f10 f11 f12 f13 f14 f15 f16 f17 f18 f19 f20 f21 f22 f23 f24 f25 f26 f27 f28 f29 f30 f31 f32 f33 f34 : Addr} {od0 an0 od1 an1 od2 an2 od3 an3 od4 an4 od5 an5 od6 an6 od7 an7 od8 an8 od9 an9 od10 an10 od11 an11 od12 an12 od13 an13 od14 an14 od15 an15 od16 an16 od17 an17 od18 an18 od19 an19 od20 an20 od21 an21 od22 an22 od23 an23 od24 an24 od25 an25 od26 an26 od27 an27 od28 an28 od29 an29 od30 an30 od31 an31 od32 an32 od33 an33 od34 an34 : Option Addr} {sl0 sl1 sl2 sl3 sl4 sl5 sl6 sl7 sl8 sl9 sl10 sl11 sl12 sl13 sl14 sl15 sl16 sl17 sl18 sl19 sl20 sl21 sl22 sl23 sl24 sl25 sl26 sl27 sl28 sl29 sl30 sl31 sl32 sl33 sl34 : Array (Option Value)} {oc0 kV0 dc0 pm0 ct0 cd0 oc1 kV1 dc1 pm1 ct1 cd1 oc2 kV2 dc2 pm2 ct2 cd2 oc3 kV3 dc3 pm3 ct3 cd3 oc4 kV4 dc4 pm4 ct4 cd4 oc5 kV5 dc5 pm5 ct5 cd5 oc6 kV6 dc6 pm6 ct6 cd6 oc7 kV7 dc7 pm7 ct7 cd7 oc8 kV8 dc8 pm8 ct8 cd8 oc9 kV9 dc9 pm9 ct9 oc10 kV10 dc10 pm10 ct10 cd10 oc11 kV11 dc11 pm11 ct11 cd11 oc12 kV12 dc12 pm12 ct12 cd12 oc13 kV13 dc13 pm13 ct13 cd13 oc14 kV14 dc14 pm14 ct14 cd14 oc15 kV15 dc15 pm15 ct15 cd15 oc16 kV16 dc16 pm16 ct16 cd16 oc17 kV17 dc17 pm17 ct17 cd17 oc18 kV18 dc18 pm18 ct18 cd18 oc19 kV19 dc19 pm19 ct19 cd19 oc20 kV20 dc20 pm20 ct20 cd20 oc21 kV21 dc21 pm21 ct21 cd21 oc22 kV22 dc22 pm22 ct22 cd22 oc23 kV23 dc23 pm23 ct23 cd23 oc24 kV24 dc24 pm24 ct24 cd24 oc25 kV25 dc25 pm25 ct25 cd25 oc26 kV26 dc26 pm26 ct26 cd26 oc27 kV27 dc27 pm27 ct27 cd27 oc28 kV28 dc28 pm28 ct28 cd28 oc29 kV29 dc29 pm29 ct29 cd29 oc30 kV30 dc30 pm30 ct30 cd30 oc31 kV31 dc31 pm31 ct31 cd31 oc32 kV32 dc32 pm32 ct32 cd32 oc33 kV33 dc33 pm33 ct33 cd33 oc34 kV34 dc34 pm34 ct34 cd34 : Value} {ca9 tp9 : Addr} {tc9 : Value} {td9 : Option Addr} {vs9 : Array Value} {ts9 : Array (Option Value)} (X : K.In h) (G : h.Ns mainGlobals mg) (hfa : mg "law" = some (.ref fa))
    (a0 : PySem.W.nsIn K mainGlobals "is_whole" = some (some (.ref f0)))
    (l0 : K.lookup f0 = some ⟨oc0, od0, .func (PySem.W.fnOf "is_whole" "is_whole" (defArgs s0) (defBody s0) (defScope s0) .none kV0 dc0 pm0 an0 cd0 ct0), sl0⟩)
    (c0 : PySem.W.codeIn K cd0 "is_whole" = true)
    (k0 : PySem.W.keepIn K (.ref f0) = true)
    (a1 : PySem.W.nsIn K mainGlobals "is_signs" = some (some (.ref f1)))
    (l1 : K.lookup f1 = some ⟨oc1, od1, .func (PySem.W.fnOf "is_signs" "is_signs" (defArgs s1) (defBody s1) (defScope s1) .none kV1 dc1 pm1 an1 cd1 ct1), sl1⟩)
    (c1 : PySem.W.codeIn K cd1 "is_signs" = true)
    (k1 : PySem.W.keepIn K (.ref f1) = true)
    (a2 : PySem.W.nsIn K mainGlobals "is_name" = some (some (.ref f2)))
    (l2 : K.lookup f2 = some ⟨oc2, od2, .func (PySem.W.fnOf "is_name" "is_name" (defArgs s2) (defBody s2) (defScope s2) .none kV2 dc2 pm2 an2 cd2 ct2), sl2⟩)
    (c2 : PySem.W.codeIn K cd2 "is_name" = true)
    (k2 : PySem.W.keepIn K (.ref f2) = true)
    (a3 : PySem.W.nsIn K mainGlobals "ascends" = some (some (.ref f3)))
    (l3 : K.lookup f3 = some ⟨oc3, od3, .func (PySem.W.fnOf "ascends" "ascends" (defArgs s3) (defBody s3) (defScope s3) .none kV3 dc3 pm3 an3 cd3 ct3), sl3⟩)
    (c3 : PySem.W.codeIn K cd3 "ascends" = true)
    (k3 : PySem.W.keepIn K (.ref f3) = true)
    (a4 : PySem.W.nsIn K mainGlobals "is_path_of" = some (some (.ref f4)))
    (l4 : K.lookup f4 = some ⟨oc4, od4, .func (PySem.W.fnOf "is_path_of" "is_path_of" (defArgs s4) (defBody s4) (defScope s4) .none kV4 dc4 pm4 an4 cd4 ct4), sl4⟩)
    (c4 : PySem.W.codeIn K cd4 "is_path_of" = true)
    (k4 : PySem.W.keepIn K (.ref f4) = true)
    (a5 : PySem.W.nsIn K mainGlobals "are_heights" = some (some (.ref f5)))
    (l5 : K.lookup f5 = some ⟨oc5, od5, .func (PySem.W.fnOf "are_heights" "are_heights" (defArgs s5) (defBody s5) (defScope s5) .none kV5 dc5 pm5 an5 cd5 ct5), sl5⟩)
    (c5 : PySem.W.codeIn K cd5 "are_heights" = true)
    (k5 : PySem.W.keepIn K (.ref f5) = true)
    (a6 : PySem.W.nsIn K mainGlobals "is_map" = some (some (.ref f6)))
    (l6 : K.lookup f6 = some ⟨oc6, od6, .func (PySem.W.fnOf "is_map" "is_map" (defArgs s6) (defBody s6) (defScope s6) .none kV6 dc6 pm6 an6 cd6 ct6), sl6⟩)
    (c6 : PySem.W.codeIn K cd6 "is_map" = true)
    (k6 : PySem.W.keepIn K (.ref f6) = true)
    (a7 : PySem.W.nsIn K mainGlobals "check_map" = some (some (.ref f7)))
    (l7 : K.lookup f7 = some ⟨oc7, od7, .func (PySem.W.fnOf "check_map" "check_map" (defArgs s7) (defBody s7) (defScope s7) .none kV7 dc7 pm7 an7 cd7 ct7), sl7⟩)
    (c7 : PySem.W.codeIn K cd7 "check_map" = true)
    (k7 : PySem.W.keepIn K (.ref f7) = true)
    (a8 : PySem.W.nsIn K mainGlobals "is_place_of" = some (some (.ref f8)))
    (l8 : K.lookup f8 = some ⟨oc8, od8, .func (PySem.W.fnOf "is_place_of" "is_place_of" (defArgs s8) (defBody s8) (defScope s8) .none kV8 dc8 pm8 an8 cd8 ct8), sl8⟩)
    (c8 : PySem.W.codeIn K cd8 "is_place_of" = true)
    (k8 : PySem.W.keepIn K (.ref f8) = true)
    (a9 : PySem.W.nsIn K mainGlobals "by_height" = some (some (.ref f9)))
    (l9 : K.lookup f9 = some ⟨oc9, od9, .func (PySem.W.fnOf "by_height" "by_height" (defArgs s9) (defBody s9) (defScope s9) .none kV9 dc9 pm9 an9 (.ref ca9) ct9), sl9⟩)
    (c9 : PySem.W.codeIn K (.ref ca9) "by_height" = true)
    (k9 : PySem.W.keepIn K (.ref f9) = true)
    (t9_ : K.lookup ca9 = some ⟨tc9, td9, .fields vs9, ts9⟩)
    (v9_ : vs9[11]? = some (.ref tp9))
    (h9_ : PySem.W.codeHdIn K ca9 tp9 = true)
    (n9_ : K.lookup tp9 = none)
    (b9_ : h.get? tp9 = some tabO)
    (a10 : PySem.W.nsIn K mainGlobals "joined_to" = some (some (.ref f10)))
    (l10 : K.lookup f10 = some ⟨oc10, od10, .func (PySem.W.fnOf "joined_to" "joined_to" (defArgs s10) (defBody s10) (defScope s10) .none kV10 dc10 pm10 an10 cd10 ct10), sl10⟩)
    (c10 : PySem.W.codeIn K cd10 "joined_to" = true)
    (k10 : PySem.W.keepIn K (.ref f10) = true)
    (a11 : PySem.W.nsIn K mainGlobals "is_way_in" = some (some (.ref f11)))
    (l11 : K.lookup f11 = some ⟨oc11, od11, .func (PySem.W.fnOf "is_way_in" "is_way_in" (defArgs s11) (defBody s11) (defScope s11) .none kV11 dc11 pm11 an11 cd11 ct11), sl11⟩)
    (c11 : PySem.W.codeIn K cd11 "is_way_in" = true)
    (k11 : PySem.W.keepIn K (.ref f11) = true)
    (a12 : PySem.W.nsIn K mainGlobals "is_way" = some (some (.ref f12)))
    (l12 : K.lookup f12 = some ⟨oc12, od12, .func (PySem.W.fnOf "is_way" "is_way" (defArgs s12) (defBody s12) (defScope s12) .none kV12 dc12 pm12 an12 cd12 ct12), sl12⟩)
    (c12 : PySem.W.codeIn K cd12 "is_way" = true)
    (k12 : PySem.W.keepIn K (.ref f12) = true)
    (a13 : PySem.W.nsIn K mainGlobals "check_way" = some (some (.ref f13)))
    (l13 : K.lookup f13 = some ⟨oc13, od13, .func (PySem.W.fnOf "check_way" "check_way" (defArgs s13) (defBody s13) (defScope s13) .none kV13 dc13 pm13 an13 cd13 ct13), sl13⟩)
    (c13 : PySem.W.codeIn K cd13 "check_way" = true)
    (k13 : PySem.W.keepIn K (.ref f13) = true)
    (a14 : PySem.W.nsIn K mainGlobals "rise_to" = some (some (.ref f14)))
    (l14 : K.lookup f14 = some ⟨oc14, od14, .func (PySem.W.fnOf "rise_to" "rise_to" (defArgs s14) (defBody s14) (defScope s14) .none kV14 dc14 pm14 an14 cd14 ct14), sl14⟩)
    (c14 : PySem.W.codeIn K cd14 "rise_to" = true)
    (k14 : PySem.W.keepIn K (.ref f14) = true)
    (a15 : PySem.W.nsIn K mainGlobals "climb_in" = some (some (.ref f15)))
    (l15 : K.lookup f15 = some ⟨oc15, od15, .func (PySem.W.fnOf "climb_in" "climb_in" (defArgs s15) (defBody s15) (defScope s15) .none kV15 dc15 pm15 an15 cd15 ct15), sl15⟩)
    (c15 : PySem.W.codeIn K cd15 "climb_in" = true)
    (k15 : PySem.W.keepIn K (.ref f15) = true)
    (a16 : PySem.W.nsIn K mainGlobals "climb_of" = some (some (.ref f16)))
    (l16 : K.lookup f16 = some ⟨oc16, od16, .func (PySem.W.fnOf "climb_of" "climb_of" (defArgs s16) (defBody s16) (defScope s16) .none kV16 dc16 pm16 an16 cd16 ct16), sl16⟩)
    (c16 : PySem.W.codeIn K cd16 "climb_of" = true)
    (k16 : PySem.W.keepIn K (.ref f16) = true)
    (a17 : PySem.W.nsIn K mainGlobals "fall_of" = some (some (.ref f17)))
    (l17 : K.lookup f17 = some ⟨oc17, od17, .func (PySem.W.fnOf "fall_of" "fall_of" (defArgs s17) (defBody s17) (defScope s17) .none kV17 dc17 pm17 an17 cd17 ct17), sl17⟩)
    (c17 : PySem.W.codeIn K cd17 "fall_of" = true)
    (k17 : PySem.W.keepIn K (.ref f17) = true)
    (a18 : PySem.W.nsIn K mainGlobals "roof_in" = some (some (.ref f18)))
    (l18 : K.lookup f18 = some ⟨oc18, od18, .func (PySem.W.fnOf "roof_in" "roof_in" (defArgs s18) (defBody s18) (defScope s18) .none kV18 dc18 pm18 an18 cd18 ct18), sl18⟩)
    (c18 : PySem.W.codeIn K cd18 "roof_in" = true)
    (k18 : PySem.W.keepIn K (.ref f18) = true)
    (a19 : PySem.W.nsIn K mainGlobals "roof_of" = some (some (.ref f19)))
    (l19 : K.lookup f19 = some ⟨oc19, od19, .func (PySem.W.fnOf "roof_of" "roof_of" (defArgs s19) (defBody s19) (defScope s19) .none kV19 dc19 pm19 an19 cd19 ct19), sl19⟩)
    (c19 : PySem.W.codeIn K cd19 "roof_of" = true)
    (k19 : PySem.W.keepIn K (.ref f19) = true)
    (a20 : PySem.W.nsIn K mainGlobals "_law_cell" = some (some (.ref f20)))
    (l20 : K.lookup f20 = some ⟨oc20, od20, .func (PySem.W.fnOf "_law_cell" "_law_cell" (defArgs s20) (defBody s20) (defScope s20) .none kV20 dc20 pm20 an20 cd20 ct20), sl20⟩)
    (c20 : PySem.W.codeIn K cd20 "_law_cell" = true)
    (k20 : PySem.W.keepIn K (.ref f20) = true)
    (a21 : PySem.W.nsIn K mainGlobals "_law_hash" = some (some (.ref f21)))
    (l21 : K.lookup f21 = some ⟨oc21, od21, .func (PySem.W.fnOf "_law_hash" "_law_hash" (defArgs s21) (defBody s21) (defScope s21) .none kV21 dc21 pm21 an21 cd21 ct21), sl21⟩)
    (c21 : PySem.W.codeIn K cd21 "_law_hash" = true)
    (k21 : PySem.W.keepIn K (.ref f21) = true)
    (a22 : PySem.W.nsIn K mainGlobals "_law_random" = some (some (.ref f22)))
    (l22 : K.lookup f22 = some ⟨oc22, od22, .func (PySem.W.fnOf "_law_random" "_law_random" (defArgs s22) (defBody s22) (defScope s22) .none kV22 dc22 pm22 an22 cd22 ct22), sl22⟩)
    (c22 : PySem.W.codeIn K cd22 "_law_random" = true)
    (k22 : PySem.W.keepIn K (.ref f22) = true)
    (a23 : PySem.W.nsIn K mainGlobals "_law_generator" = some (some (.ref f23)))
    (l23 : K.lookup f23 = some ⟨oc23, od23, .func (PySem.W.fnOf "_law_generator" "_law_generator" (defArgs s23) (defBody s23) (defScope s23) .none kV23 dc23 pm23 an23 cd23 ct23), sl23⟩)
    (c23 : PySem.W.codeIn K cd23 "_law_generator" = true)
    (k23 : PySem.W.keepIn K (.ref f23) = true)
    (a24 : PySem.W.nsIn K mainGlobals "_law_pick" = some (some (.ref f24)))
    (l24 : K.lookup f24 = some ⟨oc24, od24, .func (PySem.W.fnOf "_law_pick" "_law_pick" (defArgs s24) (defBody s24) (defScope s24) .none kV24 dc24 pm24 an24 cd24 ct24), sl24⟩)
    (c24 : PySem.W.codeIn K cd24 "_law_pick" = true)
    (k24 : PySem.W.keepIn K (.ref f24) = true)
    (a25 : PySem.W.nsIn K mainGlobals "_law_shuffled" = some (some (.ref f25)))
    (l25 : K.lookup f25 = some ⟨oc25, od25, .func (PySem.W.fnOf "_law_shuffled" "_law_shuffled" (defArgs s25) (defBody s25) (defScope s25) .none kV25 dc25 pm25 an25 cd25 ct25), sl25⟩)
    (c25 : PySem.W.codeIn K cd25 "_law_shuffled" = true)
    (k25 : PySem.W.keepIn K (.ref f25) = true)
    (a26 : PySem.W.nsIn K mainGlobals "_law_land" = some (some (.ref f26)))
    (l26 : K.lookup f26 = some ⟨oc26, od26, .func (PySem.W.fnOf "_law_land" "_law_land" (defArgs s26) (defBody s26) (defScope s26) .none kV26 dc26 pm26 an26 cd26 ct26), sl26⟩)
    (c26 : PySem.W.codeIn K cd26 "_law_land" = true)
    (k26 : PySem.W.keepIn K (.ref f26) = true)
    (a27 : PySem.W.nsIn K mainGlobals "_law_nexts" = some (some (.ref f27)))
    (l27 : K.lookup f27 = some ⟨oc27, od27, .func (PySem.W.fnOf "_law_nexts" "_law_nexts" (defArgs s27) (defBody s27) (defScope s27) .none kV27 dc27 pm27 an27 cd27 ct27), sl27⟩)
    (c27 : PySem.W.codeIn K cd27 "_law_nexts" = true)
    (k27 : PySem.W.keepIn K (.ref f27) = true)
    (a28 : PySem.W.nsIn K mainGlobals "_law_is_way" = some (some (.ref f28)))
    (l28 : K.lookup f28 = some ⟨oc28, od28, .func (PySem.W.fnOf "_law_is_way" "_law_is_way" (defArgs s28) (defBody s28) (defScope s28) .none kV28 dc28 pm28 an28 cd28 ct28), sl28⟩)
    (c28 : PySem.W.codeIn K cd28 "_law_is_way" = true)
    (k28 : PySem.W.keepIn K (.ref f28) = true)
    (a29 : PySem.W.nsIn K mainGlobals "_law_climb" = some (some (.ref f29)))
    (l29 : K.lookup f29 = some ⟨oc29, od29, .func (PySem.W.fnOf "_law_climb" "_law_climb" (defArgs s29) (defBody s29) (defScope s29) .none kV29 dc29 pm29 an29 cd29 ct29), sl29⟩)
    (c29 : PySem.W.codeIn K cd29 "_law_climb" = true)
    (k29 : PySem.W.keepIn K (.ref f29) = true)
    (a30 : PySem.W.nsIn K mainGlobals "_law_roof" = some (some (.ref f30)))
    (l30 : K.lookup f30 = some ⟨oc30, od30, .func (PySem.W.fnOf "_law_roof" "_law_roof" (defArgs s30) (defBody s30) (defScope s30) .none kV30 dc30 pm30 an30 cd30 ct30), sl30⟩)
    (c30 : PySem.W.codeIn K cd30 "_law_roof" = true)
    (k30 : PySem.W.keepIn K (.ref f30) = true)
    (a31 : PySem.W.nsIn K mainGlobals "_law_walk" = some (some (.ref f31)))
    (l31 : K.lookup f31 = some ⟨oc31, od31, .func (PySem.W.fnOf "_law_walk" "_law_walk" (defArgs s31) (defBody s31) (defScope s31) .none kV31 dc31 pm31 an31 cd31 ct31), sl31⟩)
    (c31 : PySem.W.codeIn K cd31 "_law_walk" = true)
    (k31 : PySem.W.keepIn K (.ref f31) = true)
    (a32 : PySem.W.nsIn K mainGlobals "_law_values" = some (some (.ref f32)))
    (l32 : K.lookup f32 = some ⟨oc32, od32, .func (PySem.W.fnOf "_law_values" "_law_values" (defArgs s32) (defBody s32) (defScope s32) .none kV32 dc32 pm32 an32 cd32 ct32), sl32⟩)
    (c32 : PySem.W.codeIn K cd32 "_law_values" = true)
    (k32 : PySem.W.keepIn K (.ref f32) = true)
    (a33 : PySem.W.nsIn K mainGlobals "_law_right" = some (some (.ref f33)))
    (l33 : K.lookup f33 = some ⟨oc33, od33, .func (PySem.W.fnOf "_law_right" "_law_right" (defArgs s33) (defBody s33) (defScope s33) .none kV33 dc33 pm33 an33 cd33 ct33), sl33⟩)
    (c33 : PySem.W.codeIn K cd33 "_law_right" = true)
    (k33 : PySem.W.keepIn K (.ref f33) = true)
    (a34 : PySem.W.nsIn K mainGlobals "law" = some (some (.ref f34)))
    (l34 : K.lookup f34 = some ⟨oc34, od34, .func (PySem.W.fnOf "law" "law" (defArgs s34) (defBody s34) (defScope s34) .none kV34 dc34 pm34 an34 cd34 ct34), sl34⟩)
    (c34 : PySem.W.codeIn K cd34 "law" = true)
    (k34 : PySem.W.keepIn K (.ref f34) = true)
    (z_all : PySem.W.nsIn K mainGlobals "all" = some none)
    (z_bool : PySem.W.nsIn K mainGlobals "bool" = some none)
    (z_dict : PySem.W.nsIn K mainGlobals "dict" = some none)
    (z_int : PySem.W.nsIn K mainGlobals "int" = some none)
    (z_isinstance : PySem.W.nsIn K mainGlobals "isinstance" = some none)
    (z_len : PySem.W.nsIn K mainGlobals "len" = some none)
    (z_list : PySem.W.nsIn K mainGlobals "list" = some none)
    (z_max : PySem.W.nsIn K mainGlobals "max" = some none)
    (z_range : PySem.W.nsIn K mainGlobals "range" = some none)
    (z_repr : PySem.W.nsIn K mainGlobals "repr" = some none)
    (z_sorted : PySem.W.nsIn K mainGlobals "sorted" = some none)
    (z_str : PySem.W.nsIn K mainGlobals "str" = some none)
    (z_sum : PySem.W.nsIn K mainGlobals "sum" = some none)
    (z_tuple : PySem.W.nsIn K mainGlobals "tuple" = some none)
    (z_zip : PySem.W.nsIn K mainGlobals "zip" = some none)
    {t0 : Tok} (g_SMALL : PySem.W.nsIn K mainGlobals "SMALL" = some (some (.str "abcdefghijklmnopqrstuvwxyz" t0)))
    {t1 : Tok} (g_FIGURES : PySem.W.nsIn K mainGlobals "FIGURES" = some (some (.str "0123456789" t1)))
    {t2 : Tok} (g_MOST_NAME : PySem.W.nsIn K mainGlobals "MOST_NAME" = some (some (.int 8 t2)))
    (dg : PySem.W.nsIn K cStatics "sys.int_max_str_digits" = some none) :
    ∃ (I : TabsC), (∀ p ∈ I.T, h.get? p.1 = some tabO) ∧ (∀ p ∈ I.T, K.lookup p.1 = none) ∧ (∀ p ∈ I.T, ∃ c, PySem.W.codeHdIn K c p.1 = true) ∧ ∃ (fd : FuncData) (sp : Sp), (∀ (t : Shared) (u : Value), BindsTo t fd ⟨[u], []⟩ [("script", u)]) ∧ (∀ base : Heap, K.In base → base.Ns mainGlobals mg → TbAt base mg → FnG l.prog w K mg base (L2.CX l.prog w) 70 fa fd ["script"] sp) ∧
      ∀ (H : Hp) (a : Addr) (ns : List Int), ns.length ≤ 63 → Tbs H → SqF K H a (ns.map V.int) → sp [.ref a] H (fun v _ => v = .bl true) fun _ _ _ => False := by
  letI I : TabsC := ⟨[(tp9, ("by_height" : Str) ++ ".<locals>." ++ "<lambda>")]⟩
  have lo9 : LamF K "by_height" (.ref ca9) := ⟨ca9, tp9, rfl, h9_, (show (tp9, ("by_height" : Str) ++ ".<locals>." ++ "<lambda>") ∈ ([(tp9, ("by_height" : Str) ++ ".<locals>." ++ "<lambda>")] : List (Addr × Str)) from List.mem_cons_self ..), fun p hp e => by
    have hp : p ∈ ([(tp9, ("by_height" : Str) ++ ".<locals>." ++ "<lambda>")] : List (Addr × Str)) := hp
    simp only [List.mem_cons, List.not_mem_nil, or_false] at hp
    rcases hp with rfl
    · rfl⟩
  have F0 := fun_mk (st := s0) l0 c0 k0
  have d0 : Df K mg 0 "is_whole" s0 p0 := ⟨f0, _, F0, PySem.W.mg_of X G a0, F0.binds (ps := p0) fun _ _ _ _ _ _ us hl => (match us, hl with | [_], _ => rfl), (fun q h => (nomatch h)), fun z => (nomatch z)⟩
  have F1 := fun_mk (st := s1) l1 c1 k1
  have d1 : Df K mg 1 "is_signs" s1 p1 := ⟨f1, _, F1, PySem.W.mg_of X G a1, F1.binds (ps := p1) fun _ _ _ _ _ _ us hl => (match us, hl with | [_, _], _ => rfl), (fun q h => (nomatch h)), fun z => (nomatch z)⟩
  have F2 := fun_mk (st := s2) l2 c2 k2
  have d2 : Df K mg 2 "is_name" s2 p2 := ⟨f2, _, F2, PySem.W.mg_of X G a2, F2.binds (ps := p2) fun _ _ _ _ _ _ us hl => (match us, hl with | [_], _ => rfl), (fun q h => (nomatch h)), fun z => (nomatch z)⟩
  have F3 := fun_mk (st := s3) l3 c3 k3
  have d3 : Df K mg 3 "ascends" s3 p3 := ⟨f3, _, F3, PySem.W.mg_of X G a3, F3.binds (ps := p3) fun _ _ _ _ _ _ us hl => (match us, hl with | [_], _ => rfl), (fun q h => (nomatch h)), fun z => (nomatch z)⟩
  have F4 := fun_mk (st := s4) l4 c4 k4
  have d4 : Df K mg 4 "is_path_of" s4 p4 := ⟨f4, _, F4, PySem.W.mg_of X G a4, F4.binds (ps := p4) fun _ _ _ _ _ _ us hl => (match us, hl with | [_, _], _ => rfl), (fun q h => (nomatch h)), fun z => (nomatch z)⟩
  have F5 := fun_mk (st := s5) l5 c5 k5
  have d5 : Df K mg 5 "are_heights" s5 p5 := ⟨f5, _, F5, PySem.W.mg_of X G a5, F5.binds (ps := p5) fun _ _ _ _ _ _ us hl => (match us, hl with | [_], _ => rfl), (fun q h => (nomatch h)), fun z => (nomatch z)⟩
  have F6 := fun_mk (st := s6) l6 c6 k6
  have d6 : Df K mg 6 "is_map" s6 p6 := ⟨f6, _, F6, PySem.W.mg_of X G a6, F6.binds (ps := p6) fun _ _ _ _ _ _ us hl => (match us, hl with | [_], _ => rfl), (fun q h => (nomatch h)), fun z => (nomatch z)⟩
  have F7 := fun_mk (st := s7) l7 c7 k7
  have d7 : Df K mg 7 "check_map" s7 p7 := ⟨f7, _, F7, PySem.W.mg_of X G a7, F7.binds (ps := p7) fun _ _ _ _ _ _ us hl => (match us, hl with | [_], _ => rfl), (fun q h => (nomatch h)), fun z => (nomatch z)⟩
  have F8 := fun_mk (st := s8) l8 c8 k8
  have d8 : Df K mg 8 "is_place_of" s8 p8 := ⟨f8, _, F8, PySem.W.mg_of X G a8, F8.binds (ps := p8) fun _ _ _ _ _ _ us hl => (match us, hl with | [_, _], _ => rfl), (fun q h => (nomatch h)), fun z => (nomatch z)⟩
  have F9 := fun_mk (st := s9) l9 c9 k9
  have d9 : Df K mg 9 "by_height" s9 p9 := ⟨f9, _, F9, PySem.W.mg_of X G a9, F9.binds (ps := p9) fun _ _ _ _ _ _ us hl => (match us, hl with | [_, _], _ => rfl), (fun q h => (nomatch h)), fun _ => lo9⟩
  have F10 := fun_mk (st := s10) l10 c10 k10
  have d10 : Df K mg 10 "joined_to" s10 p10 := ⟨f10, _, F10, PySem.W.mg_of X G a10, F10.binds (ps := p10) fun _ _ _ _ _ _ us hl => (match us, hl with | [_, _], _ => rfl), (fun q h => (nomatch h)), fun z => (nomatch z)⟩
  have F11 := fun_mk (st := s11) l11 c11 k11
  have d11 : Df K mg 11 "is_way_in" s11 p11 := ⟨f11, _, F11, PySem.W.mg_of X G a11, F11.binds (ps := p11) fun _ _ _ _ _ _ us hl => (match us, hl with | [_, _], _ => rfl), (fun q h => (nomatch h)), fun z => (nomatch z)⟩
  have F12 := fun_mk (st := s12) l12 c12 k12
  have d12 : Df K mg 12 "is_way" s12 p12 := ⟨f12, _, F12, PySem.W.mg_of X G a12, F12.binds (ps := p12) fun _ _ _ _ _ _ us hl => (match us, hl with | [_, _], _ => rfl), (by
    intro q h
    simp only [kws, List.mem_cons, List.not_mem_nil, or_false] at h
    rcases h with rfl
    · exact kw_12_0 fun _ _ => rfl), fun z => (nomatch z)⟩
  have F13 := fun_mk (st := s13) l13 c13 k13
  have d13 : Df K mg 13 "check_way" s13 p13 := ⟨f13, _, F13, PySem.W.mg_of X G a13, F13.binds (ps := p13) fun _ _ _ _ _ _ us hl => (match us, hl with | [_, _], _ => rfl), (fun q h => (nomatch h)), fun z => (nomatch z)⟩
  have F14 := fun_mk (st := s14) l14 c14 k14
  have d14 : Df K mg 14 "rise_to" s14 p14 := ⟨f14, _, F14, PySem.W.mg_of X G a14, F14.binds (ps := p14) fun _ _ _ _ _ _ us hl => (match us, hl with | [_, _, _], _ => rfl), (fun q h => (nomatch h)), fun z => (nomatch z)⟩
  have F15 := fun_mk (st := s15) l15 c15 k15
  have d15 : Df K mg 15 "climb_in" s15 p15 := ⟨f15, _, F15, PySem.W.mg_of X G a15, F15.binds (ps := p15) fun _ _ _ _ _ _ us hl => (match us, hl with | [_, _], _ => rfl), (fun q h => (nomatch h)), fun z => (nomatch z)⟩
  have F16 := fun_mk (st := s16) l16 c16 k16
  have d16 : Df K mg 16 "climb_of" s16 p16 := ⟨f16, _, F16, PySem.W.mg_of X G a16, F16.binds (ps := p16) fun _ _ _ _ _ _ us hl => (match us, hl with | [_, _], _ => rfl), (by
    intro q h
    simp only [kws, List.mem_cons, List.not_mem_nil, or_false] at h
    rcases h with rfl
    · exact kw_16_0 fun _ _ => rfl), fun z => (nomatch z)⟩
  have F17 := fun_mk (st := s17) l17 c17 k17
  have d17 : Df K mg 17 "fall_of" s17 p17 := ⟨f17, _, F17, PySem.W.mg_of X G a17, F17.binds (ps := p17) fun _ _ _ _ _ _ us hl => (match us, hl with | [_, _], _ => rfl), (by
    intro q h
    simp only [kws, List.mem_cons, List.not_mem_nil, or_false] at h
    rcases h with rfl
    · exact kw_17_0 fun _ _ => rfl), fun z => (nomatch z)⟩
  have F18 := fun_mk (st := s18) l18 c18 k18
  have d18 : Df K mg 18 "roof_in" s18 p18 := ⟨f18, _, F18, PySem.W.mg_of X G a18, F18.binds (ps := p18) fun _ _ _ _ _ _ us hl => (match us, hl with | [_, _], _ => rfl), (fun q h => (nomatch h)), fun z => (nomatch z)⟩
  have F19 := fun_mk (st := s19) l19 c19 k19
  have d19 : Df K mg 19 "roof_of" s19 p19 := ⟨f19, _, F19, PySem.W.mg_of X G a19, F19.binds (ps := p19) fun _ _ _ _ _ _ us hl => (match us, hl with | [_, _], _ => rfl), (by
    intro q h
    simp only [kws, List.mem_cons, List.not_mem_nil, or_false] at h
    rcases h with rfl
    · exact kw_19_0 fun _ _ => rfl), fun z => (nomatch z)⟩
  have F20 := fun_mk (st := s20) l20 c20 k20
  have d20 : Df K mg 20 "_law_cell" s20 p20 := ⟨f20, _, F20, PySem.W.mg_of X G a20, F20.binds (ps := p20) fun _ _ _ _ _ _ us hl => (match us, hl with | [_, _], _ => rfl), (fun q h => (nomatch h)), fun z => (nomatch z)⟩
  have F21 := fun_mk (st := s21) l21 c21 k21
  have d21 : Df K mg 21 "_law_hash" s21 p21 := ⟨f21, _, F21, PySem.W.mg_of X G a21, F21.binds (ps := p21) fun _ _ _ _ _ _ us hl => (match us, hl with | [_, _], _ => rfl), (fun q h => (nomatch h)), fun z => (nomatch z)⟩
  have F22 := fun_mk (st := s22) l22 c22 k22
  have d22 : Df K mg 22 "_law_random" s22 p22 := ⟨f22, _, F22, PySem.W.mg_of X G a22, F22.binds (ps := p22) fun _ _ _ _ _ _ us hl => (match us, hl with | [_, _], _ => rfl), (fun q h => (nomatch h)), fun z => (nomatch z)⟩
  have F23 := fun_mk (st := s23) l23 c23 k23
  have d23 : Df K mg 23 "_law_generator" s23 p23 := ⟨f23, _, F23, PySem.W.mg_of X G a23, F23.binds (ps := p23) fun _ _ _ _ _ _ us hl => (match us, hl with | [_, _], _ => rfl), (fun q h => (nomatch h)), fun z => (nomatch z)⟩
  have F24 := fun_mk (st := s24) l24 c24 k24
  have d24 : Df K mg 24 "_law_pick" s24 p24 := ⟨f24, _, F24, PySem.W.mg_of X G a24, F24.binds (ps := p24) fun _ _ _ _ _ _ us hl => (match us, hl with | [_, _], _ => rfl), (fun q h => (nomatch h)), fun z => (nomatch z)⟩
  have F25 := fun_mk (st := s25) l25 c25 k25
  have d25 : Df K mg 25 "_law_shuffled" s25 p25 := ⟨f25, _, F25, PySem.W.mg_of X G a25, F25.binds (ps := p25) fun _ _ _ _ _ _ us hl => (match us, hl with | [_, _], _ => rfl), (fun q h => (nomatch h)), fun z => (nomatch z)⟩
  have F26 := fun_mk (st := s26) l26 c26 k26
  have d26 : Df K mg 26 "_law_land" s26 p26 := ⟨f26, _, F26, PySem.W.mg_of X G a26, F26.binds (ps := p26) fun _ _ _ _ _ _ us hl => (match us, hl with | [_, _], _ => rfl), (fun q h => (nomatch h)), fun z => (nomatch z)⟩
  have F27 := fun_mk (st := s27) l27 c27 k27
  have d27 : Df K mg 27 "_law_nexts" s27 p27 := ⟨f27, _, F27, PySem.W.mg_of X G a27, F27.binds (ps := p27) fun _ _ _ _ _ _ us hl => (match us, hl with | [_, _], _ => rfl), (fun q h => (nomatch h)), fun z => (nomatch z)⟩
  have F28 := fun_mk (st := s28) l28 c28 k28
  have d28 : Df K mg 28 "_law_is_way" s28 p28 := ⟨f28, _, F28, PySem.W.mg_of X G a28, F28.binds (ps := p28) fun _ _ _ _ _ _ us hl => (match us, hl with | [_, _], _ => rfl), (fun q h => (nomatch h)), fun z => (nomatch z)⟩
  have F29 := fun_mk (st := s29) l29 c29 k29
  have d29 : Df K mg 29 "_law_climb" s29 p29 := ⟨f29, _, F29, PySem.W.mg_of X G a29, F29.binds (ps := p29) fun _ _ _ _ _ _ us hl => (match us, hl with | [_, _], _ => rfl), (fun q h => (nomatch h)), fun z => (nomatch z)⟩
  have F30 := fun_mk (st := s30) l30 c30 k30
  have d30 : Df K mg 30 "_law_roof" s30 p30 := ⟨f30, _, F30, PySem.W.mg_of X G a30, F30.binds (ps := p30) fun _ _ _ _ _ _ us hl => (match us, hl with | [_, _], _ => rfl), (fun q h => (nomatch h)), fun z => (nomatch z)⟩
  have F31 := fun_mk (st := s31) l31 c31 k31
  have d31 : Df K mg 31 "_law_walk" s31 p31 := ⟨f31, _, F31, PySem.W.mg_of X G a31, F31.binds (ps := p31) fun _ _ _ _ _ _ us hl => (match us, hl with | [_, _, _], _ => rfl), (fun q h => (nomatch h)), fun z => (nomatch z)⟩
  have F32 := fun_mk (st := s32) l32 c32 k32
  have d32 : Df K mg 32 "_law_values" s32 p32 := ⟨f32, _, F32, PySem.W.mg_of X G a32, F32.binds (ps := p32) fun _ _ _ _ _ _ us hl => (match us, hl with | [_, _, _], _ => rfl), (fun q h => (nomatch h)), fun z => (nomatch z)⟩
  have F33 := fun_mk (st := s33) l33 c33 k33
  have d33 : Df K mg 33 "_law_right" s33 p33 := ⟨f33, _, F33, PySem.W.mg_of X G a33, F33.binds (ps := p33) fun _ _ _ _ _ _ us hl => (match us, hl with | [_], _ => rfl), (fun q h => (nomatch h)), fun z => (nomatch z)⟩
  have F34 := fun_mk (st := s34) l34 c34 k34
  have d34 : Df K mg 34 "law" s34 p34 := ⟨f34, _, F34, PySem.W.mg_of X G a34, F34.binds (ps := p34) fun _ _ _ _ _ _ us hl => (match us, hl with | [_], _ => rfl), (fun q h => (nomatch h)), fun z => (nomatch z)⟩
  have m : Md K mg := by
    refine ⟨dg, fun x hx => ?_, fun k hk => ?_⟩
    · have hx : x ∈ (["all", "bool", "dict", "int", "isinstance", "len", "list", "max", "range", "repr", "sorted", "str", "sum", "tuple", "zip"] : List Str) := List.contains_iff_mem.mp hx
      simp only [List.mem_cons, List.not_mem_nil, or_false] at hx
      rcases hx with rfl | rfl | rfl | rfl | rfl | rfl | rfl | rfl | rfl | rfl | rfl | rfl | rfl | rfl | rfl
      · exact PySem.W.mg_none_of X G z_all
      · exact PySem.W.mg_none_of X G z_bool
      · exact PySem.W.mg_none_of X G z_dict
      · exact PySem.W.mg_none_of X G z_int
      · exact PySem.W.mg_none_of X G z_isinstance
      · exact PySem.W.mg_none_of X G z_len
      · exact PySem.W.mg_none_of X G z_list
      · exact PySem.W.mg_none_of X G z_max
      · exact PySem.W.mg_none_of X G z_range
      · exact PySem.W.mg_none_of X G z_repr
      · exact PySem.W.mg_none_of X G z_sorted
      · exact PySem.W.mg_none_of X G z_str
      · exact PySem.W.mg_none_of X G z_sum
      · exact PySem.W.mg_none_of X G z_tuple
      · exact PySem.W.mg_none_of X G z_zip
    · have hk : k < 3 := of_decide_eq_true hk
      match k, hk with
      | 0, _ => exact ⟨_, .str "abcdefghijklmnopqrstuvwxyz", PySem.W.mg_of X G g_SMALL, ⟨_, rfl⟩, fun H => .str _⟩
      | 1, _ => exact ⟨_, .str "0123456789", PySem.W.mg_of X G g_FIGURES, ⟨_, rfl⟩, fun H => .str _⟩
      | 2, _ => exact ⟨_, .int 8, PySem.W.mg_of X G g_MOST_NAME, ⟨_, rfl⟩, fun H => .int _⟩
  have e := hfa.symm.trans (PySem.W.mg_of X G a34)
  cases e
  refine ⟨I, (List.forall_mem_cons.mpr ⟨b9_, (fun _ h => nomatch h)⟩), (List.forall_mem_cons.mpr ⟨n9_, (fun _ h => nomatch h)⟩), (List.forall_mem_cons.mpr ⟨⟨ca9, h9_⟩, (fun _ h => nomatch h)⟩), PySem.W.fnOf "law" "law" (defArgs s34) (defBody s34) (defScope s34) .none kV34 dc34 pm34 an34 cd34 ct34, _, fun t u => .of_eq (show bindArgs (PySem.W.fnOf "law" "law" (defArgs s34) (defBody s34) (defScope s34) .none kV34 dc34 pm34 an34 cd34 ct34) ⟨[u], []⟩ = (pure [(("script" : Str), u)] : Sem (List (Str × Value))) from rfl), fun base kb nb ta => ?_, fun H a ns hl ht sq => low_true (mg := mg) (cn := (tb (fun _ => spNo) 0).cn) (s := sLaw) rfl ⟨hl, rfl⟩ (fun r n' h => h) (fun _ _ h => h) ht sq⟩
  exact def_sp (Γ := tb (fun i => (S i).sp) 34) b34 (fz m ta arS (all_at (P := l.prog) (w := w) (base := base) m ta d0 d1 d2 d3 d4 d5 d6 d7 d8 d9 d10 d11 d12 d13 d14 d15 d16 d17 d18 d19 d20 d21 d22 d23 d24 d25 d26 d27 d28 d29 d30 d31 d32 d33)) (fun z => nomatch z) F34 sc34 (ch34 _) (w34 (mono_sp S) rfl rfl rfl rfl rfl)
end K51
open PySem PySem.W PyProof.Rows
set_option pp.maxSteps 300
set_option pp.deepTerms false
set_option maxHeartbeats 0 in
theorem PySem.Challenge.cw_heightbook_k51_whole_climbs_of_ways_holds : PySem.Challenge.rw_heightbook_k51_whole_climbs_of_ways.Holds := by
  w_on; o_law; k_head; (case hw => w_witness2)
  k_fill
  refine TL.walk_run (l := PySem.Challenge.rw_heightbook_k51_whole_climbs_of_ways) (most := 63) (k := 70) (x := "script") rfl (by decide) rfl ⟨rfl, by decide, by decide⟩ (fun w h Y => PySem.W.km_in_of Y) ?F
  case F =>
    intro w mg fa h Y KX G hmg
    refine' K51.mk KX G hmg ?a0 ?l0 ?c0 ?k0 ?a1 ?l1 ?c1 ?k1 ?a2 ?l2 ?c2 ?k2 ?a3 ?l3 ?c3 ?k3 ?a4 ?l4 ?c4 ?k4 ?a5 ?l5 ?c5 ?k5 ?a6 ?l6 ?c6 ?k6 ?a7 ?l7 ?c7 ?k7 ?a8 ?l8 ?c8 ?k8 ?a9 ?l9 ?c9 ?k9 ?t9_ ?v9_ ?h9_ ?n9_ ?b9_ ?a10 ?l10 ?c10 ?k10 ?a11 ?l11 ?c11 ?k11 ?a12 ?l12 ?c12 ?k12 ?a13 ?l13 ?c13 ?k13 ?a14 ?l14 ?c14 ?k14 ?a15 ?l15 ?c15 ?k15 ?a16 ?l16 ?c16 ?k16 ?a17 ?l17 ?c17 ?k17 ?a18 ?l18 ?c18 ?k18 ?a19 ?l19 ?c19 ?k19 ?a20 ?l20 ?c20 ?k20 ?a21 ?l21 ?c21 ?k21 ?a22 ?l22 ?c22 ?k22 ?a23 ?l23 ?c23 ?k23 ?a24 ?l24 ?c24 ?k24 ?a25 ?l25 ?c25 ?k25 ?a26 ?l26 ?c26 ?k26 ?a27 ?l27 ?c27 ?k27 ?a28 ?l28 ?c28 ?k28 ?a29 ?l29 ?c29 ?k29 ?a30 ?l30 ?c30 ?k30 ?a31 ?l31 ?c31 ?k31 ?a32 ?l32 ?c32 ?k32 ?a33 ?l33 ?c33 ?k33 ?a34 ?l34 ?c34 ?k34 ?z_all ?z_bool ?z_dict ?z_int ?z_isinstance ?z_len ?z_list ?z_max ?z_range ?z_repr ?z_sorted ?z_str ?z_sum ?z_tuple ?z_zip ?g_SMALL ?g_FIGURES ?g_MOST_NAME ?dg
    (case a0 => k_is); (case l0 => k_is); (case c0 => k_is); (case k0 => k_is); (case a1 => k_is); (case l1 => k_is); (case c1 => k_is); (case k1 => k_is); (case a2 => k_is); (case l2 => k_is); (case c2 => k_is); (case k2 => k_is); (case a3 => k_is); (case l3 => k_is); (case c3 => k_is); (case k3 => k_is); (case a4 => k_is); (case l4 => k_is); (case c4 => k_is); (case k4 => k_is); (case a5 => k_is); (case l5 => k_is); (case c5 => k_is); (case k5 => k_is); (case a6 => k_is); (case l6 => k_is); (case c6 => k_is); (case k6 => k_is); (case a7 => k_is); (case l7 => k_is); (case c7 => k_is); (case k7 => k_is); (case a8 => k_is); (case l8 => k_is); (case c8 => k_is); (case k8 => k_is); (case a9 => k_is); (case l9 => k_is); (case c9 => k_is); (case k9 => k_is); (case t9_ => k_is); (case v9_ => rfl); (case h9_ => kernel_rfl); (case n9_ => kernel_rfl); (case b9_ => exact PySem.W.km_tabs_of Y _ (by decide)); (case a10 => k_is); (case l10 => k_is); (case c10 => k_is); (case k10 => k_is); (case a11 => k_is); (case l11 => k_is); (case c11 => k_is); (case k11 => k_is); (case a12 => k_is); (case l12 => k_is); (case c12 => k_is); (case k12 => k_is); (case a13 => k_is); (case l13 => k_is); (case c13 => k_is); (case k13 => k_is); (case a14 => k_is); (case l14 => k_is); (case c14 => k_is); (case k14 => k_is); (case a15 => k_is); (case l15 => k_is); (case c15 => k_is); (case k15 => k_is); (case a16 => k_is); (case l16 => k_is); (case c16 => k_is); (case k16 => k_is); (case a17 => k_is); (case l17 => k_is); (case c17 => k_is); (case k17 => k_is); (case a18 => k_is); (case l18 => k_is); (case c18 => k_is); (case k18 => k_is); (case a19 => k_is); (case l19 => k_is); (case c19 => k_is); (case k19 => k_is); (case a20 => k_is); (case l20 => k_is); (case c20 => k_is); (case k20 => k_is); (case a21 => k_is); (case l21 => k_is); (case c21 => k_is); (case k21 => k_is); (case a22 => k_is); (case l22 => k_is); (case c22 => k_is); (case k22 => k_is); (case a23 => k_is); (case l23 => k_is); (case c23 => k_is); (case k23 => k_is); (case a24 => k_is); (case l24 => k_is); (case c24 => k_is); (case k24 => k_is); (case a25 => k_is); (case l25 => k_is); (case c25 => k_is); (case k25 => k_is); (case a26 => k_is); (case l26 => k_is); (case c26 => k_is); (case k26 => k_is); (case a27 => k_is); (case l27 => k_is); (case c27 => k_is); (case k27 => k_is); (case a28 => k_is); (case l28 => k_is); (case c28 => k_is); (case k28 => k_is); (case a29 => k_is); (case l29 => k_is); (case c29 => k_is); (case k29 => k_is); (case a30 => k_is); (case l30 => k_is); (case c30 => k_is); (case k30 => k_is); (case a31 => k_is); (case l31 => k_is); (case c31 => k_is); (case k31 => k_is); (case a32 => k_is); (case l32 => k_is); (case c32 => k_is); (case k32 => k_is); (case a33 => k_is); (case l33 => k_is); (case c33 => k_is); (case k33 => k_is); (case a34 => k_is); (case l34 => k_is); (case c34 => k_is); (case k34 => k_is); (case z_all => k_is); (case z_bool => k_is); (case z_dict => k_is); (case z_int => k_is); (case z_isinstance => k_is); (case z_len => k_is); (case z_list => k_is); (case z_max => k_is); (case z_range => k_is); (case z_repr => k_is); (case z_sorted => k_is); (case z_str => k_is); (case z_sum => k_is); (case z_tuple => k_is); (case z_zip => k_is); (case g_SMALL => k_is); (case g_FIGURES => k_is); (case g_MOST_NAME => k_is); (case dg => k_is)

