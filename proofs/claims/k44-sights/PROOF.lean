import PyProof.Rows.All
import HandS.ForMost
import HandS.ExcOwn
import HandS.ForExc
import HandS.Flow
import HandS.WideBits
import KE.DataEq
import KE.DataCmp
import KE.SortData
import KE.SortKeyHeap
import KE.DataMinMax
import KE.DataMinKey
import KE.DataAny
import KE.KeyNested
import PyProof.ReprRoads
import PyProof.ReprReads
import HandS.Style
import KE.DataIsa
import PyProof.ListStr
import HandS.TupAny
import PyProof.Rows.StrOr
import HandS.Conv
import HandS.More
import HandS.Dict
import HandS.IsInst
import HandS.Zip
import HandS.Iter
import HandS.TryOnly
import HandS.Small
import HandS.Ends
import PySem.Challenge.RW_heightbook_k44_whole_sights
set_option Elab.async false
set_option linter.all false
set_option maxRecDepth 100000
/-! TL0: defs whose call is made with no repr running (FnG), their bodies, their calls. -/
namespace TL
open PySem PySem.Spec PyProof.Rows L2

/-- as FnOk, for calls around which no repr runs -/
structure FnG (P : Program) (w : World) (K : PySem.W.Frag) (mg : Str → Option Value)
    (base : Heap) (CX : CXT) (k : Nat) (f : Addr) (fd : FuncData) (ps : List Str) (sp : Sp) : Prop where
  len : ∀ vs H Q E, sp vs H Q E → vs.length = ps.length
  go : ∀ (A : Around) (outer : List Env) (s : Shared) (H : Hp) (args : Args)
    (us : List Value) (vs : List V) (Q : VK) (E : XK), Room k A → A.guards = some [] →
    Env0 P w K mg base A outer s H → BindsTo s fd args (ps.zip us) → Vals vs us → sp vs H Q E →
    codeAny (model P w) A (.call (.ref f) args) (CR CX outer P w H s Q E) s

section
variable {P : Program} {w : World} {K : PySem.W.Frag} {mg : Str → Option Value} {base : Heap}
  {CX : CXT} {k : Nat} {f : Addr} {fd : FuncData} {ps : List Str} {sp : Sp}
theorem FnG.mono {j : Nat} (F : FnG P w K mg base CX j f fd ps sp) (h : j ≤ k) :
    FnG P w K mg base CX k f fd ps sp :=
  ⟨F.len, fun A o s H a us vs Q E hr hg => F.go A o s H a us vs Q E (hr.mono h) hg⟩
theorem FnG.imp {sp' : Sp} (F : FnG P w K mg base CX k f fd ps sp)
    (h : ∀ vs H Q E, sp' vs H Q E → sp vs H Q E) : FnG P w K mg base CX k f fd ps sp' :=
  ⟨fun _ _ _ _ q => F.len _ _ _ _ (h _ _ _ _ q),
   fun A o s H a us vs Q E hr hg e0 hb hv hs => F.go A o s H a us vs Q E hr hg e0 hb hv (h _ _ _ _ hs)⟩

/-- a def of the text keeps its promise: by its body -/
theorem gn_of {x qual : Str} {st : Stmt} {N : List Str} (F : Fun K x qual st f fd)
    (S : FnScope N ps (defScope st)) (len : ∀ vs H Q E, sp vs H Q E → vs.length = ps.length)
    (body : ∀ (cdv : Value) (A : Around) (outer : List Env) (s : Shared) (H : Hp) (vs : List V)
      (Q : VK) (E : XK), Room k (A.deeper (envOfC qual (defScope st) s.heap.objs.size f cdv)) →
      A.guards = some [] → sp vs H Q E →
      ∃ t, PSs (cxOf CX P w K mg base N qual (defScope st) f cdv A outer s H E) (defBody st) t ∧
        t { nx := fun _ H' => Q .non H', rt := Q } (start N vs) H) :
    FnG P w K mg base CX (k + 1) f fd ps sp := by
  obtain ⟨oc, od, kV, doc, pm, an, cdv, ct, osl, efd, lk, hcd⟩ := F.ex
  subst efd
  refine ⟨len, fun A outer s H args us vs Q E hr hg e0 hb r hsp => ?_⟩
  have hl := len _ _ _ _ hsp
  have KX : K.In s.heap := e0.mod.kin.keeps fun b o e => (e0.bs b o e).1
  have lim : s.heap.NoLimit := e0.mod.nolimit.keeps fun b o e => (e0.bs b o e).1
  refine codeAny_call_function hr.depth (KX _ _ lk) rfl S.co S.gen rfl
    (PySem.W.codeRec_of KX hcd) (hb _ _ _ _ ?_)
  refine wpAny_newFunctionEnv_cells S.kind (fun y hy => ?_) fun env he s1 x => ?_
  · obtain ⟨n, v⟩ := y
    cases S.par n (List.of_mem_zip hy).1 with
    | inl q => exact .inl q
    | inr q => exact .inr ⟨q, PySem.W.cellsFrom_some _ _ _ (.inl q)⟩
  subst he
  refine ⟨lim.keeps x.toInCall.keep, codeAny_func ?_⟩
  obtain ⟨t, ht, hq⟩ := body cdv A outer s H vs Q E (hr.deeper _) hg hsp
  have I := inv_start (CX := CX) (E := E) (cd := cdv) (qual := qual) (f := f) S hr.hd e0 hl r x
  refine wpAny_mono (ht.run [] s1 (start N vs) H _ I hq) (fun fl s' hs => ?_) fun e s' hs => hs
  cases fl with
  | ret u =>
    obtain ⟨v, σ', H', J, rv, q⟩ := hs
    exact ⟨v, H', J.os, J.bare, J.base, J.hok, rv, q⟩
  | next =>
    obtain ⟨σ', H', J, q⟩ := hs
    exact ⟨.non, H', J.os, J.bare, J.base, J.hok, rfl, q⟩
  | brk =>
    obtain ⟨_, _, _, q⟩ := hs
    exact False.elim q
  | cont =>
    obtain ⟨_, _, _, q⟩ := hs
    exact False.elim q
end

section
variable {X : Cx} {CX : CXT} {k : Nat} {f : Addr} {fd : FuncData} {ps : List Str} {sp : Sp}
  {x : Str} {p pos : Pos} {e : Expr} {es : List Expr} {t tk : TA}
/-- the callee runs -/
theorem grun {E : XK} {pins : List (Addr × Obj)} {σ : L2.St} {H : Hp} {s : Shared} {Q : VK} {args : Args}
    {us : List Value} {vs : List V} (F : FnG X.prog X.w X.K X.mg X.base CX k f fd ps sp)
    (hr : Room k X.A) (hg : X.A.guards = some []) (hx : PassesAt CX X σ E) (I : Inv X pins σ H s)
    (hb : us.length = ps.length → BindsTo s fd args (ps.zip us)) (r : Vals vs us) (h : sp vs H Q E) :
    wpAny (model X.prog X.w) X.A (call (.ref f) args.pos args.kw) (EP X pins σ Q) X.xe s := by
  have hl : us.length = ps.length := by rw [← r.length]; exact F.len _ _ _ _ h
  refine wpAny_call (codeAny_mono (F.go X.A X.stack s H args us vs Q E hr hg I.env0 (hb hl) r h)
    fun r s' hq => ?_)
  cases r with
  | error e => exact hx pins H s e s' I hq
  | ok fl =>
    cases fl with
    | ret u => exact I.after hq
    | next => exact False.elim hq
    | brk => exact False.elim hq
    | cont => exact False.elim hq

theorem pg_call {E : L2.St → XK} (F : FnG X.prog X.w X.K X.mg X.base CX k f fd ps sp) (hr : Room k X.A)
    (hg : X.A.guards = some []) (hgl : Gl X x) (hm : X.mg x = some (.ref f))
    (hk : PySem.W.keepIn X.K (.ref f) = true) (hb : Binds X.K fd ps []) (hx : ∀ σ, PassesAt CX X σ (E σ))
    (ha : PA X (e :: es) t) (hdb : (x == ("__debug__" : Str)) = false)
    (he : starEach (e :: es) X.env = (false, eval e X.env) :: starEach es X.env)
    (hpl : (backTo pos (starEach es X.env)).any (·.1) = false) :
    PE X (.Call (.Name x p) (e :: es) [] pos) (fun σ H Q => t σ H fun vs H1 => sp vs H1 Q (E σ)) := by
  refine ⟨fun pins s σ H Q I h => ?_⟩
  refine wpAny_Call_Name_kw (ld_glob I hgl hm ?_ hdb)
  refine PySem.W.callWith_K (h₀ := X.base) I.ok.mod.kin hk (thn (ha.run pos pins s σ H _ I h)
    fun us s1 ⟨vs, H1, I1, r, q⟩ => ⟨I1.kIn, ?_⟩) he hpl
  exact grun (args := ⟨us, []⟩) F hr hg (hx σ) I1 (fun hl => by
    have := hb s1 us I1.kIn (by simpa using hl)
    simpa using this) r q
theorem pg_call0 {E : L2.St → XK} (F : FnG X.prog X.w X.K X.mg X.base CX k f fd ps sp) (hr : Room k X.A)
    (hg : X.A.guards = some []) (hgl : Gl X x) (hm : X.mg x = some (.ref f))
    (hk : PySem.W.keepIn X.K (.ref f) = true) (hb : Binds X.K fd ps []) (hx : ∀ σ, PassesAt CX X σ (E σ))
    (hdb : (x == ("__debug__" : Str)) = false) :
    PE X (.Call (.Name x p) [] [] pos) (fun σ H Q => sp [] H Q (E σ)) := by
  refine ⟨fun pins s σ H Q I h => ?_⟩
  refine wpAny_Call_Name_kw (ld_glob I hgl hm ?_ hdb)
  refine PySem.W.callWith_K0 I.kIn hk ?_
  exact grun (args := ⟨[], []⟩) (us := []) F hr hg (hx σ) I (fun hl => by
    have := hb s [] I.kIn (by simpa using hl)
    simpa using this) .nil h
theorem pg_callK {E : L2.St → XK} {ks : List Str} {g : List Value → List Value → List Value}
    {gV : List V → List V → List V} {kws : List Keyword}
    (F : FnG X.prog X.w X.K X.mg X.base CX k f fd ps sp) (hr : Room k X.A)
    (hg : X.A.guards = some []) (hgl : Gl X x) (hm : X.mg x = some (.ref f))
    (hk : PySem.W.keepIn X.K (.ref f) = true) (hb : KBinds X.K fd ps ks g gV) (hx : ∀ σ, PassesAt CX X σ (E σ))
    (ha : PA X (e :: es) t) (hkw : PK X kws tk)
    (hall : (backToKw pos (keywordEach kws X.env)).all (·.1.isSome) = true)
    (hks : (backToKw pos (keywordEach kws X.env)).filterMap (·.1) = ks)
    (hdb : (x == ("__debug__" : Str)) = false)
    (he : starEach (e :: es) X.env = (false, eval e X.env) :: starEach es X.env)
    (hpl : ((backTo pos (starEach (e :: es) X.env)).any (·.1) ||
      (backToKw pos (keywordEach kws X.env)).any (·.1.isNone)) = false) :
    PE X (.Call (.Name x p) (e :: es) kws pos)
      (fun σ H Q => t σ H fun vs H1 => tk σ H1 fun zs H2 => sp (gV vs zs) H2 Q (E σ)) := by
  refine ⟨fun pins s σ H Q I h => ?_⟩
  refine wpAny_Call_Name_kw (ld_glob I hgl hm ?_ hdb)
  refine PySem.W.callWith_KW (h₀ := X.base) I.ok.mod.kin hk hall
    (thn (ha.run pos pins s σ H _ I h) fun us s1 ⟨vs, H1, I1, r, q⟩ => ?_) hpl he
  refine thn (hkw.run pos pins s1 σ H1 _ I1 q) fun ws s2 ⟨zs, H2, I2, rz, q2⟩ => ⟨I2.kIn, ?_⟩
  rw [hks]
  exact grun (args := ⟨us, ks.zip ws⟩) F hr hg (hx σ) I2 (fun hl => hb.to s2 us ws I2.kIn hl) (hb.rel r rz) q2
end
end TL

set_option Elab.async false
set_option linter.all false
set_option maxRecDepth 100000
/-! TL1: values as trees of data over the abstract heap; heaps that grow; masks. -/
namespace TL
open PySem PySem.Spec PyProof.Rows L2

def keyD : Key → PyData
  | .inl i => .int i
  | .inr x => .str x

mutual
/-- the value v stands for the tree d in H -/
inductive Rp (K : PySem.W.Frag) (H : Hp) : V → PyData → Prop
  | non : Rp K H .non .none
  | bl (b : Bool) : Rp K H (.bl b) (.bool b)
  | int (i : Int) : Rp K H (.int i) (.int i)
  | str (x : Str) : Rp K H (.str x) (.str x)
  | lst {a : Addr} {xs : List V} {ds : List PyData} : H a = some (.lst xs) → RpA K H xs ds → Rp K H (.ref a) (.list ds)
  | tup {a : Addr} {xs : List V} {ds : List PyData} : SqT K H a xs → RpA K H xs ds → Rp K H (.ref a) (.tuple ds)
  | dK {a : Addr} {kvs : List (Key × V)} {ds : List (PyData × PyData)} : Rd H a (.dK kvs) → RpK K H kvs ds → Rp K H (.ref a) (.dict ds)
  | dT {a : Addr} {kvs : List (List Key × V)} {ds : List (PyData × PyData)} : Rd H a (.dT kvs) → RpTK K H kvs ds → Rp K H (.ref a) (.dict ds)
inductive RpA (K : PySem.W.Frag) (H : Hp) : List V → List PyData → Prop
  | nil : RpA K H [] []
  | cons {v : V} {vs : List V} {d : PyData} {ds : List PyData} : Rp K H v d → RpA K H vs ds → RpA K H (v :: vs) (d :: ds)
inductive RpK (K : PySem.W.Frag) (H : Hp) : List (Key × V) → List (PyData × PyData) → Prop
  | nil : RpK K H [] []
  | cons {k : Key} {v : V} {kvs : List (Key × V)} {d : PyData} {ds : List (PyData × PyData)} : Rp K H v d → RpK K H kvs ds → RpK K H ((k, v) :: kvs) ((keyD k, d) :: ds)
inductive RpTK (K : PySem.W.Frag) (H : Hp) : List (List Key × V) → List (PyData × PyData) → Prop
  | one {k : List Key} {v : V} {d : PyData} : Rp K H v d → RpTK K H [(k, v)] [(.tuple (k.map keyD), d)]
  | cons {k : List Key} {v : V} {kvs : List (List Key × V)} {d : PyData} {ds : List (PyData × PyData)} : Rp K H v d → RpTK K H kvs ds → RpTK K H ((k, v) :: kvs) ((.tuple (k.map keyD), d) :: ds)
end

/-- all that may be read in H may be read in H' -/
structure Le (H H' : Hp) : Prop where
  rd : ∀ a u, Rd H a u → Rd H' a u
  lst : ∀ a xs, H a = some (.lst xs) → H' a = some (.lst xs)
theorem Le.refl (H : Hp) : Le H H := ⟨fun _ _ h => h, fun _ _ h => h⟩
theorem Le.trans {H H1 H2 : Hp} (a : Le H H1) (b : Le H1 H2) : Le H H2 := ⟨fun x u h => b.rd x u (a.rd x u h), fun x u h => b.lst x u (a.lst x u h)⟩
theorem Le.of {H H' : Hp} (h : ∀ a o, H a = some o → H' a = some o) : Le H H' := ⟨fun a u r => by
  rcases r with r | ⟨o, r⟩
  · exact .inl (h a _ r)
  · exact .inr ⟨o, h a _ r⟩, fun a xs e => h a _ e⟩
theorem Le.sqT {K : PySem.W.Frag} {H H' : Hp} {a : Addr} {xs : List V} (l : Le H H') (h : SqT K H a xs) : SqT K H' a xs := by
  rcases h with h | h
  · exact .inl (l.rd _ _ h)
  · exact .inr h
section
variable {K : PySem.W.Frag} {H H' : Hp}
mutual
theorem Rp.le (l : Le H H') : ∀ {v : V} {d : PyData}, Rp K H v d → Rp K H' v d
  | _, _, .non => .non
  | _, _, .bl b => .bl b
  | _, _, .int i => .int i
  | _, _, .str x => .str x
  | _, _, .lst h r => .lst (l.lst _ _ h) (RpA.le l r)
  | _, _, .tup h r => .tup (l.sqT h) (RpA.le l r)
  | _, _, .dK h r => .dK (l.rd _ _ h) (RpK.le l r)
  | _, _, .dT h r => .dT (l.rd _ _ h) (RpTK.le l r)
theorem RpA.le (l : Le H H') : ∀ {vs : List V} {ds : List PyData}, RpA K H vs ds → RpA K H' vs ds
  | _, _, .nil => .nil
  | _, _, .cons a b => .cons (Rp.le l a) (RpA.le l b)
theorem RpK.le (l : Le H H') : ∀ {vs : List (Key × V)} {ds : List (PyData × PyData)}, RpK K H vs ds → RpK K H' vs ds
  | _, _, .nil => .nil
  | _, _, .cons a b => .cons (Rp.le l a) (RpK.le l b)
theorem RpTK.le (l : Le H H') : ∀ {vs : List (List Key × V)} {ds : List (PyData × PyData)}, RpTK K H vs ds → RpTK K H' vs ds
  | _, _, .one a => .one (Rp.le l a)
  | _, _, .cons a b => .cons (Rp.le l a) (RpTK.le l b)
end
theorem RpA.length : ∀ {vs : List V} {ds : List PyData}, RpA K H vs ds → vs.length = ds.length
  | _, _, .nil => rfl
  | _, _, .cons _ b => by rw [List.length_cons, List.length_cons, RpA.length b]
theorem RpA.get : ∀ {vs : List V} {ds : List PyData} {i : Nat} {d : PyData}, RpA K H vs ds → ds[i]? = some d → ∃ v, vs[i]? = some v ∧ Rp K H v d
  | _, _, _, _, .nil, e => by simp at e
  | _, _, 0, _, .cons a _, e => by simp at e; subst e; exact ⟨_, rfl, a⟩
  | _, _, i + 1, _, .cons _ b, e => by
    obtain ⟨v, h1, h2⟩ := RpA.get (i := i) b (by simpa using e)
    exact ⟨v, by simpa using h1, h2⟩
theorem RpA.getv {vs : List V} {ds : List PyData} {i : Nat} {v : V} (h : RpA K H vs ds) (e : vs[i]? = some v) : ∃ d, ds[i]? = some d ∧ Rp K H v d := by
  have hi : i < ds.length := by rw [← h.length]; exact (List.getElem?_eq_some_iff.mp e).1
  obtain ⟨w, hw, r⟩ := h.get (List.getElem?_eq_getElem hi)
  rw [hw] at e; cases e
  exact ⟨_, List.getElem?_eq_getElem hi, r⟩
theorem RpA.append : ∀ {vs : List V} {ds : List PyData} {vs' : List V} {ds' : List PyData}, RpA K H vs ds → RpA K H vs' ds' → RpA K H (vs ++ vs') (ds ++ ds')
  | _, _, _, _, .nil, h => h
  | _, _, _, _, .cons a b, h => .cons a (RpA.append b h)
theorem RpA.take : ∀ {vs : List V} {ds : List PyData} (n : Nat), RpA K H vs ds → RpA K H (vs.take n) (ds.take n)
  | _, _, 0, _ => .nil
  | _, _, _ + 1, .nil => .nil
  | _, _, n + 1, .cons a b => .cons a (RpA.take n b)
theorem RpA.drop : ∀ {vs : List V} {ds : List PyData} (n : Nat), RpA K H vs ds → RpA K H (vs.drop n) (ds.drop n)
  | _, _, 0, h => h
  | _, _, _ + 1, .nil => .nil
  | _, _, n + 1, .cons _ b => RpA.drop n b
theorem RpA.set : ∀ {vs : List V} {ds : List PyData} {v : V} {d : PyData} (i : Nat), Rp K H v d → RpA K H vs ds → RpA K H (vs.set i v) (ds.set i d)
  | _, _, _, _, _, _, .nil => .nil
  | _, _, _, _, 0, r, .cons _ b => .cons r b
  | _, _, _, _, i + 1, r, .cons a b => .cons a (RpA.set i r b)
theorem RpA.erase : ∀ {vs : List V} {ds : List PyData} (k : Nat), RpA K H vs ds → RpA K H (vs.eraseIdx k) (ds.eraseIdx k)
  | _, _, _, .nil => .nil
  | _, _, 0, .cons _ b => b
  | _, _, k + 1, .cons a b => .cons a (RpA.erase k b)
theorem RpA.one {v : V} {d : PyData} (h : Rp K H v d) : RpA K H [v] [d] := .cons h .nil
theorem RpA.reverse {vs : List V} {ds : List PyData} (h : RpA K H vs ds) : RpA K H vs.reverse ds.reverse := by
  induction vs generalizing ds with
  | nil => cases h; exact .nil
  | cons v vs ih =>
    cases h with
    | cons a b =>
      rw [List.reverse_cons, List.reverse_cons]
      exact (ih b).append (.one a)
theorem RpA.strs : ∀ (xs : List Str), RpA K H (xs.map V.str) (xs.map PyData.str)
  | [] => .nil
  | x :: xs => .cons (.str x) (RpA.strs xs)
theorem RpA.ints : ∀ (xs : List Int), RpA K H (xs.map V.int) (xs.map PyData.int)
  | [] => .nil
  | x :: xs => .cons (.int x) (RpA.ints xs)
end

/-! ### from the abstract heap to the heap -/
theorem RelV.key {k : Key} {u : Value} (h : keyIs k u = true) : Reads hp u (keyD k) [] := by
  rcases keyIs_shape h with ⟨i, t, rfl, rfl⟩ | ⟨x, t, rfl, rfl⟩
  · exact .int i t
  · exact .str x t
theorem reads_keys {P : Program} {w : World} {hp : Heap} : ∀ {ks : List Key} {us : List Value}, ItemsAre (mixKind P w) ks us → ReadsAll hp us (ks.map keyD) []
  | _, _, .nil => .nil
  | _, _, .cons a b => by
    have := ReadsAll.cons (as := []) (bs := []) (RelV.key (hp := hp) a) (reads_keys b)
    simpa using this
section
variable {X : Cx} {pins : List (Addr × Obj)} {σ : L2.St} {H : Hp} {s : Shared}
mutual
theorem Rp.reads (I : Inv X pins σ H s) : ∀ {v : V} {d : PyData} {u : Value}, Rp X.K H v d → RelV v u → ∃ as, Reads s.heap u d as
  | _, _, _, .non, r => by cases r; exact ⟨_, .none⟩
  | _, _, _, .bl b, r => by cases r; exact ⟨_, .bool b⟩
  | _, _, _, .int i, r => by obtain ⟨t, rfl⟩ := r; exact ⟨_, .int i t⟩
  | _, _, _, .str x, r => by obtain ⟨t, rfl⟩ := r; exact ⟨_, .str x t⟩
  | _, _, _, .lst (a := a) h ra, r => by
    cases r
    obtain ⟨its, rv, ⟨o, n, ho, hc, _, hd⟩, _⟩ := I.list (.of h)
    obtain ⟨as, hr⟩ := RpA.reads I ra rv
    exact ⟨_, .list ho hc hd hr⟩
  | _, _, _, .tup (a := a) h ra, r => by
    cases r
    obtain ⟨its, rv, ⟨o, ho, hc, n, hd⟩, _⟩ := I.tuple h
    obtain ⟨as, hr⟩ := RpA.reads I ra rv
    exact ⟨_, .tuple ho hc hd hr⟩
  | _, _, _, .dK (a := a) h ra, r => by
    cases r
    obtain ⟨_, hne, vs, rv, o, es, ep, ho, hx, hd, _, hp, _⟩ := dk_rd I.hok h
    obtain ⟨as, h1, h2⟩ := RpK.reads I ra rv hp
    exact ⟨_, .dict ho hx.1 hd (as := []) h1 h2⟩
  | _, _, _, .dT (a := a) h ra, r => by
    cases r
    obtain ⟨_, hne, xs, rv, o, es, ep, ho, hx, hd, he, hk, _⟩ := dt_rd I.hok h
    obtain ⟨as, h1, h2⟩ := RpTK.reads I ra rv hk
    exact ⟨_, .dict ho hx.1 hd (as := []) (bs := as) (by rw [he]; exact h1) (by rw [he]; exact h2)⟩
theorem RpA.reads (I : Inv X pins σ H s) : ∀ {vs : List V} {ds : List PyData} {us : List Value}, RpA X.K H vs ds → Vals vs us → ∃ as, ReadsAll s.heap us ds as
  | _, _, _, .nil, r => by cases r; exact ⟨_, .nil⟩
  | _, _, _, .cons a b, r => by
    cases r with
    | cons r1 r2 =>
      obtain ⟨as, q1⟩ := Rp.reads I a r1
      obtain ⟨bs, q2⟩ := RpA.reads I b r2
      exact ⟨_, .cons q1 q2⟩
theorem RpK.reads (I : Inv X pins σ H s) : ∀ {kvs : List (Key × V)} {ds : List (PyData × PyData)} {vs : List (Key × Value)} {es : List DictEntry},
    RpK X.K H kvs ds → KV kvs vs → Pairs (mixKind X.prog X.w) es vs → ∃ as, ReadsAll s.heap (es.map (·.key)) (ds.map (·.1)) [] ∧ ReadsAll s.heap (es.map (·.val)) (ds.map (·.2)) as
  | _, _, _, _, .nil, r, p => by cases r; cases p; exact ⟨_, .nil, .nil⟩
  | _, _, _, _, .cons a b, r, p => by
    cases r with
    | cons r1 r2 =>
      cases p with
      | cons p1 p2 p3 =>
        obtain ⟨as, q1⟩ := Rp.reads I a r1.2
        obtain ⟨bs, q2, q3⟩ := RpK.reads I b r2 p3
        refine ⟨as ++ bs, ?_, ?_⟩
        · have h1 := r1.1
          simp only at h1
          have h3 := RelV.key (hp := s.heap) (k := _) p1
          rw [← h1] at h3
          have := ReadsAll.cons (as := []) (bs := []) h3 q2
          simpa using this
        · rw [List.map_cons, List.map_cons, p2]
          exact .cons q1 q3
theorem RpTK.reads (I : Inv X pins σ H s) : ∀ {kvs : List (List Key × V)} {ds : List (PyData × PyData)} {xs : List (List Key × Addr × Value)},
    RpTK X.K H kvs ds → KT H kvs xs → (∀ x ∈ xs, (tupleKind (mixKind X.prog X.w)).is s.heap x.1 x.2.1) →
    ∃ as, ReadsAll s.heap ((xs.map (entryOfKey (tupleKind (mixKind X.prog X.w)))).map (·.key)) (ds.map (·.1)) [] ∧ ReadsAll s.heap ((xs.map (entryOfKey (tupleKind (mixKind X.prog X.w)))).map (·.val)) (ds.map (·.2)) as
  | _, _, _, .one a, r, hk => by
    cases r with
    | cons r1 r2 =>
      cases r2
      obtain ⟨as, q1⟩ := Rp.reads I a r1.2.2
      refine ⟨as ++ [], ?_, ?_⟩
      · obtain ⟨o, its, n, e1, e2, e3, e4⟩ := hk _ (List.mem_cons_self ..)
        have h1 := r1.1
        simp only at h1
        rw [← h1] at e4
        exact ReadsAll.cons (as := []) (bs := []) (Reads.tuple (h := s.heap) e1 e2 e3 (reads_keys e4)) .nil
      · exact .cons q1 .nil
  | _, _, _, .cons a b, r, hk => by
    cases r with
    | cons r1 r2 =>
      obtain ⟨as, q1⟩ := Rp.reads I a r1.2.2
      obtain ⟨bs, q2, q3⟩ := RpTK.reads I b r2 fun x hx => hk x (List.mem_cons_of_mem _ hx)
      refine ⟨as ++ bs, ?_, ?_⟩
      · obtain ⟨o, its, n, e1, e2, e3, e4⟩ := hk _ (List.mem_cons_self ..)
        have h1 := r1.1
        simp only at h1
        rw [← h1] at e4
        exact ReadsAll.cons (as := []) (bs := []) (Reads.tuple (h := s.heap) e1 e2 e3 (reads_keys e4)) q2
      · exact .cons q1 q3
end

/-! ### how a value is shown (no dict of H's is sys.modules) -/
def Sh (P : Program) (w : World) (h : Heap) (u : Value) (x : PyData) : Prop := ∃ bs, ReadAtMost h x.depth bs ∧ ReprK P w bs h x.depth u x.shown
def ShA (P : Program) (w : World) (h : Heap) (us : List Value) (ds : List PyData) : Prop := ∃ bs, ReadAtMost h (PyData.depthAll ds) bs ∧ ReprAllK P w bs h (PyData.depthAll ds) us (PyData.shownAll ds)
def Tp (P : Program) (w : World) (h : Heap) (u : Value) (x : PyData) : Prop := ∀ a, u = .ref a → ∀ (A : Around) (E : Value → Shared → Prop) (t : Shared) (Q : Value → Shared → Prop), A.guards = some [] → A.units + (x.depth + 1) < cLine →
  (∀ b o, h.get? b = some o → t.heap.get? b = some o) → (∀ h' u tk, (∀ b o, t.heap.get? b = some o → h'.get? b = some o) → Q (.str x.shown u) { t with heap := h', toks := tk }) → wpAny (model P w) A (PySem.call (.builtin "repr") [.ref a]) Q E t
section
variable {P : Program} {w : World} {h : Heap}
theorem sh_two {ks vs : List Value} {xs ys : List PyData} (a : ShA P w h ks xs) (b : ShA P w h vs ys) : ∃ bs, ∀ n, PyData.depthAll xs ≤ n → PyData.depthAll ys ≤ n → ReadAtMost h n bs ∧ ReprAllK P w bs h n ks (PyData.shownAll xs) ∧ ReprAllK P w bs h n vs (PyData.shownAll ys) := by
  obtain ⟨c, c1, c2⟩ := a
  obtain ⟨d, d1, d2⟩ := b
  exact ⟨c ++ d, fun n h1 h2 => ⟨(c1.mono h1).append (d1.mono h2), c2.more_le (fun _ => List.mem_append_left d) h1, d2.more_le (fun _ => List.mem_append_right c) h2⟩⟩
theorem sh_list {a : Addr} {o : Obj} {n : Nat} {its : List Value} {ds : List PyData} {as : List Addr} (e1 : h.get? a = some o) (e2 : o.cls = .type "list") (e3 : o.data = .seq its.toArray n) (r : ReadsAll h its ds as) (q : ShA P w h its ds) (z : (PyData.shown (.list ds)).length ≤ sizeLine) :
    Sh P w h (.ref a) (.list ds) ∧ Tp P w h (.ref a) (.list ds) := by
  have R : Reads h (.ref a) (.list ds) _ := .list e1 e2 e3 r
  obtain ⟨bs, q1, q2⟩ := q
  have na : a ∉ bs := not_mem_of_deeper R (Nat.lt_succ_self (PyData.depthAll ds)) q1
  have mem : ReadAtMost h (PyData.depthAll ds + 1) (a :: bs) := ReadAtMost.cons R (Nat.le_succ (PyData.depthAll ds)) q1
  simp only [PyData.shown] at z
  cases its with
  | nil =>
    cases r
    refine ⟨⟨a :: bs, mem, ?_⟩, fun b eb A E t Q hg hu hk hQ => ?_⟩
    · simp only [PyData.shown, PyData.shownAll, listText_nil]
      exact ReprK.listEmpty e1 e2 e3
    · cases eb
      simp only [PyData.shown, PyData.shownAll, listText_nil] at hQ
      exact call_repr_slot (by omega) ⟨o, hk _ _ e1, e2⟩ F.slot_list_repr.toG (call_list_repr_empty ⟨o, hk _ _ e1, e2⟩ (hk _ _ e1) e3 ⟨_, _, rfl, hQ t.heap _ _ fun _ _ e => e⟩)
  | cons x l =>
    have at_ : ∀ (i : Nat) (y : Value), (x :: l).toArray[i]? = some y → ∃ t, (PyData.shownAll ds)[i]? = some t ∧ ReprK P w bs h (PyData.depthAll ds) y t := fun i y e => q2.item i y (by simpa using e)
    refine ⟨⟨a :: bs, mem, ?_⟩, fun b eb A E t Q hg hu hk hQ => ?_⟩
    · simp only [PyData.shown]
      exact ReprK.list e1 e2 e3 na (by simpa using q2.length_eq) at_
    · cases eb
      simp only [PyData.shown] at hQ
      refine call_repr_slot (by omega) ⟨o, hk _ _ e1, e2⟩ F.slot_list_repr.toG ?_
      exact call_list_reprK e1 e2 e3 na (by simpa using q2.length_eq) at_ hg (fun b _ => Clear.nil b) (by simp only [PyData.depth] at hu; show A.units + 1 + _ < _; omega) hk (fun h' u tk k => ⟨_, _, rfl, hQ h' u tk k⟩) z
theorem sh_tuple {a : Addr} {o : Obj} {n : Nat} {its : List Value} {ds : List PyData} {as : List Addr} (e1 : h.get? a = some o) (e2 : o.cls = .type "tuple") (e3 : o.data = .seq its.toArray n) (r : ReadsAll h its ds as) (q : ShA P w h its ds) (z : (PyData.shown (.tuple ds)).length ≤ sizeLine) :
    Sh P w h (.ref a) (.tuple ds) ∧ Tp P w h (.ref a) (.tuple ds) := by
  have R : Reads h (.ref a) (.tuple ds) _ := .tuple e1 e2 e3 r
  obtain ⟨bs, q1, q2⟩ := q
  have na : a ∉ bs := not_mem_of_deeper R (Nat.lt_succ_self (PyData.depthAll ds)) q1
  have mem : ReadAtMost h (PyData.depthAll ds + 1) (a :: bs) := ReadAtMost.cons R (Nat.le_succ (PyData.depthAll ds)) q1
  simp only [PyData.shown] at z
  refine ⟨⟨a :: bs, mem, ?_⟩, fun b eb A E t Q hg hu hk hQ => ?_⟩
  · simp only [PyData.shown]
    exact ReprK.tuple e1 e2 e3 na q2
  · cases eb
    simp only [PyData.shown] at hQ
    refine call_repr_slot (by omega) ⟨o, hk _ _ e1, e2⟩ F.slot_tuple_repr ?_
    exact call_tuple_reprK e1 e2 e3 na q2 hg (fun b _ => Clear.nil b) (by simp only [PyData.depth] at hu; show A.units + 1 + _ < _; omega) hk (fun h' u tk k => ⟨_, _, rfl, hQ h' u tk k⟩) z
theorem sh_dict {a : Addr} {o : Obj} {n : Nat} {es : Array DictEntry} {kvs : List (PyData × PyData)} {as bs : List Addr} (e1 : h.get? a = some o) (e2 : o.cls = .type "dict") (e3 : o.data = .dict es n) (ne : (a == sysModules) = false) (r1 : ReadsAll h (es.toList.map (·.key)) (kvs.map (·.1)) as) (r2 : ReadsAll h (es.toList.map (·.val)) (kvs.map (·.2)) bs)
    (q1 : ShA P w h (es.toList.map (·.key)) (kvs.map (·.1))) (q2 : ShA P w h (es.toList.map (·.val)) (kvs.map (·.2))) (z : (PyData.shown (.dict kvs)).length ≤ sizeLine) : Sh P w h (.ref a) (.dict kvs) ∧ Tp P w h (.ref a) (.dict kvs) := by
  have R : Reads h (.ref a) (.dict kvs) _ := .dict e1 e2 e3 r1 r2
  obtain ⟨cs, q⟩ := sh_two q1 q2
  obtain ⟨c0, c1, c2⟩ := q (PyData.depthKv kvs) (PyData.depthAll_keys_le kvs) (PyData.depthAll_vals_le kvs)
  have na : a ∉ cs := not_mem_of_deeper R (Nat.lt_succ_self (PyData.depthKv kvs)) c0
  have mem : ReadAtMost h (PyData.depthKv kvs + 1) (a :: cs) := ReadAtMost.cons R (Nat.le_succ (PyData.depthKv kvs)) c0
  simp only [PyData.shown] at z
  have two := ReprEntriesK.of_two es.toList _ _ c1 c2
  refine ⟨⟨a :: cs, mem, ?_⟩, fun b eb A E t Q hg hu hk hQ => ?_⟩
  · simp only [PyData.shown, PyData.shownKv_eq]
    exact ReprK.dict e1 e2 e3 ne na two
  · cases eb
    simp only [PyData.shown, PyData.shownKv_eq] at hQ
    refine call_repr_slot (by omega) ⟨o, hk _ _ e1, e2⟩ F.slot_dict_repr ?_
    exact call_dict_reprK e1 e2 e3 ne na two hg (fun b _ => Clear.nil b) (by simp only [PyData.depth] at hu; show A.units + 1 + _ < _; omega) hk (fun h' u tk k => ⟨_, _, rfl, hQ h' u tk k⟩) (by rw [← PyData.shownKv_eq]; exact z)
theorem sh_cons {u : Value} {us : List Value} {x : PyData} {ds : List PyData} (a : Sh P w h u x) (b : ShA P w h us ds) : ShA P w h (u :: us) (x :: ds) := by
  obtain ⟨c, c1, c2⟩ := a
  obtain ⟨d, d1, d2⟩ := b
  refine ⟨c ++ d, ?_, ?_⟩
  · simp only [PyData.depthAll]
    exact (c1.mono (Nat.le_max_left ..)).append (d1.mono (Nat.le_max_right ..))
  · simp only [PyData.depthAll, PyData.shownAll]
    exact .cons ((c2.more fun _ => List.mem_append_left d).level_le (Nat.le_max_left ..)) (d2.more_le (fun _ => List.mem_append_right c) (Nat.le_max_right ..))
theorem keys_noDict : ∀ {ks : List PyData}, (∀ k ∈ ks, k.hasDict = false) → PyData.hasDictAll ks = false
  | [], _ => rfl
  | k :: ks, h => by simp [PyData.hasDictAll, h k (List.mem_cons_self ..), keys_noDict fun x hx => h x (List.mem_cons_of_mem _ hx)]
theorem sh_keys {ks : List Value} {xs : List PyData} {as : List Addr} (r : ReadsAll h ks xs as) (s : PyData.showableAll xs = true) (n : ∀ k ∈ xs, k.hasDict = false) (z : ∀ t ∈ PyData.shownAll xs, t.length ≤ sizeLine) : ShA P w h ks xs :=
  ReprAllK.of_readsAll r s (fun h => by rw [keys_noDict n] at h; cases h) z
end
theorem keyD_noDict (k : Key) : (keyD k).hasDict = false := by cases k <;> rfl
theorem keyDs_noDict (ks : List Key) : (PyData.tuple (ks.map keyD)).hasDict = false := by
  show PyData.hasDictAll _ = false
  exact keys_noDict fun x hx => by
    obtain ⟨k, _, rfl⟩ := List.mem_map.mp hx
    exact keyD_noDict k
theorem RpK.keys {K : PySem.W.Frag} {H : Hp} : ∀ {kvs : List (Key × V)} {ds : List (PyData × PyData)}, RpK K H kvs ds → ∀ k ∈ ds.map (·.1), k.hasDict = false
  | _, _, .nil, _, h => nomatch h
  | _, _, .cons (k := k0) a b, k, h => by
    rcases List.mem_cons.mp h with rfl | h
    · exact keyD_noDict k0
    · exact RpK.keys b k h
theorem RpTK.keys {K : PySem.W.Frag} {H : Hp} : ∀ {kvs : List (List Key × V)} {ds : List (PyData × PyData)}, RpTK K H kvs ds → ∀ k ∈ ds.map (·.1), k.hasDict = false
  | _, _, .one (k := k0) a, k, h => by
    have h : k = .tuple (k0.map keyD) := by simpa using h
    rw [h]; exact keyDs_noDict k0
  | _, _, .cons (k := k0) a b, k, h => by
    rcases List.mem_cons.mp h with rfl | h
    · exact keyDs_noDict k0
    · exact RpTK.keys b k h
mutual
theorem Rp.shows (I : Inv X pins σ H s) : ∀ {v : V} {d : PyData} {u : Value}, Rp X.K H v d → RelV v u → d.showable = true → d.shown.length ≤ sizeLine → Sh X.prog X.w s.heap u d ∧ Tp X.prog X.w s.heap u d
  | _, _, _, .non, r, _, _ => by
    cases r
    exact ⟨⟨[], (fun _ h => nomatch h), by simp only [PyData.shown]; exact .of_is ReprIs.none _ _ _⟩, fun _ e => nomatch e⟩
  | _, _, _, .bl b, r, _, _ => by
    cases r
    exact ⟨⟨[], (fun _ h => nomatch h), by simp only [PyData.shown]; exact .of_is (ReprIs.bool b) _ _ _⟩, fun _ e => nomatch e⟩
  | _, _, _, .int i, r, hs, _ => by
    obtain ⟨t, rfl⟩ := r
    exact ⟨⟨[], (fun _ h => nomatch h), by simp only [PyData.shown]; exact .of_is (ReprIs.int t (by simpa [PyData.showable] using hs)) _ _ _⟩, fun _ e => nomatch e⟩
  | _, _, _, .str x, r, _, hz => by
    obtain ⟨t, rfl⟩ := r
    exact ⟨⟨[], (fun _ h => nomatch h), by simp only [PyData.shown]; exact .of_is (ReprIs.str x t (by simpa only [PyData.shown] using hz)) _ _ _⟩, fun _ e => nomatch e⟩
  | _, _, _, .lst (ds := ds) h ra, r, hs, hz => by
    cases r
    obtain ⟨its, rv, ⟨o, n, ho, hc, _, hd⟩, _⟩ := I.list (.of h)
    obtain ⟨as, hr⟩ := RpA.reads I ra rv
    exact sh_list ho hc hd hr (RpA.shows I ra rv (by simpa [PyData.showable] using hs) fun t ht => Nat.le_trans (listText_mem_le ht) (by simpa only [PyData.shown] using hz)) hz
  | _, _, _, .tup h ra, r, hs, hz => by
    cases r
    obtain ⟨its, rv, ⟨o, ho, hc, n, hd⟩, _⟩ := I.tuple h
    obtain ⟨as, hr⟩ := RpA.reads I ra rv
    exact sh_tuple ho hc hd hr (RpA.shows I ra rv (by simpa [PyData.showable] using hs) fun t ht => Nat.le_trans (tupleText_mem_le ht) (by simpa only [PyData.shown] using hz)) hz
  | _, _, _, .dK h ra, r, hs, hz => by
    cases r
    obtain ⟨_, hne, vs, rv, o, es, ep, ho, hx, hd, _, hp, _⟩ := dk_rd I.hok h
    obtain ⟨as, h1, h2⟩ := RpK.reads I ra rv hp
    have hz' := hz
    simp only [PyData.shown] at hz'
    obtain ⟨s1, s2⟩ := PyData.showableKv_split _ (by simpa [PyData.showable] using hs)
    exact sh_dict ho hx.1 hd hne h1 h2 (sh_keys h1 s1 ra.keys fun t ht => let ⟨_, hp, hl⟩ := PyData.shownKv_key_le _ t ht; Nat.le_trans hl (Nat.le_trans (dictText_mem_le hp) hz'))
      (RpK.shows I ra rv hp s2 fun t ht => let ⟨_, hp, hl⟩ := PyData.shownKv_val_le _ t ht; Nat.le_trans hl (Nat.le_trans (dictText_mem_le hp) hz')) hz
  | _, _, _, .dT h ra, r, hs, hz => by
    cases r
    obtain ⟨_, hne, xs, rv, o, es, ep, ho, hx, hd, he, hk, _⟩ := dt_rd I.hok h
    obtain ⟨as, h1, h2⟩ := RpTK.reads I ra rv hk
    have hz' := hz
    simp only [PyData.shown] at hz'
    obtain ⟨s1, s2⟩ := PyData.showableKv_split _ (by simpa [PyData.showable] using hs)
    have q1 := RpTK.shows I ra rv hk s2 fun t ht => let ⟨_, hp, hl⟩ := PyData.shownKv_val_le _ t ht; Nat.le_trans hl (Nat.le_trans (dictText_mem_le hp) hz')
    have q0 := sh_keys (P := X.prog) (w := X.w) h1 s1 ra.keys fun t ht => let ⟨_, hp, hl⟩ := PyData.shownKv_key_le _ t ht; Nat.le_trans hl (Nat.le_trans (dictText_mem_le hp) hz')
    rw [← he] at h1 h2 q0 q1
    exact sh_dict ho hx.1 hd hne h1 h2 q0 q1 hz
theorem RpA.shows (I : Inv X pins σ H s) : ∀ {vs : List V} {ds : List PyData} {us : List Value}, RpA X.K H vs ds → Vals vs us → PyData.showableAll ds = true → (∀ t ∈ PyData.shownAll ds, t.length ≤ sizeLine) → ShA X.prog X.w s.heap us ds
  | _, _, _, .nil, r, _, _ => by cases r; exact ⟨[], (fun _ h => nomatch h), by simp only [PyData.shownAll]; exact .nil⟩
  | _, _, _, .cons (d := d) (ds := ds) a b, r, hs, hz => by
    cases r with
    | cons r1 r2 =>
      have hs' : d.showable = true ∧ PyData.showableAll ds = true := by simpa [PyData.showableAll] using hs
      exact sh_cons (Rp.shows I a r1 hs'.1 (hz _ (by simp only [PyData.shownAll]; exact List.mem_cons_self ..))).1 (RpA.shows I b r2 hs'.2 fun t ht => hz t (by simp only [PyData.shownAll]; exact List.mem_cons_of_mem _ ht))
theorem RpK.shows (I : Inv X pins σ H s) : ∀ {kvs : List (Key × V)} {ds : List (PyData × PyData)} {vs : List (Key × Value)} {es : List DictEntry},
    RpK X.K H kvs ds → KV kvs vs → Pairs (mixKind X.prog X.w) es vs → PyData.showableAll (ds.map (·.2)) = true → (∀ t ∈ PyData.shownAll (ds.map (·.2)), t.length ≤ sizeLine) → ShA X.prog X.w s.heap (es.map (·.val)) (ds.map (·.2))
  | _, _, _, _, .nil, r, p, _, _ => by cases r; cases p; exact ⟨[], (fun _ h => nomatch h), by simp only [List.map_nil, PyData.shownAll]; exact .nil⟩
  | _, _, _, _, .cons (d := d) (ds := ds) a b, r, p, hs, hz => by
    cases r with
    | cons r1 r2 =>
      cases p with
      | cons p1 p2 p3 =>
        have hs' : d.showable = true ∧ PyData.showableAll (ds.map (·.2)) = true := by simpa [PyData.showableAll] using hs
        rw [List.map_cons, List.map_cons, p2]
        exact sh_cons (Rp.shows I a r1.2 hs'.1 (hz _ (by simp only [List.map_cons, PyData.shownAll]; exact List.mem_cons_self ..))).1 (RpK.shows I b r2 p3 hs'.2 fun t ht => hz t (by simp only [List.map_cons, PyData.shownAll]; exact List.mem_cons_of_mem _ ht))
theorem RpTK.shows (I : Inv X pins σ H s) : ∀ {kvs : List (List Key × V)} {ds : List (PyData × PyData)} {xs : List (List Key × Addr × Value)},
    RpTK X.K H kvs ds → KT H kvs xs → (∀ x ∈ xs, (tupleKind (mixKind X.prog X.w)).is s.heap x.1 x.2.1) → PyData.showableAll (ds.map (·.2)) = true → (∀ t ∈ PyData.shownAll (ds.map (·.2)), t.length ≤ sizeLine) →
    ShA X.prog X.w s.heap ((xs.map (entryOfKey (tupleKind (mixKind X.prog X.w)))).map (·.val)) (ds.map (·.2))
  | _, _, _, .one (d := d) a, r, hk, hs, hz => by
    cases r with
    | cons r1 r2 =>
      cases r2
      have hs' : d.showable = true := by simpa [PyData.showableAll] using hs
      exact sh_cons (Rp.shows I a r1.2.2 hs' (hz _ (by simp only [List.map_cons, PyData.shownAll]; exact List.mem_cons_self ..))).1 ⟨[], (fun _ h => nomatch h), by simp only [List.map_nil, PyData.shownAll]; exact .nil⟩
  | _, _, _, .cons (d := d) (ds := ds) a b, r, hk, hs, hz => by
    cases r with
    | cons r1 r2 =>
      have hs' : d.showable = true ∧ PyData.showableAll (ds.map (·.2)) = true := by simpa [PyData.showableAll] using hs
      exact sh_cons (Rp.shows I a r1.2.2 hs'.1 (hz _ (by simp only [List.map_cons, PyData.shownAll]; exact List.mem_cons_self ..))).1 (RpTK.shows I b r2 (fun x hx => hk x (List.mem_cons_of_mem _ hx)) hs'.2 fun t ht => hz t (by simp only [List.map_cons, PyData.shownAll]; exact List.mem_cons_of_mem _ ht))
end
end

/-! ### masks, generators, growth -/
/-- H without what stands at Z -/
def mask (H : Hp) (Z : List Addr) : Hp := fun a => if a ∈ Z then none else H a
theorem mask_some {H : Hp} {Z : List Addr} {a : Addr} {o : HO} (h : mask H Z a = some o) : a ∉ Z ∧ H a = some o := by
  unfold mask at h
  by_cases e : a ∈ Z
  · rw [if_pos e] at h; cases h
  · rw [if_neg e] at h; exact ⟨e, h⟩
theorem mask_of {H : Hp} {Z : List Addr} {a : Addr} (h : a ∉ Z) : mask H Z a = H a := if_neg h
theorem mask_le {H : Hp} {Z : List Addr} : Le (mask H Z) H := .of fun _ _ h => (mask_some h).2
theorem mask_sub {H : Hp} {Z Z' : List Addr} (h : ∀ a ∈ Z', a ∈ Z) : Le (mask H Z) (mask H Z') := .of fun a o e => by
  obtain ⟨n, e⟩ := mask_some e
  rw [mask_of fun z => n (h a z)]; exact e

/-- a generator of the law's: three ints, n draws so far -/
def GenAt (H : Hp) (g : Addr) (n : Nat) : Prop := ∃ a m c : Int, H g = some (.lst [.int a, .int m, .int c]) ∧
  0 ≤ a ∧ a < 2 ^ 2000 ∧ 0 ≤ m ∧ m < 2147483647 ∧ 0 ≤ c ∧ c ≤ 1000000 + n
/-- a dict may be locked -/
def Lk : HO → Prop
  | .dK _ => True
  | .dT _ => True
  | _ => False
/-- o stands at a, or stands there locked -/
def Ex (H' : Hp) (a : Addr) (o : HO) : Prop := H' a = some o ∨ (Lk o ∧ ∃ ob, H' a = some (.frz ob o))
theorem Ex.eq {H' : Hp} {a : Addr} {o : HO} (h : Ex H' a o) (n : ¬ Lk o) : H' a = some o := h.resolve_right fun z => n z.1
theorem Ex.rd {H' : Hp} {a : Addr} {o u : HO} (h : Ex H' a o) (r : o = u ∨ ∃ ob, o = .frz ob u) : Rd H' a u := by
  rcases r with rfl | ⟨ob, rfl⟩
  · rcases h with h | ⟨_, ob, h⟩
    · exact .inl h
    · exact .inr ⟨ob, h⟩
  · exact .inr ⟨ob, h.eq fun z => z⟩
/-- behind a step: what stood stands (the generators may turn; a dict outside Z may be locked) -/
structure Gr (G Z : List Addr) (H : Hp) (G' Z' : List Addr) (H' : Hp) : Prop where
  ext : ∀ a o, a ∉ G → H a = some o → Ex H' a o
  exz : ∀ a o, a ∉ G → a ∈ Z → H a = some o → H' a = some o
  dom : ∀ a, H a ≠ none → H' a ≠ none
  new : ∃ L, G' = L ++ G ∧ Z' = L ++ Z ∧ ∀ g ∈ L, H g = none
/-- the state's own side -/
structure Ok (G Z : List Addr) (H : Hp) (n : Nat) : Prop where
  sub : ∀ g ∈ G, g ∈ Z
  dom : ∀ z ∈ Z, H z ≠ none
  gen : ∀ g ∈ G, GenAt H g n
theorem GenAt.mono {H : Hp} {g : Addr} {n n' : Nat} (h : GenAt H g n) (hn : n ≤ n') : GenAt H g n' := by
  obtain ⟨a, m, c, h1, h2, h3, h4, h5, h6, h7⟩ := h
  exact ⟨a, m, c, h1, h2, h3, h4, h5, h6, by omega⟩
section
variable {G Z G' Z' G2 Z2 : List Addr} {H H' H2 : Hp} {n n' : Nat}
theorem Gr.refl : Gr G Z H G Z H := ⟨fun _ _ _ h => .inl h, fun _ _ _ _ h => h, fun _ h => h, [], rfl, rfl, by simp⟩
theorem Gr.lst (g : Gr G Z H G' Z' H') {a : Addr} {xs : List V} (h : a ∉ G) (e : H a = some (.lst xs)) : H' a = some (.lst xs) := (g.ext a _ h e).eq fun z => z
theorem Gr.trans (a : Gr G Z H G' Z' H') (b : Gr G' Z' H' G2 Z2 H2) : Gr G Z H G2 Z2 H2 := by
  obtain ⟨L, rfl, rfl, hL⟩ := a.new
  obtain ⟨L', rfl, rfl, hL'⟩ := b.new
  have nG : ∀ x ob, x ∉ G → H x = some ob → x ∉ L ++ G := fun x ob hx e z => by
    rcases List.mem_append.mp z with z | z
    · rw [hL x z] at e; cases e
    · exact hx z
  refine ⟨fun x ob hx e => ?_, fun x ob hx hz e => b.exz x ob (nG x ob hx e) (List.mem_append_right _ hz) (a.exz x ob hx hz e), fun x e => b.dom x (a.dom x e), L' ++ L, by simp, by simp, fun g hg => ?_⟩
  · rcases a.ext x ob hx e with e' | ⟨k, u, e'⟩
    · exact b.ext x ob (nG x ob hx e) e'
    · exact .inr ⟨k, u, (b.ext x _ (nG x ob hx e) e').eq fun z => z⟩
  · rcases List.mem_append.mp hg with hg | hg
    · cases q : H g with
      | none => rfl
      | some ob => exact absurd (hL' g hg) (a.dom g (by rw [q]; simp))
    · exact hL g hg
/-- the mask of what is not locked: as far as all stands, or stands locked -/
theorem le_ext {Z Z' : List Addr} {H H' : Hp} (h : ∀ a o, a ∉ Z → H a = some o → Ex H' a o) (hZ : ∀ a ∈ Z', a ∉ Z → H a = none) : Le (mask H Z) (mask H' Z') := by
  have key : ∀ a o, mask H Z a = some o → a ∉ Z' ∧ Ex H' a o := fun a o e => by
    obtain ⟨n, e⟩ := mask_some e
    refine ⟨fun z => ?_, h a o n e⟩
    rw [hZ a z n] at e; cases e
  have up : ∀ a o, a ∉ Z' → Ex H' a o → Ex (mask H' Z') a o := fun a o n e => by
    unfold Ex
    rw [mask_of n]
    exact e
  refine ⟨fun a u r => ?_, fun a xs e => ?_⟩
  · rcases r with r | ⟨o, r⟩
    · obtain ⟨n, e⟩ := key a _ r
      exact (up a _ n e).rd (.inl rfl)
    · obtain ⟨n, e⟩ := key a _ r
      exact (up a _ n e).rd (.inr ⟨o, rfl⟩)
  · obtain ⟨n, e⟩ := key a _ e
    rw [mask_of n]
    exact e.eq fun z => z
/-- what is read behind Z is read behind Z' -/
theorem Gr.le (g : Gr G Z H G' Z' H') (hs : ∀ x ∈ G, x ∈ Z) : Le (mask H Z) (mask H' Z') := by
  obtain ⟨L, rfl, rfl, hL⟩ := g.new
  exact le_ext (fun a o n e => g.ext a o (fun z => n (hs a z)) e) fun a ha n => by
    rcases List.mem_append.mp ha with z | z
    · exact hL a z
    · exact absurd z n
/-- a new object -/
theorem Gr.upd {p : Addr} {o : HO} (h : H p = none) : Gr G Z H G Z (upd H p o) :=
  ⟨fun a u _ e => .inl (by rw [upd_ne (ne_of_none e h)]; exact e), fun a u _ _ e => by rw [upd_ne (ne_of_none e h)]; exact e, fun a e => by
    by_cases z : a = p
    · subst z; exact absurd h e
    · rw [upd_ne z]; exact e, [], rfl, rfl, by simp⟩
/-- a dict that is read is locked -/
theorem Gr.lock {d : Addr} {u : HO} {ob : Obj} (k : Lk u) (e : H d = some u) (hd : d ∉ Z) : Gr G Z H G Z (L2.upd H d (.frz ob u)) :=
  ⟨fun a o _ h => by
    by_cases z : a = d
    · subst z
      rw [e] at h
      cases h
      exact .inr ⟨k, ob, upd_same⟩
    · exact .inl (by rw [upd_ne z]; exact h), fun a o _ ha h => by rw [upd_ne fun (z : a = d) => hd (by rw [← z]; exact ha)]; exact h, fun a h => by
    by_cases z : a = d
    · subst z; rw [upd_same]; simp
    · rw [upd_ne z]; exact h, [], rfl, rfl, by simp⟩
theorem Ok.lock {d : Addr} {u : HO} {ob : Obj} (k : Ok G Z H n) (hd : d ∉ Z) : Ok G Z (L2.upd H d (.frz ob u)) n :=
  ⟨k.sub, fun z hz e => k.dom z hz (by rwa [upd_ne fun (q : z = d) => hd (by rw [← q]; exact hz)] at e), fun g hg => by
    obtain ⟨a, m, c, h1, r⟩ := k.gen g hg
    exact ⟨a, m, c, by rw [upd_ne fun (q : g = d) => hd (by rw [← q]; exact k.sub g hg)]; exact h1, r⟩⟩
theorem Ok.upd {p : Addr} {o : HO} (k : Ok G Z H n) (h : H p = none) : Ok G Z (upd H p o) n :=
  ⟨k.sub, fun z hz e => by
    by_cases q : z = p
    · subst q; exact k.dom z hz h
    · rw [upd_ne q] at e; exact k.dom z hz e, fun g hg => by
    obtain ⟨a, m, c, h1, r⟩ := k.gen g hg
    exact ⟨a, m, c, by rw [upd_ne (ne_of_none h1 h)]; exact h1, r⟩⟩
theorem Ok.there' (k : Ok G Z H n) {g : Addr} (hg : g ∈ G) : H g ≠ none := k.dom g (k.sub g hg)
theorem Ok.re (k : Ok G Z H n) : Ok G G H n := ⟨fun _ h => h, fun g hg => k.dom g (k.sub g hg), k.gen⟩
theorem Ok.le (k : Ok G Z H n) (h : n ≤ n') : Ok G Z H n' := ⟨k.sub, k.dom, fun g hg => (k.gen g hg).mono h⟩
end
end TL

set_option Elab.async false
set_option linter.all false
set_option maxRecDepth 100000
/-! TL2: a small syntax of places (slots), its meaning over trees. -/
namespace TL
open PySem

/-- what a name holds -/
inductive T where
  /-- data -/
  | d (x : PyData)
  /-- a generator of the law's -/
  | gen
  /-- the script -/
  | scr (ns : List Int)
/-- an expression's value; fr: it is a new object, nothing else holds it -/
structure R where
  t : T
  fr : Bool := false
/-- an error: its class by number, its value -/
structure Er where
  c : Nat
  x : PyData
/-- names' values by slot; the flag: a list or dict of this name's own -/
abbrev Ev := List (Option (Bool × T))
abbrev QE := R → Nat → Prop
abbrev XE := Er → Nat → Prop
abbrev TSp := List T → Nat → QE → XE → Prop

inductive BOp | add | sub | mul | fdiv | mod | pow
inductive COp | eq | ne | lt | le | gt | ge | is_ | isn | in_ | nin
inductive TyN | int | bool | str | list | tuple | dict
inductive Bi | len | sum | int | max2 | min2 | repr | all | any | sorted | list | tuple | abs | str | dict | max1 | min1
inductive Mt | join | bitlen
inductive SK | seq | seqw | rng1 | rng2 | zip
inductive Tg | nm (i : Nat) | tp (l : List Nat)

mutual
inductive E where
  | c (x : PyData) | v (i : Nat) | w (i : Nat) | g (k : Nat)
  | bin (o : BOp) (a b : E) | neg (a : E) | not (a : E) | and (a b : E) | or (a b : E) | ife (c a b : E)
  | cmp (o : COp) (a b : E) | chain (o p : COp) (a b c : E)
  | lst (l : Es) | tup (l : Es) | dct (kvs : List (L2.Key × PyData)) | gix (i k : Nat)
  | ix (a i : E) | sl (a lo hi : E) | rev (a : E)
  | call (f : Nat) (l : Es) | callk (f : Nat) (l : Es) (pm : List Nat) (ks : Es)
  | isi (a : E) (t : TyN) | isi2 (a : E) (t u : TyN)
  | lrg (a : E) | bi (b : Bi) (l : Es) | mt (m : Mt) (a : E) (l : Es)
  | lc (own : List Nat) (tg : Tg) (k : SK) (src : Es) (cnd elt : E)
  | atm (a : E)
inductive Es where
  | nil | cons (a : E) (l : Es)
end

/-! ### operations on trees -/
def atomD : PyData → Bool
  | .none => true | .bool _ => true | .int _ => true | .str _ => true | _ => false
def atom : T → Bool
  | .d x => atomD x
  | _ => false
def fitD : PyData → Prop
  | .str x => x.length ≤ sizeLine
  | .dict _ => False
  | _ => True
def truD : PyData → Bool
  | .none => false
  | .bool b => b
  | .int i => i != 0
  | .str x => (x.length : Int) != 0
  | .list xs => !xs.isEmpty
  | .tuple xs => !xs.isEmpty
  | .dict kvs => !kvs.isEmpty
/-- a value's truth -/
def truW : T → (Bool → Prop) → Prop
  | .d x, Q => fitD x ∧ Q (truD x)
  | _, _ => False
def mulOk (i j : Int) : Prop := (-(2 ^ 64) < i ∧ i < 2 ^ 64) ∨ (-(2 ^ 64) < j ∧ j < 2 ^ 64) ∨ ∃ a b : Nat, i.natAbs < 2 ^ a ∧ j.natAbs < 2 ^ b ∧ a + b ≤ 134217728
def strRep (x : Str) (k : Nat) : Str := ⟨(List.replicate k x.cps).foldl (· ++ ·) #[]⟩
def binW : BOp → T → T → (R → Prop) → Prop
  | .add, .d (.int i), .d (.int j), Q => Q ⟨.d (.int (i + j)), false⟩
  | .add, .d (.str x), .d (.str y), Q => x.length + y.length ≤ sizeLine ∧ Q ⟨.d (.str (x ++ y)), false⟩
  | .add, .d (.list xs), .d (.list ys), Q => xs.length + ys.length ≤ sizeLine ∧ Q ⟨.d (.list (xs ++ ys)), true⟩
  | .add, .d (.tuple xs), .d (.tuple ys), Q => xs.length + ys.length ≤ sizeLine ∧ Q ⟨.d (.tuple (xs ++ ys)), false⟩
  | .sub, .d (.int i), .d (.int j), Q => Q ⟨.d (.int (i - j)), false⟩
  | .mul, .d (.int i), .d (.int j), Q => mulOk i j ∧ Q ⟨.d (.int (i * j)), false⟩
  | .mul, .d (.str x), .d (.int j), Q => (2 ≤ j ∧ j < 1000000 ∧ x.length ≠ 0 ∧ x.length < 16 ∧ (strRep x j.toNat).length ≤ sizeLine) ∧ Q ⟨.d (.str (strRep x j.toNat)), false⟩
  | .mul, .d (.list xs), .d (.int j), Q => -(2 ^ 63) ≤ j ∧ j < 2 ^ 63 ∧ xs.length * j.toNat ≤ sizeLine ∧ Q ⟨.d (.list (List.replicate j.toNat xs).flatten), true⟩
  | .fdiv, .d (.int i), .d (.int j), Q => j ≠ 0 ∧ j.natAbs.log2 < 9000 ∧ Q ⟨.d (.int (i.fdiv j)), false⟩
  | .mod, .d (.int i), .d (.int j), Q => j ≠ 0 ∧ Q ⟨.d (.int (i.fmod j)), false⟩
  | .pow, .d (.int i), .d (.int j), Q => 0 ≤ j ∧ (Builtin.Int.intBits i : Int) * j ≤ 2 ^ 27 ∧ Q ⟨.d (.int (i ^ j.toNat)), false⟩
  | _, _, _, _ => False
def litIs : PyData → Bool
  | .none => true | .bool _ => true | _ => false
/-- x is lit: None, True, False -/
def isD : PyData → PyData → Bool
  | .none, .none => true
  | .bool a, .bool b => a == b
  | _, _ => false
def eqOk (x y : PyData) : Prop := x.plain = true ∧ y.plain = true ∧ x.depth ≤ 60
def ltOk (x y : PyData) : Prop := PySem.W.alike x y = true ∧ x ≠ .none ∧ x.depth ≤ 60
/-- keys of dicts: whole numbers, texts -/
def keyOk : PyData → Prop
  | .int _ => True
  | .str _ => True
  | _ => False
def keyEq : PyData → PyData → Bool
  | .int a, .int b => decide (a = b)
  | .str a, .str b => decide (a = b)
  | _, _ => false
def kOk (kvs : List (PyData × PyData)) : Prop := ∀ p ∈ kvs, keyOk p.1
def dGet (kvs : List (PyData × PyData)) (k : PyData) : Option PyData := (kvs.find? fun p => keyEq p.1 k).map (·.2)
/-- in its place, or at the end -/
def dPut (kvs : List (PyData × PyData)) (k v : PyData) : List (PyData × PyData) := if (kvs.any fun p => keyEq p.1 k) = true then kvs.map (fun p => if keyEq p.1 k = true then (p.1, v) else p) else kvs ++ [(k, v)]
def inOk (x : PyData) (ys : List PyData) : Prop := x.plain = true ∧ PyData.plainAll ys = true ∧ x.depth ≤ 60
def inW (x : PyData) : PyData → (Bool → Prop) → Prop
  | .list ys, Q => inOk x ys ∧ Q (ys.any fun y => PyData.eqv y x)
  | .tuple ys, Q => inOk x ys ∧ Q (ys.any fun y => PyData.eqv y x)
  | .str y, Q => ∃ z, x = .str z ∧ Q (!(Builtin.Str.occurrences y z 0 y.length 1).isEmpty)
  | .dict kvs, Q => (keyOk x ∧ kOk kvs) ∧ Q (dGet kvs x).isSome
  | _, _ => False
def cmpW : COp → T → T → (Bool → Prop) → Prop
  | .eq, .d x, .d y, Q => eqOk x y ∧ Q (PyData.eqv x y)
  | .ne, .d x, .d y, Q => eqOk x y ∧ Q (!PyData.eqv x y)
  | .lt, .d x, .d y, Q => ltOk x y ∧ Q (PySem.W.dataLt x y)
  | .gt, .d x, .d y, Q => ltOk x y ∧ Q (PySem.W.dataLt y x)
  | .le, .d x, .d y, Q => ltOk x y ∧ Q (!PySem.W.dataLt y x)
  | .ge, .d x, .d y, Q => ltOk x y ∧ Q (!PySem.W.dataLt x y)
  | .is_, .d x, .d y, Q => litIs y = true ∧ Q (isD x y)
  | .isn, .d x, .d y, Q => litIs y = true ∧ Q (!isD x y)
  | .in_, .d x, .d y, Q => inW x y Q
  | .nin, .d x, .d y, Q => inW x y fun b => Q (!b)
  | _, _, _, _ => False
def chr1 (c : Nat) : PyData := .str ⟨#[c]⟩
def ixW : T → T → (T → Prop) → Prop
  | .scr ns, .d (.int i), Q => ∃ x, L2.atI ns i = some x ∧ Q (.d (.int x))
  | .d (.list xs), .d (.int i), Q => ∃ x, L2.atI xs i = some x ∧ Q (.d x)
  | .d (.tuple xs), .d (.int i), Q => ∃ x, L2.atI xs i = some x ∧ Q (.d x)
  | .d (.str z), .d (.int i), Q => z.length ≤ sizeLine ∧ ∃ c, L2.atI z.cps.toList i = some c ∧ Q (.d (chr1 c))
  | .d (.dict kvs), .d k, Q => (keyOk k ∧ kOk kvs) ∧ ∃ y, dGet kvs k = some y ∧ Q (.d y)
  | _, _, _ => False
def cutD (xs : List PyData) (lo hi : Option Int) : List PyData :=
  (xs.drop (HT.sIx xs.length 0 lo)).take (HT.sIx xs.length xs.length hi - HT.sIx xs.length 0 lo)
def isNoB : E → Bool
  | .c .none => true | _ => false
/-- a slice's bound: none, or a number -/
def bnd : Bool → T → Option (Option Int)
  | true, _ => some none
  | false, .d (.int i) => some (some i)
  | _, _ => none
def slW (lo hi : Option Int) : T → (R → Prop) → Prop
  | .scr ns, Q => Q ⟨.d (.list (cutD (ns.map .int) lo hi)), true⟩
  | .d (.list xs), Q => Q ⟨.d (.list (cutD xs lo hi)), true⟩
  | .d (.tuple xs), Q => Q ⟨.d (.tuple (cutD xs lo hi)), false⟩
  | .d (.str z), Q => z.length ≤ sizeLine ∧ Q ⟨.d (.str (L2.cutS z lo hi)), false⟩
  | _, _ => False
def isTy : PyData → TyN → Bool
  | .int _, .int => true | .bool _, .int => true | .bool _, .bool => true | .str _, .str => true
  | .list _, .list => true | .tuple _, .tuple => true | .dict _, .dict => true | _, _ => false
/-- a dict whose keys are whole numbers or texts, or no dict -/
def isiOk : PyData → Prop
  | .dict kvs => kOk kvs
  | _ => True
def showOk (x : PyData) : Prop := x.showable = true ∧ x.shown.length ≤ sizeLine ∧ x.depth ≤ 60
def chars (z : Str) : List PyData := z.cps.toList.map chr1
/-- a list of ints, of bools, of texts -/
def intsOf : List PyData → Option (List Int)
  | [] => some []
  | .int i :: r => (intsOf r).map (i :: ·)
  | _ => none
def strsOf : List PyData → Option (List Str)
  | [] => some []
  | .str i :: r => (strsOf r).map (i :: ·)
  | _ => none
def sortOk (xs : List PyData) : Prop := PySem.W.AllAlike xs ∧ PySem.W.Sortable xs ∧ (∀ x ∈ xs, x.depth ≤ 60) ∧ xs.length ≤ sizeLine
/-- not more than 4300 figures -/
def strOk (i : Int) : Prop := i.natAbs.log2 < 14000
def biW : Bi → List T → (R → Prop) → Prop
  | .len, [.scr xs], Q => Q ⟨.d (.int xs.length), false⟩
  | .len, [.d (.list xs)], Q => Q ⟨.d (.int xs.length), false⟩
  | .len, [.d (.tuple xs)], Q => Q ⟨.d (.int xs.length), false⟩
  | .len, [.d (.str z)], Q => z.length ≤ sizeLine ∧ Q ⟨.d (.int z.length), false⟩
  | .len, [.d (.dict kvs)], Q => kOk kvs ∧ Q ⟨.d (.int kvs.length), false⟩
  | .sum, [.d (.list xs)], Q => ∃ ns, intsOf xs = some ns ∧ Q ⟨.d (.int ns.sum), false⟩
  | .int, [.d (.int i)], Q => Q ⟨.d (.int i), false⟩
  | .max2, [.d (.int i), .d (.int j)], Q => Q ⟨.d (.int (if j > i then j else i)), false⟩
  | .min2, [.d (.int i), .d (.int j)], Q => Q ⟨.d (.int (if j < i then j else i)), false⟩
  | .max1, [.d (.list xs)], Q => ∃ ns, intsOf xs = some ns ∧ ns ≠ [] ∧ ∀ m, m ∈ ns → (∀ a ∈ ns, a ≤ m) → Q ⟨.d (.int m), false⟩
  | .min1, [.d (.list xs)], Q => ∃ ns, intsOf xs = some ns ∧ ns ≠ [] ∧ ∀ m, m ∈ ns → (∀ a ∈ ns, m ≤ a) → Q ⟨.d (.int m), false⟩
  | .abs, [.d (.int i)], Q => Q ⟨.d (.int (if i < 0 then -i else i)), false⟩
  | .repr, [.d x], Q => showOk x ∧ Q ⟨.d (.str x.shown), false⟩
  | .str, [.d (.int i)], Q => strOk i ∧ Q ⟨.d (.str (toString i)), false⟩
  | .all, [.d (.list xs)], Q => (∀ x ∈ xs, ∃ b, x = .bool b) ∧ Q ⟨.d (.bool (xs.all truD)), false⟩
  | .any, [.d (.list xs)], Q => (∀ x ∈ xs, ∃ b, x = .bool b) ∧ Q ⟨.d (.bool (xs.any truD)), false⟩
  | .sorted, [.d (.list xs)], Q => sortOk xs ∧ Q ⟨.d (.list (xs.mergeSort (PySem.W.dataLe false id))), true⟩
  | .list, [.d (.list xs)], Q => Q ⟨.d (.list xs), true⟩
  | .list, [.d (.tuple xs)], Q => Q ⟨.d (.list xs), true⟩
  | .list, [.d (.str z)], Q => z.length ≤ sizeLine ∧ Q ⟨.d (.list (chars z)), true⟩
  | .list, [.d (.dict kvs)], Q => kOk kvs ∧ Q ⟨.d (.list (kvs.map (·.1))), true⟩
  | .dict, [.d (.dict kvs)], Q => kOk kvs ∧ Q ⟨.d (.dict kvs), true⟩
  | .tuple, [.d (.list xs)], Q => Q ⟨.d (.tuple xs), false⟩
  | .tuple, [.d (.tuple xs)], Q => Q ⟨.d (.tuple xs), false⟩
  | _, _, _ => False
def mtW : Mt → T → List T → (R → Prop) → Prop
  | .join, .d (.str a), [.d (.list xs)], Q => ∃ ys, strsOf xs = some ys ∧ (ys.map (·.length)).sum + ys.length * a.length ≤ 16777216 ∧ Q ⟨.d (.str (Txt.join a ys)), false⟩
  | .bitlen, .d (.int i), [], Q => Q ⟨.d (.int (Builtin.Int.intBits i)), false⟩
  | _, _, _, _ => False
/-- what a method is asked of -/
def rcv : Mt → T → Prop
  | .join, .d (.str _) => True
  | .bitlen, .d (.int _) => True
  | _, _ => False
/-- what a loop walks: the items -/
def srcW : SK → List T → (List PyData → Prop) → Prop
  | .seq, [.d (.list xs)], Q => Q xs
  | .seq, [.d (.tuple xs)], Q => Q xs
  | .seq, [.d (.str z)], Q => Q (chars z)
  | .seq, [.d (.dict kvs)], Q => kOk kvs ∧ Q (kvs.map (·.1))
  | .seqw, [.d (.list xs)], Q => Q xs
  | .seqw, [.d (.tuple xs)], Q => Q xs
  | .seqw, [.d (.str z)], Q => Q (chars z)
  | .rng1, [.d (.int j)], Q => -(2 ^ 62) ≤ j ∧ j < 2 ^ 62 ∧ Q ((List.range j.toNat).map fun (m : Nat) => .int m)
  | .rng2, [.d (.int i), .d (.int j)], Q => (-(2 ^ 62) ≤ i ∧ i < 2 ^ 62 ∧ -(2 ^ 62) ≤ j ∧ j < 2 ^ 62) ∧ Q ((List.range (j - i).toNat).map fun (m : Nat) => .int (i + m))
  | .zip, [.d (.list xs), .d (.list ys)], Q => Q (List.zipWith (fun x y => .tuple [x, y]) xs ys)
  | .zip, [.d (.tuple xs), .d (.tuple ys)], Q => Q (List.zipWith (fun x y => .tuple [x, y]) xs ys)
  | _, _, _ => False

/-- what stands in a generator's place k -/
def genB (k n : Nat) (z : Int) : Prop := match k with
  | 0 => 0 ≤ z ∧ z < 2 ^ 2000
  | 1 => 0 ≤ z ∧ z < 2147483647
  | _ => 0 ≤ z ∧ z ≤ 1000000 + n
/-! ### names -/
def stA (b : Bool) (t : T) (i : Nat) (ρ : Ev) : Ev := ρ.set i (some (b, t))
def setAll : List Nat → List PyData → Ev → Option Ev
  | [], [], ρ => some ρ
  | i :: is, x :: xs, ρ => setAll is xs (stA false (.d x) i ρ)
  | _, _, _ => none
def asgD : Tg → PyData → Ev → Option Ev
  | .nm i, x, ρ => some (stA false (.d x) i ρ)
  | .tp l, .tuple xs, ρ => setAll l xs ρ
  | .tp l, .list xs, ρ => setAll l xs ρ
  | _, _, _ => none
def wipeE (ρ : Ev) : List Nat → Ev
  | [] => ρ
  | v :: vs => (wipeE ρ vs).set v none
def unown1 : Option (Bool × T) → Option (Bool × T)
  | some (true, .d (.dict _)) => none
  | some (_, t) => some (false, t)
  | none => none
/-- nothing is one's own; dicts of one's own are away -/
def unown (ρ : Ev) : Ev := ρ.map unown1

/-- a list comprehension's turns -/
def lcGo (tg : Tg) (ρ : Ev) (cnd : Ev → Nat → (Bool → Nat → Prop) → Prop) (elt : Ev → Nat → QE → Prop) (Q : List PyData → Nat → Prop) : List PyData → List PyData → Nat → Prop
  | [], acc, n => Q acc n
  | x :: xs, acc, n => ∃ ρ', asgD tg x ρ = some ρ' ∧ cnd ρ' n fun b n => if b = true then elt ρ' n fun r n => ∃ y, r.t = .d y ∧ acc.length < sizeLine ∧ lcGo tg ρ cnd elt Q xs (acc ++ [y]) n else lcGo tg ρ cnd elt Q xs acc n

/-- all values are data -/
def datas : List T → Option (List PyData)
  | [] => some []
  | .d x :: r => (datas r).map (x :: ·)
  | _ => none

mutual
/-- THE MEANING: what must hold so that the expression gives a value with Q -/
def wpE (Φ : Nat → TSp) (C : Nat → PyData) (X : XE) : E → Ev → Nat → QE → Prop
  | .c x, _, n, Q => Q ⟨.d x, false⟩ n
  | .v i, ρ, n, Q => ∃ t, ρ[i]? = some (some (false, t)) ∧ Q ⟨t, false⟩ n
  | .w i, ρ, n, Q => ∃ b t, ρ[i]? = some (some (b, t)) ∧ Q ⟨t, false⟩ n
  | .g k, _, n, Q => Q ⟨.d (C k), false⟩ n
  | .bin o a b, ρ, n, Q => wpE Φ C X a ρ n fun x n => wpE Φ C X b ρ n fun y n => binW o x.t y.t fun r => Q r n
  | .neg a, ρ, n, Q => wpE Φ C X a ρ n fun x n => ∃ i, x.t = .d (.int i) ∧ Q ⟨.d (.int (-i)), false⟩ n
  | .not a, ρ, n, Q => wpE Φ C X a ρ n fun x n => truW x.t fun b => Q ⟨.d (.bool !b), false⟩ n
  | .and a b, ρ, n, Q => wpE Φ C X a ρ n fun x n => truW x.t fun k => if k = true then wpE Φ C X b ρ n Q else Q ⟨x.t, false⟩ n
  | .or a b, ρ, n, Q => wpE Φ C X a ρ n fun x n => truW x.t fun k => if k = true then Q ⟨x.t, false⟩ n else wpE Φ C X b ρ n Q
  | .ife c a b, ρ, n, Q => wpE Φ C X c ρ n fun x n => truW x.t fun k => if k = true then wpE Φ C X a ρ n Q else wpE Φ C X b ρ n Q
  | .cmp o a b, ρ, n, Q => wpE Φ C X a ρ n fun x n => wpE Φ C X b ρ n fun y n => cmpW o x.t y.t fun k => Q ⟨.d (.bool k), false⟩ n
  | .chain o p a b c, ρ, n, Q => wpE Φ C X a ρ n fun x n => wpE Φ C X b ρ n fun y n => cmpW o x.t y.t fun k =>
      if k = true then wpE Φ C X c ρ n fun z n => cmpW p y.t z.t fun k => Q ⟨.d (.bool k), false⟩ n else Q ⟨.d (.bool false), false⟩ n
  | .lst l, ρ, n, Q => wpEs Φ C X l ρ n fun ts n => ∃ ds, datas ts = some ds ∧ ds.length ≤ sizeLine ∧ Q ⟨.d (.list ds), true⟩ n
  | .tup l, ρ, n, Q => wpEs Φ C X l ρ n fun ts n => ∃ ds, datas ts = some ds ∧ ds.length ≤ sizeLine ∧ Q ⟨.d (.tuple ds), false⟩ n
  | .dct kvs, ρ, n, Q => Q ⟨.d (.dict (kvs.map fun kv => (keyD kv.1, kv.2))), true⟩ n
  | .gix i k, ρ, n, Q => ∃ b, ρ[i]? = some (some (b, .gen)) ∧ ∀ z, genB k n z → Q ⟨.d (.int z), false⟩ n
  | .ix a i, ρ, n, Q => wpE Φ C X a ρ n fun x n => wpE Φ C X i ρ n fun y n => ixW x.t y.t fun t => Q ⟨t, false⟩ n
  | .sl a lo hi, ρ, n, Q => wpE Φ C X a ρ n fun x n => wpE Φ C X lo ρ n fun l n => ∃ i, bnd (isNoB lo) l.t = some i ∧ wpE Φ C X hi ρ n fun h n =>
      ∃ j, bnd (isNoB hi) h.t = some j ∧ slW i j x.t fun r => Q r n
  | .rev a, ρ, n, Q => wpE Φ C X a ρ n fun x n => ∃ xs, x.t = .d (.list xs) ∧ Q ⟨.d (.list xs.reverse), true⟩ n
  | .call f l, ρ, n, Q => wpEs Φ C X l ρ n fun ts n => Φ f ts n Q X
  | .callk f l pm ks, ρ, n, Q => wpEs Φ C X l ρ n fun ts n => wpEs Φ C X ks ρ n fun us n => ∃ ws, pm.mapM (fun j => (ts ++ us)[j]?) = some ws ∧ Φ f ws n Q X
  | .isi a t, ρ, n, Q => wpE Φ C X a ρ n fun x n => ∃ y, x.t = .d y ∧ Q ⟨.d (.bool (isTy y t)), false⟩ n
  | .isi2 a t u, ρ, n, Q => wpE Φ C X a ρ n fun x n => ∃ y, x.t = .d y ∧ isiOk y ∧ Q ⟨.d (.bool (isTy y t || isTy y u)), false⟩ n
  | .lrg a, ρ, n, Q => wpE Φ C X a ρ n fun x n => ∃ j, x.t = .d (.int j) ∧ (-(2 ^ 62) ≤ j ∧ j ≤ 16777216) ∧ Q ⟨.d (.list ((List.range j.toNat).map fun (m : Nat) => .int m)), true⟩ n
  | .bi b l, ρ, n, Q => wpEs Φ C X l ρ n fun ts n => biW b ts fun r => Q r n
  | .mt m a l, ρ, n, Q => wpE Φ C X a ρ n fun x n => rcv m x.t ∧ wpEs Φ C X l ρ n fun ts n => mtW m x.t ts fun r => Q r n
  | .lc own tg k src cnd elt, ρ, n, Q => wpEs Φ C X src ρ n fun ts n => srcW k ts fun ds =>
      lcGo tg (wipeE ρ own) (fun ρ n Q => wpE Φ C (fun _ _ => False) cnd ρ n fun x n => truW x.t fun b => Q b n) (fun ρ n Q => wpE Φ C (fun _ _ => False) elt ρ n Q)
        (fun acc n => Q ⟨.d (.list acc), true⟩ n) ds [] n
  | .atm a, ρ, n, Q => wpE Φ C (fun er n => atomD er.x = true ∧ X er n) a (unown ρ) n fun r n => atom r.t = true ∧ Q ⟨r.t, false⟩ n
def wpEs (Φ : Nat → TSp) (C : Nat → PyData) (X : XE) : Es → Ev → Nat → (List T → Nat → Prop) → Prop
  | .nil, _, n, Q => Q [] n
  | .cons a l, ρ, n, Q => wpE Φ C X a ρ n fun x n => wpEs Φ C X l ρ n fun ts n => Q (x.t :: ts) n
end

/-- values one by one, each with its sign -/
def wpEf (Φ : Nat → TSp) (C : Nat → PyData) (X : XE) : Es → Ev → Nat → (List R → Nat → Prop) → Prop
  | .nil, _, n, Q => Q [] n
  | .cons a l, ρ, n, Q => wpE Φ C X a ρ n fun x n => wpEf Φ C X l ρ n fun rs n => Q (x :: rs) n
/-- names get values -/
def slot (r : R) : Option (Bool × T) := some (r.fr, r.t)
def setR : List Nat → List R → Ev → Ev
  | i :: l, r :: rs, ρ => setR l rs (ρ.set i (slot r))
  | _, _, ρ => ρ

/-! ### monotone in what is wanted -/
theorem truW_mono {t : T} {Q Q' : Bool → Prop} (h : truW t Q) (q : ∀ b, Q b → Q' b) : truW t Q' := by
  cases t with
  | d x => exact ⟨h.1, q _ h.2⟩
  | gen => exact h
  | scr _ => exact h
theorem binW_mono {o : BOp} {x y : T} {Q Q' : R → Prop} (h : binW o x y Q) (q : ∀ b, Q b → Q' b) : binW o x y Q' := by
  unfold binW at h ⊢
  split at h <;> first
    | exact h.elim
    | exact q _ h
    | exact ⟨h.1, q _ h.2⟩
    | exact ⟨h.1, h.2.1, q _ h.2.2⟩
    | exact ⟨h.1, h.2.1, h.2.2.1, q _ h.2.2.2⟩
theorem inW_mono {x y : PyData} {Q Q' : Bool → Prop} (h : inW x y Q) (q : ∀ b, Q b → Q' b) : inW x y Q' := by
  cases y <;> first
    | exact h.elim
    | exact ⟨h.1, q _ h.2⟩
    | (obtain ⟨z, e, h⟩ := h; exact ⟨z, e, q _ h⟩)
theorem cmpW_mono {o : COp} {x y : T} {Q Q' : Bool → Prop} (h : cmpW o x y Q) (q : ∀ b, Q b → Q' b) : cmpW o x y Q' := by
  unfold cmpW at h ⊢
  split at h <;> first
    | exact h.elim
    | exact ⟨h.1, q _ h.2⟩
    | exact inW_mono h fun b => q _
theorem ixW_mono {x y : T} {Q Q' : T → Prop} (h : ixW x y Q) (q : ∀ b, Q b → Q' b) : ixW x y Q' := by
  unfold ixW at h ⊢
  split at h <;> first
    | exact h.elim
    | (obtain ⟨a, b, c⟩ := h; exact ⟨a, b, q _ c⟩)
    | (obtain ⟨l, a, b, c⟩ := h; exact ⟨l, a, b, q _ c⟩)
theorem slW_mono {lo hi : Option Int} {x : T} {Q Q' : R → Prop} (h : slW lo hi x Q) (q : ∀ b, Q b → Q' b) : slW lo hi x Q' := by
  unfold slW at h ⊢
  split at h <;> first
    | exact h.elim
    | exact ⟨h.1, q _ h.2⟩
    | exact q _ h
theorem biW_mono {b : Bi} {ts : List T} {Q Q' : R → Prop} (h : biW b ts Q) (q : ∀ b, Q b → Q' b) : biW b ts Q' := by
  unfold biW at h ⊢
  split at h <;> first
    | exact h.elim
    | exact q _ h
    | exact ⟨h.1, q _ h.2⟩
    | (obtain ⟨a, b, c, d⟩ := h; exact ⟨a, b, c, fun m h1 h2 => q _ (d m h1 h2)⟩)
    | (obtain ⟨a, b, c⟩ := h; exact ⟨a, b, q _ c⟩)
theorem mtW_mono {m : Mt} {x : T} {ts : List T} {Q Q' : R → Prop} (h : mtW m x ts Q) (q : ∀ b, Q b → Q' b) : mtW m x ts Q' := by
  unfold mtW at h ⊢
  split at h <;> first
    | exact h.elim
    | exact q _ h
    | exact ⟨h.1, q _ h.2⟩
    | (obtain ⟨a, b, c, d⟩ := h; exact ⟨a, b, c, q _ d⟩)
theorem srcW_mono {k : SK} {ts : List T} {Q Q' : List PyData → Prop} (h : srcW k ts Q) (q : ∀ b, Q b → Q' b) : srcW k ts Q' := by
  unfold srcW at h ⊢
  split at h <;> first
    | exact h.elim
    | exact q _ h
    | exact ⟨h.1, q _ h.2⟩
    | exact ⟨h.1, h.2.1, q _ h.2.2⟩
theorem lcGo_mono {tg : Tg} {ρ : Ev} {cnd : Ev → Nat → (Bool → Nat → Prop) → Prop} {elt : Ev → Nat → QE → Prop} {Q Q' : List PyData → Nat → Prop}
    (hc : ∀ ρ n (P P' : Bool → Nat → Prop), cnd ρ n P → (∀ b n, P b n → P' b n) → cnd ρ n P') (he : ∀ ρ n (P P' : QE), elt ρ n P → (∀ r n, P r n → P' r n) → elt ρ n P') (q : ∀ l n, Q l n → Q' l n) :
    ∀ (ds acc : List PyData) (n : Nat), lcGo tg ρ cnd elt Q ds acc n → lcGo tg ρ cnd elt Q' ds acc n
  | [], acc, n, h => q _ _ h
  | d :: ds, acc, n, ⟨ρ', e, h⟩ => ⟨ρ', e, hc _ _ _ _ h fun b n h => by
      cases b with
      | true => exact he _ _ _ _ h fun r n ⟨y, e, l, h⟩ => ⟨y, e, l, lcGo_mono hc he q ds _ n h⟩
      | false => exact lcGo_mono hc he q ds acc n h⟩
def MonoPh (Φ : Nat → TSp) : Prop := ∀ f ts n (Q Q' : QE) (X X' : XE), Φ f ts n Q X → (∀ r n, Q r n → Q' r n) → (∀ e n, X e n → X' e n) → Φ f ts n Q' X'
mutual
theorem wpE_mono {Φ : Nat → TSp} {C : Nat → PyData} (M : MonoPh Φ) : ∀ {X : XE} (e : E) {ρ : Ev} {n : Nat} {Q Q' : QE}, wpE Φ C X e ρ n Q → (∀ r n, Q r n → Q' r n) → wpE Φ C X e ρ n Q'
  | X, .c x, ρ, n, Q, Q', h, q => q _ _ h
  | X, .v i, ρ, n, Q, Q', ⟨t, e, h⟩, q => ⟨t, e, q _ _ h⟩
  | X, .w i, ρ, n, Q, Q', ⟨b, t, e, h⟩, q => ⟨b, t, e, q _ _ h⟩
  | X, .g k, ρ, n, Q, Q', h, q => q _ _ h
  | X, .bin o a b, ρ, n, Q, Q', h, q => wpE_mono M a h fun _ _ h => wpE_mono M b h fun _ _ h => binW_mono h fun _ => q _ _
  | X, .neg a, ρ, n, Q, Q', h, q => wpE_mono M a h fun _ _ ⟨i, e, h⟩ => ⟨i, e, q _ _ h⟩
  | X, .not a, ρ, n, Q, Q', h, q => wpE_mono M a h fun _ _ h => truW_mono h fun _ => q _ _
  | X, .and a b, ρ, n, Q, Q', h, q => wpE_mono M a h fun _ _ h => truW_mono h fun k h => by
      cases k with
      | true => exact wpE_mono M b h q
      | false => exact q _ _ h
  | X, .or a b, ρ, n, Q, Q', h, q => wpE_mono M a h fun _ _ h => truW_mono h fun k h => by
      cases k with
      | true => exact q _ _ h
      | false => exact wpE_mono M b h q
  | X, .ife c a b, ρ, n, Q, Q', h, q => wpE_mono M c h fun _ _ h => truW_mono h fun k h => by
      cases k with
      | true => exact wpE_mono M a h q
      | false => exact wpE_mono M b h q
  | X, .cmp o a b, ρ, n, Q, Q', h, q => wpE_mono M a h fun _ _ h => wpE_mono M b h fun _ _ h => cmpW_mono h fun _ => q _ _
  | X, .chain o p a b c, ρ, n, Q, Q', h, q => wpE_mono M a h fun _ _ h => wpE_mono M b h fun _ _ h => cmpW_mono h fun k h => by
      cases k with
      | true => exact wpE_mono M c h fun _ _ h => cmpW_mono h fun _ => q _ _
      | false => exact q _ _ h
  | X, .lst l, ρ, n, Q, Q', h, q => wpEs_mono M l h fun _ _ ⟨ds, e, z, h⟩ => ⟨ds, e, z, q _ _ h⟩
  | X, .tup l, ρ, n, Q, Q', h, q => wpEs_mono M l h fun _ _ ⟨ds, e, z, h⟩ => ⟨ds, e, z, q _ _ h⟩
  | X, .dct _, ρ, n, Q, Q', h, q => q _ _ h
  | X, .gix i k, ρ, n, Q, Q', ⟨b, e, h⟩, q => ⟨b, e, fun z hz => q _ _ (h z hz)⟩
  | X, .ix a i, ρ, n, Q, Q', h, q => wpE_mono M a h fun _ _ h => wpE_mono M i h fun _ _ h => ixW_mono h fun _ => q _ _
  | X, .sl a lo hi, ρ, n, Q, Q', h, q => wpE_mono M a h fun _ _ h => wpE_mono M lo h fun _ _ ⟨i, e, h⟩ => ⟨i, e, wpE_mono M hi h fun _ _ ⟨j, e', h⟩ => ⟨j, e', slW_mono h fun _ => q _ _⟩⟩
  | X, .rev a, ρ, n, Q, Q', h, q => wpE_mono M a h fun _ _ ⟨xs, e, h⟩ => ⟨xs, e, q _ _ h⟩
  | X, .call f l, ρ, n, Q, Q', h, q => wpEs_mono M l h fun _ _ h => M _ _ _ _ _ _ _ h q fun _ _ h => h
  | X, .callk f l pm ks, ρ, n, Q, Q', h, q => wpEs_mono M l h fun _ _ h => wpEs_mono M ks h fun _ _ ⟨ws, e, h⟩ => ⟨ws, e, M _ _ _ _ _ _ _ h q fun _ _ h => h⟩
  | X, .isi a t, ρ, n, Q, Q', h, q => wpE_mono M a h fun _ _ ⟨y, e, h⟩ => ⟨y, e, q _ _ h⟩
  | X, .isi2 a t u, ρ, n, Q, Q', h, q => wpE_mono M a h fun _ _ ⟨y, e, o, h⟩ => ⟨y, e, o, q _ _ h⟩
  | X, .lrg a, ρ, n, Q, Q', h, q => wpE_mono M a h fun _ _ ⟨j, e, o, h⟩ => ⟨j, e, o, q _ _ h⟩
  | X, .bi b l, ρ, n, Q, Q', h, q => wpEs_mono M l h fun _ _ h => biW_mono h fun _ => q _ _
  | X, .mt m a l, ρ, n, Q, Q', h, q => wpE_mono M a h fun _ _ h => ⟨h.1, wpEs_mono M l h.2 fun _ _ h => mtW_mono h fun _ => q _ _⟩
  | X, .lc own tg k src cnd elt, ρ, n, Q, Q', h, q => by
      unfold wpE at h ⊢
      refine wpEs_mono M src h fun _ _ h => srcW_mono h fun ds h => ?_
      refine lcGo_mono (Q := fun acc n => Q ⟨.d (.list acc), true⟩ n) (Q' := fun acc n => Q' ⟨.d (.list acc), true⟩ n)
        (cnd := fun ρ n Q => wpE Φ C (fun _ _ => False) cnd ρ n fun x n => truW x.t fun b => Q b n) (elt := fun ρ n Q => wpE Φ C (fun _ _ => False) elt ρ n Q)
        (fun ρ' n' P P' h p => ?_) (fun ρ' n' P P' h p => wpE_mono M elt h p) (fun l n h => q _ _ h) ds [] _ h
      exact wpE_mono M cnd h fun _ _ h => truW_mono h fun _ => p _ _
  | X, .atm a, ρ, n, Q, Q', h, q => wpE_mono M a h fun _ _ ⟨e, h⟩ => ⟨e, q _ _ h⟩
theorem wpEs_mono {Φ : Nat → TSp} {C : Nat → PyData} (M : MonoPh Φ) : ∀ {X : XE} (e : Es) {ρ : Ev} {n : Nat} {Q Q' : List T → Nat → Prop}, wpEs Φ C X e ρ n Q → (∀ r n, Q r n → Q' r n) → wpEs Φ C X e ρ n Q'
  | X, .nil, ρ, n, Q, Q', h, q => q _ _ h
  | X, .cons a l, ρ, n, Q, Q', h, q => wpE_mono M a h fun _ _ h => wpEs_mono M l h fun _ _ => q _ _
end
theorem wpEf_mono {Φ : Nat → TSp} {C : Nat → PyData} (M : MonoPh Φ) : ∀ {X : XE} (e : Es) {ρ : Ev} {n : Nat} {Q Q' : List R → Nat → Prop}, wpEf Φ C X e ρ n Q → (∀ r n, Q r n → Q' r n) → wpEf Φ C X e ρ n Q'
  | X, .nil, ρ, n, Q, Q', h, q => q _ _ h
  | X, .cons a l, ρ, n, Q, Q', h, q => wpE_mono M a h fun _ _ h => wpEf_mono M l h fun _ _ => q _ _
end TL

set_option Elab.async false
set_option linter.all false
set_option maxRecDepth 100000
/-! TL3: what a state is to be, what an expression's reading is. -/
namespace TL
open PySem PySem.Spec PyProof.Rows L2

theorem PE.imp {X : Cx} {e : Expr} {t t' : TE} (h : PE X e t) (q : ∀ σ H Q, t' σ H Q → t σ H Q) : PE X e t' :=
  ⟨fun pins s σ H Q I hw => h.run pins s σ H Q I (q σ H Q hw)⟩
theorem PT.imp {X : Cx} {e : Expr} {t t' : TT} (h : PT X e t) (q : ∀ σ H Q, t' σ H Q → t σ H Q) : PT X e t' :=
  ⟨fun pins s σ H Q I hw => h.run pins s σ H Q I (q σ H Q hw)⟩
theorem PI.imp {X : Cx} {tg e : Expr} {t t' : TI} (h : PI X tg e t) (q : ∀ σ H Q, t' σ H Q → t σ H Q) : PI X tg e t' :=
  ⟨fun pins s σ H Q I hw => h.run pins s σ H Q I (q σ H Q hw)⟩
theorem PI.or {X : Cx} {tg e : Expr} {t t' : TI} (h : PI X tg e t) (h' : PI X tg e t') : PI X tg e (fun σ H R => t σ H R ∨ t' σ H R) :=
  ⟨fun pins s σ H Q I hw => hw.elim (h.run pins s σ H Q I) (h'.run pins s σ H Q I)⟩
theorem PS.imp {X : Cx} {e : Stmt} {t t' : TS} (h : PS X e t) (q : ∀ D σ H, t' D σ H → t D σ H) : PS X e t' :=
  ⟨fun pins s σ H Q I hw => h.run pins s σ H Q I (q Q σ H hw)⟩
theorem PA.imp {X : Cx} {e : List Expr} {t t' : TA} (h : PA X e t) (q : ∀ σ H Q, t' σ H Q → t σ H Q) : PA X e t' :=
  ⟨fun pos pins s σ H Q I hw => h.run pos pins s σ H Q I (q σ H Q hw)⟩

theorem PK.imp {X : Cx} {e : List Keyword} {t t' : TA} (h : PK X e t) (q : ∀ σ H Q, t' σ H Q → t σ H Q) : PK X e t' :=
  ⟨fun pos pins s σ H Q I hw => h.run pos pins s σ H Q I (q σ H Q hw)⟩
/-- the text's own tables: what defs mean, what the module's constants are, their names; cn: the classes of errors; bl: built-ins that nothing hides -/
structure TCx where
  Φ : Nat → TSp
  C : Nat → PyData
  nm : Nat → Str
  hf : Nat → Bool
  ar : Nat → Nat
  gm : Nat → Str
  hc : Nat → Bool
  cn : Nat → Str
  bl : List Str
  kw : Nat → List Nat → Nat → List Str → Bool

/-! ### values -/
/-- a list that is read, never written -/
def SqF (K : PySem.W.Frag) (H : Hp) (a : Addr) (xs : List V) : Prop :=
  (∃ o, H a = some (.frz o (.lst xs))) ∨ ∃ (o : Obj) (its : Array Value) (n : Nat), K.lookup a = some o ∧ o.cls = .type "list" ∧ o.dict = none ∧ o.data = .seq its n ∧ its.size ≤ sizeLine ∧ Vals xs its.toList
theorem SqF.seq {K : PySem.W.Frag} {H : Hp} {a : Addr} {xs : List V} (h : SqF K H a xs) : SqL K H a xs := by
  rcases h with h | h
  · exact .inl (.inr h)
  · exact .inr h
def RpT (K : PySem.W.Frag) (H : Hp) (G Z : List Addr) (v : V) : T → Prop
  | .d x => Rp K (mask H Z) v x
  | .gen => ∃ g, g ∈ G ∧ v = .ref g
  | .scr ns => ∃ a, v = .ref a ∧ SqF K H a (ns.map V.int)
/-- a list or dict of one's own: the object may stand in Z, its items don't -/
def OwnAt (K : PySem.W.Frag) (H : Hp) (G Z : List Addr) (v : V) : PyData → Prop
  | .list ds => ∃ p vs, v = .ref p ∧ p ∉ G ∧ H p = some (.lst vs) ∧ RpA K (mask H Z) vs ds
  | .dict ds => ∃ p, v = .ref p ∧ (p ∉ G ∧ p ∈ Z) ∧ ((∃ kvs, H p = some (.dK kvs) ∧ RpK K (mask H Z) kvs ds) ∨ ∃ kvs, H p = some (.dT kvs) ∧ RpTK K (mask H Z) kvs ds)
  | _ => False
def OwnT (K : PySem.W.Frag) (H : Hp) (G Z : List Addr) (v : V) : T → Prop
  | .d x => OwnAt K H G Z v x
  | _ => False
def RW (K : PySem.W.Frag) (H : Hp) (G Z : List Addr) (v : V) (t : T) : Prop := RpT K H G Z v t ∨ OwnT K H G Z v t
def RV (K : PySem.W.Frag) (s : Bool) (H : Hp) (G Z : List Addr) (v : V) (t : T) : Prop := match s with
  | true => RpT K H G Z v t
  | false => RW K H G Z v t
/-- a new object of one's own -/
def Fresh (K : PySem.W.Frag) (H₀ H : Hp) (Z : List Addr) (v : V) : T → Prop
  | .d (.list ds) => ∃ p vs, v = .ref p ∧ H₀ p = none ∧ H p = some (.lst vs) ∧ RpA K (mask H (p :: Z)) vs ds
  | .d (.dict ds) => ∃ p, v = .ref p ∧ H₀ p = none ∧ ((∃ kvs, H p = some (.dK kvs) ∧ RpK K (mask H (p :: Z)) kvs ds) ∨ ∃ kvs, H p = some (.dT kvs) ∧ RpTK K (mask H (p :: Z)) kvs ds)
  | _ => False
def EnvR (K : PySem.W.Frag) (H : Hp) (G Z : List Addr) (σ : L2.St) (ρ : Ev) : Prop :=
  ∀ (i : Nat) (b : Bool) (t : T), ρ[i]? = some (some (b, t)) → ∃ v : V, σ[i]? = some (some v) ∧ (b = false → RpT K H G Z v t) ∧ (b = true → OwnT K H G Z v t)

section
variable {K : PySem.W.Frag} {G Z G' Z' : List Addr} {H H' : Hp} {n n' : Nat} {v : V} {t : T}
theorem SqF.mono {a : Addr} {xs : List V} (g : Gr G Z H G' Z' H') (o : Ok G Z H n) (h : SqF K H a xs) : SqF K H' a xs := by
  rcases h with ⟨ob, h⟩ | h
  · refine .inl ⟨ob, (g.ext a _ (fun z => ?_) h).eq fun z => z⟩
    obtain ⟨_, _, _, e, _⟩ := o.gen a z
    rw [h] at e; cases e
  · exact .inr h
theorem RpT.mono (g : Gr G Z H G' Z' H') (o : Ok G Z H n) (h : RpT K H G Z v t) : RpT K H' G' Z' v t := by
  cases t with
  | d x => exact Rp.le (g.le o.sub) h
  | gen =>
    obtain ⟨L, rfl, _, _⟩ := g.new
    obtain ⟨a, ha, e⟩ := h
    exact ⟨a, List.mem_append_right _ ha, e⟩
  | scr ns =>
    obtain ⟨a, e, h⟩ := h
    exact ⟨a, e, h.mono g o⟩
theorem notG (g : Gr G Z H G' Z' H') {p : Addr} {o : HO} (h : H p = some o) (hp : p ∉ G) : p ∉ G' := by
  obtain ⟨L, rfl, _, hL⟩ := g.new
  intro z
  rcases List.mem_append.mp z with z | z
  · rw [hL p z] at h; cases h
  · exact hp z
theorem _root_.TL.Gr.inZ (g : Gr G Z H G' Z' H') {p : Addr} (h : p ∈ Z) : p ∈ Z' := by
  obtain ⟨L, _, rfl, _⟩ := g.new
  exact List.mem_append_right _ h
theorem OwnT.mono (g : Gr G Z H G' Z' H') (o : Ok G Z H n) (h : OwnT K H G Z v t) : OwnT K H' G' Z' v t := by
  cases t with
  | gen => exact h
  | scr _ => exact h
  | d x =>
    cases x with
    | list ds =>
      obtain ⟨p, vs, e, hp, hH, r⟩ := h
      exact ⟨p, vs, e, notG g hH hp, g.lst hp hH, RpA.le (g.le o.sub) r⟩
    | dict ds =>
      obtain ⟨p, e, hp, ⟨kvs, hH, r⟩ | ⟨kvs, hH, r⟩⟩ := h
      · exact ⟨p, e, ⟨notG g hH hp.1, g.inZ hp.2⟩, .inl ⟨kvs, g.exz p _ hp.1 hp.2 hH, RpK.le (g.le o.sub) r⟩⟩
      · exact ⟨p, e, ⟨notG g hH hp.1, g.inZ hp.2⟩, .inr ⟨kvs, g.exz p _ hp.1 hp.2 hH, RpTK.le (g.le o.sub) r⟩⟩
    | none => exact h
    | bool b => exact h
    | int i => exact h
    | str s => exact h
    | tuple l => exact h
theorem RW.mono (g : Gr G Z H G' Z' H') (o : Ok G Z H n) (h : RW K H G Z v t) : RW K H' G' Z' v t := h.imp (RpT.mono g o) (OwnT.mono g o)
theorem RV.mono {s : Bool} (g : Gr G Z H G' Z' H') (o : Ok G Z H n) (h : RV K s H G Z v t) : RV K s H' G' Z' v t := by
  cases s with
  | true => exact RpT.mono g o h
  | false => exact RW.mono g o h
theorem RV.weak {s : Bool} (h : RV K s H G Z v t) : RW K H G Z v t := by
  cases s with
  | true => exact .inl h
  | false => exact h
theorem EnvR.mono {σ : L2.St} {ρ : Ev} (g : Gr G Z H G' Z' H') (o : Ok G Z H n) (h : EnvR K H G Z σ ρ) : EnvR K H' G' Z' σ ρ := by
  intro i b t e
  obtain ⟨v, h1, h2, h3⟩ := h i b t e
  exact ⟨v, h1, fun z => (h2 z).mono g o, fun z => (h3 z).mono g o⟩
theorem Fresh.back {H0 : Hp} {G0 Z0 : List Addr} (g : Gr G0 Z0 H0 G Z H) (h : Fresh K H H' Z' v t) : Fresh K H0 H' Z' v t := by
  have back : ∀ p, H p = none → H0 p = none := fun p e => by
    cases q : H0 p with
    | none => rfl
    | some o => exact absurd e (g.dom p (by rw [q]; simp))
  cases t with
  | gen => exact h
  | scr _ => exact h
  | d x =>
    cases x with
    | list ds =>
      obtain ⟨p, vs, e, hp, r⟩ := h
      exact ⟨p, vs, e, back p hp, r⟩
    | dict ds =>
      obtain ⟨p, e, hp, r⟩ := h
      exact ⟨p, e, back p hp, r⟩
    | none => exact h
    | bool b => exact h
    | int i => exact h
    | str s => exact h
    | tuple l => exact h
/-- all is read at the mask of the generators alone -/
theorem OwnAt.rp {x : PyData} (o : Ok G Z H n) (h : OwnAt K H G Z v x) : Rp K (mask H G) v x := by
  cases x with
  | list ds =>
    obtain ⟨p, vs, rfl, hp, hH, r⟩ := h
    exact .lst (by rw [mask_of hp]; exact hH) (RpA.le (mask_sub o.sub) r)
  | dict ds =>
    obtain ⟨p, rfl, hp, ⟨kvs, hH, r⟩ | ⟨kvs, hH, r⟩⟩ := h
    · exact .dK (.of (by rw [mask_of hp.1]; exact hH)) (RpK.le (mask_sub o.sub) r)
    · exact .dT (.of (by rw [mask_of hp.1]; exact hH)) (RpTK.le (mask_sub o.sub) r)
  | none => exact h.elim
  | bool b => exact h.elim
  | int i => exact h.elim
  | str s => exact h.elim
  | tuple l => exact h.elim
theorem RW.rp (o : Ok G Z H n) (h : RW K H G Z v t) : RpT K H G G v t := by
  rcases h with h | h
  · cases t with
    | d x => exact Rp.le (mask_sub o.sub) h
    | gen => exact h
    | scr _ => exact h
  · cases t with
    | d x => exact OwnAt.rp o h
    | gen => exact h.elim
    | scr _ => exact h.elim
theorem Rp.up {x : PyData} (h : Rp K (mask H Z) v x) : Rp K H v x := Rp.le mask_le h
theorem RW.data {x : PyData} (o : Ok G Z H n) (h : RW K H G Z v (.d x)) : Rp K H v x := Rp.up (RW.rp o h : Rp K (mask H G) v x)
def isDk : Option HO → Bool
  | some (.dK _) => true
  | some (.dT _) => true
  | _ => false
/-- the generators, and the dicts of one's own -/
def dks (H : Hp) (G Z : List Addr) : List Addr := G ++ Z.filter fun a => isDk (H a)
theorem dks_sub (o : Ok G Z H n) : ∀ a ∈ dks H G Z, a ∈ Z := fun a h => by
  rcases List.mem_append.mp h with h | h
  · exact o.sub a h
  · exact (List.mem_filter.mp h).1
theorem Ok.dks (o : Ok G Z H n) : Ok G (TL.dks H G Z) H n := ⟨fun _ h => List.mem_append_left _ h, fun z hz => o.dom z (dks_sub o z hz), o.gen⟩
theorem getElem?_unown {ρ : Ev} {i : Nat} {b : Bool} {t : T} (e : (unown ρ)[i]? = some (some (b, t))) : b = false ∧ (ρ[i]? = some (some (false, t)) ∨ (ρ[i]? = some (some (true, t)) ∧ ∀ kvs, t ≠ .d (.dict kvs))) := by
  unfold unown at e
  rw [List.getElem?_map] at e
  cases q : ρ[i]? with
  | none => rw [q] at e; cases e
  | some w =>
    rw [q] at e
    have e : unown1 w = some (b, t) := by simpa using e
    cases w with
    | none => cases e
    | some p =>
      obtain ⟨c, t'⟩ := p
      cases c with
      | false =>
        have e : some (false, t') = some (b, t) := e
        cases e
        exact ⟨rfl, .inl rfl⟩
      | true =>
        by_cases hd : ∃ kvs, t' = .d (.dict kvs)
        · obtain ⟨kvs, rfl⟩ := hd
          cases e
        · have e2 : unown1 (some (true, t')) = some (false, t') := by
            cases t' with
            | gen => rfl
            | scr _ => rfl
            | d x => cases x <;> first | rfl | exact absurd ⟨_, rfl⟩ hd
          rw [e2] at e
          cases e
          exact ⟨rfl, .inr ⟨rfl, fun kvs z => hd ⟨kvs, z⟩⟩⟩
theorem RpT.sub {Y : List Addr} (h : ∀ a ∈ Y, a ∈ Z) (r : RpT K H G Z v t) : RpT K H G Y v t := by
  cases t with
  | d x => exact Rp.le (mask_sub h) r
  | gen => exact r
  | scr _ => exact r
theorem EnvR.unown {σ : L2.St} {ρ : Ev} (o : Ok G Z H n) (h : EnvR K H G Z σ ρ) : EnvR K H G (TL.dks H G Z) σ (TL.unown ρ) := by
  intro i b t e
  obtain ⟨hb, q⟩ := getElem?_unown e
  subst hb
  clear e
  rcases q with e | ⟨e, nd⟩
  · obtain ⟨v, h1, h2, h3⟩ := h i false t e
    exact ⟨v, h1, fun _ => (h2 rfl).sub (dks_sub o), fun z => nomatch z⟩
  · obtain ⟨v, h1, h2, h3⟩ := h i true t e
    refine ⟨v, h1, fun _ => ?_, fun z => nomatch z⟩
    have h3 := h3 rfl
    cases t with
    | gen => exact h3.elim
    | scr _ => exact h3.elim
    | d x =>
      cases x with
      | list ds =>
        obtain ⟨p, vs, rfl, hp, hH, r⟩ := h3
        have np : p ∉ TL.dks H G Z := fun z => by
          rcases List.mem_append.mp z with z | z
          · exact hp z
          · have := (List.mem_filter.mp z).2
            rw [hH] at this
            cases this
        exact Rp.lst (by rw [mask_of np]; exact hH) (RpA.le (mask_sub (dks_sub o)) r)
      | dict ds => exact absurd rfl (nd ds)
      | none => exact h3.elim
      | bool b => exact h3.elim
      | int i => exact h3.elim
      | str s => exact h3.elim
      | tuple l => exact h3.elim
theorem atom_any {s : Bool} {Y : List Addr} (h : RV K s H G Z v t) (a : atom t = true) : RpT K H' G' Y v t := by
  have key : ∀ x, atomD x = true → Rp K (mask H Z) v x → Rp K (mask H' Y) v x := fun x hx r => by
    cases r with
    | non => exact .non
    | bl b => exact .bl b
    | int i => exact .int i
    | str x => exact .str x
    | lst _ _ => cases hx
    | tup _ _ => cases hx
    | dK _ _ => cases hx
    | dT _ _ => cases hx
  cases t with
  | gen => cases a
  | scr _ => cases a
  | d x =>
    rcases h.weak with h | h
    · exact key x a h
    · cases x with
      | list ds => cases a
      | dict ds => cases a
      | none => exact h.elim
      | bool b => exact h.elim
      | int i => exact h.elim
      | str s => exact h.elim
      | tuple l => exact h.elim
end

/-! ### errors, states, readings -/
def ErAt (mg : Str → Option Value) (cn : Nat → Str) (K : PySem.W.Frag) (H : Hp) (Z : List Addr) (e : Er) (cls : Value) (d : Option Addr) : Prop :=
  mg (cn e.c) = some cls ∧ ∃ a v, d = some a ∧ H a = some (.xd [("value", v)]) ∧ Rp K (mask H Z) v e.x
def Wsh (mg : Str → Option Value) (cn : Nat → Str) (K : PySem.W.Frag) (Xt : XE) (Ew : XK) (G Z : List Addr) (H : Hp) : Prop :=
  ∀ er n' cls d H' G' Z', Xt er n' → Gr G Z H G' Z' H' → Ok G' Z' H' n' → ErAt mg cn K H' Z' er cls d → Ew cls d H'
structure Stt (mg : Str → Option Value) (cn : Nat → Str) (K : PySem.W.Frag) (Xt : XE) (Ew : XK) (G Z : List Addr) (H : Hp) (n : Nat) (σ : L2.St) (ρ : Ev) : Prop where
  ok : Ok G Z H n
  env : EnvR K H G Z σ ρ
  wsh : Wsh mg cn K Xt Ew G Z H
  len : ρ.length = σ.length
def Kq (K : PySem.W.Frag) (s : Bool) (G Z : List Addr) (H : Hp) (Q : VK) : QE := fun r n' =>
  ∀ v H' G' Z', Gr G Z H G' Z' H' → Ok G' Z' H' n' → RV K s H' G' Z' v r.t → (r.fr = true → Fresh K H H' Z' v r.t) → Q v H'
def sg : E → Bool
  | .w _ => false
  | _ => true
section
variable {mg : Str → Option Value} {cn : Nat → Str} {K : PySem.W.Frag} {Xt : XE} {Ew : XK} {G Z G' Z' : List Addr} {H H' : Hp} {n n' : Nat} {σ : L2.St} {ρ : Ev} {Q : VK}
theorem Wsh.mono (g : Gr G Z H G' Z' H') (h : Wsh mg cn K Xt Ew G Z H) : Wsh mg cn K Xt Ew G' Z' H' :=
  fun er n' cls d H2 G2 Z2 x g2 o2 e => h er n' cls d H2 G2 Z2 x (g.trans g2) o2 e
theorem Stt.mono (s : Stt mg cn K Xt Ew G Z H n σ ρ) (g : Gr G Z H G' Z' H') (o : Ok G' Z' H' n') : Stt mg cn K Xt Ew G' Z' H' n' σ ρ :=
  ⟨o, s.env.mono g s.ok, s.wsh.mono g, s.len⟩
theorem ErAt.sub {e : Er} {cls : Value} {d : Option Addr} {Y : List Addr} (h : ∀ a ∈ Y, a ∈ Z) (q : ErAt mg cn K H Z e cls d) : ErAt mg cn K H Y e cls d := by
  obtain ⟨h1, a, v, h2, h3, h4⟩ := q
  exact ⟨h1, a, v, h2, h3, Rp.le (mask_sub h) h4⟩
end
abbrev XS := L2.St → XK
/-- the expression's reading -/
def rd (Γ : TCx) (mg : Str → Option Value) (K : PySem.W.Frag) (Xt : XE) (Ew : XS) (e : E) : TE := fun σ H Q =>
  ∃ G Z n ρ, Stt mg Γ.cn K Xt (Ew σ) G Z H n σ ρ ∧ wpE Γ.Φ Γ.C Xt e ρ n (Kq K (sg e) G Z H Q)
/-- arguments, one by one; a sign tells how strong -/
def ArgR (K : PySem.W.Frag) (H : Hp) (G Z : List Addr) : List Bool → List V → List T → Prop
  | [], [], [] => True
  | s :: ss, v :: vs, t :: ts => RV K s H G Z v t ∧ ArgR K H G Z ss vs ts
  | _, _, _ => False
def sgs : Es → List Bool
  | .nil => []
  | .cons a l => sg a :: sgs l
def Kqs (K : PySem.W.Frag) (ss : List Bool) (G Z : List Addr) (H : Hp) (Q : List V → Hp → Prop) : List T → Nat → Prop := fun ts n' =>
  ∀ vs H' G' Z', Gr G Z H G' Z' H' → Ok G' Z' H' n' → ArgR K H' G' Z' ss vs ts → Q vs H'
def rds (Γ : TCx) (mg : Str → Option Value) (K : PySem.W.Frag) (Xt : XE) (Ew : XS) (l : Es) : TA := fun σ H Q =>
  ∃ G Z n ρ, Stt mg Γ.cn K Xt (Ew σ) G Z H n σ ρ ∧ wpEs Γ.Φ Γ.C Xt l ρ n (Kqs K (sgs l) G Z H Q)
section
variable {K : PySem.W.Frag} {G Z G' Z' : List Addr} {H H' : Hp} {n : Nat}
theorem ArgR.weak : ∀ {ss : List Bool} {vs : List V} {ts : List T}, ArgR K H G Z ss vs ts → Paired (RW K H G Z) vs ts
  | [], [], [], _ => .nil
  | _ :: _, _ :: _, _ :: _, h => .cons h.1.weak (ArgR.weak h.2)
  | [], _ :: _, _, h => h.elim
  | [], [], _ :: _, h => h.elim
  | _ :: _, [], _, h => h.elim
  | _ :: _, _ :: _, [], h => h.elim
theorem ArgR.strong : ∀ {ss : List Bool} {vs : List V} {ts : List T}, ss.all id = true → ArgR K H G Z ss vs ts → Paired (RpT K H G Z) vs ts
  | [], [], [], _, _ => .nil
  | s :: _, _ :: _, _ :: _, a, h => by
    rw [List.all_cons, Bool.and_eq_true] at a
    obtain ⟨a1, a2⟩ := a
    cases s with
    | false => cases a1
    | true => exact .cons h.1 (ArgR.strong a2 h.2)
  | [], _ :: _, _, _, h => h.elim
  | [], [], _ :: _, _, h => h.elim
  | _ :: _, [], _, _, h => h.elim
  | _ :: _, _ :: _, [], _, h => h.elim
theorem ArgR.mono (g : Gr G Z H G' Z' H') (o : Ok G Z H n) : ∀ {ss : List Bool} {vs : List V} {ts : List T}, ArgR K H G Z ss vs ts → ArgR K H' G' Z' ss vs ts
  | [], [], [], _ => trivial
  | _ :: _, _ :: _, _ :: _, h => ⟨h.1.mono g o, ArgR.mono g o h.2⟩
  | [], _ :: _, _, h => h.elim
  | [], [], _ :: _, h => h.elim
  | _ :: _, [], _, h => h.elim
  | _ :: _, _ :: _, [], h => h.elim
end
end TL

set_option Elab.async false
set_option linter.all false
set_option maxRecDepth 100000
/-! TL4: operators, built-ins by values, over trees. -/
namespace TL
open PySem PySem.Spec PyProof.Rows L2

section
variable {X : Cx} {pins : List (Addr × Obj)} {σ : L2.St} {H : Hp} {s : Shared}
theorem dreads (I : Inv X pins σ H s) {v : V} {u : Value} {x : PyData} (h : Rp X.K H v x) (r : RelV v u) : ∃ as, Reads s.heap u x as :=
  Rp.reads I h r
/-- a step that only gives out tokens and keeps all objects -/
theorem ep_tok {Q : VK} {tk : Nat} {v : V} {u : Value} (I : Inv X pins σ H s) (r : RelV v u) (q : Q v H) : EP X pins σ Q u { s with toks := tk } := ⟨v, H, I.tok tk, r, q⟩
theorem ep_keep {Q : VK} {h' : Heap} {tk : Nat} {v : V} {u : Value} (I : Inv X pins σ H s) (k : ∀ b o, s.heap.get? b = some o → h'.get? b = some o) (r : RelV v u) (q : Q v H) :
    EP X pins σ Q u { s with heap := h', toks := tk } := ⟨v, H, I.kept (t' := tk) k, r, q⟩
end

/-! ### truth -/
theorem tru_of {K : PySem.W.Frag} {H : Hp} {v : V} {x : PyData} (h : Rp K H v x) (f : fitD x) (hd : ∀ kvs, x ≠ .dict kvs) : TruV K v H (truD x) := by
  cases h with
  | non => rfl
  | bl b => rfl
  | int i => rfl
  | str x => exact ⟨f, rfl⟩
  | lst h r =>
    refine .inl ⟨_, .of h, ?_⟩
    cases r <;> rfl
  | tup h r =>
    refine .inr (.inl ⟨_, h, ?_⟩)
    cases r <;> rfl
  | dK h r => exact absurd rfl (hd _)
  | dT h r => exact absurd rfl (hd _)

/-! ### what is handed on -/
section
variable {K : PySem.W.Frag} {s : Bool} {G Z : List Addr} {H : Hp} {n : Nat} {Q : VK}
theorem Kq.int {i : Int} (h : Kq K s G Z H Q ⟨.d (.int i), false⟩ n) (o : Ok G Z H n) : Q (.int i) H :=
  h _ _ _ _ Gr.refl o (by cases s; exact .inl (.int i); exact .int i) (fun z => nomatch z)
theorem Kq.str {i : Str} (h : Kq K s G Z H Q ⟨.d (.str i), false⟩ n) (o : Ok G Z H n) : Q (.str i) H :=
  h _ _ _ _ Gr.refl o (by cases s; exact .inl (.str i); exact .str i) (fun z => nomatch z)
theorem Kq.bl {i : Bool} (h : Kq K s G Z H Q ⟨.d (.bool i), false⟩ n) (o : Ok G Z H n) : Q (.bl i) H :=
  h _ _ _ _ Gr.refl o (by cases s; exact .inl (.bl i); exact .bl i) (fun z => nomatch z)
theorem Kq.old {t : T} {v : V} (h : Kq K true G Z H Q ⟨t, false⟩ n) (o : Ok G Z H n) (r : RpT K H G Z v t) : Q v H :=
  h _ _ _ _ Gr.refl o r (fun z => nomatch z)
/-- a new list -/
theorem Kq.lst {ds : List PyData} {b : Bool} {vs : List V} {p : Addr} (h : Kq K true G Z H Q ⟨.d (.list ds), b⟩ n) (o : Ok G Z H n) (r : RpA K (mask H Z) vs ds) (hp : H p = none) : Q (.ref p) (upd H p (.lst vs)) := by
  have hz : p ∉ Z := fun z => o.dom p z hp
  have l1 : Le (mask H Z) (mask (upd H p (.lst vs)) Z) := (Gr.upd (G := G) (Z := Z) hp).le o.sub
  have l2 : Le (mask H Z) (mask (upd H p (.lst vs)) (p :: Z)) := .of fun a u e => by
    obtain ⟨h1, h2⟩ := mask_some e
    have hne : a ≠ p := fun z => by rw [z, hp] at h2; cases h2
    rw [mask_of (by simp [hne, h1]), upd_ne hne]; exact h2
  refine h _ _ _ _ (Gr.upd hp) (o.upd hp) (Rp.lst (by rw [mask_of hz, upd_same]) (RpA.le l1 r)) fun _ => ?_
  exact ⟨p, vs, rfl, hp, upd_same, RpA.le l2 r⟩
theorem Kq.tup {ds : List PyData} {vs : List V} {p : Addr} (h : Kq K true G Z H Q ⟨.d (.tuple ds), false⟩ n) (o : Ok G Z H n) (r : RpA K (mask H Z) vs ds) (hp : H p = none) : Q (.ref p) (upd H p (.tup vs)) := by
  have hz : p ∉ Z := fun z => o.dom p z hp
  have l1 : Le (mask H Z) (mask (upd H p (.tup vs)) Z) := (Gr.upd (G := G) (Z := Z) hp).le o.sub
  exact h _ _ _ _ (Gr.upd hp) (o.upd hp) (Rp.tup (.of (by rw [mask_of hz, upd_same])) (RpA.le l1 r)) fun z => nomatch z
/-- a new dict of constants -/
def cV : PyData → V
  | .bool b => .bl b | .int i => .int i | .str x => .str x | _ => .non
theorem cV_rp {x : PyData} (h : atomD x = true) : Rp K H (cV x) x := by
  cases x <;> first | exact .non | exact .bl _ | exact .int _ | exact .str _ | cases h
theorem cV_rpk : ∀ {kvs : List (Key × PyData)}, kvs.all (fun kv => atomD kv.2) = true → RpK K H (kvs.map fun kv => (kv.1, cV kv.2)) (kvs.map fun kv => (keyD kv.1, kv.2))
  | [], _ => .nil
  | (k, x) :: r, h => by
    rw [List.all_cons, Bool.and_eq_true] at h
    exact .cons (cV_rp h.1) (cV_rpk h.2)
theorem Kq.dct {kvs : List (Key × PyData)} {p : Addr} (h : Kq K true G Z H Q ⟨.d (.dict (kvs.map fun kv => (keyD kv.1, kv.2))), true⟩ n) (o : Ok G Z H n) (ha : kvs.all (fun kv => atomD kv.2) = true) (hp : H p = none) :
    Q (.ref p) (upd H p (.dK (kvs.map fun kv => (kv.1, cV kv.2)))) := by
  have hz : p ∉ Z := fun z => o.dom p z hp
  exact h _ _ _ _ (Gr.upd hp) (o.upd hp) (Rp.dK (.of (by rw [mask_of hz, upd_same])) (cV_rpk ha)) fun _ => ⟨p, rfl, hp, .inl ⟨_, upd_same, cV_rpk ha⟩⟩
/-- the items of a list that is read weakly: they stand outside Z -/
theorem RW.lst {v : V} {ds : List PyData} (h : RW K H G Z v (.d (.list ds))) : ∃ p vs, v = .ref p ∧ H p = some (.lst vs) ∧ RpA K (mask H Z) vs ds := by
  rcases h with h | ⟨p, vs, e, _, h, r⟩
  · cases h with
    | lst h r => exact ⟨_, _, rfl, (mask_some h).2, r⟩
  · exact ⟨p, vs, e, h, r⟩
theorem RW.tup {v : V} {ds : List PyData} (h : RW K H G Z v (.d (.tuple ds))) : ∃ p vs, v = .ref p ∧ SqT K H p vs ∧ RpA K (mask H Z) vs ds := by
  rcases h with h | h
  · cases h with
    | tup h r => exact ⟨_, _, rfl, mask_le.sqT h, r⟩
  · exact h.elim
theorem RW.int {v : V} {i : Int} (h : RW K H G Z v (.d (.int i))) : v = .int i := by
  rcases h with h | h
  · cases h; rfl
  · exact h.elim
theorem RW.str {v : V} {i : Str} (h : RW K H G Z v (.d (.str i))) : v = .str i := by
  rcases h with h | h
  · cases h; rfl
  · exact h.elim
theorem rpa_ints : ∀ {ds : List PyData} {vs : List V} {ns : List Int}, RpA K H vs ds → intsOf ds = some ns → vs = ns.map V.int
  | [], _, _, .nil, e => by cases e; rfl
  | .int i :: ds, _, _, .cons a b, e => by
    cases h : intsOf ds with
    | none => rw [intsOf, h] at e; cases e
    | some ms =>
      rw [intsOf, h] at e
      cases e
      cases a
      rw [rpa_ints b h]; rfl
theorem rpa_strs : ∀ {ds : List PyData} {vs : List V} {ns : List Str}, RpA K H vs ds → strsOf ds = some ns → vs = ns.map V.str
  | [], _, _, .nil, e => by cases e; rfl
  | .str i :: ds, _, _, .cons a b, e => by
    cases h : strsOf ds with
    | none => rw [strsOf, h] at e; cases e
    | some ms =>
      rw [strsOf, h] at e
      cases e
      cases a
      rw [rpa_strs b h]; rfl
theorem rpa_bls : ∀ {ds : List PyData} {vs : List V}, RpA K H vs ds → (∀ x ∈ ds, ∃ b, x = .bool b) → ∃ bs : List Bool, vs = bs.map V.bl ∧ bs.all id = ds.all truD ∧ bs.any id = ds.any truD
  | [], _, .nil, _ => ⟨[], rfl, rfl, rfl⟩
  | d :: ds, _, .cons a b, e => by
    obtain ⟨c, rfl⟩ := e d (List.mem_cons_self ..)
    obtain ⟨bs, rfl, h1, h2⟩ := rpa_bls b fun x hx => e x (List.mem_cons_of_mem _ hx)
    cases a
    exact ⟨c :: bs, rfl, by simp [List.all_cons, h1, truD], by simp [List.any_cons, h2, truD]⟩
theorem rpa_at {vs : List V} {ds : List PyData} {i : Int} {x : PyData} (h : RpA K H vs ds) (e : atI ds i = some x) : ∃ v, atI vs i = some v ∧ Rp K H v x := by
  unfold atI at e ⊢
  rw [h.length]
  cases q : ixN ds.length i with
  | none => rw [q] at e; cases e
  | some j =>
    rw [q] at e
    exact h.get e
theorem rpa_cut {vs : List V} {ds : List PyData} {lo hi : Option Int} (h : RpA K H vs ds) : RpA K H (cutV vs lo hi) (cutD ds lo hi) := by
  unfold cutV cutD
  rw [h.length]
  exact (h.drop _).take _
theorem rpa_rep {vs : List V} {ds : List PyData} (h : RpA K H vs ds) : ∀ k : Nat, RpA K H (List.replicate k vs).flatten (List.replicate k ds).flatten
  | 0 => .nil
  | k + 1 => by
    rw [List.replicate_succ, List.replicate_succ, List.flatten_cons, List.flatten_cons]
    exact h.append (rpa_rep h k)
end

/-! ### dicts -/
section
variable {K : PySem.W.Frag} {G Z : List Addr} {H : Hp}
theorem keyOk_key {x : PyData} (h : keyOk x) : ∃ k : Key, x = keyD k := by
  cases x <;> first | exact h.elim | skip
  · exact ⟨.inl _, rfl⟩
  · exact ⟨.inr _, rfl⟩
theorem keyEq_key {a b : Key} : keyEq (keyD a) (keyD b) = decide (a = b) := by
  cases a <;> cases b <;> simp [keyD, keyEq]
theorem rpk_kOk : ∀ {kvs : List (Key × V)} {ds : List (PyData × PyData)}, RpK K H kvs ds → kOk ds
  | _, _, .nil, _, h => nomatch h
  | _, _, .cons (k := k) a b, p, h => by
    rcases List.mem_cons.mp h with rfl | h
    · cases k <;> trivial
    · exact rpk_kOk b p h
theorem rptk_no {kvs : List (List Key × V)} {ds : List (PyData × PyData)} (r : RpTK K H kvs ds) (h : kOk ds) : False := by
  cases r with
  | one a => exact h _ (List.mem_cons_self ..)
  | cons a b => exact h _ (List.mem_cons_self ..)
theorem rpk_len : ∀ {kvs : List (Key × V)} {ds : List (PyData × PyData)}, RpK K H kvs ds → kvs.length = ds.length
  | _, _, .nil => rfl
  | _, _, .cons a b => by rw [List.length_cons, List.length_cons, rpk_len b]
theorem rpk_keys : ∀ {kvs : List (Key × V)} {ds : List (PyData × PyData)}, RpK K H kvs ds → RpA K H (kvs.map fun kv => kV kv.1) (ds.map (·.1))
  | _, _, .nil => .nil
  | _, _, .cons (k := k) a b => .cons (by cases k; exact .int _; exact .str _) (rpk_keys b)
theorem rpk_get : ∀ {kvs : List (Key × V)} {ds : List (PyData × PyData)} (k : Key), RpK K H kvs ds → match dGet ds (keyD k) with
    | some y => ∃ v, valV kvs k = some v ∧ Rp K H v y
    | none => valV kvs k = none
  | _, _, k, .nil => rfl
  | (k', v') :: kvs, (_, d) :: ds, k, .cons a b => by
    have ih := rpk_get k b
    unfold dGet
    rw [List.find?_cons, keyEq_key]
    by_cases e : k' = k
    · rw [decide_eq_true e]
      exact ⟨v', valV_pos e, a⟩
    · rw [decide_eq_false e, valV_neg (p := (k', v')) e]
      exact ih
theorem rpk_put {k : Key} {v : V} {y : PyData} (r : Rp K H v y) {kvs : List (Key × V)} {ds : List (PyData × PyData)} (h : RpK K H kvs ds) : RpK K H (putK kvs k v) (dPut ds (keyD k) y) := by
  have an : ∀ {kvs : List (Key × V)} {ds : List (PyData × PyData)}, RpK K H kvs ds → (kvs.any fun kv => decide (kv.1 = k)) = ds.any fun p => keyEq p.1 (keyD k) := fun {kvs ds} h => by
    induction kvs generalizing ds with
    | nil => cases h; rfl
    | cons p kvs ih =>
      cases h with
      | cons a b => rw [List.any_cons, List.any_cons, ih b, keyEq_key]
  unfold putK dPut
  rw [an h]
  split
  · clear an
    rename_i c
    clear c
    induction kvs generalizing ds with
    | nil => cases h; exact .nil
    | cons p kvs ih =>
      cases h with
      | cons a b =>
        rename_i k' v' d ds
        rw [List.map_cons, List.map_cons]
        simp only [keyEq_key, decide_eq_true_eq]
        by_cases e : k' = k
        · rw [if_pos e, if_pos e]
          exact .cons r (ih b)
        · rw [if_neg e, if_neg e]
          exact .cons a (ih b)
  · clear an
    rename_i c
    clear c
    induction kvs generalizing ds with
    | nil => cases h; exact .cons r .nil
    | cons p kvs ih =>
      cases h with
      | cons a b => exact .cons a (ih b)
theorem RW.dct {v : V} {ds : List (PyData × PyData)} (h : RW K H G Z v (.d (.dict ds))) (o : kOk ds) : ∃ p kvs, v = .ref p ∧ Rd H p (.dK kvs) ∧ RpK K (mask H Z) kvs ds := by
  rcases h with h | ⟨p, e, _, ⟨kvs, h, r⟩ | ⟨kvs, h, r⟩⟩
  · cases h with
    | dK h r => exact ⟨_, _, rfl, mask_le.rd _ _ h, r⟩
    | dT h r => exact (rptk_no r o).elim
  · exact ⟨p, kvs, e, .inl h, r⟩
  · exact (rptk_no r o).elim
theorem RW.key {v : V} {k : Key} (h : RW K H G Z v (.d (keyD k))) : v = kV k := by
  cases k with
  | inl i => exact h.int
  | inr x => exact h.str
/-- a new dict -/
theorem Kq.dnew {n : Nat} {Q : VK} {ds : List (PyData × PyData)} {kvs : List (Key × V)} {p : Addr} (h : Kq K true G Z H Q ⟨.d (.dict ds), true⟩ n) (o : Ok G Z H n) (r : RpK K (mask H Z) kvs ds) (hp : H p = none) : Q (.ref p) (upd H p (.dK kvs)) := by
  have hz : p ∉ Z := fun z => o.dom p z hp
  have l1 : Le (mask H Z) (mask (upd H p (.dK kvs)) Z) := (Gr.upd (G := G) (Z := Z) hp).le o.sub
  have l2 : Le (mask H Z) (mask (upd H p (.dK kvs)) (p :: Z)) := .of fun a u e => by
    obtain ⟨h1, h2⟩ := mask_some e
    have hne : a ≠ p := fun z => by rw [z, hp] at h2; cases h2
    rw [mask_of (by simp [hne, h1]), upd_ne hne]; exact h2
  exact h _ _ _ _ (Gr.upd hp) (o.upd hp) (Rp.dK (.of (by rw [mask_of hz, upd_same])) (RpK.le l1 r)) fun _ => ⟨p, rfl, hp, .inl ⟨_, upd_same, RpK.le l2 r⟩⟩
end

/-! ### binary operators -/
def bop : BOp → Operator
  | .add => .Add | .sub => .Sub | .mul => .Mult | .fdiv => .FloorDiv | .mod => .Mod | .pow => .Pow
def rBn (K : PySem.W.Frag) (o : BOp) : R2 := fun x y H Q => ∃ G Z n tx ty, Ok G Z H n ∧ RW K H G Z x tx ∧ RW K H G Z y ty ∧ binW o tx ty fun r => Kq K true G Z H Q r n
section
variable {X : Cx}
def CFd (i j : Int) : Prop := j ≠ 0 ∧ j.natAbs.log2 < 9000
def CPw (i j : Int) : Prop := 0 ≤ j ∧ (Builtin.Int.intBits i : Int) * j ≤ 2 ^ 27
theorem op_mulG : OpR X (binaryOp .Mult) (rI mulOk fun i j => .int (i * j)) := opI fun i j _ _ _ _ _ hc q => mul_int q (by
  rcases hc with h | h | ⟨a, b, h1, h2, h3⟩
  · exact (show CMul i j from .inl h).ok
  · exact (show CMul i j from .inr h).ok
  · exact (mulx_ok h1 h2 h3).ok)
theorem op_fdivG : OpR X (binaryOp .FloorDiv) (rI CFd fun i j => .int (i.fdiv j)) := opI fun i j _ _ _ _ _ hc q =>
  floordiv_int hc.1 q (.inl (PyProof.noPylong_of_log2 hc.2))
theorem op_powG : OpR X (binaryOp .Pow) (rI CPw fun i j => .int (i ^ j.toNat)) := opI fun i j _ _ _ _ _ hc q => pow_int hc.1 hc.2 q
theorem str_rep_ok {x : Str} {j : Int} (h1 : 2 ≤ j) (h2 : j < 1000000) (h0 : x.length ≠ 0) (h3 : x.length < 16) (h4 : (strRep x j.toNat).length ≤ sizeLine) :
    OpR X (binaryOp .Mult) (fun a b H Q => a = .str x ∧ b = .int j ∧ Q (.str (strRep x j.toNat)) H) := by
  intro pins s σ H a b v u Q I ra rb h
  obtain ⟨rfl, rfl, q⟩ := h
  obtain ⟨t, rfl⟩ := ra
  obtain ⟨t', rfl⟩ := rb
  have hl : (x.length : Int) < 16 := by omega
  refine P.mul_str (by simp; omega) (fun _ _ => ?_) (fun _ _ => ?_) ?_
  · have : (1000000 : Int) ≤ (2 ^ 63 - 1) / j := Int.le_ediv_of_mul_le (by omega) (by omega)
    omega
  · unfold Builtin.Str.tooLong
    have h4 : x.length * j.toNat ≤ 16 * 1000000 := Nat.mul_le_mul (by omega) (by omega)
    rw [sizeLine_eq]
    simp
    omega
  · rw [if_neg (by omega), if_neg (by simp; omega)]
    exact ⟨h4, ep_tok (v := .str (strRep x j.toNat)) I ⟨_, rfl⟩ q⟩
theorem bin_ok (o : BOp) : OpR X (binaryOp (bop o)) (rBn X.K o) := by
  intro pins s σ H x y v u Q I rx ry h
  obtain ⟨G, Z, n, tx, ty, k, wx, wy, h⟩ := h
  cases tx with
  | gen => cases o <;> exact h.elim
  | scr _ => cases o <;> exact h.elim
  | d a =>
    cases ty with
    | gen => cases o <;> (cases a <;> exact h.elim)
    | scr _ => cases o <;> (cases a <;> exact h.elim)
    | d b =>
      cases o with
      | add =>
        cases a <;> cases b <;> first | exact h.elim | skip
        · obtain rfl := wx.int; obtain rfl := wy.int
          exact op_add pins s σ H _ _ v u Q I rx ry ⟨_, _, rfl, rfl, Kq.int h k⟩
        · obtain rfl := wx.str; obtain rfl := wy.str
          exact op_add_str pins s σ H _ _ v u Q I rx ry ⟨_, _, rfl, rfl, h.1, Kq.str h.2 k⟩
        · obtain ⟨p, vs, rfl, hp, r⟩ := wx.lst
          obtain ⟨q, ws, rfl, hq, r'⟩ := wy.lst
          exact op_cat pins s σ H _ _ v u Q I rx ry ⟨p, q, vs, ws, rfl, rfl, hp, hq, by rw [r.length, r'.length]; exact h.1, fun z hz => Kq.lst h.2 k (r.append r') hz⟩
        · obtain ⟨p, vs, rfl, hp, r⟩ := wx.tup
          obtain ⟨q, ws, rfl, hq, r'⟩ := wy.tup
          obtain ⟨h1, h2⟩ := h
          refine op_catA pins s σ H _ _ v u Q I rx ry ⟨p, q, vs, ws, rfl, rfl, hp, hq, by rw [r.length, r'.length]; exact h1, fun z => ?_, fun _ z => ?_, fun _ _ z hz => Kq.tup h2 k (r.append r') hz⟩
          · subst z
            cases r
            exact Kq.old h2 k (wy.resolve_right fun z => z)
          · subst z
            cases r'
            rw [List.append_nil] at h2
            exact Kq.old h2 k (wx.resolve_right fun z => z)
      | sub =>
        cases a <;> cases b <;> first | exact h.elim | skip
        obtain rfl := wx.int; obtain rfl := wy.int
        exact op_sub pins s σ H _ _ v u Q I rx ry ⟨_, _, rfl, rfl, Kq.int h k⟩
      | mul =>
        cases a <;> cases b <;> first | exact h.elim | skip
        · obtain rfl := wx.int; obtain rfl := wy.int
          exact op_mulG pins s σ H _ _ v u Q I rx ry ⟨_, _, rfl, rfl, h.1, Kq.int h.2 k⟩
        · obtain rfl := wx.str; obtain rfl := wy.int
          obtain ⟨⟨h1, h2, h3, h4, h5⟩, h⟩ := h
          exact str_rep_ok h1 h2 h3 h4 h5 pins s σ H _ _ v u Q I rx ry ⟨rfl, rfl, Kq.str h k⟩
        · obtain ⟨p, vs, rfl, hp, r⟩ := wx.lst
          obtain rfl := wy.int
          obtain ⟨h1, h2, h3, h⟩ := h
          exact op_rep pins s σ H _ _ v u Q I rx ry ⟨p, _, vs, rfl, rfl, hp, h1, h2, by rw [r.length]; exact h3, fun z hz => Kq.lst h k (rpa_rep r _) hz⟩
      | fdiv =>
        cases a <;> cases b <;> first | exact h.elim | skip
        obtain rfl := wx.int; obtain rfl := wy.int
        exact op_fdivG pins s σ H _ _ v u Q I rx ry ⟨_, _, rfl, rfl, ⟨h.1, h.2.1⟩, Kq.int h.2.2 k⟩
      | mod =>
        cases a <;> cases b <;> first | exact h.elim | skip
        obtain rfl := wx.int; obtain rfl := wy.int
        exact op_modN pins s σ H _ _ v u Q I rx ry ⟨_, _, rfl, rfl, h.1, Kq.int h.2 k⟩
      | pow =>
        cases a <;> cases b <;> first | exact h.elim | skip
        obtain rfl := wx.int; obtain rfl := wy.int
        exact op_powG pins s σ H _ _ v u Q I rx ry ⟨_, _, rfl, rfl, ⟨h.1, h.2.1⟩, Kq.int h.2.2 k⟩
end
end TL

set_option Elab.async false
set_option linter.all false
set_option maxRecDepth 100000
/-! TL5: comparisons, subscripts, built-ins. -/
namespace TL
open PySem PySem.Spec PyProof.Rows L2

def cop : COp → CmpOp
  | .eq => .Eq | .ne => .NotEq | .lt => .Lt | .le => .LtE | .gt => .Gt | .ge => .GtE | .is_ => .Is | .isn => .IsNot | .in_ => .In | .nin => .NotIn
def rCm (K : PySem.W.Frag) (o : COp) : R2 := fun x y H Q => ∃ G Z n tx ty, Ok G Z H n ∧ RW K H G Z x tx ∧ RW K H G Z y ty ∧ cmpW o tx ty fun k => Q (.bl k) H
section
variable {X : Cx}
theorem is_lit {pins : List (Addr × Obj)} {σ : L2.St} {H : Hp} {s : Shared} {x : PyData} {v : V} {u : Value} {b : Bool} {Q : VK} (I : Inv X pins σ H s) (r : RelV v u) (h : Rp X.K H v x) (q : Q (.bl (isD x (.bool b))) H) :
    wpAny (model X.prog X.w) X.A (compareOp .Is u (.bool b)) (EP X pins σ Q) X.xe s := by
  refine wpAny_is_plain ?_ ⟨.bl (isD x (.bool b)), H, I, ?_, q⟩
  · cases h <;> first | (cases r; rfl) | (obtain ⟨t, rfl⟩ := r; rfl)
  · show Value.bool _ = Value.bool _
    cases h <;> first | (cases r; cases b <;> rfl) | (obtain ⟨t, rfl⟩ := r; cases b <;> rfl) | skip
    rename_i c
    cases r
    cases b <;> cases c <;> rfl
theorem isn_lit {pins : List (Addr × Obj)} {σ : L2.St} {H : Hp} {s : Shared} {x : PyData} {v : V} {u : Value} {b : Bool} {Q : VK} (I : Inv X pins σ H s) (r : RelV v u) (h : Rp X.K H v x) (q : Q (.bl (!isD x (.bool b))) H) :
    wpAny (model X.prog X.w) X.A (compareOp .IsNot u (.bool b)) (EP X pins σ Q) X.xe s := by
  refine wpAny_isNot_plain ?_ ⟨.bl (!isD x (.bool b)), H, I, ?_, q⟩
  · cases h <;> first | (cases r; rfl) | (obtain ⟨t, rfl⟩ := r; rfl)
  · show Value.bool _ = Value.bool _
    cases h <;> first | (cases r; cases b <;> rfl) | (obtain ⟨t, rfl⟩ := r; cases b <;> rfl) | skip
    rename_i c
    cases r
    cases b <;> cases c <;> rfl
theorem is_none_dec {H : Hp} {x : PyData} {v : V} (h : Rp X.K H v x) : decide (v = .non) = isD x .none := by
  cases h <;> simp [isD]
theorem cmp_ok (hu : X.A.units + 64 < cLine) (o : COp) : OpR X (compareOp (cop o)) (rCm X.K o) := by
  intro pins s σ H x y v u Q I rx ry h
  obtain ⟨G, Z, n, tx, ty, k, wx, wy, h⟩ := h
  cases tx with
  | gen => cases o <;> exact h.elim
  | scr _ => cases o <;> exact h.elim
  | d a =>
    cases ty with
    | gen => cases o <;> (cases a <;> exact h.elim)
    | scr _ => cases o <;> (cases a <;> exact h.elim)
    | d b =>
      have ha := wx.data k
      have hb := wy.data k
      obtain ⟨as, ra⟩ := dreads I ha rx
      obtain ⟨bs, rb⟩ := dreads I hb ry
      cases o with
      | eq => exact PySem.SeqAt.eq_plain ra rb h.1.1 h.1.2.1 (by have := h.1.2.2; omega) ⟨.bl _, H, I, rfl, h.2⟩
      | ne => exact PySem.SeqAt.ne_plain ra rb h.1.1 h.1.2.1 (by have := h.1.2.2; omega) ⟨.bl _, H, I, rfl, h.2⟩
      | lt => exact PySem.W.lt_data ra rb h.1.1 h.1.2.1 (by have := h.1.2.2; omega) ⟨.bl _, H, I, rfl, h.2⟩
      | le => exact PySem.W.le_data ra rb h.1.1 h.1.2.1 (by have := h.1.2.2; omega) ⟨.bl _, H, I, rfl, h.2⟩
      | gt => exact PySem.W.gt_data ra rb h.1.1 h.1.2.1 (by have := h.1.2.2; omega) ⟨.bl _, H, I, rfl, h.2⟩
      | ge => exact PySem.W.ge_data ra rb h.1.1 h.1.2.1 (by have := h.1.2.2; omega) ⟨.bl _, H, I, rfl, h.2⟩
      | is_ =>
        obtain ⟨hl, q⟩ := h
        cases b <;> first | cases hl | skip
        · cases hb
          exact op_isN pins s σ H _ _ v u Q I rx ry ⟨rfl, by rw [is_none_dec ha]; exact q⟩
        · cases hb
          cases ry
          exact is_lit I rx ha q
      | isn =>
        obtain ⟨hl, q⟩ := h
        cases b <;> first | cases hl | skip
        · cases hb
          exact op_notN pins s σ H _ _ v u Q I rx ry ⟨rfl, by rw [is_none_dec ha]; exact q⟩
        · cases hb
          cases ry
          exact isn_lit I rx ha q
      | in_ =>
        cases b <;> first | exact h.elim | skip
        · obtain ⟨z, rfl, h⟩ := h
          cases ha; cases hb
          exact op_in_str pins s σ H _ _ v u Q I rx ry ⟨_, _, rfl, rfl, h⟩
        · obtain ⟨⟨h1, h2, h3⟩, h⟩ := h
          exact PySem.SeqAt.in_list_data rb ra h2 h1 (by omega) ⟨.bl _, H, I, rfl, h⟩
        · obtain ⟨⟨h1, h2, h3⟩, h⟩ := h
          exact PySem.SeqAt.in_tuple_data rb ra h2 h1 (by omega) ⟨.bl _, H, I, rfl, h⟩
        · obtain ⟨⟨h1, h2⟩, h⟩ := h
          obtain ⟨k0, rfl⟩ := keyOk_key h1
          obtain ⟨p, kvs, rfl, hr, rk⟩ := wy.dct h2
          obtain rfl := wx.key
          cases ry
          refine d_in (o := valV kvs k0) (by omega) I (.inl ⟨kvs, k0, hr, rfl, rfl⟩) rx fun s3 I3 => ⟨.bl _, H, I3, rfl, ?_⟩
          have g := rpk_get k0 rk
          cases e : dGet _ (keyD k0) with
          | none =>
            rw [e] at g h
            rw [show valV kvs k0 = none from g]
            exact h
          | some y =>
            rw [e] at g h
            obtain ⟨v, g, _⟩ := g
            rw [g]
            exact h
      | nin =>
        cases b <;> first | exact h.elim | skip
        · obtain ⟨z, rfl, h⟩ := h
          cases ha; cases hb
          exact op_notin_str pins s σ H _ _ v u Q I rx ry ⟨_, _, rfl, rfl, h⟩
        · obtain ⟨⟨h1, h2, h3⟩, h⟩ := h
          exact PySem.SeqAt.notIn_list_data rb ra h2 h1 (by omega) ⟨.bl _, H, I, rfl, h⟩
        · obtain ⟨⟨h1, h2, h3⟩, h⟩ := h
          exact PySem.SeqAt.notIn_tuple_data rb ra h2 h1 (by omega) ⟨.bl _, H, I, rfl, h⟩
        · obtain ⟨⟨h1, h2⟩, h⟩ := h
          obtain ⟨k0, rfl⟩ := keyOk_key h1
          obtain ⟨p, kvs, rfl, hr, rk⟩ := wy.dct h2
          obtain rfl := wx.key
          cases ry
          refine d_notIn (o := valV kvs k0) (by omega) I (.inl ⟨kvs, k0, hr, rfl, rfl⟩) rx fun s3 I3 => ⟨.bl _, H, I3, rfl, ?_⟩
          have g := rpk_get k0 rk
          cases e : dGet _ (keyD k0) with
          | none =>
            rw [e] at g h
            rw [show valV kvs k0 = none from g]
            exact h
          | some y =>
            rw [e] at g h
            obtain ⟨v, g, _⟩ := g
            rw [g]
            exact h

/-! ### subscripts -/
def rIxn (K : PySem.W.Frag) : R2 := fun x y H Q => ∃ G Z n tx ty, Ok G Z H n ∧ RW K H G Z x tx ∧ RW K H G Z y ty ∧ ixW tx ty fun t => Kq K true G Z H Q ⟨t, false⟩ n
theorem RW.scr {K : PySem.W.Frag} {G Z : List Addr} {H : Hp} {v : V} {ns : List Int} (h : RW K H G Z v (.scr ns)) : ∃ a, v = .ref a ∧ SqF K H a (ns.map V.int) := by
  rcases h with h | h
  · exact h
  · exact h.elim
theorem atI_map {ns : List Int} {i z : Int} (h : atI ns i = some z) : atI (ns.map V.int) i = some (.int z) := by
  unfold atI at h ⊢
  rw [List.length_map]
  cases q : ixN ns.length i with
  | none => rw [q] at h; cases h
  | some j =>
    rw [q] at h
    have h : ns[j]? = some z := h
    show (ns.map V.int)[j]? = _
    rw [List.getElem?_map, h]
    rfl
theorem ints_rpa {K : PySem.W.Frag} {H : Hp} : ∀ ns : List Int, RpA K H (ns.map V.int) (ns.map PyData.int)
  | [] => .nil
  | n :: ns => .cons (.int n) (ints_rpa ns)
theorem ix_ok (hu : X.A.units + 1 < cLine) : IxR X (rIxn X.K) := by
  intro va sl pins s σ H x y v u Q I rx ry h hsb
  obtain ⟨G, Z, n, tx, ty, k, wx, wy, h⟩ := h
  cases tx with
  | gen => exact h.elim
  | scr ns =>
    cases ty with
    | gen => exact h.elim
    | scr _ => exact h.elim
    | d b =>
      cases b <;> first | exact h.elim | skip
      obtain ⟨p, rfl, hp⟩ := wx.scr
      obtain rfl := wy.int
      obtain ⟨z, hz, h⟩ := h
      exact ix_list va sl pins s σ H _ _ v u Q I rx ry ⟨p, ns.map V.int, _, .int z, rfl, rfl, hp.seq, atI_map hz, Kq.int h k⟩ hsb
  | d a =>
    cases ty with
    | gen => cases a <;> exact h.elim
    | scr _ => cases a <;> exact h.elim
    | d b =>
      cases a <;> cases b <;> first | exact h.elim | exact h.1.1.elim | skip
      rotate_left 3
      all_goals first
        | (obtain ⟨⟨h1, h2⟩, y, hy, h⟩ := h
           obtain ⟨k0, ek⟩ := keyOk_key h1
           rw [ek] at wy hy
           obtain ⟨p, kvs, rfl, hr, rk⟩ := wx.dct h2
           obtain rfl := wy.key
           cases rx
           have g := rpk_get k0 rk
           rw [hy] at g
           obtain ⟨v, g, rv⟩ := g
           have dg : DGet H p (kV k0) (some v) := .inl ⟨kvs, k0, hr, rfl, g.symm⟩
           exact tail_any (dict_typeIs I dg) PySem.F.slot_dict_getitem.lookup (d_getItem hu I dg ry fun w' s3 I3 rw' => ⟨v, H, I3, rw', Kq.old h k rv⟩) hsb)
        | skip
      · obtain rfl := wx.str; obtain rfl := wy.int
        obtain ⟨hl, c, hc, h⟩ := h
        exact ix_str va sl pins s σ H _ _ v u Q I rx ry ⟨_, _, c, rfl, rfl, hl, hc, Kq.str h k⟩ hsb
      · obtain ⟨p, vs, rfl, hp, r⟩ := wx.lst
        obtain rfl := wy.int
        obtain ⟨z, hz, h⟩ := h
        obtain ⟨w, hw, rw'⟩ := rpa_at r hz
        exact ix_list va sl pins s σ H _ _ v u Q I rx ry ⟨p, vs, _, w, rfl, rfl, .of hp, hw, Kq.old h k rw'⟩ hsb
      · obtain ⟨p, vs, rfl, hp, r⟩ := wx.tup
        obtain rfl := wy.int
        obtain ⟨z, hz, h⟩ := h
        obtain ⟨w, hw, rw'⟩ := rpa_at r hz
        exact ix_tup va sl pins s σ H _ _ v u Q I rx ry ⟨p, vs, _, w, rfl, rfl, hp, hw, Kq.old h k rw'⟩ hsb
theorem cut_whole {K : PySem.W.Frag} {H : Hp} {vs : List V} {ds : List PyData} {lo hi : Option Int} (r : RpA K H vs ds) (h : HT.sIx vs.length 0 lo = 0 ∧ HT.sIx vs.length vs.length hi = vs.length) : cutD ds lo hi = ds := by
  unfold cutD
  rw [← r.length, h.1, h.2, List.drop_zero, Nat.sub_zero, r.length, List.take_length]
def rSln (K : PySem.W.Frag) : V → Option Int → Option Int → Hp → VK → Prop := fun x lo hi H Q => ∃ G Z n tx, Ok G Z H n ∧ RW K H G Z x tx ∧ slW lo hi tx fun r => Kq K true G Z H Q r n
theorem sl_ok : SlR X (rSln X.K) := by
  have key : ∀ (x : V) (lo hi : Option Int) (H : Hp) (Q : VK), rSln X.K x lo hi H Q → (rSlL X.K x lo hi H Q ∨ rSlA X.K x lo hi H Q) ∨ ∃ z, x = .str z ∧ z.length ≤ sizeLine ∧ Q (.str (cutS z lo hi)) H := by
    rintro x lo hi H Q ⟨G, Z, n, tx, k, wx, h⟩
    cases tx with
    | gen => exact h.elim
    | scr ns =>
      obtain ⟨p, rfl, hp⟩ := wx.scr
      exact .inl (.inl ⟨p, _, rfl, hp.seq, fun q hq => Kq.lst h k (rpa_cut (ints_rpa ns)) hq⟩)
    | d a =>
      cases a <;> first | exact h.elim | skip
      · obtain rfl := wx.str
        exact .inr ⟨_, rfl, h.1, Kq.str h.2 k⟩
      · obtain ⟨p, vs, rfl, hp, r⟩ := wx.lst
        exact .inl (.inl ⟨p, vs, rfl, .of hp, fun q hq => Kq.lst h k (rpa_cut r) hq⟩)
      · obtain ⟨p, vs, rfl, hp, r⟩ := wx.tup
        have h : Kq X.K true G Z H Q ⟨.d (.tuple (cutD _ lo hi)), false⟩ n := h
        refine .inl (.inr ⟨p, vs, rfl, hp, fun hw => ?_, fun _ q hq => Kq.tup h k (rpa_cut r) hq⟩)
        have e : cutD _ lo hi = _ := cut_whole r hw
        rw [e] at h
        rcases wx with wx | wx
        · exact Kq.old h k wx
        · exact wx.elim
  intro pins s σ H x v vl vu l u sl Q I rx hs pl pu h
  rcases key x l u H Q h with (h | h) | h
  · exact sl_list pins s σ H x v vl vu l u sl Q I rx hs pl pu h
  · exact sl_tupA pins s σ H x v vl vu l u sl Q I rx hs pl pu h
  · exact sl_str pins s σ H x v vl vu l u sl Q I rx hs pl pu h
end
end TL

set_option Elab.async false
set_option linter.all false
set_option maxRecDepth 100000
/-! TL6: built-in functions by values. -/
namespace TL
open PySem PySem.Spec PyProof.Rows PySem.W L2

def biV : Bi → Value
  | .len => .builtin "len" | .sum => .builtin "sum" | .int => .type "int" | .max2 => .builtin "max" | .min2 => .builtin "min"
  | .repr => .builtin "repr" | .all => .builtin "all" | .any => .builtin "any" | .sorted => .builtin "sorted"
  | .list => .type "list" | .tuple => .type "tuple" | .abs => .builtin "abs" | .str => .type "str" | .dict => .type "dict" | .max1 => .builtin "max" | .min1 => .builtin "min"
def biN : Bi → Str
  | .len => "len" | .sum => "sum" | .int => "int" | .max2 => "max" | .min2 => "min" | .repr => "repr" | .all => "all" | .any => "any" | .sorted => "sorted"
  | .list => "list" | .tuple => "tuple" | .abs => "abs" | .str => "str" | .dict => "dict" | .max1 => "max" | .min1 => "min"
def rBi (K : PySem.W.Frag) (b : Bi) : List V → Hp → VK → Prop := fun vs H Q =>
  ∃ G Z n ts, Ok G Z H n ∧ Paired (RW K H G Z) vs ts ∧ biW b ts fun r => Kq K true G Z H Q r n
section
variable {X : Cx}
theorem pair1 {F : V → T → Prop} {vs : List V} {t : T} (h : Paired F vs [t]) : ∃ v, vs = [v] ∧ F v t := by
  cases h with
  | cons a b => cases b; exact ⟨_, rfl, a⟩
theorem pair2 {F : V → T → Prop} {vs : List V} {t u : T} (h : Paired F vs [t, u]) : ∃ v w, vs = [v, w] ∧ F v t ∧ F w u := by
  cases h with
  | cons a b =>
    obtain ⟨w, rfl, c⟩ := pair1 b
    exact ⟨_, w, rfl, a, c⟩
/-- repr of any tree -/
theorem cr_repr (hg : X.A.guards = some []) (hu : X.A.units + 64 < cLine) : CallR X (.builtin "repr") (fun vs H Q => ∃ v x, vs = [v] ∧ Rp X.K H v x ∧ showOk x ∧ Q (.str x.shown) H) := by
  intro pins s σ H vs us Q I rv h
  obtain ⟨v, x, rfl, r, ⟨h1, h2, h3⟩, q⟩ := h
  obtain ⟨u, rfl, ru⟩ := Vals.one rv
  cases v with
  | ref a =>
    cases ru
    exact (Rp.shows I r rfl h1 h2).2 a rfl X.A X.xe s _ hg (by omega) (fun _ _ e => e) fun h' u tk hk => ⟨.str x.shown, H, I.kept (t' := tk) hk, ⟨u, rfl⟩, q⟩
  | non =>
    cases ru; cases r
    exact P.repr_of_none (ep_tok (v := .str (PyData.shown .none)) I ⟨s.toks, by simp [PyData.shown]⟩ q)
  | bl b =>
    cases ru; cases r
    exact P.repr_of_bool (ep_tok (v := .str (PyData.shown (.bool b))) I ⟨s.toks, by simp [PyData.shown]⟩ q)
  | int i =>
    obtain ⟨t, rfl⟩ := ru
    cases r
    exact P.repr_of_int (by simpa [PyData.showable] using h1) (ep_tok (v := .str (PyData.shown (.int i))) I ⟨s.toks, by simp [PyData.shown]⟩ q)
  | str z =>
    obtain ⟨t, rfl⟩ := ru
    cases r
    exact P.repr_of_str (ep_tok (v := .str (PyData.shown (.str z))) I ⟨s.toks, by simp [PyData.shown]⟩ q) (by simpa [PyData.shown] using h2)
  | byt b => cases r
  | flt b => cases r
  | ty n => cases r
/-- sorted of alike trees -/
theorem each_of {H H0 : Hp} {hp : Heap} {K : PySem.W.Frag} : ∀ {ds : List PyData} {vs : List V} {us : List Value}, RpA K H vs ds → Vals vs us → EachIs (fun u d => ∃ v, RelV v u ∧ Rp K H v d) us ds
  | [], _, _, .nil, r => by cases r; exact .nil
  | d :: ds, _, _, .cons a b, r => by
    cases r with
    | cons r1 r2 => exact .cons ⟨_, r1, a⟩ (each_of (H0 := H0) (hp := hp) b r2)
theorem of_each {H : Hp} {K : PySem.W.Frag} : ∀ {ds : List PyData} {us : List Value}, EachIs (fun u d => ∃ v, RelV v u ∧ Rp K H v d) us ds → ∃ vs, Vals vs us ∧ RpA K H vs ds
  | _, _, .nil => ⟨[], .nil, .nil⟩
  | _, _, .cons ⟨v, r, a⟩ b => by
    obtain ⟨vs, h1, h2⟩ := of_each b
    exact ⟨v :: vs, .cons r h1, .cons a h2⟩
theorem each_reads {pins : List (Addr × Obj)} {σ : L2.St} {H : Hp} {s : Shared} (I : Inv X pins σ H s) : ∀ {ds : List PyData} {us : List Value}, EachIs (fun u d => ∃ v, RelV v u ∧ Rp X.K H v d) us ds → EachIs (fun u d => ∃ as, Reads s.heap u (id d) as) us ds
  | _, _, .nil => .nil
  | _, _, .cons ⟨v, r, a⟩ b => .cons (dreads I a r) (each_reads I b)
theorem cr_sort (hu : X.A.units + 64 < cLine) : CallR X (.builtin "sorted") (fun vs H Q => ∃ p xs ds Z, vs = [.ref p] ∧ H p = some (.lst xs) ∧ RpA X.K (mask H Z) xs ds ∧ sortOk ds ∧
    ∀ ys q, RpA X.K (mask H Z) ys (ds.mergeSort (PySem.W.dataLe false id)) → H q = none → Q (.ref q) (upd H q (.lst ys))) := by
  intro pins s σ H vs us Q I rv h
  obtain ⟨p, xs, ds, Z, rfl, hp, ra, ⟨k1, k2, k3, k4⟩, q⟩ := h
  obtain ⟨its, rvs, hl, _⟩ := I.list (.of hp)
  rw [Vals.ref1 rv]
  have e1 : EachIs (fun u d => ∃ v, RelV v u ∧ Rp X.K (mask H Z) v d) its ds := each_of (H0 := H) (hp := s.heap) ra rvs
  have e2 : EachIs (fun u d => ∃ v, RelV v u ∧ Rp X.K H v d) its ds := e1.mono fun u d ⟨v, r, a⟩ => ⟨v, r, Rp.up a⟩
  refine PySem.W.sorted_data (enc := id) hl.isList e1 (each_reads I e2) (by rw [List.map_id]; exact k1) (by rw [List.map_id]; exact k2) k4 (fun b hb => by have := k3 b hb; show _ + PyData.depth b < _; omega) fun out hlen ho => ?_
  obtain ⟨ys, r1, r2⟩ := of_each ho
  obtain ⟨ep, he⟩ := PyProof.Rows.sortedAll_at s.heap its out.toArray
  have hfr : H (s.heap.objs.size + 1) = none := I.hok.fresh (Nat.le_succ _)
  have hlen2 : ys.length ≤ sizeLine := by rw [r1.length, hlen]; exact k4
  exact ⟨.ref _, upd H (s.heap.objs.size + 1) (.lst ys), I.laid (t' := s.toks) (fun _ _ => PyProof.Rows.sortedAll_old) (Nat.le_succ _) ⟨hlen2, out, ep, r1, by simpa using he⟩, rfl, q ys _ r2 hfr⟩
/-- list(text) -/
theorem cr_listS (hc : X.calm = true) : CallR X (.type "list") (fun vs H Q => ∃ z, vs = [.str z] ∧ z.length ≤ sizeLine ∧ ∀ q, H q = none → Q (.ref q) (upd H q (.lst (z.cps.toList.map fun c => .str ⟨#[c]⟩)))) := by
  intro pins s σ H vs us Q I rv h
  obtain ⟨z, rfl, hz, q⟩ := h
  obtain ⟨u, rfl, t, rfl⟩ := Vals.one rv
  refine call_list_str (I.ok.hd hc) z t (fun h' tk acc' c' hk hS hacc => ?_) hz
  have hfr : H s.heap.objs.size = none := I.hok.fresh (Nat.le_refl _)
  refine ⟨.ref _, upd H s.heap.objs.size (.lst (z.cps.toList.map fun c => .str ⟨#[c]⟩)), I.laid (t' := tk) hk (Nat.le_refl _) ⟨by rw [List.length_map]; exact hz, acc'.toList, c', ?_, hS⟩, rfl, q _ hfr⟩
  refine vals_of_at (by rw [List.length_map]; show z.cps.toList.length = _; simpa using hacc.1.symm) fun j x u e1 e2 => ?_
  obtain ⟨c, t', hc', rfl⟩ := hacc.2 j u (by simpa using e2)
  rw [List.getElem?_map] at e1
  have : z.cps.toList[j]? = some c := by simpa using hc'
  rw [this] at e1
  cases e1
  exact ⟨t', rfl⟩

theorem big_4300 : 2 ^ 14000 ≤ 10 ^ 4300 := by decide +kernel
/-- a name that the part at a does not bear -/
theorem ns_none {K : PySem.W.Frag} {h : Heap} {a : Addr} {m : Str → Option Value} {x : Str} (kin : K.In h) (ns : h.Ns a m) (e : PySem.W.nsIn K a x = some none) : m x = none := by
  obtain ⟨o, es, ep, e1, e2, _, e3⟩ := ns
  unfold PySem.W.nsIn at e
  cases q : K.lookup a with
  | none => rw [q] at e; cases e
  | some ob =>
    obtain ⟨c, d, dt, sl⟩ := ob
    have q2 := kin _ _ q
    rw [q] at e
    rw [e1] at q2
    cases q2
    dsimp only at e2
    subst e2
    dsimp only at e
    rw [← e3]
    cases q3 : es.toList.find? (·.key.isStr x) with
    | some en => rw [q3] at e; cases e
    | none =>
      unfold nsFind findBy
      rw [← Array.find?_toList]
      rw [q3]
      rfl
theorem no_digits {pins : List (Addr × Obj)} {σ : L2.St} {H : Hp} {s : Shared} (I : Inv X pins σ H s) (hd : PySem.W.nsIn X.K cStatics "sys.int_max_str_digits" = some none) : s.heap.NoDigits := by
  obtain ⟨mc, h1, _⟩ := I.mod.nolimit.keeps fun b o e => (I.bs b o e).1
  exact ⟨mc, h1, ns_none I.kIn h1 hd⟩
theorem bi_ok (hd : PySem.W.nsIn X.K cStatics "sys.int_max_str_digits" = some none) (hg : X.A.guards = some []) (hu : X.A.units + 64 < cLine) (hc : X.calm = true) (b : Bi) : CallR X (biV b) (rBi X.K b) := by
  intro pins s σ H vs us Q I rv h
  obtain ⟨G, Z, n, ts, k, pa, h⟩ := h
  have one : ∀ {t : T}, ts = [t] → ∃ v, vs = [v] ∧ RW X.K H G Z v t := fun e => by subst e; exact pair1 pa
  have two : ∀ {t u : T}, ts = [t, u] → ∃ v w, vs = [v, w] ∧ RW X.K H G Z v t ∧ RW X.K H G Z w u := fun e => by subst e; exact pair2 pa
  cases b with
  | len =>
    unfold biW at h
    split at h <;> first | exact h.elim | skip
    all_goals first
      | (rename_i he; cases he; done)
      | skip
    · obtain ⟨v, rfl, w⟩ := one rfl
      obtain ⟨p, rfl, hp⟩ := w.scr
      exact call_len pins s σ H _ us Q I rv ⟨_, _, rfl, .inl ⟨_, hp.seq, rfl⟩, by rw [List.length_map]; exact Kq.int h k⟩
    · obtain ⟨v, rfl, w⟩ := one rfl
      obtain ⟨p, ws, rfl, hp, r⟩ := w.lst
      exact call_len pins s σ H _ us Q I rv ⟨_, ws.length, rfl, .inl ⟨ws, .of hp, rfl⟩, by rw [r.length]; exact Kq.int h k⟩
    · obtain ⟨v, rfl, w⟩ := one rfl
      obtain ⟨p, ws, rfl, hp, r⟩ := w.tup
      exact call_len pins s σ H _ us Q I rv ⟨_, ws.length, rfl, .inr ⟨ws, hp, rfl⟩, by rw [r.length]; exact Kq.int h k⟩
    · obtain ⟨v, rfl, w⟩ := one rfl
      obtain rfl := w.str
      exact call_len pins s σ H _ us Q I rv ⟨_, _, rfl, ⟨h.1, rfl⟩, Kq.int h.2 k⟩
    · obtain ⟨v, rfl, w⟩ := one rfl
      obtain ⟨p, kvs, rfl, hp, r⟩ := w.dct h.1
      obtain ⟨u, rfl, ru⟩ := Vals.one rv
      cases ru
      refine d_len I hp fun t s' I' => ⟨.int _, H, I', ⟨_, rfl⟩, ?_⟩
      rw [rpk_len r]
      exact Kq.int h.2 k
  | sum =>
    unfold biW at h
    split at h <;> first | exact h.elim | skip
    all_goals first | (rename_i he; cases he; done) | skip
    obtain ⟨v, rfl, w⟩ := one rfl
    obtain ⟨p, ws, rfl, hp, r⟩ := w.lst
    obtain ⟨ns, e, h⟩ := h
    have := rpa_ints r e
    subst this
    exact cr_sum hc pins s σ H _ us Q I rv ⟨p, ns, rfl, .of hp, Kq.int h k⟩
  | int =>
    unfold biW at h
    split at h <;> first | exact h.elim | skip
    all_goals first | (rename_i he; cases he; done) | skip
    obtain ⟨v, rfl, w⟩ := one rfl
    obtain rfl := w.int
    exact call_int1 pins s σ H _ us Q I rv (.inl ⟨_, rfl, Kq.int h k⟩)
  | max2 =>
    unfold biW at h
    split at h <;> first | exact h.elim | skip
    all_goals first | (rename_i he; cases he; done) | skip
    obtain ⟨v, v', rfl, w, w'⟩ := two rfl
    obtain rfl := w.int; obtain rfl := w'.int
    exact call_max2 hc pins s σ H _ us Q I rv ⟨_, _, rfl, Kq.int h k⟩
  | min2 =>
    unfold biW at h
    split at h <;> first | exact h.elim | skip
    all_goals first | (rename_i he; cases he; done) | skip
    obtain ⟨v, v', rfl, w, w'⟩ := two rfl
    obtain rfl := w.int; obtain rfl := w'.int
    exact call_min2 hc pins s σ H _ us Q I rv ⟨_, _, rfl, Kq.int h k⟩
  | max1 =>
    unfold biW at h
    split at h <;> first | exact h.elim | skip
    all_goals first | (rename_i he; cases he; done) | skip
    obtain ⟨v, rfl, w⟩ := one rfl
    obtain ⟨p, ws, rfl, hp, r⟩ := w.lst
    obtain ⟨ns, e, ne, h⟩ := h
    have := rpa_ints r e
    subst this
    exact cr_max hc pins s σ H _ us Q I rv ⟨p, ns, rfl, .of hp, List.length_pos_iff.mpr ne, fun m h1 h2 => Kq.int (h m h1 h2) k⟩
  | min1 =>
    unfold biW at h
    split at h <;> first | exact h.elim | skip
    all_goals first | (rename_i he; cases he; done) | skip
    obtain ⟨v, rfl, w⟩ := one rfl
    obtain ⟨p, ws, rfl, hp, r⟩ := w.lst
    obtain ⟨ns, e, ne, h⟩ := h
    have := rpa_ints r e
    subst this
    exact cr_min hc pins s σ H _ us Q I rv ⟨p, ns, rfl, .of hp, List.length_pos_iff.mpr ne, fun m h1 h2 => Kq.int (h m h1 h2) k⟩
  | repr =>
    unfold biW at h
    split at h <;> first | exact h.elim | skip
    all_goals first | (rename_i he; cases he; done) | skip
    obtain ⟨v, rfl, w⟩ := one rfl
    exact cr_repr hg hu pins s σ H _ us Q I rv ⟨v, _, rfl, w.data k, h.1, Kq.str h.2 k⟩
  | all =>
    unfold biW at h
    split at h <;> first | exact h.elim | skip
    all_goals first | (rename_i he; cases he; done) | skip
    obtain ⟨v, rfl, w⟩ := one rfl
    obtain ⟨p, ws, rfl, hp, r⟩ := w.lst
    obtain ⟨bs, rfl, e1, e2⟩ := rpa_bls r h.1
    exact cr_all hc pins s σ H _ us Q I rv ⟨p, bs, rfl, .of hp, by rw [e1]; exact Kq.bl h.2 k⟩
  | any =>
    unfold biW at h
    split at h <;> first | exact h.elim | skip
    all_goals first | (rename_i he; cases he; done) | skip
    obtain ⟨v, rfl, w⟩ := one rfl
    obtain ⟨p, ws, rfl, hp, r⟩ := w.lst
    obtain ⟨bs, rfl, e1, e2⟩ := rpa_bls r h.1
    exact cr_any hc pins s σ H _ us Q I rv ⟨p, bs, rfl, .of hp, by rw [e2]; exact Kq.bl h.2 k⟩
  | sorted =>
    unfold biW at h
    split at h <;> first | exact h.elim | skip
    all_goals first | (rename_i he; cases he; done) | skip
    obtain ⟨v, rfl, w⟩ := one rfl
    obtain ⟨p, ws, rfl, hp, r⟩ := w.lst
    exact cr_sort hu pins s σ H _ us Q I rv ⟨p, ws, _, Z, rfl, hp, r, h.1, fun ys q r2 hq => Kq.lst h.2 k r2 hq⟩
  | list =>
    unfold biW at h
    split at h <;> first | exact h.elim | skip
    all_goals first | (rename_i he; cases he; done) | skip
    · obtain ⟨v, rfl, w⟩ := one rfl
      obtain ⟨p, ws, rfl, hp, r⟩ := w.lst
      exact call_list_of pins s σ H _ us Q I rv ⟨p, ws, rfl, .inl (.of hp), fun q hq => Kq.lst h k r hq⟩
    · obtain ⟨v, rfl, w⟩ := one rfl
      obtain ⟨p, ws, rfl, hp, r⟩ := w.tup
      exact call_list_of pins s σ H _ us Q I rv ⟨p, ws, rfl, .inr hp, fun q hq => Kq.lst h k r hq⟩
    · obtain ⟨v, rfl, w⟩ := one rfl
      obtain rfl := w.str
      refine cr_listS hc pins s σ H _ us Q I rv ⟨_, rfl, h.1, fun q hq => Kq.lst h.2 k ?_ hq⟩
      have := RpA.strs (K := X.K) (H := mask H Z) ((‹Str›).cps.toList.map fun c => ⟨#[c]⟩)
      rw [List.map_map, List.map_map] at this
      exact this
    · obtain ⟨v, rfl, w⟩ := one rfl
      obtain ⟨p, kvs, rfl, hp, r⟩ := w.dct h.1
      exact call_listD hc pins s σ H _ us Q I rv ⟨p, kvs, rfl, hp, fun q hq => Kq.lst h.2 k (rpk_keys r) hq⟩
  | dict =>
    unfold biW at h
    split at h <;> first | exact h.elim | skip
    all_goals first | (rename_i he; cases he; done) | skip
    obtain ⟨v, rfl, w⟩ := one rfl
    obtain ⟨p, kvs, rfl, hp, r⟩ := w.dct h.1
    exact call_dictD pins s σ H _ us Q I rv ⟨p, kvs, rfl, hp, fun q hq => Kq.dnew h.2 k r hq⟩
  | tuple =>
    unfold biW at h
    split at h <;> first | exact h.elim | skip
    all_goals first | (rename_i he; cases he; done) | skip
    · obtain ⟨v, rfl, w⟩ := one rfl
      obtain ⟨p, ws, rfl, hp, r⟩ := w.lst
      exact call_tuple_of pins s σ H _ us Q I rv ⟨p, ws, rfl, .inl ⟨.of hp, fun q hq => Kq.tup h k r hq⟩⟩
    · obtain ⟨v, rfl, w⟩ := one rfl
      rcases w with w | w
      · have w' := w
        cases w with
        | tup ht r => exact call_tuple_of pins s σ H _ us Q I rv ⟨_, _, rfl, .inr ⟨mask_le.sqT ht, Kq.old h k w'⟩⟩
      · exact w.elim
  | abs =>
    unfold biW at h
    split at h <;> first | exact h.elim | skip
    all_goals first | (rename_i he; cases he; done) | skip
    obtain ⟨v, rfl, w⟩ := one rfl
    obtain rfl := w.int
    exact call_abs pins s σ H _ us Q I rv ⟨_, rfl, Kq.int h k⟩
  | str =>
    unfold biW at h
    split at h <;> first | exact h.elim | skip
    all_goals first | (rename_i he; cases he; done) | skip
    obtain ⟨v, rfl, w⟩ := one rfl
    obtain rfl := w.int
    obtain ⟨u, rfl, t, rfl⟩ := Vals.one rv
    refine PyProof.Rows.str_of_int_or (I.ok.hd hc) (no_digits I hd) (fun _ => ⟨.str _, H, I.tok _, ⟨_, rfl⟩, Kq.str h.2 k⟩) fun z => ?_
    have h1 : _ < 14000 := h.1
    exact absurd z (Nat.not_le_of_lt (Nat.lt_of_lt_of_le (PyProof.Rows.lt_of_log2 h1) big_4300))
/-- isinstance(x, T) -/
def tyName : TyN → String
  | .int => "int" | .bool => "bool" | .str => "str" | .list => "list" | .tuple => "tuple" | .dict => "dict"
theorem isi_ok (t : TyN) : CallR X (.builtin "isinstance") (fun vs H Q => ∃ v x, vs = [v, .ty (tyName t)] ∧ Rp X.K H v x ∧ Q (.bl (isTy x t)) H) := by
  intro pins s σ H vs us Q I rv h
  obtain ⟨v, x, rfl, r, q⟩ := h
  obtain ⟨u, w, rfl, ru, rw'⟩ := Vals.two rv
  have rw2 : w = Value.type (tyName t) := rw'
  subst rw2
  obtain ⟨as, rd⟩ := dreads I r ru
  have e : ∀ b, b = isTy x t → ∀ tk, EP X pins σ Q (.bool b) { s with toks := tk } := fun b e tk => by subst e; exact ep_tok (v := .bl (isTy x t)) I rfl q
  cases t with
  | int => exact isinstance_int_data rd fun tk _ => e _ (by cases x <;> rfl) tk
  | bool => exact isinstance_bool_data rd fun tk _ => e _ (by cases x <;> rfl) tk
  | str => exact isinstance_str_data rd fun tk _ => e _ (by cases x <;> rfl) tk
  | list => exact isinstance_list_data rd fun tk _ => e _ (by cases x <;> rfl) tk
  | tuple => exact isinstance_tuple_data rd fun tk _ => e _ (by cases x <;> rfl) tk
  | dict => exact isinstance_dict_data rd fun tk _ => e _ (by cases x <;> rfl) tk
/-- isinstance(x, (T, U)) -/
def tyOf : PyData → String
  | .none => "NoneType" | .bool _ => "bool" | .int _ => "int" | .str _ => "str" | .list _ => "list" | .tuple _ => "tuple" | .dict _ => "dict"
theorem kit_is {K : PySem.W.Frag} (x : PyData) (t : TyN) : PySem.W.kitOne K (.type (tyOf x)) (.type (tyName t)) = some (isTy x t) := by
  cases x <;> cases t <;> exact kit_ty (by kernel_rfl)
theorem rd_of {H : Hp} {a : Addr} {u : HO} (h : Rd H a u) : H a = some u ∨ ∃ o, H a = some (.frz o u) := h
theorem tyx_of {K : PySem.W.Frag} {H : Hp} {v : V} {x : PyData} (r : Rp K H v x) (o : isiOk x) : TyX K H v (.type (tyOf x)) := by
  cases r with
  | non => exact .base .non
  | bl b => exact .base (.bl b)
  | int i => exact .base (.int i)
  | str z => exact .base (.str z)
  | lst h _ => exact .base (.lst h)
  | tup h _ =>
    rcases h with (h | ⟨ob, h⟩) | ⟨ob, its, n, h1, h2, _⟩
    · exact .base (.tup h)
    · exact .fTuple h
    · exact .kTuple h1 h2
  | dK h _ =>
    rcases h with h | ⟨ob, h⟩
    · exact .base (.dK h)
    · exact .fDict h
  | dT h r => exact (rptk_no r o).elim
theorem isi2_ok (t u : TyN) : CallR X (.builtin "isinstance") (fun vs H Q => ∃ v x p, vs = [v, .ref p] ∧ Rp X.K H v x ∧ isiOk x ∧ H p = some (.tup [.ty (tyName t), .ty (tyName u)]) ∧ Q (.bl (isTy x t || isTy x u)) H) := by
  intro pins s σ H vs us Q I rv h
  obtain ⟨v, x, p, rfl, r, o, hp, q⟩ := h
  refine call_isiT pins s σ H _ us Q I rv ⟨v, p, _, _, [.type (tyName t), .type (tyName u)], _, rfl, hp, .cons (.ty _) (.cons (.ty _) .nil), tyx_of r o, ?_, q⟩
  refine kitAny_cons (kit_is x t) (fun e => ?_) fun e => by rw [e]; rfl
  rw [e]
  refine kitAny_cons (kit_is x u) (fun e => ?_) fun e => by rw [e]; rfl
  rw [e]
  exact kitAny_nil
end
end TL

set_option Elab.async false
set_option linter.all false
set_option maxRecDepth 100000
/-! TL7: a written expression and the small syntax agree (a check by computing). -/
namespace TL
open PySem PySem.Spec PyProof.Rows L2

def isVis (sc : Scope) (x : Str) : Bool := match sc.names.lookup x with
  | some .local => true | some .cell => true | some .free => true | _ => false
def isGl (sc : Scope) (x : Str) : Bool := match sc.names.lookup x with
  | some .globalImplicit => true | _ => false
def notDbg (x : Str) : Bool := !(x == ("__debug__" : Str)) && !(x == ("__classdict__" : Str))
def notStar : Expr → Bool
  | .Starred _ _ => false | _ => true
def plainIxB : Expr → Bool
  | .Slice _ _ _ _ => false | _ => true
def plainBase : Expr → Bool
  | .Call _ _ _ _ => false | _ => true
def notSet : Expr → Bool
  | .Set _ _ _ => false | _ => true
def cstB : PyData → Const → Bool
  | .none, .none => true
  | .bool b, .bool c => b == c
  | .int i, .int j => i == j
  | .str s, .str t => decide (s = t)
  | _, _ => false
def bopB : BOp → Operator → Bool
  | .add, .Add => true | .sub, .Sub => true | .mul, .Mult => true | .fdiv, .FloorDiv => true | .mod, .Mod => true | .pow, .Pow => true | _, _ => false
theorem bopB_eq {o : BOp} {p : Operator} (h : bopB o p = true) : p = bop o := by
  cases o <;> cases p <;> first | rfl | cases h
def copB : COp → CmpOp → Bool
  | .eq, .Eq => true | .ne, .NotEq => true | .lt, .Lt => true | .le, .LtE => true | .gt, .Gt => true | .ge, .GtE => true
  | .is_, .Is => true | .isn, .IsNot => true | .in_, .In => true | .nin, .NotIn => true | _, _ => false
theorem copB_eq {o : COp} {p : CmpOp} (h : copB o p = true) : p = cop o := by
  cases o <;> cases p <;> first | rfl | cases h
/-- a target of names -/
def tgB (N : List Str) (sc : Scope) : Tg → Expr → Bool
  | .nm i, .Name x _ => decide (N[i]? = some x) && isLoc sc x
  | .tp l, .Tuple es _ _ => tgsB N sc l es
  | _, _ => false
where
  isLoc (sc : Scope) (x : Str) : Bool := match sc.names.lookup x with | some .local => true | some .cell => true | _ => false
  tgsB (N : List Str) (sc : Scope) : List Nat → List Expr → Bool
    | [], [] => true
    | i :: l, .Name x _ :: es => decide (N[i]? = some x) && isLoc sc x && tgsB N sc l es
    | _, _ => false
def bareName (x : Str) : Expr → Bool
  | .Name y _ => decide (y = x)
  | _ => false
def kwB : List Keyword → List Str
  | [] => []
  | ⟨some x, _, _⟩ :: r => x :: kwB r
  | ⟨none, _, _⟩ :: r => kwB r
def kwAll : List Keyword → Bool
  | [] => true
  | ⟨some _, _, _⟩ :: r => kwAll r
  | ⟨none, _, _⟩ :: _ => false
def tgIn (own : List Nat) : Tg → Bool
  | .nm i => own.contains i
  | .tp l => l.all own.contains
def isT : E → Bool
  | .c (.bool true) => true
  | _ => false
def isRev : Expr → Bool
  | .Slice none none (some (.UnaryOp .USub (.Constant (.int i) _ _) _)) _ => decide (i = 1)
  | _ => false
theorem isRev_eq {e : Expr} (h : isRev e = true) : ∃ k p1 p2 p3, e = .Slice none none (some (.UnaryOp .USub (.Constant (.int 1) k p1) p2)) p3 := by
  unfold isRev at h
  split at h
  · have := of_decide_eq_true h
    subst this
    exact ⟨_, _, _, _, rfl⟩
  · cases h
def zipT : SK → Expr → Bool
  | .zip, .Tuple _ _ _ => true
  | .zip, _ => false
  | _, _ => true
/-- a dict's written keys and values -/
def dctB : List (Key × PyData) → List (Option Expr) → List Expr → Bool
  | [], [], [] => true
  | (k, x) :: r, some (.Constant c _ _) :: ks, .Constant d _ _ :: vs => cstB (keyD k) c && cstB x d && dctB r ks vs
  | _, _, _ => false
mutual
def chkE (Γ : TCx) (N : List Str) : Scope → E → Expr → Bool
  | sc, .c x, .Constant k _ _ => cstB x k
  | sc, .v i, .Name x _ => decide (N[i]? = some x) && isVis sc x && notDbg x
  | sc, .w i, .Name x _ => decide (N[i]? = some x) && isVis sc x && notDbg x
  | sc, .g k, .Name x _ => Γ.hc k && decide (Γ.gm k = x) && isGl sc x && notDbg x
  | sc, .bin o a b, .BinOp l p r _ => bopB o p && chkE Γ N sc a l && chkE Γ N sc b r
  | sc, .neg a, .UnaryOp p e _ => (match p with | .USub => true | _ => false) && chkE Γ N sc a e
  | sc, .not a, .UnaryOp p e _ => (match p with | .Not => true | _ => false) && chkE Γ N sc a e
  | sc, .and a b, .BoolOp p (x :: y :: r) q => (match p with | .And => true | _ => false) && sg a && sg b && chkE Γ N sc a x && chkE Γ N sc b (match r with | [] => y | _ => .BoolOp .And (y :: r) q)
  | sc, .or a b, .BoolOp p (x :: y :: r) q => (match p with | .Or => true | _ => false) && sg a && sg b && chkE Γ N sc a x && chkE Γ N sc b (match r with | [] => y | _ => .BoolOp .Or (y :: r) q)
  | sc, .ife c a b, .IfExp t x y _ => sg a && sg b && chkE Γ N sc c t && chkE Γ N sc a x && chkE Γ N sc b y
  | sc, .cmp o a b, .Compare l [p] [r] _ => copB o p && chkE Γ N sc a l && chkE Γ N sc b r && notSet r
  | sc, .chain o o' a b c, .Compare l [p, p'] [r, r'] _ => copB o p && copB o' p' && chkE Γ N sc a l && chkE Γ N sc b r && chkE Γ N sc c r' && notSet r'
  | sc, .lst l, .List es _ => (sgs l).all id && chkEs Γ N sc l es
  | sc, .tup l, .Tuple es _ _ => (sgs l).all id && chkEs Γ N sc l es
  | sc, .dct kvs, .Dict ks vs _ => dctB kvs ks vs && decide (ks.length ≤ 15) && decide ((kvs.map (·.1)).Nodup) && kvs.all (fun kv => atomD kv.2)
  | sc, .gix i k, .Subscript (.Name x _) (.Constant (.int j) _ _) _ => decide (N[i]? = some x) && isVis sc x && notDbg x && decide (j = k) && decide (k < 3)
  | sc, .ix a i, .Subscript e s _ => plainIxB s && chkE Γ N sc a e && chkE Γ N sc i s
  | sc, .sl a lo hi, .Subscript e (.Slice l u none _) _ => chkE Γ N sc a e && (match l with | none => isNoB lo | some x => !isNoB lo && chkE Γ N sc lo x) && (match u with | none => isNoB hi | some x => !isNoB hi && chkE Γ N sc hi x)
  | sc, .rev a, .Subscript e sl _ => isRev sl && chkE Γ N sc a e
  | sc, .call f l, .Call (.Name x _) es [] _ => Γ.hf f && decide (Γ.nm f = x) && isGl sc x && notDbg x && (sgs l).all id && chkEs Γ N sc l es
  | sc, .callk f l pm ks, .Call (.Name x _) es kws _ => Γ.kw f pm es.length (kwB kws) && decide (Γ.nm f = x) && isGl sc x && notDbg x && kwAll kws && !kws.isEmpty && (sgs l).all id && (sgs ks).all id && chkEs Γ N sc l es && chkKs Γ N sc ks kws
  | sc, .isi a t, .Call (.Name x _) [e, .Name y _] [] _ => decide (x = ("isinstance" : Str)) && decide (y = Str.ofString (tyName t)) && Γ.bl.contains x && Γ.bl.contains y && isGl sc x && isGl sc y && chkE Γ N sc a e && notStar e
  | sc, .isi2 a t u, .Call (.Name x _) [e, .Tuple [.Name y _, .Name z _] _ _] [] _ => decide (x = ("isinstance" : Str)) && decide (y = Str.ofString (tyName t)) && decide (z = Str.ofString (tyName u)) && Γ.bl.contains x && Γ.bl.contains y && Γ.bl.contains z && isGl sc x && isGl sc y && isGl sc z && chkE Γ N sc a e && notStar e
  | sc, .lrg a, .Call (.Name x _) [.Call (.Name y _) [e] [] _] [] _ => decide (x = ("list" : Str)) && decide (y = ("range" : Str)) && Γ.bl.contains x && Γ.bl.contains y && isGl sc x && isGl sc y && chkE Γ N sc a e && notStar e
  | sc, .bi b l, .Call (.Name x _) (e :: es) [] _ => decide (x = biN b) && Γ.bl.contains x && isGl sc x && chkEs Γ N sc l (e :: es)
  | sc, .mt m a l, .Call (.Attribute o x ap) es [] p => plainBase o && decide (ap.endLine = p.line) && chkE Γ N sc a o && (match m with
      | .join => decide (x = ("join" : Str)) && decide (es.length = 1)
      | .bitlen => decide (x = ("bit_length" : Str)) && decide (es.length = 0)) && chkEs Γ N sc l es
  | sc, .lc own tg k src cnd elt, .ListComp el [⟨t, iter, ifs, as⟩] scope _ => decide (as = 0) &&
      blkC N sc scope (own.map fun i => (N.getD i ⟨#[]⟩, i)) && tgB N scope tg t && tgIn own tg && zipT k t && notSet iter && chkSrc Γ N sc k src iter &&
      (match ifs with | [] => isT cnd | [c] => chkE Γ N (relS scope sc) cnd c | _ => false) && sg elt && chkE Γ N (relS scope sc) elt el
  | sc, .atm a, e => chkE Γ N sc a e
  | _, _, _ => false
def chkEs (Γ : TCx) (N : List Str) : Scope → Es → List Expr → Bool
  | _, .nil, [] => true
  | sc, .cons a l, e :: es => notStar e && chkE Γ N sc a e && chkEs Γ N sc l es
  | _, _, _ => false
def chkKs (Γ : TCx) (N : List Str) : Scope → Es → List Keyword → Bool
  | _, .nil, [] => true
  | sc, .cons a l, ⟨_, e, _⟩ :: ks => chkE Γ N sc a e && chkKs Γ N sc l ks
  | _, _, _ => false
/-- what is walked -/
def chkSrc (Γ : TCx) (N : List Str) : Scope → SK → Es → Expr → Bool
  | sc, .seq, .cons a .nil, e => sg a && chkE Γ N sc a e
  | sc, .seqw, .cons a .nil, e => chkE Γ N sc a e
  | sc, .rng1, .cons a .nil, .Call (.Name x _) [e] [] _ => decide (x = ("range" : Str)) && Γ.bl.contains x && isGl sc x && notStar e && chkE Γ N sc a e
  | sc, .rng2, .cons a (.cons b .nil), .Call (.Name x _) [e, e'] [] _ => decide (x = ("range" : Str)) && Γ.bl.contains x && isGl sc x && notStar e && notStar e' && chkE Γ N sc a e && chkE Γ N sc b e'
  | sc, .zip, .cons a (.cons b .nil), .Call (.Name x _) [e, e'] [] _ => decide (x = ("zip" : Str)) && Γ.bl.contains x && isGl sc x && notStar e && notStar e' && chkE Γ N sc a e && chkE Γ N sc b e'
  | _, _, _, _ => false
end
end TL

set_option Elab.async false
set_option linter.all false
set_option maxRecDepth 100000
/-! TL8: what is walked, over trees. -/
namespace TL
open PySem PySem.Spec PyProof.Rows L2

/-- the walk J gives the trees ds, one a turn, wherever all but Y stands as in H -/
def ItD (K : PySem.W.Frag) (Y : List Addr) (J : It) (Z : List Addr) (H : Hp) (ds : List PyData) : Prop :=
  ∀ H' L, (∀ a o, a ∉ Y → H a = some o → Ex H' a o) → (∀ a ∈ L, H a = none) → (∀ z ∈ L ++ Z, H' z ≠ none) → ∀ i,
    (∀ d, ds[i]? = some d → J.go i H' ∧ ∀ x H'', J.yld i H' x H'' → (H'' = H' ∨ ∃ p o, H' p = none ∧ H'' = upd H' p o) ∧ Rp K (mask H'' (L ++ Z)) x d) ∧ (ds.length = i → J.stop i H')
theorem mask_keep {Y Z L : List Addr} {H H' : Hp} (hY : ∀ a ∈ Y, a ∈ Z) (h : ∀ a o, a ∉ Y → H a = some o → Ex H' a o) (hL : ∀ a ∈ L, H a = none) : Le (mask H Z) (mask H' (L ++ Z)) :=
  le_ext (fun a o n e => h a o (fun z => n (hY a z)) e) fun a ha n => by
    rcases List.mem_append.mp ha with z | z
    · exact hL a z
    · exact absurd z n
section
variable {K : PySem.W.Frag} {Y Z : List Addr} {H : Hp}
theorem itd_list {a : Addr} {vs : List V} {ds : List PyData} (hY : ∀ a ∈ Y, a ∈ Z) (ha : a ∉ Y) (h : H a = some (.lst vs)) (r : RpA K (mask H Z) vs ds) : ItD K Y (Itl K a) Z H ds := by
  intro H' L k hL hz i
  have h' := (k a _ ha h).eq fun z => z
  refine ⟨fun d hd => ?_, fun e => ⟨vs, .of h', by rw [r.length, e]; exact Nat.le_refl _⟩⟩
  obtain ⟨v, hv, rv⟩ := r.get hd
  refine ⟨⟨vs, v, .of h', hv⟩, fun x H'' hy => ?_⟩
  obtain ⟨rfl, hx⟩ := hy
  have e := (hx vs (.of h')).symm.trans hv
  cases e
  exact ⟨.inl rfl, Rp.le (mask_keep hY k hL) rv⟩
theorem itd_tup {a : Addr} {vs : List V} {ds : List PyData} (hY : ∀ a ∈ Y, a ∈ Z) (h : SqT K (mask H Z) a vs) (r : RpA K (mask H Z) vs ds) : ItD K Y (Itt K a) Z H ds := by
  intro H' L k hL hz i
  have h' : SqT K H' a vs := mask_le.sqT ((mask_keep hY k hL).sqT h)
  refine ⟨fun d hd => ?_, fun e => ⟨vs, h', by rw [r.length, e]; exact Nat.le_refl _⟩⟩
  obtain ⟨v, hv, rv⟩ := r.get hd
  refine ⟨⟨vs, v, h', hv⟩, fun x H'' hy => ?_⟩
  obtain ⟨rfl, hx⟩ := hy
  have e := (hx vs h').symm.trans hv
  cases e
  exact ⟨.inl rfl, Rp.le (mask_keep hY k hL) rv⟩
theorem itd_str {z : Str} : ItD K Y (Its z) Z H (chars z) := by
  intro H' L k hL hz i
  refine ⟨fun d hd => ?_, fun e => ?_⟩
  · unfold chars at hd
    rw [List.getElem?_map] at hd
    cases q : z.cps.toList[i]? with
    | none => rw [q] at hd; cases hd
    | some c =>
      rw [q] at hd
      cases hd
      have hi : i < z.cps.size := by
        have := (List.getElem?_eq_some_iff.mp q).1
        simpa using this
      refine ⟨hi, fun x H'' hy => ?_⟩
      obtain ⟨rfl, c', hc, rfl⟩ := hy
      have : c = c' := by
        have q' : z.cps[i]? = some c := by simpa using q
        rw [q'] at hc
        exact Option.some.inj hc
      subst this
      exact ⟨.inl rfl, .str _⟩
  · have : (chars z).length = z.cps.size := by unfold chars; rw [List.length_map]; simp
    show z.cps.size ≤ i
    omega
theorem itd_range {lo : Int} {n : Nat} : ItD K Y (Itr lo n) Z H ((List.range n).map fun (m : Nat) => .int (lo + m)) := by
  intro H' L k hL hz i
  refine ⟨fun d hd => ?_, fun e => ?_⟩
  · rw [List.getElem?_map] at hd
    by_cases hi : i < n
    · rw [List.getElem?_range hi] at hd
      cases hd
      refine ⟨hi, fun x H'' hy => ?_⟩
      obtain ⟨rfl, rfl⟩ := hy
      exact ⟨.inl rfl, .int _⟩
    · rw [List.getElem?_eq_none (by simpa using hi)] at hd
      cases hd
  · show n ≤ i
    rw [List.length_map, List.length_range] at e
    omega
theorem itd_zip {a b : Addr} {vs ws : List V} {ds es : List PyData} (hY : ∀ a ∈ Y, a ∈ Z) (ha : a ∉ Y) (hb : b ∉ Y) (h : H a = some (.lst vs)) (h2 : H b = some (.lst ws)) (r : RpA K (mask H Z) vs ds) (r2 : RpA K (mask H Z) ws es) :
    ItD K Y (Itz K a b) Z H (List.zipWith (fun x y => .tuple [x, y]) ds es) := by
  intro H' L k hL hz i
  have h' := (k a _ ha h).eq fun z => z
  have h2' := (k b _ hb h2).eq fun z => z
  refine ⟨fun d hd => ?_, fun e => ?_⟩
  · rw [List.getElem?_zipWith] at hd
    cases q1 : ds[i]? with
    | none => rw [q1] at hd; cases hd
    | some x =>
      cases q2 : es[i]? with
      | none => rw [q1, q2] at hd; cases hd
      | some y =>
        rw [q1, q2] at hd
        cases hd
        obtain ⟨v, hv, rv⟩ := r.get q1
        obtain ⟨w, hw, rw'⟩ := r2.get q2
        refine ⟨⟨vs, ws, v, w, .of h', .of h2', hv, hw⟩, fun z H'' hy => ?_⟩
        obtain ⟨T, x', y', rfl, hT, rfl, f1, f2⟩ := hy
        have e1 := (f1 vs (.of h')).symm.trans hv
        have e2 := (f2 ws (.of h2')).symm.trans hw
        obtain rfl := Option.some.inj e1
        obtain rfl := Option.some.inj e2
        have nT : T ∉ L ++ Z := fun z => hz T z hT
        have l : Le (mask H Z) (mask (upd H' T (.tup [x', y'])) (L ++ Z)) := (mask_keep hY k hL).trans (.of fun c o e => by
          obtain ⟨n1, e⟩ := mask_some e
          have hne : c ≠ T := fun z => by rw [z, hT] at e; cases e
          rw [mask_of n1, upd_ne hne]; exact e)
        refine ⟨.inr ⟨T, _, hT, rfl⟩, .tup (.of (by rw [mask_of nT, upd_same])) (.cons (Rp.le l rv) (.cons (Rp.le l rw') .nil))⟩
  · refine ⟨vs, ws, .of h', .of h2', ?_⟩
    rw [List.length_zipWith] at e
    rw [r.length, r2.length]
    omega
theorem itd_zipT {a b : Addr} {vs ws : List V} {ds es : List PyData} (hY : ∀ a ∈ Y, a ∈ Z) (h : SqT K (mask H Z) a vs) (h2 : SqT K (mask H Z) b ws) (r : RpA K (mask H Z) vs ds) (r2 : RpA K (mask H Z) ws es) :
    ItD K Y (RZ.ItzT K a b) Z H (List.zipWith (fun x y => .tuple [x, y]) ds es) := by
  intro H' L k hL hz i
  have h' : SqT K H' a vs := mask_le.sqT ((mask_keep hY k hL).sqT h)
  have h2' : SqT K H' b ws := mask_le.sqT ((mask_keep hY k hL).sqT h2)
  refine ⟨fun d hd => ?_, fun e => ⟨vs, ws, h', h2', ?_⟩⟩
  · obtain ⟨x, y, q1, q2, rfl⟩ : ∃ x y, ds[i]? = some x ∧ es[i]? = some y ∧ PyData.tuple [x, y] = d := by
      rw [List.getElem?_zipWith] at hd
      cases q1 : ds[i]? with
      | none => rw [q1] at hd; cases hd
      | some x =>
        cases q2 : es[i]? with
        | none => rw [q1, q2] at hd; cases hd
        | some y =>
          rw [q1, q2] at hd
          cases hd
          exact ⟨x, y, rfl, rfl, rfl⟩
    obtain ⟨v, hv, rv⟩ := r.get q1
    obtain ⟨w, hw, rw'⟩ := r2.get q2
    refine ⟨⟨vs, ws, v, w, h', h2', hv, hw⟩, fun z H'' hy => ?_⟩
    obtain ⟨T, x', y', rfl, hT, rfl, f1, f2⟩ := hy
    obtain rfl := Option.some.inj ((f1 vs h').symm.trans hv)
    obtain rfl := Option.some.inj ((f2 ws h2').symm.trans hw)
    have nT : T ∉ L ++ Z := fun z => hz T z hT
    have l : Le (mask H Z) (mask (upd H' T (.tup [x', y'])) (L ++ Z)) := (mask_keep hY k hL).trans (.of fun c o e => by
      obtain ⟨n1, e⟩ := mask_some e
      rw [mask_of n1, upd_ne fun z => by rw [z, hT] at e; cases e]
      exact e)
    exact ⟨.inr ⟨T, _, hT, rfl⟩, .tup (.of (by rw [mask_of nT, upd_same])) (.cons (Rp.le l rv) (.cons (Rp.le l rw') .nil))⟩
  · rw [List.length_zipWith] at e
    rw [r.length, r2.length]
    omega
theorem rpk_at : ∀ {kvs : List (Key × V)} {ds : List (PyData × PyData)} {i : Nat} {d : PyData}, RpK K H kvs ds → (ds.map (·.1))[i]? = some d → ∃ k v, kvs[i]? = some (k, v) ∧ d = keyD k
  | _, _, _, _, .nil, e => by simp at e
  | _, _, 0, _, .cons (k := k) (v := v) a b, e => ⟨k, v, rfl, by simpa using e.symm⟩
  | _, _, i + 1, _, .cons a b, e => by
    obtain ⟨k, v, h1, h2⟩ := rpk_at (i := i) b (by simpa using e)
    exact ⟨k, v, by simpa using h1, h2⟩
theorem itd_keys {d : Addr} {o : Obj} {kvs : List (Key × V)} {ds : List (PyData × PyData)} {H0 : Hp} (hd : d ∉ Y) (h : H d = some (.frz o (.dK kvs))) (r : RpK K H0 kvs ds) : ItD K Y (Itk d o kvs) Z H (ds.map (·.1)) := by
  intro H' L k hL hz i
  have h' := (k d _ hd h).eq fun z => z
  refine ⟨fun x hx => ?_, fun e => ⟨h', by rw [List.length_map] at e; rw [rpk_len r, e]; exact Nat.le_refl _⟩⟩
  obtain ⟨kk, v, e1, rfl⟩ := rpk_at r hx
  refine ⟨⟨h', (List.getElem?_eq_some_iff.mp e1).1⟩, fun x H'' hy => ?_⟩
  obtain ⟨rfl, k2, v2, e2, rfl⟩ := hy
  rw [e1] at e2
  cases e2
  exact ⟨.inl rfl, by cases kk; exact .int _; exact .str _⟩
/-- an iterator just made -/
theorem go_keys {X : Cx} {tg : Expr} {pins : List (Addr × Obj)} {σ : L2.St} {H : Hp} {s : Shared} {d : Addr} {o : Obj} {kvs : List (Key × V)} {R : It → Hp → Prop} (I : Inv X pins σ H s) (hd : H d = some (.frz o (.dK kvs))) (q : R (Itk d o kvs) H) :
    wpAny (model X.prog X.w) X.A (pyIter (.ref d)) (PIE X pins σ tg R) X.xe s := by
  obtain ⟨hs, hgd, hx, es, ep, vs, hdt, hsz, kv, hm⟩ := I.frzK hd
  refine iter_keys hs hgd hx hdt (pi_one (tk := s.toks) I _ (turn_keys _ hdt) ⟨_, Heap.get?_push_size _ rfl, rfl, ?_⟩ q)
  rw [hsz] <;> rfl
theorem go_list {X : Cx} {tg : Expr} {pins : List (Addr × Obj)} {σ : L2.St} {H : Hp} {s : Shared} {a : Addr} {vs : List V} {R : It → Hp → Prop} (I : Inv X pins σ H s) (h : SqL X.K H a vs) (q : R (Itl X.K a) H) :
    wpAny (model X.prog X.w) X.A (pyIter (.ref a)) (PIE X pins σ tg R) X.xe s := by
  obtain ⟨its, rv, p, hz⟩ := I.list h
  refine wpAny_pyIter_list p.isList ?_
  refine ⟨s.heap.objs.size, [s.heap.objs.size], _, _, H, rfl, I.kept (t' := s.toks) fun b o e => Heap.get?_push_of_some _ e, turn_list a _, ⟨_, Heap.get?_push_size _ rfl, rfl, rfl⟩, fun b hb => ?_, q⟩
  have e : b = s.heap.objs.size := by simpa using hb
  subst e
  exact I.fpOk (Nat.le_refl _) (I.hok.fresh (Nat.le_refl _))
theorem go_tup {X : Cx} {tg : Expr} {pins : List (Addr × Obj)} {σ : L2.St} {H : Hp} {s : Shared} {a : Addr} {vs : List V} {R : It → Hp → Prop} (I : Inv X pins σ H s) (h : SqT X.K H a vs) (q : R (Itt X.K a) H) :
    wpAny (model X.prog X.w) X.A (pyIter (.ref a)) (PIE X pins σ tg R) X.xe s := by
  obtain ⟨its, rv, p, hz⟩ := I.tuple h
  refine wpAny_pyIter_tuple (show s.heap.IsTuple a its.toArray from p) ?_
  refine ⟨s.heap.objs.size, [s.heap.objs.size], _, _, H, rfl, I.kept (t' := s.toks) fun b o e => Heap.get?_push_of_some _ e, turn_tuple a _, ⟨_, Heap.get?_push_size _ rfl, rfl, rfl⟩, fun b hb => ?_, q⟩
  have e : b = s.heap.objs.size := by simpa using hb
  subst e
  exact I.fpOk (Nat.le_refl _) (I.hok.fresh (Nat.le_refl _))
theorem go_str {X : Cx} {tg : Expr} {pins : List (Addr × Obj)} {σ : L2.St} {H : Hp} {s : Shared} {x : Str} {t : Tok} {R : It → Hp → Prop} (I : Inv X pins σ H s) (q : R (Its x) H) :
    wpAny (model X.prog X.w) X.A (pyIter (.str x t)) (PIE X pins σ tg R) X.xe s := by
  cases ha : x.cps.all (· < 128)
  · exact wpAny_pyIter_wide ha (pi_one (tk := s.toks) I _ (turn_str _ x t "str_iterator" (.inr rfl)) ⟨_, Heap.get?_push_size _ rfl, rfl, rfl⟩ q)
  · exact wpAny_pyIter_ascii ha (pi_one (tk := s.toks) I _ (turn_str _ x t "str_ascii_iterator" (.inl rfl)) ⟨_, Heap.get?_push_size _ rfl, rfl, rfl⟩ q)
end
/-- what walks: the trees, whoever asks -/
def rdSrc (Γ : TCx) (mg : Str → Option Value) (K : PySem.W.Frag) (Xt : XE) (Ew : XS) (k : SK) (l : Es) : TI := fun σ H R =>
  ∃ G Z n ρ, Stt mg Γ.cn K Xt (Ew σ) G Z H n σ ρ ∧ wpEs Γ.Φ Γ.C Xt l ρ n fun ts n' => srcW k ts fun ds =>
    ∀ J H' G' Z', Gr G Z H G' Z' H' → Ok G' Z' H' n' → (∀ P : List Addr, (∀ p ∈ P, H' p = none) → ItD K G' J (P ++ Z') H' ds) → ((sgs l).all id = true → ItD K Z' J Z' H' ds) → R J H'
theorem mask_new {H : Hp} {Z P : List Addr} (h : ∀ p ∈ P, H p = none) : Le (mask H Z) (mask H (P ++ Z)) := .of fun a o e => by
  obtain ⟨n, e⟩ := mask_some e
  rw [mask_of fun z => ?_]
  · exact e
  · rcases List.mem_append.mp z with z | z
    · rw [h a z] at e; cases e
    · exact n z
/-- from the values of what is walked -/
theorem src_seqw {X : Cx} {tg : Expr} {pins : List (Addr × Obj)} {σ : L2.St} {H : Hp} {s : Shared} {v : V} {u : Value} {t : T} {G Z : List Addr} {n : Nat} {R : It → Hp → Prop} {b : Bool} (I : Inv X pins σ H s) (k : Ok G Z H n) (ru : RelV v u) (w : RV X.K b H G Z v t)
    (h : srcW .seqw [t] fun ds => ∀ J, (∀ P : List Addr, (∀ p ∈ P, H p = none) → ItD X.K G J (P ++ Z) H ds) → (b = true → ItD X.K Z J Z H ds) → R J H) :
    wpAny (model X.prog X.w) X.A (pyIter u) (PIE X pins σ tg R) X.xe s := by
  have sub : ∀ (P : List Addr), ∀ a ∈ G, a ∈ P ++ Z := fun P a h => List.mem_append_right _ (k.sub a h)
  cases t with
  | gen => exact h.elim
  | scr _ => exact h.elim
  | d x =>
    cases x <;> first | exact h.elim | skip
    · obtain rfl := w.weak.str
      obtain ⟨t, rfl⟩ := ru
      exact go_str I (h _ (fun _ _ => itd_str) fun _ => itd_str)
    · obtain ⟨p, vs, rfl, hp, r⟩ := w.weak.lst
      cases ru
      have hg : p ∉ G := by
        rcases w.weak with z | ⟨p', vs', e, h1, _⟩
        · cases z with
          | lst z _ => exact fun y => (mask_some z).1 (k.sub _ y)
        · cases e; exact h1
      refine go_list I (.of hp) (h _ (fun P hP => itd_list (sub P) hg hp (RpA.le (mask_new hP) r)) fun e => ?_)
      subst e
      have w' : Rp X.K (mask H Z) (.ref p) (.list _) := w
      cases w' with
      | lst z r => exact itd_list (fun _ y => y) (mask_some z).1 (mask_some z).2 r
    · rcases w.weak with z | z
      · have z' : Rp X.K (mask H Z) v (.tuple _) := z
        cases z' with
        | tup q r =>
          cases ru
          exact go_tup I (mask_le.sqT q) (h _ (fun P hP => itd_tup (sub P) ((mask_new hP).sqT q) (RpA.le (mask_new hP) r)) fun _ => itd_tup (fun _ y => y) q r)
      · exact z.elim
/-- a dict is locked -/
theorem src_seq {X : Cx} {tg : Expr} {pins : List (Addr × Obj)} {σ : L2.St} {H : Hp} {s : Shared} {v : V} {u : Value} {t : T} {G Z : List Addr} {n : Nat} {R : It → Hp → Prop} (I : Inv X pins σ H s) (k : Ok G Z H n) (ru : RelV v u) (w : RV X.K true H G Z v t)
    (h : srcW .seq [t] fun ds => ∀ J H', Gr G Z H G Z H' → Ok G Z H' n → (∀ P : List Addr, (∀ p ∈ P, H' p = none) → ItD X.K G J (P ++ Z) H' ds) → ItD X.K Z J Z H' ds → R J H') :
    wpAny (model X.prog X.w) X.A (pyIter u) (PIE X pins σ tg R) X.xe s := by
  have old : (srcW .seqw [t] fun ds => ∀ J H', Gr G Z H G Z H' → Ok G Z H' n → (∀ P : List Addr, (∀ p ∈ P, H' p = none) → ItD X.K G J (P ++ Z) H' ds) → ItD X.K Z J Z H' ds → R J H') → wpAny (model X.prog X.w) X.A (pyIter u) (PIE X pins σ tg R) X.xe s := fun h =>
    src_seqw I k ru w (srcW_mono h fun ds q J a b => q J H Gr.refl k a (b rfl))
  cases t with
  | gen => exact h.elim
  | scr _ => exact h.elim
  | d x =>
    cases x <;> first | exact h.elim | exact old h | skip
    rename_i ds
    obtain ⟨hk, h⟩ := h
    have w' : Rp X.K (mask H Z) v (.dict ds) := w
    cases w' with
    | dT _ r => exact (rptk_no r hk).elim
    | dK hd r =>
      cases ru
      rcases hd with hd | ⟨o, hd⟩
      · obtain ⟨nz, hd⟩ := mask_some hd
        obtain ⟨od, I1⟩ := I.lock hd trivial
        exact go_keys I1 upd_same (h _ _ (Gr.lock trivial hd nz) (k.lock nz) (fun P hP => itd_keys (fun z => nz (k.sub _ z)) upd_same r) (itd_keys nz upd_same r))
      · obtain ⟨nz, hd⟩ := mask_some hd
        exact go_keys I hd (h _ _ Gr.refl k (fun P hP => itd_keys (fun z => nz (k.sub _ z)) hd r) (itd_keys nz hd r))
end TL

set_option Elab.async false
set_option linter.all false
set_option maxRecDepth 100000
/-! TL9: the context's facts; states handed on; list comprehensions. -/
namespace TL
open PySem PySem.Spec PyProof.Rows L2

def low (mg : Str → Option Value) (cn : Nat → Str) (K : PySem.W.Frag) (ar : Nat) (sp : TSp) : Sp := fun vs H Q Ew => vs.length = ar ∧
  ∃ G Z n ts, Ok G Z H n ∧ Paired (RpT K H G Z) vs ts ∧ sp ts n (Kq K true G Z H Q) fun er n' =>
    ∀ cls d H' G' Z', Gr G Z H G' Z' H' → Ok G' Z' H' n' → ErAt mg cn K H' Z' er cls d → Ew cls d H'
def kwF {α : Type} (pm : List Nat) (us ws : List α) : List α := pm.filterMap fun j => (us ++ ws)[j]?
/-- the parameters' values: n by place, k by name -/
def kwG {α : Type} (n k : Nat) (pm : List Nat) (us ws : List α) : List α := if us.length = n ∧ ws.length = k then kwF pm us ws else []
structure Fx (Γ : TCx) (X : Cx) : Prop where
  nd : X.N.Nodup
  calm : X.calm = true
  gd : X.A.guards = some []
  un : X.A.units + 64 < cLine
  dg : PySem.W.nsIn X.K cStatics "sys.int_max_str_digits" = some none
  mono : MonoPh Γ.Φ
  ar : ∀ f ts n Q Xt, Γ.Φ f ts n Q Xt → ts.length = Γ.ar f
  bl : ∀ x, Γ.bl.contains x = true → X.mg x = none
  gc : ∀ k, Γ.hc k = true → ∃ u v, X.mg (Γ.gm k) = some u ∧ RelV v u ∧ ∀ H, Rp X.K H v (Γ.C k)
  fn : ∀ f, Γ.hf f = true → ∃ a fd k ps, FnG X.prog X.w X.K X.mg X.base (L2.CX X.prog X.w) k a fd ps (low X.mg Γ.cn X.K ps.length (Γ.Φ f)) ∧ ps.length = Γ.ar f ∧
    Room k X.A ∧ X.mg (Γ.nm f) = some (.ref a) ∧ PySem.W.keepIn X.K (.ref a) = true ∧ Binds X.K fd ps []
  kw : ∀ f pm n ks, Γ.kw f pm n ks = true → ∃ a fd k ps, FnG X.prog X.w X.K X.mg X.base (L2.CX X.prog X.w) k a fd ps (low X.mg Γ.cn X.K ps.length (Γ.Φ f)) ∧ ps.length = Γ.ar f ∧
    Room k X.A ∧ X.mg (Γ.nm f) = some (.ref a) ∧ PySem.W.keepIn X.K (.ref a) = true ∧ KBinds X.K fd ps ks (kwG n ks.length pm) (kwG n ks.length pm)

section
variable {mg : Str → Option Value} {cn : Nat → Str} {K : PySem.W.Frag} {Xt : XE} {Ew : XK} {G Z G' Z' : List Addr} {H H' : Hp} {n n' : Nat} {σ : L2.St} {ρ : Ev} {Q : VK} {s : Bool}
/-- what is wanted, asked further on -/
theorem Kq.lift {r : R} (g : Gr G Z H G' Z' H') (h : Kq K s G Z H Q r n) : Kq K s G' Z' H' Q r n :=
  fun v H2 G2 Z2 g2 o2 w f => h v H2 G2 Z2 (g.trans g2) o2 w fun e => (f e).back g
/-- a value that was there already -/
theorem Kq.same {t : T} {v : V} (h : Kq K s G Z H Q ⟨t, false⟩ n) (o : Ok G Z H n) (r : RV K s H G Z v t) : Q v H :=
  h _ _ _ _ Gr.refl o r fun z => nomatch z
/-- a generator's state, another mask -/
theorem Gr.undks (g : Gr G (dks H G Z) H G' Z' H') (o : Ok G Z H n) : ∃ L, G' = L ++ G ∧ (∀ x ∈ L, H x = none) ∧ Gr G Z H G' (L ++ Z) H' := by
  obtain ⟨L, e1, e2, hL⟩ := g.new
  refine ⟨L, e1, hL, ⟨g.ext, fun a ob ha hz e => ?_, g.dom, L, e1, rfl, hL⟩⟩
  by_cases c : isDk (H a) = true
  · exact g.exz a ob ha (List.mem_append_right _ (List.mem_filter.mpr ⟨hz, c⟩)) e
  · refine (g.ext a ob ha e).eq fun k => c ?_
    rw [e]
    cases ob <;> first | rfl | exact k.elim
theorem Gr.other (g : Gr G (dks H G Z) H G' Z' H') (o : Ok G Z H n) (o' : Ok G' Z' H' n') : ∃ L, G' = L ++ G ∧ Gr G Z H G' (L ++ Z) H' ∧ Ok G' (L ++ Z) H' n' := by
  obtain ⟨L, rfl, hL, g2⟩ := g.undks o
  refine ⟨L, rfl, g2, fun a ha => ?_, fun z hz => ?_, o'.gen⟩
  · rcases List.mem_append.mp ha with z | z
    · exact List.mem_append_left _ z
    · exact List.mem_append_right _ (o.sub a z)
  · rcases List.mem_append.mp hz with q | q
    · exact o'.dom z (o'.sub z (List.mem_append_left _ q))
    · exact g.dom z (o.dom z q)
theorem Stt.other (st : Stt mg cn K Xt Ew G Z H n σ ρ) : Stt mg cn K (fun er n => atomD er.x = true ∧ Xt er n) Ew G (dks H G Z) H n σ (unown ρ) := by
  refine ⟨st.ok.dks, st.env.unown st.ok, fun er n' cls d H' G' Z' x g o e => ?_, by unfold unown; rw [List.length_map]; exact st.len⟩
  obtain ⟨L, rfl, g2, o2⟩ := Gr.other g st.ok o
  refine st.wsh er n' cls d H' (L ++ G) (L ++ Z) x.2 g2 o2 ?_
  obtain ⟨h1, a, v, h2, h3, h4⟩ := e
  exact ⟨h1, a, v, h2, h3, (atom_any (s := true) (t := .d er.x) (G := G) (G' := G) (H' := H') (Y := L ++ Z) (show RV K true H' G Z' v (.d er.x) from h4) x.1 : Rp K (mask H' (L ++ Z)) v er.x)⟩
/-- behind a part: the rest's reading -/
theorem stepA {Ew : XS} {Γ : TCx} {a : E} {F : R → Nat → Prop} {R : V → Hp → Prop} (M : MonoPh Γ.Φ) (st : Stt mg Γ.cn K Xt (Ew σ) G Z H n σ ρ) (h : wpE Γ.Φ Γ.C Xt a ρ n F)
    (k : ∀ x n1 v H1 G1 Z1, F x n1 → Gr G Z H G1 Z1 H1 → Stt mg Γ.cn K Xt (Ew σ) G1 Z1 H1 n1 σ ρ → RV K (sg a) H1 G1 Z1 v x.t → (x.fr = true → Fresh K H H1 Z1 v x.t) → R v H1) : rd Γ mg K Xt Ew a σ H R :=
  ⟨G, Z, n, ρ, st, wpE_mono M a h fun x n1 hx v H1 G1 Z1 g o w f => k x n1 v H1 G1 Z1 hx g (st.mono g o) w f⟩
theorem stepAs {Ew : XS} {Γ : TCx} {l : Es} {F : List T → Nat → Prop} {R : List V → Hp → Prop} (M : MonoPh Γ.Φ) (st : Stt mg Γ.cn K Xt (Ew σ) G Z H n σ ρ) (h : wpEs Γ.Φ Γ.C Xt l ρ n F)
    (k : ∀ ts n1 vs H1 G1 Z1, F ts n1 → Gr G Z H G1 Z1 H1 → Stt mg Γ.cn K Xt (Ew σ) G1 Z1 H1 n1 σ ρ → ArgR K H1 G1 Z1 (sgs l) vs ts → R vs H1) : rds Γ mg K Xt Ew l σ H R :=
  ⟨G, Z, n, ρ, st, wpEs_mono M l h fun x n1 hx vs H1 G1 Z1 g o w => k x n1 vs H1 G1 Z1 hx g (st.mono g o) w⟩
end

/-! ### targets -/
def gsOf : List Nat → TGs
  | [] => gNil
  | i :: l => gCons (gName i) (gsOf l)
def gOf (K : PySem.W.Frag) : Tg → TG
  | .nm i => gName i
  | .tp l => fun v σ H Q => gTup K l.length (gsOf l) v σ H Q ∨ gLst K l.length (gsOf l) v σ H Q
section
variable {X : Cx} {sc : Scope}
theorem pgs_of (nd : X.N.Nodup) (hl : ∀ x, tgB.isLoc sc x = true → Loc X.env.scope x ∧ (X.fn x = true ∨ X.env.scope.names.lookup x = some .local)) : ∀ (l : List Nat) (es : List Expr), tgB.tgsB X.N sc l es = true → PGs X es (gsOf l) ∧ (assignEach es X.env).length = l.length ∧ (assignEach es X.env).findIdx? (·.1) = none
  | [], [], _ => ⟨pgs_nil, rfl, rfl⟩
  | i :: l, .Name x _ :: es, h => by
    unfold tgB.tgsB at h
    simp only [Bool.and_eq_true, decide_eq_true_eq] at h
    obtain ⟨⟨h1, h2⟩, h3⟩ := h
    obtain ⟨h4, h5⟩ := hl x h2
    obtain ⟨p, e, e2⟩ := pgs_of nd hl l es h3
    refine ⟨pgs_cons (pg_name nd h1 h4 h5) p, ?_, ?_⟩
    · show (_ :: assignEach es X.env).length = _
      rw [List.length_cons, e, List.length_cons]
    · show (_ :: assignEach es X.env).findIdx? _ = _
      rw [List.findIdx?_cons, e2]
      rfl
theorem pg_or {t : Expr} {a b : TG} (h : PG X t a) (h' : PG X t b) : PG X t fun v σ H Q => a v σ H Q ∨ b v σ H Q :=
  ⟨fun pins s σ H v u Q I r hw => hw.elim (h.run pins s σ H v u Q I r) (h'.run pins s σ H v u Q I r)⟩
theorem pg_of (hc : X.calm = true) (nd : X.N.Nodup) (hl : ∀ x, tgB.isLoc sc x = true → Loc X.env.scope x ∧ (X.fn x = true ∨ X.env.scope.names.lookup x = some .local)) {tg : Tg} {t : Expr} (h : tgB X.N sc tg t = true) : PG X t (gOf X.K tg) := by
  unfold tgB at h
  split at h
  · simp only [Bool.and_eq_true, decide_eq_true_eq] at h
    obtain ⟨h4, h5⟩ := hl _ h.2
    exact pg_name nd h.1 h4 h5
  · obtain ⟨p, e, e2⟩ := pgs_of nd hl _ _ h
    exact pg_or (pg_tup hc p e e2) (pg_lst hc p e e2)
  · cases h
end

section
variable {K : PySem.W.Frag} {H : Hp} {G Z : List Addr}
theorem EnvR.set {σ : L2.St} {ρ : Ev} {i : Nat} {v : V} {t : T} (h : EnvR K H G Z σ ρ) (hl : ρ.length = σ.length) (r : RpT K H G Z v t) : EnvR K H G Z (σ.set i (some v)) (stA false t i ρ) := by
  intro j b u e
  unfold stA at e
  by_cases hj : i = j
  · subst hj
    by_cases hi : i < ρ.length
    · rw [List.getElem?_set_self hi] at e
      cases e
      exact ⟨v, List.getElem?_set_self (by rw [← hl]; exact hi), fun _ => r, fun z => nomatch z⟩
    · rw [List.getElem?_eq_none (by simpa using hi)] at e; cases e
  · rw [List.getElem?_set_ne hj] at e
    obtain ⟨w, h1, h2⟩ := h j b u e
    exact ⟨w, by rw [List.getElem?_set_ne hj]; exact h1, h2⟩
theorem wipe_set {σ : L2.St} {i : Nat} {o : Option V} : ∀ {vs : List Nat}, i ∈ vs → wipe (σ.set i o) vs = wipe σ vs
  | v :: vs, h => by
    unfold wipe
    by_cases hm : i ∈ vs
    · rw [wipe_set hm]
    · have e : i = v := by
        rcases List.mem_cons.mp h with e | e
        · exact e
        · exact absurd e hm
      subst e
      apply List.ext_getElem?
      intro j
      by_cases hj : i = j
      · subst hj
        by_cases hl : i < σ.length
        · rw [List.getElem?_set_self (by rw [wipe_length, List.length_set]; exact hl), List.getElem?_set_self (by rw [wipe_length]; exact hl)]
        · rw [List.getElem?_eq_none (by rw [List.length_set, wipe_length, List.length_set]; omega), List.getElem?_eq_none (by rw [List.length_set, wipe_length]; omega)]
      · rw [List.getElem?_set_ne hj, List.getElem?_set_ne hj]
        have out : ∀ (τ : L2.St) (ws : List Nat), j ∈ ws → (wipe τ ws)[j]? = if j < τ.length then some none else none := by
          intro τ ws
          induction ws with
          | nil => intro h; cases h
          | cons w ws ih =>
            intro h
            unfold wipe
            by_cases hw : w = j
            · subst hw
              by_cases hl : w < τ.length
              · rw [List.getElem?_set_self (by rw [wipe_length]; exact hl), if_pos hl]
              · rw [List.getElem?_eq_none (by rw [List.length_set, wipe_length]; omega), if_neg hl]
            · rw [List.getElem?_set_ne hw]
              refine ih ?_
              rcases List.mem_cons.mp h with e | e
              · exact absurd e.symm hw
              · exact e
        by_cases hjv : j ∈ vs
        · rw [out _ _ hjv, out _ _ hjv, List.length_set]
        · rw [wipe_out hjv, wipe_out hjv, List.getElem?_set_ne hj]
theorem wipe_idem {σ : L2.St} : ∀ (vs ws : List Nat), (∀ x ∈ ws, x ∈ vs) → wipe (wipe σ ws) vs = wipe σ vs
  | vs, [], _ => rfl
  | vs, w :: ws, h => by
    show wipe ((wipe σ ws).set w none) vs = _
    rw [wipe_set (h w (List.mem_cons_self ..)), wipe_idem vs ws fun x hx => h x (List.mem_cons_of_mem _ hx)]
theorem wipeE_length (ρ : Ev) : ∀ vs : List Nat, (wipeE ρ vs).length = ρ.length
  | [] => rfl
  | v :: vs => by unfold wipeE; rw [List.length_set, wipeE_length ρ vs]
theorem EnvR.wipe {σ : L2.St} {ρ : Ev} (h : EnvR K H G Z σ ρ) : ∀ vs : List Nat, EnvR K H G Z (L2.wipe σ vs) (wipeE ρ vs)
  | [] => h
  | v :: vs => by
    intro j b t e
    unfold wipeE at e
    by_cases hj : v = j
    · subst hj
      by_cases hl : v < (wipeE ρ vs).length
      · rw [List.getElem?_set_self hl] at e; cases e
      · rw [List.getElem?_eq_none (by rw [List.length_set]; omega)] at e; cases e
    · rw [List.getElem?_set_ne hj] at e
      obtain ⟨w, h1, h2⟩ := EnvR.wipe h vs j b t e
      exact ⟨w, by unfold L2.wipe; rw [List.getElem?_set_ne hj]; exact h1, h2⟩
/-- a target's names get the tree -/
theorem gs_ok {own : List Nat} {Q : L2.St → Hp → Prop} : ∀ (l : List Nat) (xs : List PyData) (vs : List V) {σ : L2.St} {ρ ρ' : Ev}, setAll l xs ρ = some ρ' → EnvR K H G Z σ ρ → ρ.length = σ.length → RpA K (mask H Z) vs xs → l.all own.contains = true →
    (∀ σ', EnvR K H G Z σ' ρ' → ρ'.length = σ'.length → L2.wipe σ' own = L2.wipe σ own → Q σ' H) → gsOf l vs σ H Q ∧ vs.length = l.length
  | [], [], _, σ, ρ, ρ', e, h, hl, .nil, _, q => by
    cases e
    exact ⟨⟨rfl, q _ h hl rfl⟩, rfl⟩
  | i :: l, x :: xs, _, σ, ρ, ρ', e, h, hl, .cons a b, ho, q => by
    rw [List.all_cons, Bool.and_eq_true] at ho
    unfold setAll at e
    have h2 : EnvR K H G Z (σ.set i (some _)) (stA false (.d x) i ρ) := h.set hl (show RpT K H G Z _ (.d x) from a)
    obtain ⟨r1, r2⟩ := gs_ok (own := own) (Q := Q) l xs _ e h2 (by unfold stA; rw [List.length_set, List.length_set]; exact hl) b ho.2 fun σ' h1 h3 h4 => q σ' h1 h3 (h4.trans (wipe_set (by simpa using ho.1)))
    exact ⟨⟨_, _, rfl, r1⟩, by rw [List.length_cons, r2, List.length_cons]⟩
theorem tg_ok {own : List Nat} {Q : L2.St → Hp → Prop} {tg : Tg} {x : PyData} {v : V} {σ : L2.St} {ρ ρ' : Ev} (e : asgD tg x ρ = some ρ') (h : EnvR K H G Z σ ρ) (hl : ρ.length = σ.length) (r : Rp K (mask H Z) v x) (ho : tgIn own tg = true)
    (q : ∀ σ', EnvR K H G Z σ' ρ' → ρ'.length = σ'.length → L2.wipe σ' own = L2.wipe σ own → Q σ' H) : gOf K tg v σ H Q := by
  cases tg with
  | nm i =>
    cases e
    exact q _ (h.set hl (show RpT K H G Z v (.d x) from r)) (by unfold stA; rw [List.length_set, List.length_set]; exact hl) (wipe_set (by simpa [tgIn] using ho))
  | tp l =>
    cases x <;> first | cases e | skip
    · cases r with
      | lst hs ra =>
        obtain ⟨r1, r2⟩ := gs_ok (own := own) (Q := Q) l _ _ e h hl ra ho q
        exact .inr ⟨_, _, rfl, .of (mask_some hs).2, r2, r1⟩
    · cases r with
      | tup hs ra =>
        obtain ⟨r1, r2⟩ := gs_ok (own := own) (Q := Q) l _ _ e h hl ra ho q
        exact .inl ⟨_, _, rfl, mask_le.sqT hs, r2, r1⟩
end
end TL

set_option Elab.async false
set_option linter.all false
set_option maxRecDepth 100000
/-! TL10: list comprehensions. -/
namespace TL
open PySem PySem.Spec PyProof.Rows L2

def E0x : XE := fun _ _ => False
def E0s : XS := fun _ => L2.E0
theorem passA {X : Cx} : ∀ σ, PassesAt (L2.CX X.prog X.w) X σ (E0s σ) := fun σ pins H s e s' I h => passL pins σ H s e s' I h
def rdT (Γ : TCx) (mg : Str → Option Value) (K : PySem.W.Frag) (Xt : XE) (Ew : XS) (e : E) : TT := fun σ H Q =>
  ∃ G Z n ρ, Stt mg Γ.cn K Xt (Ew σ) G Z H n σ ρ ∧ wpE Γ.Φ Γ.C Xt e ρ n fun r n' => truW r.t fun b => ∀ H' G' Z', Gr G Z H G' Z' H' → Ok G' Z' H' n' → Q b H'
theorem wsh0 {mg : Str → Option Value} {cn : Nat → Str} {K : PySem.W.Frag} {Ew : XK} {G Z : List Addr} {H : Hp} : Wsh mg cn K E0x Ew G Z H := fun _ _ _ _ _ _ _ x => x.elim
/-- masks with the same members -/
theorem mask_iff {H : Hp} {Z Z' : List Addr} (h : ∀ a, a ∈ Z ↔ a ∈ Z') : mask H Z = mask H Z' := by
  funext a
  unfold mask
  by_cases e : a ∈ Z
  · rw [if_pos e, if_pos ((h a).mp e)]
  · rw [if_neg e, if_neg fun z => e ((h a).mpr z)]
theorem EnvR.lock {K : PySem.W.Frag} {G Z G' Z' : List Addr} {H H' : Hp} {n : Nat} {σ : L2.St} {ρ : Ev} {D : Addr} (k : Ok G Z H n) (h : EnvR K H G Z σ ρ) (hD : H D = none) (g : Gr G Z H G' Z' H') : EnvR K H' G' (D :: Z') σ ρ := by
  have l : Le (mask H Z) (mask H' (D :: Z')) := by
    obtain ⟨L, rfl, rfl, hL⟩ := g.new
    refine le_ext (fun a o n e => g.ext a o (fun z => n (k.sub a z)) e) fun a ha n => ?_
    rcases List.mem_cons.mp ha with z | z
    · rw [z]; exact hD
    · rcases List.mem_append.mp z with z | z
      · exact hL a z
      · exact absurd z n
  intro i b t e
  obtain ⟨v, h1, h2, h3⟩ := h i b t e
  refine ⟨v, h1, fun z => ?_, fun z => ?_⟩
  · cases t with
    | d x => exact Rp.le l (h2 z)
    | gen =>
      obtain ⟨L, rfl, _, _⟩ := g.new
      obtain ⟨a, ha, e⟩ := h2 z
      exact ⟨a, List.mem_append_right _ ha, e⟩
    | scr ns =>
      obtain ⟨a, e, h⟩ := h2 z
      exact ⟨a, e, h.mono g k⟩
  · cases t with
    | gen => exact (h3 z).elim
    | scr _ => exact (h3 z).elim
    | d x =>
      have h3 := h3 z
      cases x with
      | list ds =>
        obtain ⟨p, vs, e, hp, hH, r⟩ := h3
        exact ⟨p, vs, e, notG g hH hp, g.lst hp hH, RpA.le l r⟩
      | dict ds =>
        obtain ⟨p, e, hp, ⟨kvs, hH, r⟩ | ⟨kvs, hH, r⟩⟩ := h3
        · exact ⟨p, e, ⟨notG g hH hp.1, List.mem_cons_of_mem _ (g.inZ hp.2)⟩, .inl ⟨kvs, g.exz p _ hp.1 hp.2 hH, RpK.le l r⟩⟩
        · exact ⟨p, e, ⟨notG g hH hp.1, List.mem_cons_of_mem _ (g.inZ hp.2)⟩, .inr ⟨kvs, g.exz p _ hp.1 hp.2 hH, RpTK.le l r⟩⟩
      | none => exact h3.elim
      | bool b => exact h3.elim
      | int i => exact h3.elim
      | str s => exact h3.elim
      | tuple l => exact h3.elim

theorem lc_rd {Γ : TCx} {mg : Str → Option Value} {K : PySem.W.Frag} {Xt : XE} {Ew : XS} {own : List Nat} {tg : Tg} {k : SK} {src : Es} {cnd elt : E} {tt : TT} {te : TE} (M : MonoPh Γ.Φ) (htg : tgIn own tg = true)
    (ht : ∀ σ H Q, rdT Γ mg K E0x E0s cnd σ H Q → tt σ H Q) (he : ∀ σ H Q, rd Γ mg K E0x E0s elt σ H Q → te σ H Q) (hse : sg elt = true) :
    ∀ σ H Q, rd Γ mg K Xt Ew (.lc own tg k src cnd elt) σ H Q → tLc (rdSrc Γ mg K Xt Ew k src) (gOf K tg) tt te own σ H Q := by
  rintro σ H Q ⟨G, Z, n, ρ, st, h⟩
  unfold wpE at h
  show rdSrc Γ mg K Xt Ew k src σ H _
  refine ⟨G, Z, n, ρ, st, wpEs_mono M src h fun ts n1 h => srcW_mono h fun ds h => ?_⟩
  intro J H1 G1 Z1 g1 o1 it _ D hD
  refine ⟨fun i m H2 => m = ds.length - i ∧ i ≤ ds.length ∧ ∃ G2 Z2 n2 acc vs, Gr G1 Z1 H1 G2 Z2 H2 ∧ Ok G2 (D :: Z2) H2 n2 ∧ D ∉ G2 ∧ H2 D = some (.lst vs) ∧ RpA K (mask H2 (D :: Z2)) vs acc ∧
    lcGo tg (wipeE ρ own) (fun ρ n Q => wpE Γ.Φ Γ.C E0x cnd ρ n fun x n => truW x.t fun b => Q b n) (fun ρ n Q => wpE Γ.Φ Γ.C E0x elt ρ n Q)
      (fun acc n => Kq K true G Z H Q ⟨.d (.list acc), true⟩ n) (ds.drop i) acc n2, ⟨ds.length, by simp, Nat.zero_le _, G1, Z1, n1, [], [], Gr.upd hD, ⟨fun g hg => List.mem_cons_of_mem _ (o1.sub g hg), fun z hz => ?_, (o1.upd hD).gen⟩,
      fun z => o1.there' z hD, upd_same, .nil, h⟩, ?_⟩
  · rcases List.mem_cons.mp hz with e | hz
    · rw [e, upd_same]; simp
    · exact (o1.upd hD).dom z hz
  rintro i m H2 ⟨rfl, hi, G2, Z2, n2, acc, vs, g2, o2, nD, hD2, ra, go⟩
  have zD : D ∉ Z1 := fun z => o1.dom D z hD
  obtain ⟨L, eG, eZ, hL⟩ := g2.new
  by_cases hlt : i < ds.length
  · have hd : ds[i]? = some ds[i] := List.getElem?_eq_getElem hlt
    have itD := it [D] (by simpa using hD) H2 L g2.ext hL (fun z hz => ?_) i
    rotate_left
    · refine o2.dom z ?_
      rw [eZ]
      simp only [List.mem_append, List.mem_cons, List.mem_singleton] at hz ⊢
      rcases hz with h | h | h
      · exact .inr (.inl h)
      · exact .inl (by simpa using h)
      · exact .inr (.inr h)
    obtain ⟨hgo, hy⟩ := itD.1 _ hd
    refine .inr ⟨hgo, fun H3 => i + 1 ≤ ds.length ∧ ∃ G2 Z2 n2 acc vs, Gr G1 Z1 H1 G2 Z2 H3 ∧ Ok G2 (D :: Z2) H3 n2 ∧ D ∉ G2 ∧ H3 D = some (.lst vs) ∧ RpA K (mask H3 (D :: Z2)) vs acc ∧
      lcGo tg (wipeE ρ own) (fun ρ n Q => wpE Γ.Φ Γ.C E0x cnd ρ n fun x n => truW x.t fun b => Q b n) (fun ρ n Q => wpE Γ.Φ Γ.C E0x elt ρ n Q)
        (fun acc n => Kq K true G Z H Q ⟨.d (.list acc), true⟩ n) (ds.drop (i + 1)) acc n2, fun H3 h3 => ⟨ds.length - (i + 1), by omega, rfl, h3⟩, fun x H3 y => ?_⟩
    obtain ⟨hH3, rx⟩ := hy x H3 y
    rw [List.drop_eq_getElem_cons hlt] at go
    obtain ⟨ρ', ea, go⟩ := go
    -- the heap behind the yield
    have g3 : Gr G2 (D :: Z2) H2 G2 (D :: Z2) H3 := by
      rcases hH3 with e | ⟨p, o, hp, e⟩
      · rw [e]; exact Gr.refl
      · rw [e]; exact Gr.upd hp
    have o3 : Ok G2 (D :: Z2) H3 n2 := by
      rcases hH3 with e | ⟨p, o, hp, e⟩
      · rw [e]; exact o2
      · rw [e]; exact o2.upd hp
    have g13 : Gr G1 Z1 H1 G2 Z2 H3 := g2.trans (by
      rcases hH3 with e | ⟨p, o, hp, e⟩
      · rw [e]; exact Gr.refl
      · rw [e]; exact Gr.upd hp)
    have rx' : Rp K (mask H3 (D :: Z2)) x ds[i] := by
      rw [mask_iff (Z' := L ++ ([D] ++ Z1)) fun a => by
        rw [eZ]
        simp only [List.mem_append, List.mem_cons, List.mem_singleton]
        constructor
        · rintro (h | h | h)
          · exact .inr (.inl (by simpa using h))
          · exact .inl h
          · exact .inr (.inr h)
        · rintro (h | h | h)
          · exact .inr (.inl h)
          · exact .inl (by simpa using h)
          · exact .inr (.inr h)]
      exact rx
    have env3 : EnvR K H3 G2 (D :: Z2) (wipe σ own) (wipeE ρ own) := ((st.mono g1 o1).env.lock o1 hD g13).wipe own
    have len3 : (wipeE ρ own).length = (wipe σ own).length := by rw [wipeE_length, wipe_length]; exact st.len
    have hD3 : H3 D = some (.lst vs) := g3.lst nD hD2
    have ra3 : RpA K (mask H3 (D :: Z2)) vs acc := RpA.le (g3.le o2.sub) ra
    refine tg_ok ea env3 len3 rx' htg fun σ' e3 l3 w3 => ⟨w3.trans (wipe_idem own own fun _ h => h), ?_⟩
    refine ht σ' H3 _ ⟨G2, D :: Z2, n2, ρ', ⟨o3, e3, wsh0, l3⟩, wpE_mono M cnd go fun r n4 h4 => truW_mono h4 fun b h4 H4 G4 Y4 g4 o4 => ?_⟩
    -- behind the test
    have split : ∀ {G4 Y4 : List Addr} {H4 : Hp} {n4 : Nat}, Gr G2 (D :: Z2) H3 G4 Y4 H4 → Ok G4 Y4 H4 n4 → ∃ Z4, Gr G1 Z1 H1 G4 Z4 H4 ∧ Ok G4 (D :: Z4) H4 n4 ∧ D ∉ G4 ∧ mask H4 Y4 = mask H4 (D :: Z4) := fun {G4 Y4 H4 n4} g4 o4 => by
      obtain ⟨L4, e1, e2, hL4⟩ := g4.new
      have mem : ∀ a, a ∈ Y4 ↔ a ∈ D :: (L4 ++ Z2) := fun a => by
        rw [e2]
        simp only [List.mem_append, List.mem_cons]
        constructor
        · rintro (h | h | h)
          · exact .inr (.inl h)
          · exact .inl h
          · exact .inr (.inr h)
        · rintro (h | h | h)
          · exact .inr (.inl h)
          · exact .inl h
          · exact .inr (.inr h)
      refine ⟨L4 ++ Z2, g13.trans ⟨g4.ext, fun a o h1 h2 => g4.exz a o h1 (List.mem_cons_of_mem _ h2), g4.dom, L4, e1, rfl, hL4⟩, ⟨fun a ha => (mem a).mp (o4.sub a ha), fun z hz => o4.dom z ((mem z).mpr hz), o4.gen⟩, notG g4 hD3 nD, mask_iff mem⟩
    cases b with
    | false =>
      simp only [Bool.false_eq_true, if_false] at h4 ⊢
      obtain ⟨Z4, q1, q2, q3, q4⟩ := split g4 o4
      exact ⟨hlt, G4, Z4, n4, acc, vs, q1, q2, q3, g4.lst nD hD3, by rw [← q4]; exact RpA.le (g4.le o3.sub) ra3, h4⟩
    | true =>
      simp only [if_true] at h4 ⊢
      have e4 : EnvR K H4 G4 Y4 σ' ρ' := e3.mono g4 o3
      refine he σ' H4 _ ⟨G4, Y4, n4, ρ', ⟨o4, e4, wsh0, l3⟩, wpE_mono M elt h4 fun r n5 h5 y H5 G5 Y5 g5 o5 w5 _ => ?_⟩
      obtain ⟨d, ed, hz, h5⟩ := h5
      have g35 := g4.trans g5
      obtain ⟨Z5, q1, q2, q3, q4⟩ := split g35 o5
      have hD5 : H5 D = some (.lst vs) := g35.lst nD hD3
      have ra5 : RpA K (mask H5 (D :: Z5)) vs acc := by rw [← q4]; exact RpA.le (g35.le o3.sub) ra3
      rw [hse] at w5
      have ry : Rp K (mask H5 (D :: Z5)) y d := by
        rw [← q4]
        have w5 : RpT K H5 G5 Y5 y r.t := w5
        rw [ed] at w5
        exact w5
      have me : mask (upd H5 D (.lst (vs ++ [y]))) (D :: Z5) = mask H5 (D :: Z5) := by
        funext a
        unfold mask
        by_cases ha : a ∈ D :: Z5
        · rw [if_pos ha, if_pos ha]
        · rw [if_neg ha, if_neg ha, upd_ne fun z => ha (by rw [z]; exact List.mem_cons_self ..)]
      refine ⟨vs, hD5, by rw [ra5.length]; exact hz, hlt, G5, Z5, n5, acc ++ [d], vs ++ [y], ⟨fun a o ha e => ?_, fun a o ha hz e => ?_, fun a e => ?_, q1.new⟩, ⟨q2.sub, fun z hz => ?_, fun g hg => ?_⟩, q3, upd_same, ?_, h5⟩
      · have := q1.ext a o ha e
        unfold Ex at this ⊢
        rw [upd_ne (ne_of_none e hD)]; exact this
      · rw [upd_ne (ne_of_none e hD)]; exact q1.exz a o ha hz e
      · by_cases q : a = D
        · rw [q, upd_same]; simp
        · rw [upd_ne q]; exact q1.dom a e
      · by_cases q : z = D
        · rw [q, upd_same]; simp
        · rw [upd_ne q]; exact q2.dom z hz
      · obtain ⟨a, m, c, e, r⟩ := q2.gen g hg
        exact ⟨a, m, c, by rw [upd_ne fun z => q3 (by rw [← z]; exact hg)]; exact e, r⟩
      · rw [me]
        exact ra5.append (.one ry)
  · have e : i = ds.length := by omega
    subst e
    have itD := it [D] (by simpa using hD) H2 L g2.ext hL (fun z hz => ?_) ds.length
    rotate_left
    · refine o2.dom z ?_
      rw [eZ]
      simp only [List.mem_append, List.mem_cons, List.mem_singleton] at hz ⊢
      rcases hz with h | h | h
      · exact .inr (.inl h)
      · exact .inl (by simpa using h)
      · exact .inr (.inr h)
    refine .inl ⟨itD.2 rfl, ?_⟩
    rw [List.drop_length] at go
    have go : Kq K true G Z H Q ⟨.d (.list acc), true⟩ n2 := go
    have ZD : D ∉ Z2 := fun z => by
      rw [eZ] at z
      rcases List.mem_append.mp z with z | z
      · exact nD (by rw [eG]; exact List.mem_append_left _ z)
      · exact zD z
    refine go (.ref D) H2 G2 Z2 (g1.trans g2) ⟨fun g hg => ?_, fun z hz => o2.dom z (List.mem_cons_of_mem _ hz), o2.gen⟩ (Rp.lst (by rw [mask_of ZD]; exact hD2) (RpA.le (mask_sub fun a ha => List.mem_cons_of_mem _ ha) ra)) fun _ => ⟨D, vs, rfl, ?_, hD2, ra⟩
    · rcases List.mem_cons.mp (o2.sub g hg) with z | z
      · exact absurd (z ▸ hg) nD
      · exact z
    · cases q : H D with
      | none => rfl
      | some u => exact absurd hD (g1.dom D (by rw [q]; simp))
end TL

set_option Elab.async false
set_option linter.all false
set_option maxRecDepth 100000
/-! TL11: an expression that agrees has its reading. -/
namespace TL
open PySem PySem.Spec PyProof.Rows L2

theorem vis_of {X : Cx} {sc : Scope} {x : Str} (hs : X.env.scope = sc) (h : isVis sc x = true) : Vis X.env.scope x := by
  rw [hs]
  unfold isVis at h
  unfold Vis
  split at h <;> first | cases h | skip
  · rename_i e; exact .inl e
  · rename_i e; exact .inr (.inl e)
  · rename_i e; exact .inr (.inr e)
theorem gl_of {X : Cx} {sc : Scope} {x : Str} (hs : X.env.scope = sc) (h : isGl sc x = true) : Gl X x := by
  show X.env.scope.names.lookup x = _
  rw [hs]
  unfold isGl at h
  split at h
  · rename_i e; exact e
  · cases h
theorem dbg_of {x : Str} (h : notDbg x = true) : (x == ("__debug__" : Str)) = false ∧ (x == ("__classdict__" : Str)) = false := by
  unfold notDbg at h
  simpa using h
theorem star_of {e : Expr} (h : notStar e = true) (es : List Expr) (env : Env) : starEach (e :: es) env = (false, eval e env) :: starEach es env := by
  cases e <;> first | rfl | cases h
theorem mark_of {e : Expr} (h : notSet e = true) (op : CmpOp) : behindInMarks op e = false := by
  cases e <;> first | rfl | cases h
theorem fold_of {e : Expr} (h : notSet e = true) (env : Env) : ∀ x, foldedSetIterable e env x = pure x := by
  intro x
  cases e <;> first | rfl | cases h
theorem base_of {e : Expr} {f : Str} (h : plainBase e = true) (env : Env) : attributeBase e f env (eval e env) = eval e env := by
  cases e <;> first | rfl | cases h
theorem pix_of {e : Expr} (h : plainIxB e = true) : PlainIx e := by
  intro o i
  cases e <;> first | rfl | cases h
theorem bi_boot (b : Bi) : bootBuiltins (biN b) = some (biV b) := by cases b <;> decide +kernel
theorem bi_dbg (b : Bi) : (biN b == ("__debug__" : Str)) = false ∧ biN b ≠ "__name__" := by cases b <;> decide +kernel
theorem ty_boot (t : TyN) : bootBuiltins (Str.ofString (tyName t)) = some (.type (tyName t)) := by cases t <;> decide +kernel
theorem ty_dbg (t : TyN) : (Str.ofString (tyName t) == ("__debug__" : Str)) = false ∧ Str.ofString (tyName t) ≠ "__name__" := by cases t <;> decide +kernel

/-- built-ins and built-in classes alike -/
theorem pe_bi {X : Cx} {b : Bi} {r : List V → Hp → VK → Prop} {p pos : Pos} {e : Expr} {es : List Expr} {t : TA} (hc : CallR X (biV b) r) (hg : Gl X (biN b)) (hm : X.mg (biN b) = none) (ha : PA X (e :: es) t)
    (he : starEach (e :: es) X.env = (false, eval e X.env) :: starEach es X.env) (hpl : (backTo pos (starEach es X.env)).any (·.1) = false) : PE X (.Call (.Name (biN b) p) (e :: es) [] pos) (tCB r t) := by
  have h1 := (bi_dbg b).1
  have h2 := (bi_dbg b).2
  have h3 := bi_boot b
  cases b <;> first
    | exact pe_callB hc hg hm h3 ha h2 h1 he hpl
    | exact pe_callTy hc hg hm h3 ha h2 h1 he hpl
theorem stars_of {Γ : TCx} {N : List Str} {sc : Scope} {env : Env} {pos : Pos} : ∀ {l : Es} {es : List Expr}, chkEs Γ N sc l es = true → (backTo pos (starEach es env)).any (·.1) = false
  | .nil, [], _ => rfl
  | .cons a l, e :: es, h => by
    unfold chkEs at h
    simp only [Bool.and_eq_true] at h
    rw [star_of h.1.1]
    show (false || _) = false
    rw [Bool.false_or]
    exact stars_of h.2
  | .nil, _ :: _, h => by unfold chkEs at h; cases h
  | .cons _ _, [], h => by unfold chkEs at h; cases h
theorem datas_rp {K : PySem.W.Frag} {H : Hp} {G Z : List Addr} : ∀ {ts : List T} {vs : List V} {ds : List PyData}, Paired (RpT K H G Z) vs ts → datas ts = some ds → RpA K (mask H Z) vs ds
  | [], _, _, .nil, e => by cases e; exact .nil
  | .d x :: ts, _, ds, .cons a b, e => by
    unfold datas at e
    cases q : datas ts with
    | none => rw [q] at e; cases e
    | some es =>
      rw [q] at e
      cases e
      exact .cons a (datas_rp b q)
theorem kwF_rel {α β : Type} {F : α → β → Prop} {xs ys : List α} {us ws : List β} (h : Paired F xs us) (h' : Paired F ys ws) : ∀ (pm : List Nat), Paired F (kwF pm xs ys) (kwF pm us ws) := by
  have app : Paired F (xs ++ ys) (us ++ ws) := by
    induction h with
    | nil => exact h'
    | cons a b ih => exact .cons a ih
  intro pm
  unfold kwF
  generalize hx : xs ++ ys = zs at app ⊢
  generalize hu : us ++ ws = rs at app ⊢
  have get : ∀ j : Nat, (zs[j]? = none ∧ rs[j]? = none) ∨ ∃ a b, zs[j]? = some a ∧ rs[j]? = some b ∧ F a b := by
    clear hx hu
    induction app with
    | nil => intro j; exact .inl (by simp)
    | cons a b ih =>
      intro j
      cases j with
      | zero => exact .inr ⟨_, _, rfl, rfl, a⟩
      | succ j => simpa using ih j
  induction pm with
  | nil => exact .nil
  | cons j pm ih =>
    rcases get j with ⟨e1, e2⟩ | ⟨a, b, e1, e2, f⟩
    · rw [List.filterMap_cons_none e1, List.filterMap_cons_none e2]
      exact ih
    · rw [List.filterMap_cons_some e1, List.filterMap_cons_some e2]
      exact .cons f ih
theorem kwF_map {α : Type} {us ws : List α} : ∀ (pm : List Nat) (zs : List α), pm.mapM (fun j => (us ++ ws)[j]?) = some zs → kwF pm us ws = zs
  | [], zs, e => by cases e; rfl
  | j :: pm, zs, e => by
    rw [List.mapM_cons] at e
    cases q : (us ++ ws)[j]? with
    | none => rw [q] at e; cases e
    | some a =>
      rw [q] at e
      cases q2 : pm.mapM (fun j => (us ++ ws)[j]?) with
      | none => rw [q2] at e; cases e
      | some r =>
        rw [q2] at e
        cases e
        unfold kwF
        rw [List.filterMap_cons_some q]
        have := kwF_map (us := us) (ws := ws) pm r q2
        unfold kwF at this
        rw [this]
theorem kwG_eq {α : Type} {n k : Nat} {pm : List Nat} {us ws : List α} (h1 : us.length = n) (h2 : ws.length = k) : kwG n k pm us ws = kwF pm us ws := if_pos ⟨h1, h2⟩
theorem argR_len {K : PySem.W.Frag} {H : Hp} {G Z : List Addr} : ∀ {ss : List Bool} {vs : List V} {ts : List T}, ArgR K H G Z ss vs ts → vs.length = ss.length
  | [], [], [], _ => rfl
  | _ :: ss, _ :: vs, _ :: ts, h => by rw [List.length_cons, List.length_cons, argR_len h.2]
  | [], _ :: _, _, h => h.elim
  | [], [], _ :: _, h => h.elim
  | _ :: _, [], _, h => h.elim
  | _ :: _, _ :: _, [], h => h.elim
theorem chkEs_len {Γ : TCx} {N : List Str} {sc : Scope} : ∀ {l : Es} {es : List Expr}, chkEs Γ N sc l es = true → (sgs l).length = es.length
  | .nil, [], _ => rfl
  | .cons a l, e :: es, h => by
    unfold chkEs at h
    simp only [Bool.and_eq_true] at h
    show (sgs l).length + 1 = _
    rw [chkEs_len h.2, List.length_cons]
  | .nil, _ :: _, h => by unfold chkEs at h; cases h
  | .cons _ _, [], h => by unfold chkEs at h; cases h
theorem chkKs_len {Γ : TCx} {N : List Str} {sc : Scope} : ∀ {l : Es} {es : List Keyword}, chkKs Γ N sc l es = true → (sgs l).length = es.length
  | .nil, [], _ => rfl
  | .cons a l, ⟨x, e, p⟩ :: es, h => by
    unfold chkKs at h
    simp only [Bool.and_eq_true] at h
    show (sgs l).length + 1 = _
    rw [chkKs_len h.2, List.length_cons]
  | .nil, _ :: _, h => by unfold chkKs at h; cases h
  | .cons _ _, [], h => by unfold chkKs at h; cases h
theorem kwB_len : ∀ {kws : List Keyword}, kwAll kws = true → (kwB kws).length = kws.length
  | [], _ => rfl
  | ⟨some x, e, p⟩ :: r, h => by
    show (kwB r).length + 1 = _
    rw [kwB_len (kws := r) h, List.length_cons]
  | ⟨none, _, _⟩ :: _, h => by cases h
/-- only keywords -/
theorem pg_callK0 {X : Cx} {CX : CXT} {k : Nat} {f : Addr} {fd : FuncData} {ps : List Str} {sp : Sp} {E : L2.St → XK} {x : Str} {p pos : Pos} {tk : TA} {ks : List Str} {g : List Value → List Value → List Value}
    {gV : List V → List V → List V} {kws : List Keyword} (F : FnG X.prog X.w X.K X.mg X.base CX k f fd ps sp) (hr : Room k X.A) (hg : X.A.guards = some []) (hgl : Gl X x) (hm : X.mg x = some (.ref f))
    (hk : PySem.W.keepIn X.K (.ref f) = true) (hb : KBinds X.K fd ps ks g gV) (hx : ∀ σ, PassesAt CX X σ (E σ)) (hkw : PK X kws tk)
    (hall : (backToKw pos (keywordEach kws X.env)).all (·.1.isSome) = true) (hks : (backToKw pos (keywordEach kws X.env)).filterMap (·.1) = ks) (hdb : (x == ("__debug__" : Str)) = false)
    (hpl : ((backTo pos (starEach [] X.env)).any (·.1) || (backToKw pos (keywordEach kws X.env)).any (·.1.isNone)) = false) :
    PE X (.Call (.Name x p) [] kws pos) (fun σ H Q => tk σ H fun zs H2 => sp (gV [] zs) H2 Q (E σ)) := by
  refine ⟨fun pins s σ H Q I h => ?_⟩
  refine wpAny_Call_Name_kw (ld_glob I hgl hm ?_ hdb)
  refine PySem.W.callWith_KW0 (h₀ := X.base) I.ok.mod.kin hk hall (thn (hkw.run pos pins s σ H _ I h) fun ws s2 ⟨zs, H2, I2, rz, q2⟩ => ⟨I2.kIn, ?_⟩) hpl
  rw [hks]
  exact grun (args := ⟨[], ks.zip ws⟩) F hr hg (hx σ) I2 (fun hl => hb.to s2 [] ws I2.kIn hl) (hb.rel .nil rz) q2
theorem kw_names {env : Env} {pos : Pos} : ∀ {kws : List Keyword}, kwAll kws = true → (backToKw pos (keywordEach kws env)).all (·.1.isSome) = true ∧ (backToKw pos (keywordEach kws env)).filterMap (·.1) = kwB kws ∧ (backToKw pos (keywordEach kws env)).any (·.1.isNone) = false
  | [], _ => ⟨rfl, rfl, rfl⟩
  | ⟨some x, e, p⟩ :: r, h => by
    obtain ⟨h1, h2, h3⟩ := kw_names (env := env) (pos := pos) (kws := r) h
    refine ⟨?_, ?_, ?_⟩
    · show (true && _) = true
      rw [Bool.true_and]; exact h1
    · show x :: _ = x :: _
      rw [← h2]; rfl
    · show (false || _) = false
      rw [Bool.false_or]; exact h3
  | ⟨none, _, _⟩ :: _, h => by cases h
end TL

set_option Elab.async false
set_option linter.all false
set_option maxRecDepth 100000
set_option maxHeartbeats 2000000
/-! TL12: the theorem about expressions. -/
namespace TL
open PySem PySem.Spec PyProof.Rows L2

def bV : Bool → V → Option (Option Int)
  | true, _ => some none
  | false, .int i => some (some i)
  | _, _ => none
theorem bV_of {b : Bool} {K : PySem.W.Frag} {H : Hp} {G Z : List Addr} {v : V} {t : T} {i : Option Int} (w : RW K H G Z v t) (h : bnd b t = some i) : bV b v = some i := by
  cases b with
  | true => exact h
  | false =>
    cases t with
    | gen => cases h
    | scr _ => cases h
    | d x =>
      cases x <;> cases h
      obtain rfl := w.int
      rfl
theorem rcv_join {t : T} (h : rcv .join t) : ∃ z, t = .d (.str z) := by
  cases t with
  | gen => exact h.elim
  | scr _ => exact h.elim
  | d x => cases x <;> first | exact ⟨_, rfl⟩ | exact h.elim
theorem rcv_bitlen {t : T} (h : rcv .bitlen t) : ∃ z, t = .d (.int z) := by
  cases t with
  | gen => exact h.elim
  | scr _ => exact h.elim
  | d x => cases x <;> first | exact ⟨_, rfl⟩ | exact h.elim
theorem mtW_join {z : Str} {t : T} {P : R → Prop} (h : mtW .join (.d (.str z)) [t] P) : ∃ xs ys, t = .d (.list xs) ∧ strsOf xs = some ys ∧ (ys.map (·.length)).sum + ys.length * z.length ≤ 16777216 ∧ P ⟨.d (.str (Txt.join z ys)), false⟩ := by
  cases t with
  | gen => exact h.elim
  | scr _ => exact h.elim
  | d x =>
    cases x <;> first | exact h.elim | skip
    obtain ⟨ys, a, b, c⟩ := h
    exact ⟨_, ys, rfl, a, b, c⟩
theorem merge_nd : ∀ (kvs acc : List (Key × V)), ((acc ++ kvs).map (·.1)).Nodup → mergeK acc kvs = acc ++ kvs
  | [], acc, _ => by show acc = _; rw [List.append_nil]
  | kv :: kvs, acc, h => by
    have e : putK acc kv.1 kv.2 = acc ++ [kv] := by
      unfold putK
      rw [if_neg]
      intro z
      rw [List.any_eq_true] at z
      obtain ⟨q, hq, e⟩ := z
      have e := of_decide_eq_true e
      rw [List.map_append, List.nodup_append] at h
      exact h.2.2 q.1 (List.mem_map_of_mem hq) kv.1 (by simp) e
    show mergeK (putK acc kv.1 kv.2) kvs = _
    rw [e, merge_nd kvs (acc ++ [kv]) (by simpa using h)]
    simp
theorem dctB_len : ∀ {kvs : List (Key × PyData)} {ks : List (Option Expr)} {vs : List Expr}, dctB kvs ks vs = true → ks.length = kvs.length
  | [], [], [], _ => rfl
  | [], [], _ :: _, h => by cases h
  | [], _ :: _, _, h => by cases h
  | (k, x) :: r, [], _, h => by cases h
  | (k, x) :: r, none :: ks, vs, h => by cases h
  | (k, x) :: r, some e :: ks, [], h => by cases e <;> cases h
  | (k, x) :: r, some e :: ks, v :: vs, h => by
    cases e <;> first | cases h | skip
    cases v <;> first | cases h | skip
    unfold dctB at h
    simp only [Bool.and_eq_true] at h
    rw [List.length_cons, List.length_cons, dctB_len h.2]
theorem pe_cst {X : Cx} {x : PyData} {k : Const} {j : Nat} {q : Pos} (h : cstB x k = true) : PE X (.Constant k j q) (tC (cV x)) := by
  cases x <;> cases k <;> first | cases h | skip
  · exact pe_non
  · have e := eq_of_beq (show (_ == _) = true from h)
    subst e
    exact pe_bl
  · have e := eq_of_beq (show (_ == _) = true from h)
    subst e
    exact pe_int
  · have e := of_decide_eq_true (show decide _ = true from h)
    subst e
    exact pe_str
theorem cV_key (k : Key) : cV (keyD k) = kV k := by cases k <;> rfl
theorem dct_pps {X : Cx} {pos : Pos} : ∀ (kvs : List (Key × PyData)) {ks : List (Option Expr)} {vs : List Expr}, dctB kvs ks vs = true →
    PPs X pos ks vs (kvs.map fun kv => (tC (kV kv.1), tC (cV kv.2))) ∧ ks.all (·.isSome) = true ∧ ks.length = vs.length ∧
      ∀ (σ : L2.St) (H : Hp) (Q : List (V × V) → Hp → Prop), Q (kvs.map fun kv => (kV kv.1, cV kv.2)) H → tPairs (kvs.map fun kv => (tC (kV kv.1), tC (cV kv.2))) σ H Q
  | [], [], [], _ => ⟨pps_nil, rfl, rfl, fun _ _ _ h => h⟩
  | [], [], _ :: _, h => by cases h
  | [], _ :: _, _, h => by cases h
  | (k, x) :: r, [], _, h => by cases h
  | (k, x) :: r, none :: ks, vs, h => by cases h
  | (k, x) :: r, some e :: ks, [], h => by cases e <;> cases h
  | (k, x) :: r, some e :: ks, v :: vs, h => by
    cases e <;> first | cases h | skip
    cases v <;> first | cases h | skip
    unfold dctB at h
    simp only [Bool.and_eq_true] at h
    obtain ⟨⟨h1, h2⟩, h3⟩ := h
    obtain ⟨p1, p2, p3, p4⟩ := dct_pps (X := X) (pos := pos) r h3
    refine ⟨pps_cons (by rw [← cV_key]; exact pe_cst h1) (pe_cst h2) p1, by rw [List.all_cons, p2]; rfl, by rw [List.length_cons, List.length_cons, p3], fun σ H Q h => ?_⟩
    exact p4 σ H _ h
def plainT : Expr → Bool
  | .UnaryOp .Not _ _ => false
  | .BoolOp _ _ _ => false
  | .IfExp _ _ _ _ => false
  | .Compare _ _ _ _ => false
  | _ => true
theorem plain_true {e : Expr} {env : Env} (h : plainT e = true) : ∀ whole, isTrue e env whole = (do let v ← whole; standAt e.pos; holding [v] (truthy v)) := by
  intro whole
  cases e <;> first | rfl | cases h | skip
  rename_i op _ _
  cases op <;> first | rfl | cases h
section
variable {X : Cx} {a b c : Expr} {pos : Pos}
def tIfT (t ta tb : TT) : TT := fun σ H Q => t σ H fun c H1 => if c = true then ta σ H1 Q else tb σ H1 Q
theorem pt_ife {tA ta tb : TT} (hc : PT X c tA) (ha : PT X a ta) (hb : PT X b tb) : PT X (.IfExp c a b pos) (tIfT tA ta tb) := by
  refine ⟨fun pins s σ H Q I h => ?_⟩
  show wpAny _ _ (do
    if ← isTrue c X.env (eval c X.env) then isTrue a X.env (eval a X.env) else isTrue b X.env (eval b X.env)) _ _ s
  refine wpAny_bind (thn (hc.run pins s σ H _ I h) fun d s1 ⟨H1, I1, q1⟩ => ?_)
  cases d with
  | true => exact ha.run pins s1 σ H1 Q I1 q1
  | false => exact hb.run pins s1 σ H1 Q I1 q1
theorem pw_of {op : BoolOp} {vs : List Expr} {t : TT} (h : PT X (.BoolOp op vs pos) t) : PW X (.BoolOp op vs pos) t :=
  ⟨fun _ pins s σ H Q I q => h.run pins s σ H Q I q⟩
theorem pw_and2 {y : Expr} {r : List Expr} {t : TT} (h : PT X (match r with | [] => y | _ => .BoolOp .And (y :: r) pos) t) : PW X (.BoolOp .And (y :: r) pos) t := by
  cases r with
  | nil => exact pw_and1 h
  | cons z r => exact pw_of h
theorem pw_or2 {y : Expr} {r : List Expr} {t : TT} (h : PT X (match r with | [] => y | _ => .BoolOp .Or (y :: r) pos) t) : PW X (.BoolOp .Or (y :: r) pos) t := by
  cases r with
  | nil => exact pw_or1 h
  | cons z r => exact pw_of h
end
section
variable {Γ : TCx}
/-- from truth: a test's wish -/
theorem tru_step {K : PySem.W.Frag} {H1 : Hp} {G1 Z1 : List Addr} {n1 : Nat} {v : V} {t : T} {P : Bool → Prop} (o : Ok G1 Z1 H1 n1) (w : RW K H1 G1 Z1 v t) (h : truW t P) : ∃ k, TruV K v H1 k ∧ P k := by
  cases t with
  | gen => exact h.elim
  | scr _ => exact h.elim
  | d x =>
    refine ⟨truD x, tru_of (w.data o) h.1 (fun kvs e => ?_), h.2⟩
    subst e
    exact h.1
theorem src_rng1 {t : T} {P : List PyData → Prop} (h : srcW .rng1 [t] P) : ∃ j, t = .d (.int j) ∧ -(2 ^ 62) ≤ j ∧ j < 2 ^ 62 ∧ P ((List.range j.toNat).map fun (m : Nat) => .int m) := by
  cases t with
  | gen => exact h.elim
  | scr _ => exact h.elim
  | d x => cases x <;> first | exact ⟨_, rfl, h⟩ | exact h.elim
theorem src_rng2 {t u : T} {P : List PyData → Prop} (h : srcW .rng2 [t, u] P) : ∃ i j, t = .d (.int i) ∧ u = .d (.int j) ∧ (-(2 ^ 62) ≤ i ∧ i < 2 ^ 62 ∧ -(2 ^ 62) ≤ j ∧ j < 2 ^ 62) ∧ P ((List.range (j - i).toNat).map fun (m : Nat) => .int (i + m)) := by
  cases t with
  | gen => exact h.elim
  | scr _ => exact h.elim
  | d x => cases u with
    | gen => cases x <;> exact h.elim
    | scr _ => cases x <;> exact h.elim
    | d y => cases x <;> cases y <;> first | exact ⟨_, _, rfl, rfl, h⟩ | exact h.elim
theorem src_zip {t u : T} {P : List PyData → Prop} (h : srcW .zip [t, u] P) : ∃ xs ys, ((t = .d (.list xs) ∧ u = .d (.list ys)) ∨ (t = .d (.tuple xs) ∧ u = .d (.tuple ys))) ∧ P (List.zipWith (fun x y => .tuple [x, y]) xs ys) := by
  cases t with
  | gen => exact h.elim
  | scr _ => exact h.elim
  | d x => cases u with
    | gen => cases x <;> exact h.elim
    | scr _ => cases x <;> exact h.elim
    | d y => cases x <;> cases y <;> first | exact ⟨_, _, .inl ⟨rfl, rfl⟩, h⟩ | exact ⟨_, _, .inr ⟨rfl, rfl⟩, h⟩ | exact h.elim
theorem rv_tup {b : Bool} {K : PySem.W.Frag} {H : Hp} {G Z : List Addr} {v : V} {xs : List PyData} (w : RV K b H G Z v (.d (.tuple xs))) : ∃ p vs, v = .ref p ∧ SqT K (mask H Z) p vs ∧ RpA K (mask H Z) vs xs := by
  rcases w.weak with z | z
  · have y : Rp K (mask H Z) v (.tuple xs) := z
    cases y with
    | tup q r => exact ⟨_, _, rfl, q, r⟩
  · exact z.elim
theorem rv_list {b : Bool} {K : PySem.W.Frag} {H : Hp} {G Z : List Addr} {n : Nat} {v : V} {xs : List PyData} (k : Ok G Z H n) (w : RV K b H G Z v (.d (.list xs))) :
    ∃ p vs, v = .ref p ∧ H p = some (.lst vs) ∧ RpA K (mask H Z) vs xs ∧ p ∉ G ∧ (b = true → p ∉ Z) := by
  obtain ⟨p, vs, rfl, hp, r⟩ := w.weak.lst
  refine ⟨p, vs, rfl, hp, r, ?_, fun e => ?_⟩
  · rcases w.weak with z | ⟨p', vs', e, h1, _⟩
    · cases z with
      | lst z _ => exact fun y => (mask_some z).1 (k.sub _ y)
    · cases e; exact h1
  · subst e
    have w' : Rp K (mask H Z) (.ref p) (.list _) := w
    cases w' with
    | lst z r => exact (mask_some z).1
/-- a test by its value -/
theorem plain_pt {X : Cx} {Xt : XE} {Ew : XS} {e : E} {pe : Expr} (M : MonoPh Γ.Φ) (hp : plainT pe = true) (h : PE X pe (rd Γ X.mg X.K Xt Ew e)) : PT X pe (rdT Γ X.mg X.K Xt Ew e) := by
  refine PT.imp (pt_truth h (plain_true hp)) ?_
  rintro σ H Q ⟨G, Z, n, ρ, st, h⟩
  show rd Γ X.mg X.K Xt Ew e σ H _
  refine stepA M st h fun x n1 v H1 G1 Z1 h g1 s1 w1 _ => ?_
  obtain ⟨k, tk, h⟩ := tru_step s1.ok w1.weak h
  exact ⟨k, tk, h H1 G1 Z1 g1 s1.ok⟩
theorem truW_get {t : T} {P : Bool → Prop} (h : truW t P) : ∃ x, t = .d x ∧ fitD x ∧ P (truD x) := by
  cases t with
  | gen => exact h.elim
  | scr _ => exact h.elim
  | d x => exact ⟨x, rfl, h.1, h.2⟩
mutual
theorem sndE : ∀ (e : E) {X : Cx} {sc : Scope} {pe : Expr} (Xt : XE) (Ew : XS), Fx Γ X → X.env.scope = sc → (∀ σ, PassesAt (L2.CX X.prog X.w) X σ (Ew σ)) → chkE Γ X.N sc e pe = true → PE X pe (rd Γ X.mg X.K Xt Ew e)
  | .c x, X, sc, pe, Xt, Ew, fx, hsc, hp, h => by
    unfold chkE at h
    cases pe <;> first | cases h | skip
    rename_i k _ _
    have h : cstB x k = true := h
    have key : ∀ (v : V) {j : Nat} {q : Pos}, Rp X.K (fun _ => none) v x → PE X (.Constant k j q) (tC v) → PE X (.Constant k j q) (rd Γ X.mg X.K Xt Ew (.c x)) := fun v _ _ r p => PE.imp p fun σ H Q hh => by
      obtain ⟨G, Z, n, ρ, st, h⟩ := hh
      unfold wpE at h
      exact Kq.same h st.ok (Rp.le (Le.of fun _ _ e => by cases e) r)
    cases x <;> cases k <;> first | cases h | skip
    · exact key _ .non pe_non
    · have e := eq_of_beq (show (_ == _) = true from h)
      subst e
      exact key _ (.bl _) pe_bl
    · have e := eq_of_beq (show (_ == _) = true from h)
      subst e
      exact key _ (.int _) pe_int
    · have e := of_decide_eq_true (show decide _ = true from h)
      subst e
      exact key _ (.str _) pe_str
  | .v i, X, sc, pe, Xt, Ew, fx, hsc, hp, h => by
    unfold chkE at h
    cases pe <;> first | cases h | skip
    simp only [Bool.and_eq_true, decide_eq_true_eq] at h
    refine PE.imp (pe_var h.1.1 (vis_of hsc h.1.2) (dbg_of h.2).1 (dbg_of h.2).2) ?_
    rintro σ H Q ⟨G, Z, n, ρ, st, h⟩
    unfold wpE at h
    obtain ⟨t, e, h⟩ := h
    obtain ⟨v, e1, e2, _⟩ := st.env i false t e
    exact ⟨v, e1, Kq.same h st.ok (e2 rfl)⟩
  | .w i, X, sc, pe, Xt, Ew, fx, hsc, hp, h => by
    unfold chkE at h
    cases pe <;> first | cases h | skip
    simp only [Bool.and_eq_true, decide_eq_true_eq] at h
    refine PE.imp (pe_var h.1.1 (vis_of hsc h.1.2) (dbg_of h.2).1 (dbg_of h.2).2) ?_
    rintro σ H Q ⟨G, Z, n, ρ, st, h⟩
    unfold wpE at h
    obtain ⟨b, t, e, h⟩ := h
    obtain ⟨v, e1, e2, e3⟩ := st.env i b t e
    refine ⟨v, e1, Kq.same (s := false) h st.ok ?_⟩
    cases b with
    | false => exact .inl (e2 rfl)
    | true => exact .inr (e3 rfl)
  | .g k, X, sc, pe, Xt, Ew, fx, hsc, hp, h => by
    unfold chkE at h
    cases pe <;> first | cases h | skip
    simp only [Bool.and_eq_true, decide_eq_true_eq] at h
    obtain ⟨⟨⟨h1, h2⟩, h3⟩, h4⟩ := h
    obtain ⟨u, v, m, r, a⟩ := fx.gc k h1
    refine PE.imp (pe_glob (gl_of hsc h3) (h2 ▸ m) r (dbg_of h4).1) ?_
    rintro σ H Q ⟨G, Z, n, ρ, st, h⟩
    unfold wpE at h
    exact Kq.same h st.ok (a _)
  | .bin o a b, X, sc, pe, Xt, Ew, fx, hsc, hp, h => by
    unfold chkE at h
    cases pe <;> first | cases h | skip
    simp only [Bool.and_eq_true] at h
    obtain rfl := bopB_eq h.1.1
    refine PE.imp (pe_op (bin_ok o) (sndE a Xt Ew fx hsc hp h.1.2) (sndE b Xt Ew fx hsc hp h.2)) ?_
    rintro σ H Q ⟨G, Z, n, ρ, st, h⟩
    unfold wpE at h
    show rd Γ X.mg X.K Xt Ew a σ H _
    refine stepA fx.mono st h fun x n1 v H1 G1 Z1 h g1 s1 w1 _ => stepA fx.mono s1 h fun y n2 v2 H2 G2 Z2 h g2 s2 w2 _ => ?_
    exact ⟨G2, Z2, n2, x.t, y.t, s2.ok, (w1.mono g2 s1.ok).weak, w2.weak, binW_mono h fun r hr => Kq.lift (g1.trans g2) hr⟩
  | .neg a, X, sc, pe, Xt, Ew, fx, hsc, hp, h => by
    unfold chkE at h
    cases pe <;> first | cases h | skip
    simp only [Bool.and_eq_true] at h
    rename_i op _ _
    cases op <;> first | cases h.1 | skip
    refine PE.imp (pe_un un_neg (sndE a Xt Ew fx hsc hp h.2)) ?_
    rintro σ H Q ⟨G, Z, n, ρ, st, h⟩
    unfold wpE at h
    show rd Γ X.mg X.K Xt Ew a σ H _
    refine stepA fx.mono st h fun x n1 v H1 G1 Z1 h g1 s1 w1 _ => ?_
    obtain ⟨i, e, h⟩ := h
    have w := w1.weak
    rw [e] at w
    obtain rfl := w.int
    exact ⟨i, rfl, Kq.int (Kq.lift g1 h) s1.ok⟩
  | .not a, X, sc, pe, Xt, Ew, fx, hsc, hp, h => by
    unfold chkE at h
    cases pe <;> first | cases h | skip
    simp only [Bool.and_eq_true] at h
    rename_i op _ _
    cases op <;> first | cases h.1 | skip
    refine PE.imp (pe_notT (sndE a Xt Ew fx hsc hp h.2)) ?_
    rintro σ H Q ⟨G, Z, n, ρ, st, h⟩
    unfold wpE at h
    show rd Γ X.mg X.K Xt Ew a σ H _
    refine stepA fx.mono st h fun x n1 v H1 G1 Z1 h g1 s1 w1 _ => ?_
    obtain ⟨k, tk, h⟩ := tru_step s1.ok w1.weak h
    exact ⟨k, tk, Kq.bl (Kq.lift g1 h) s1.ok⟩
  | .and a b, X, sc, pe, Xt, Ew, fx, hsc, hp, h => by
    unfold chkE at h
    cases pe <;> first | cases h | skip
    rename_i op vs q
    cases vs with
    | nil => cases h
    | cons x vs =>
      cases vs with
      | nil => cases h
      | cons y r =>
        simp only [Bool.and_eq_true] at h
        obtain ⟨⟨⟨⟨h0, ha⟩, hb⟩, h1⟩, h2⟩ := h
        cases op <;> first | cases h0 | skip
        have hb' : PE X (.BoolOp .And (y :: r) q) (rd Γ X.mg X.K Xt Ew b) := by
          cases r with
          | nil => exact pe_one (sndE b Xt Ew fx hsc hp h2)
          | cons z r => exact sndE b Xt Ew fx hsc hp h2
        refine PE.imp (pe_andT (sndE a Xt Ew fx hsc hp h1) hb') ?_
        rintro σ H Q ⟨G, Z, n, ρ, st, h⟩
        unfold wpE at h
        show rd Γ X.mg X.K Xt Ew a σ H _
        refine stepA fx.mono st h fun x n1 v H1 G1 Z1 h g1 s1 w1 _ => ?_
        obtain ⟨k, tk, h⟩ := tru_step s1.ok w1.weak h
        refine ⟨k, tk, ?_⟩
        rw [ha] at w1
        cases k with
        | true =>
          simp only [if_true] at h ⊢
          refine ⟨G1, Z1, n1, ρ, s1, wpE_mono fx.mono b h fun r n2 h => ?_⟩
          rw [hb]
          exact Kq.lift g1 h
        | false =>
          simp only [Bool.false_eq_true, if_false] at h ⊢
          exact Kq.same (Kq.lift g1 h) s1.ok w1
  | .or a b, X, sc, pe, Xt, Ew, fx, hsc, hp, h => by
    unfold chkE at h
    cases pe <;> first | cases h | skip
    rename_i op vs q
    cases vs with
    | nil => cases h
    | cons x vs =>
      cases vs with
      | nil => cases h
      | cons y r =>
        simp only [Bool.and_eq_true] at h
        obtain ⟨⟨⟨⟨h0, ha⟩, hb⟩, h1⟩, h2⟩ := h
        cases op <;> first | cases h0 | skip
        have hb' : PE X (.BoolOp .Or (y :: r) q) (rd Γ X.mg X.K Xt Ew b) := by
          cases r with
          | nil => exact pe_one (sndE b Xt Ew fx hsc hp h2)
          | cons z r => exact sndE b Xt Ew fx hsc hp h2
        refine PE.imp (pe_orT (sndE a Xt Ew fx hsc hp h1) hb') ?_
        rintro σ H Q ⟨G, Z, n, ρ, st, h⟩
        unfold wpE at h
        show rd Γ X.mg X.K Xt Ew a σ H _
        refine stepA fx.mono st h fun x n1 v H1 G1 Z1 h g1 s1 w1 _ => ?_
        obtain ⟨k, tk, h⟩ := tru_step s1.ok w1.weak h
        refine ⟨k, tk, ?_⟩
        rw [ha] at w1
        cases k with
        | true =>
          simp only [if_true] at h ⊢
          exact Kq.same (Kq.lift g1 h) s1.ok w1
        | false =>
          simp only [Bool.false_eq_true, if_false] at h ⊢
          refine ⟨G1, Z1, n1, ρ, s1, wpE_mono fx.mono b h fun r n2 h => ?_⟩
          rw [hb]
          exact Kq.lift g1 h
  | .ife c a b, X, sc, pe, Xt, Ew, fx, hsc, hp, h => by
    unfold chkE at h
    cases pe <;> first | cases h | skip
    simp only [Bool.and_eq_true] at h
    obtain ⟨⟨⟨⟨ha, hb⟩, h0⟩, h1⟩, h2⟩ := h
    refine PE.imp (pe_ifExp (sndT c Xt Ew fx hsc hp h0 (sndE c Xt Ew fx hsc hp h0)) (sndE a Xt Ew fx hsc hp h1) (sndE b Xt Ew fx hsc hp h2)) ?_
    rintro σ H Q ⟨G, Z, n, ρ, st, h⟩
    unfold wpE at h
    show rdT Γ X.mg X.K Xt Ew c σ H _
    refine ⟨G, Z, n, ρ, st, wpE_mono fx.mono c h fun r n1 h => truW_mono h fun k h H1 G1 Z1 g1 o1 => ?_⟩
    have s1 := st.mono g1 o1
    cases k with
    | true =>
      simp only [if_true] at h ⊢
      refine ⟨G1, Z1, n1, ρ, s1, wpE_mono fx.mono a h fun r n2 h => ?_⟩
      rw [ha]
      exact Kq.lift g1 h
    | false =>
      simp only [Bool.false_eq_true, if_false] at h ⊢
      refine ⟨G1, Z1, n1, ρ, s1, wpE_mono fx.mono b h fun r n2 h => ?_⟩
      rw [hb]
      exact Kq.lift g1 h
  | .cmp o a b, X, sc, pe, Xt, Ew, fx, hsc, hp, h => by
    unfold chkE at h
    cases pe <;> first | cases h | skip
    rename_i l ops rs _
    cases ops with
    | nil => cases h
    | cons p ops =>
      cases ops with
      | cons _ _ => cases h
      | nil =>
        cases rs with
        | nil => cases h
        | cons r rs =>
          cases rs with
          | cons _ _ => cases h
          | nil =>
            simp only [Bool.and_eq_true] at h
            obtain ⟨⟨⟨h0, h1⟩, h2⟩, h3⟩ := h
            obtain rfl := copB_eq h0
            refine PE.imp (pe_cmpR (cmp_ok fx.un o) (sndE a Xt Ew fx hsc hp h1) (sndE b Xt Ew fx hsc hp h2) (mark_of h3 _)) ?_
            rintro σ H Q ⟨G, Z, n, ρ, st, h⟩
            unfold wpE at h
            show rd Γ X.mg X.K Xt Ew a σ H _
            refine stepA fx.mono st h fun x n1 v H1 G1 Z1 h g1 s1 w1 _ => stepA fx.mono s1 h fun y n2 v2 H2 G2 Z2 h g2 s2 w2 _ => ?_
            exact ⟨G2, Z2, n2, x.t, y.t, s2.ok, (w1.mono g2 s1.ok).weak, w2.weak, cmpW_mono h fun k hk => Kq.bl (Kq.lift (g1.trans g2) hk) s2.ok⟩
  | .chain o o' a b c, X, sc, pe, Xt, Ew, fx, hsc, hp, h => by
    unfold chkE at h
    cases pe <;> first | cases h | skip
    rename_i l ops rs _
    cases ops with
    | nil => cases h
    | cons p ops =>
      cases ops with
      | nil => cases h
      | cons p' ops =>
        cases ops with
        | cons _ _ => cases h
        | nil =>
          cases rs with
          | nil => cases h
          | cons r rs =>
            cases rs with
            | nil => cases h
            | cons r' rs =>
              cases rs with
              | cons _ _ => cases h
              | nil =>
                simp only [Bool.and_eq_true] at h
                obtain ⟨⟨⟨⟨⟨h0, h0'⟩, h1⟩, h2⟩, h3⟩, h4⟩ := h
                obtain rfl := copB_eq h0
                obtain rfl := copB_eq h0'
                refine PE.imp (pe_chain (cmp_ok fx.un o) (cmp_ok fx.un o') (sndE a Xt Ew fx hsc hp h1) (sndE b Xt Ew fx hsc hp h2) (sndE c Xt Ew fx hsc hp h3) (by show behindInMarks _ r' = false; exact mark_of h4 _)) ?_
                rintro σ H Q ⟨G, Z, n, ρ, st, h⟩
                unfold wpE at h
                show rd Γ X.mg X.K Xt Ew a σ H _
                refine stepA fx.mono st h fun x n1 v H1 G1 Z1 h g1 s1 w1 _ => stepA fx.mono s1 h fun y n2 v2 H2 G2 Z2 h g2 s2 w2 _ => ?_
                refine ⟨G2, Z2, n2, x.t, y.t, s2.ok, (w1.mono g2 s1.ok).weak, w2.weak, cmpW_mono h fun k hk => ⟨k, rfl, ?_⟩⟩
                cases k with
                | false =>
                  simp only [Bool.false_eq_true, if_false] at hk ⊢
                  exact Kq.bl (Kq.lift (g1.trans g2) hk) s2.ok
                | true =>
                  simp only [if_true] at hk ⊢
                  refine stepA fx.mono s2 hk fun z n3 v3 H3 G3 Z3 h g3 s3 w3 _ => ?_
                  exact ⟨G3, Z3, n3, y.t, z.t, s3.ok, (w2.mono g3 s2.ok).weak, w3.weak, cmpW_mono h fun k hk => Kq.bl (Kq.lift ((g1.trans g2).trans g3) hk) s3.ok⟩
  | .lst l, X, sc, pe, Xt, Ew, fx, hsc, hp, h => by
    unfold chkE at h
    cases pe <;> first | cases h | skip
    simp only [Bool.and_eq_true] at h
    refine PE.imp (pe_lst (sndEs l Xt Ew fx hsc hp h.2)) ?_
    rintro σ H Q ⟨G, Z, n, ρ, st, hw⟩
    unfold wpE at hw
    show rds Γ X.mg X.K Xt Ew l σ H _
    refine stepAs fx.mono st hw fun ts n1 vs H1 G1 Z1 h1 g1 s1 w1 => ?_
    obtain ⟨ds, e, hz, h1⟩ := h1
    have ra := datas_rp (w1.strong h.1) e
    exact ⟨by rw [ra.length]; exact hz, fun p hp => Kq.lst (Kq.lift g1 h1) s1.ok ra hp⟩
  | .tup l, X, sc, pe, Xt, Ew, fx, hsc, hp, h => by
    unfold chkE at h
    cases pe <;> first | cases h | skip
    simp only [Bool.and_eq_true] at h
    refine PE.imp (pe_tup (sndEs l Xt Ew fx hsc hp h.2)) ?_
    rintro σ H Q ⟨G, Z, n, ρ, st, hw⟩
    unfold wpE at hw
    show rds Γ X.mg X.K Xt Ew l σ H _
    refine stepAs fx.mono st hw fun ts n1 vs H1 G1 Z1 h1 g1 s1 w1 => ?_
    obtain ⟨ds, e, hz, h1⟩ := h1
    have ra := datas_rp (w1.strong h.1) e
    exact ⟨by rw [ra.length]; exact hz, fun p hp => Kq.tup (Kq.lift g1 h1) s1.ok ra hp⟩
  | .dct kvs, X, sc, pe, Xt, Ew, fx, hsc, hp, h => by
    unfold chkE at h
    cases pe <;> first | cases h | skip
    rename_i ks vs q
    simp only [Bool.and_eq_true, decide_eq_true_eq] at h
    obtain ⟨⟨⟨h0, h1⟩, h2⟩, h3⟩ := h
    cases kvs with
    | nil =>
      cases ks with
      | cons _ _ => cases h0
      | nil =>
        cases vs with
        | cons _ _ => cases h0
        | nil =>
          refine PE.imp pe_dnewK ?_
          rintro σ H Q ⟨G, Z, n, ρ, st, h⟩
          unfold wpE at h
          exact fun p hp => Kq.dct (kvs := []) h st.ok rfl hp
    | cons kv kvs =>
      obtain ⟨p1, p2, p3, p4⟩ := dct_pps (X := X) (pos := q) (kv :: kvs) h0
      refine PE.imp (pe_disp p1 p2 p3 (fun z => by rw [z] at h0; cases h0) h1) ?_
      rintro σ H Q ⟨G, Z, n, ρ, st, h⟩
      unfold wpE at h
      refine fun p hp => p4 σ _ _ ⟨upd_same, (kv :: kvs).map (fun kv => (kv.1, cV kv.2)), by rw [List.map_map]; rfl, ?_, ?_⟩
      · rw [List.length_map, ← dctB_len h0]; exact h1
      · rw [upd_upd, merge_nd _ [] (by simpa [List.map_map, Function.comp_def] using h2)]
        exact Kq.dct h st.ok h3 hp
  | .gix i k, X, sc, pe, Xt, Ew, fx, hsc, hp, h => by
    unfold chkE at h
    cases pe <;> first | cases h | skip
    rename_i e s q
    cases e <;> first | (cases s <;> cases h; done) | skip
    cases s <;> first | cases h | skip
    rename_i x xp c kk cp
    cases c <;> first | cases h | skip
    simp only [Bool.and_eq_true, decide_eq_true_eq] at h
    obtain ⟨⟨⟨⟨h0, h1⟩, h2⟩, h3⟩, h4⟩ := h
    subst h3
    refine PE.imp (pe_ix ix_list (pe_var h0 (vis_of hsc h1) (dbg_of h2).1 (dbg_of h2).2) pe_int (fun _ _ => rfl)) ?_
    rintro σ H Q ⟨G, Z, n, ρ, st, h⟩
    unfold wpE at h
    obtain ⟨b, e, h⟩ := h
    obtain ⟨v, e1, e2, e3⟩ := st.env i b .gen e
    cases b with
    | true => exact (e3 rfl).elim
    | false =>
      obtain ⟨g, hg, rfl⟩ := e2 rfl
      obtain ⟨a, m, c, hG, b1, b2, b3, b4, b5, b6⟩ := st.ok.gen g hg
      refine ⟨_, e1, ?_⟩
      match k, h4 with
      | 0, _ => exact ⟨g, _, 0, .int a, rfl, rfl, .of hG, rfl, Kq.int (h a ⟨b1, b2⟩) st.ok⟩
      | 1, _ => exact ⟨g, _, 1, .int m, rfl, rfl, .of hG, rfl, Kq.int (h m ⟨b3, b4⟩) st.ok⟩
      | 2, _ => exact ⟨g, _, 2, .int c, rfl, rfl, .of hG, rfl, Kq.int (h c ⟨b5, b6⟩) st.ok⟩
  | .ix a i, X, sc, pe, Xt, Ew, fx, hsc, hp, h => by
    unfold chkE at h
    cases pe <;> first | cases h | skip
    rename_i e s _
    have h' : (plainIxB s && chkE Γ X.N sc a e && chkE Γ X.N sc i s) = true := by
      cases s <;> exact h
    simp only [Bool.and_eq_true] at h'
    refine PE.imp (pe_ix (ix_ok (by have := fx.un; omega)) (sndE a Xt Ew fx hsc hp h'.1.2) (sndE i Xt Ew fx hsc hp h'.2) (pix_of h'.1.1)) ?_
    rintro σ H Q ⟨G, Z, n, ρ, st, h⟩
    unfold wpE at h
    show rd Γ X.mg X.K Xt Ew a σ H _
    refine stepA fx.mono st h fun x n1 v H1 G1 Z1 h g1 s1 w1 _ => stepA fx.mono s1 h fun y n2 v2 H2 G2 Z2 h g2 s2 w2 _ => ?_
    exact ⟨G2, Z2, n2, x.t, y.t, s2.ok, (w1.mono g2 s1.ok).weak, w2.weak, ixW_mono h fun t ht => Kq.lift (g1.trans g2) ht⟩
  | .sl a lo hi, X, sc, pe, Xt, Ew, fx, hsc, hp, h => by
    unfold chkE at h
    cases pe <;> first | cases h | skip
    rename_i e sl _
    cases sl <;> first | cases h | skip
    rename_i l u st _
    cases st <;> first | (cases l <;> cases u <;> cases h; done) | skip
    simp only [Bool.and_eq_true] at h
    obtain ⟨⟨h0, h1⟩, h2⟩ := h
    have part : ∀ (b : E) (o : Option Expr), (∀ {pe : Expr}, chkE Γ X.N sc b pe = true → PE X pe (rd Γ X.mg X.K Xt Ew b)) → (match o with | none => isNoB b | some x => !isNoB b && chkE Γ X.N sc b x) = true →
        PO X o (fun σ H Q => rd Γ X.mg X.K Xt Ew b σ H fun v H1 => ∃ i, bV (isNoB b) v = some i ∧ Q i H1) := fun b o ih hb => by
      cases o with
      | none =>
        have hb : isNoB b = true := hb
        refine ⟨fun pins s σ H Q I hh => ?_⟩
        obtain ⟨G, Z, n, ρ, st, h⟩ := hh
        have hb' := hb
        unfold isNoB at hb
        split at hb
        · unfold wpE at h
          obtain ⟨i, e, q⟩ := h .non H G Z Gr.refl st.ok .non (fun z => nomatch z)
          rw [hb'] at e
          cases e
          exact (po_none (X := X)).run pins s σ H Q I q
        · cases hb
      | some x =>
        have hb : (!isNoB b && chkE Γ X.N sc b x) = true := hb
        rw [Bool.and_eq_true] at hb
        have p := po_some (ih hb.2)
        refine ⟨fun pins s σ H Q I hh => p.run pins s σ H Q I ?_⟩
        obtain ⟨G, Z, n, ρ, st, h⟩ := hh
        show rd Γ X.mg X.K Xt Ew b σ H _
        refine ⟨G, Z, n, ρ, st, wpE_mono fx.mono b h fun r n1 h v H1 G1 Z1 g1 o1 w1 f1 => ?_⟩
        obtain ⟨i, e, q⟩ := h v H1 G1 Z1 g1 o1 w1 f1
        have nb : isNoB b = false := by simpa using hb.1
        rw [nb] at e
        cases v <;> cases e
        exact ⟨_, rfl, q⟩
    have pl := part lo l (fun hc => sndE lo Xt Ew fx hsc hp hc) h1
    have pu := part hi u (fun hc => sndE hi Xt Ew fx hsc hp hc) h2
    refine PE.imp (pe_slice sl_ok (sndE a Xt Ew fx hsc hp h0) pl pu) ?_
    rintro σ H Q ⟨G, Z, n, ρ, st, h⟩
    unfold wpE at h
    show rd Γ X.mg X.K Xt Ew a σ H _
    refine stepA fx.mono st h fun x n1 v H1 G1 Z1 h g1 s1 w1 _ => ?_
    show rd Γ X.mg X.K Xt Ew lo σ H1 _
    refine stepA fx.mono s1 h fun y n2 v2 H2 G2 Z2 h g2 s2 w2 _ => ?_
    obtain ⟨i, ei, h⟩ := h
    refine ⟨i, bV_of w2.weak ei, ?_⟩
    show rd Γ X.mg X.K Xt Ew hi σ H2 _
    refine stepA fx.mono s2 h fun z n3 v3 H3 G3 Z3 h g3 s3 w3 _ => ?_
    obtain ⟨j, ej, h⟩ := h
    exact ⟨j, bV_of w3.weak ej, G3, Z3, n3, x.t, s3.ok, ((w1.mono g2 s1.ok).mono g3 s2.ok).weak, slW_mono h fun r hr => Kq.lift ((g1.trans g2).trans g3) hr⟩
  | .rev a, X, sc, pe, Xt, Ew, fx, hsc, hp, h => by
    unfold chkE at h
    cases pe <;> first | cases h | skip
    rename_i e sl _
    have h : (isRev sl && chkE Γ X.N sc a e) = true := by cases sl <;> exact h
    rw [Bool.and_eq_true] at h
    obtain ⟨k, p1, p2, p3, rfl⟩ := isRev_eq h.1
    refine PE.imp (pe_revL (sndE a Xt Ew fx hsc hp h.2)) ?_
    rintro σ H Q ⟨G, Z, n, ρ, st, h⟩
    unfold wpE at h
    show rd Γ X.mg X.K Xt Ew a σ H _
    refine stepA fx.mono st h fun x n1 v H1 G1 Z1 h g1 s1 w1 _ => ?_
    obtain ⟨xs, e, h⟩ := h
    have w := w1.weak
    rw [e] at w
    obtain ⟨p, vs, rfl, hp, r⟩ := w.lst
    exact ⟨p, vs, rfl, .of hp, fun q hq => Kq.lst (Kq.lift g1 h) s1.ok r.reverse hq⟩
  | .call f l, X, sc, pe, Xt, Ew, fx, hsc, hp, h => by
    unfold chkE at h
    cases pe <;> first | cases h | skip
    rename_i fn es ks pos
    cases fn <;> first | cases h | skip
    cases ks <;> first | cases h | skip
    simp only [Bool.and_eq_true, decide_eq_true_eq] at h
    obtain ⟨⟨⟨⟨⟨h0, h1⟩, h2⟩, h3⟩, h4⟩, h5⟩ := h
    obtain ⟨a, fd, k, ps, F, ha, hr, hm, hk, hb⟩ := fx.fn f h0
    subst h1
    have fin : ∀ {G Z G1 Z1 : List Addr} {H H1 : Hp} {n1 : Nat} {σ : L2.St} {ρ : Ev} {ts : List T} {vs : List V} {Q : VK}, Γ.Φ f ts n1 (Kq X.K true G Z H Q) Xt → Gr G Z H G1 Z1 H1 → Stt X.mg Γ.cn X.K Xt (Ew σ) G1 Z1 H1 n1 σ ρ → Paired (RpT X.K H1 G1 Z1) vs ts →
        low X.mg Γ.cn X.K ps.length (Γ.Φ f) vs H1 Q (Ew σ) := fun h g s w => by
      exact ⟨by rw [Paired.length w, fx.ar _ _ _ _ _ h, ha], _, _, _, _, s.ok, w, fx.mono _ _ _ _ _ _ _ h (fun r n' hr => Kq.lift g hr) fun er n' hx cls d H' G' Z' g' o' e => s.wsh er n' cls d H' G' Z' hx g' o' e⟩
    cases es with
    | nil =>
      refine PE.imp (pg_call0 F hr fx.gd (gl_of hsc h2) hm hk hb hp (dbg_of h3).1) ?_
      rintro σ H Q ⟨G, Z, n, ρ, st, h⟩
      cases l with
      | cons _ _ => unfold chkEs at h5; cases h5
      | nil =>
        unfold wpE wpEs at h
        exact fin h Gr.refl st .nil
    | cons e es =>
      have h5' := h5
      cases l with
      | nil => unfold chkEs at h5; cases h5
      | cons b l =>
        unfold chkEs at h5'
        simp only [Bool.and_eq_true] at h5'
        refine PE.imp (pg_call F hr fx.gd (gl_of hsc h2) hm hk hb hp (sndEs _ Xt Ew fx hsc hp h5) (dbg_of h3).1 (star_of h5'.1.1 _ _) (stars_of h5'.2)) ?_
        rintro σ H Q ⟨G, Z, n, ρ, st, h⟩
        unfold wpE at h
        show rds Γ X.mg X.K Xt Ew (.cons b l) σ H _
        refine stepAs fx.mono st h fun ts n1 vs H1 G1 Z1 h1 g1 s1 w1 => ?_
        exact fin h1 g1 s1 (w1.strong h4)
  | .callk f l pm ks, X, sc, pe, Xt, Ew, fx, hsc, hp, h => by
    unfold chkE at h
    cases pe <;> first | cases h | skip
    rename_i fn es kws pos
    cases fn <;> first | cases h | skip
    simp only [Bool.and_eq_true, decide_eq_true_eq] at h
    obtain ⟨⟨⟨⟨⟨⟨⟨⟨⟨h0, h1⟩, h2⟩, h3⟩, h4⟩, h5⟩, h6⟩, h7⟩, h8⟩, h9⟩ := h
    obtain ⟨a, fd, k, ps, F, ha, hr, hm, hk, hb⟩ := fx.kw f pm _ _ h0
    subst h1
    obtain ⟨k1, k2, k3⟩ := kw_names (env := X.env) (pos := pos) h4
    have fin : ∀ {G Z G1 Z1 : List Addr} {H H1 : Hp} {n1 : Nat} {σ : L2.St} {ρ : Ev} {ts : List T} {vs : List V} {Q : VK}, Γ.Φ f ts n1 (Kq X.K true G Z H Q) Xt → Gr G Z H G1 Z1 H1 → Stt X.mg Γ.cn X.K Xt (Ew σ) G1 Z1 H1 n1 σ ρ → Paired (RpT X.K H1 G1 Z1) vs ts →
        low X.mg Γ.cn X.K ps.length (Γ.Φ f) vs H1 Q (Ew σ) := fun h g s w =>
      ⟨by rw [Paired.length w, fx.ar _ _ _ _ _ h, ha], _, _, _, _, s.ok, w, fx.mono _ _ _ _ _ _ _ h (fun r n' hr => Kq.lift g hr) fun er n' hx cls d H' G' Z' g' o' e => s.wsh er n' cls d H' G' Z' hx g' o' e⟩
    cases es with
    | nil =>
      refine PE.imp (pg_callK0 F hr fx.gd (gl_of hsc h2) hm hk hb hp (sndKs ks Xt Ew fx hsc hp h9) k1 k2 (dbg_of h3).1 (by rw [k3]; rfl)) ?_
      rintro σ H Q ⟨G, Z, n, ρ, st, h⟩
      cases l with
      | cons _ _ => unfold chkEs at h8; cases h8
      | nil =>
        unfold wpE wpEs at h
        show rds Γ X.mg X.K Xt Ew ks σ H _
        refine stepAs fx.mono st h fun us n1 vs H1 G1 Z1 h1 g1 s1 w1 => ?_
        obtain ⟨ws, e, h1⟩ := h1
        have w := kwF_rel (Paired.nil : Paired (RpT X.K H1 G1 Z1) [] []) (w1.strong h7) pm
        rw [kwF_map pm ws e, ← kwG_eq (n := 0) (k := (kwB kws).length) rfl (by rw [argR_len w1, chkKs_len h9, kwB_len h4])] at w
        exact fin h1 g1 s1 w
    | cons e es =>
      have h8' := h8
      cases l with
      | nil => unfold chkEs at h8; cases h8
      | cons b l =>
        unfold chkEs at h8'
        simp only [Bool.and_eq_true] at h8'
        refine PE.imp (pg_callK F hr fx.gd (gl_of hsc h2) hm hk hb hp (sndEs _ Xt Ew fx hsc hp h8) (sndKs ks Xt Ew fx hsc hp h9) k1 k2 (dbg_of h3).1 (star_of h8'.1.1 _ _) (by rw [stars_of h8, k3]; rfl)) ?_
        rintro σ H Q ⟨G, Z, n, ρ, st, h⟩
        unfold wpE at h
        show rds Γ X.mg X.K Xt Ew (.cons b l) σ H _
        refine stepAs fx.mono st h fun ts n1 vs H1 G1 Z1 h1 g1 s1 w1 => ?_
        show rds Γ X.mg X.K Xt Ew ks σ H1 _
        refine stepAs fx.mono s1 h1 fun us n2 zs H2 G2 Z2 h2 g2 s2 w2 => ?_
        obtain ⟨ws, e', h2⟩ := h2
        have w := kwF_rel ((w1.mono g2 s1.ok).strong h6) (w2.strong h7) pm
        rw [kwF_map pm ws e', ← kwG_eq (n := (e :: es).length) (k := (kwB kws).length) (by rw [argR_len w1, chkEs_len h8]) (by rw [argR_len w2, chkKs_len h9, kwB_len h4])] at w
        exact fin h2 (g1.trans g2) s2 w
  | .isi a t, X, sc, pe, Xt, Ew, fx, hsc, hp, h => by
    unfold chkE at h
    cases pe <;> first | cases h | skip
    rename_i fn es kws pos
    cases fn <;> first | cases h | skip
    cases es with
    | nil => cases h
    | cons e es =>
      cases es with
      | nil => cases h
      | cons y es =>
        cases y <;> first | cases h | skip
        cases es with
        | cons _ _ => cases h
        | nil =>
          cases kws with
          | cons _ _ => cases h
          | nil =>
            simp only [Bool.and_eq_true, decide_eq_true_eq] at h
            obtain ⟨⟨⟨⟨⟨⟨⟨h0, h1⟩, h2⟩, h3⟩, h4⟩, h5⟩, h6⟩, h7⟩ := h
            subst h0 h1
            have pt : ∀ q : Pos, PE X (.Name (Str.ofString (tyName t)) q) (tC (.ty (tyName t))) := fun q => pe_bltn (pos := q) (gl_of hsc h5) (fx.bl _ h3) (ty_boot t) rfl (ty_dbg t).2 (ty_dbg t).1
            refine PE.imp (pe_callB (isi_ok t) (gl_of hsc h4) (fx.bl _ h2) (by decide +kernel) (pa_cons (sndE a Xt Ew fx hsc hp h6) (pa_cons (pt _) pa_nil) (star_of h7 _ _)) (by decide) (by decide) (star_of h7 _ _) rfl) ?_
            rintro σ H Q ⟨G, Z, n, ρ, st, h⟩
            unfold wpE at h
            show rd Γ X.mg X.K Xt Ew a σ H _
            refine stepA fx.mono st h fun x n1 v H1 G1 Z1 h g1 s1 w1 _ => ?_
            obtain ⟨y, e, h⟩ := h
            have w := w1.weak
            rw [e] at w
            exact ⟨v, y, rfl, w.data s1.ok, Kq.bl (Kq.lift g1 h) s1.ok⟩
  | .isi2 a t u, X, sc, pe, Xt, Ew, fx, hsc, hp, h => by
    unfold chkE at h
    split at h <;> first | contradiction | skip
    all_goals first | (rename_i he _; cases he; done) | skip
    rename_i he
    cases he
    rename_i x p e y py z pz kk ptp pos
    simp only [Bool.and_eq_true, decide_eq_true_eq] at h
    obtain ⟨⟨⟨⟨⟨⟨⟨⟨⟨⟨h0, h1⟩, h1'⟩, h2⟩, h3⟩, h3'⟩, h4⟩, h5⟩, h5'⟩, h6⟩, h7⟩ := h
    subst h0 h1 h1'
    have pt : PE X (.Name (Str.ofString (tyName t)) py) (tC (.ty (tyName t))) := pe_bltn (gl_of hsc h5) (fx.bl _ h3) (ty_boot t) rfl (ty_dbg t).2 (ty_dbg t).1
    have pu : PE X (.Name (Str.ofString (tyName u)) pz) (tC (.ty (tyName u))) := pe_bltn (gl_of hsc h5') (fx.bl _ h3') (ty_boot u) rfl (ty_dbg u).2 (ty_dbg u).1
    refine PE.imp (pe_callB (isi2_ok t u) (gl_of hsc h4) (fx.bl _ h2) (by decide +kernel) (pa_cons (sndE a Xt Ew fx hsc hp h6) (pa_cons (pe_tup (pa_cons pt (pa_cons pu pa_nil))) pa_nil) (star_of h7 _ _)) (by decide) (by decide) (star_of h7 _ _) rfl) ?_
    rintro σ H Q ⟨G, Z, n, ρ, st, h⟩
    unfold wpE at h
    show rd Γ X.mg X.K Xt Ew a σ H _
    refine stepA fx.mono st h fun x n1 v H1 G1 Z1 h g1 s1 w1 _ => ?_
    obtain ⟨y, e, ok, h⟩ := h
    have w := w1.weak
    rw [e] at w
    refine ⟨by rw [sizeLine_eq]; show 2 ≤ _; omega, fun q hq => ?_⟩
    exact ⟨v, y, q, rfl, Rp.le (.of fun b o e => by rw [upd_ne (ne_of_none e hq)]; exact e) (w.data s1.ok), ok, upd_same, Kq.bl (Kq.lift (g1.trans (Gr.upd hq)) h) (s1.ok.upd hq)⟩
  | .lrg a, X, sc, pe, Xt, Ew, fx, hsc, hp, h => by
    unfold chkE at h
    split at h <;> first | contradiction | skip
    all_goals first | (rename_i he _; cases he; done) | skip
    rename_i he
    cases he
    rename_i x p y q e qp pos
    simp only [Bool.and_eq_true, decide_eq_true_eq] at h
    obtain ⟨⟨⟨⟨⟨⟨⟨h0, h1⟩, h2⟩, h3⟩, h4⟩, h5⟩, h6⟩, h7⟩ := h
    subst h0 h1
    refine PE.imp (pe_listRg fx.calm (gl_of hsc h4) (fx.bl _ h2) (prg_1 (gl_of hsc h5) (fx.bl _ h3) (sndE a Xt Ew fx hsc hp h6) (star_of h7 _ _)) rfl) ?_
    rintro σ H Q ⟨G, Z, n, ρ, st, h⟩
    unfold wpE at h
    show rd Γ X.mg X.K Xt Ew a σ H _
    refine stepA fx.mono st h fun x n1 v H1 G1 Z1 h g1 s1 w1 _ => ?_
    obtain ⟨j, e, ⟨j0, j1⟩, h⟩ := h
    have w := w1.weak
    rw [e] at w
    obtain rfl := w.int
    refine ⟨j, rfl, ⟨by decide, by decide, by omega, by omega, by omega⟩, fun q hq => ?_⟩
    refine Kq.lst (Kq.lift g1 h) s1.ok ?_ hq
    have e2 : rgV 0 j = ((List.range j.toNat).map fun (m : Nat) => (m : Int)).map V.int := by
      unfold rgV
      rw [List.map_map, Int.sub_zero]
      exact List.map_congr_left fun m _ => by show V.int (0 + (m : Int)) = V.int m; rw [Int.zero_add]
    have e3 : ((List.range j.toNat).map fun (m : Nat) => PyData.int m) = ((List.range j.toNat).map fun (m : Nat) => (m : Int)).map PyData.int := by rw [List.map_map]; rfl
    rw [e2, e3]
    exact RpA.ints _
  | .bi b l, X, sc, pe, Xt, Ew, fx, hsc, hp, h => by
    unfold chkE at h
    cases pe <;> first | cases h | skip
    rename_i fn es kws pos
    cases fn <;> first | cases h | skip
    cases es with
    | nil => cases h
    | cons e es =>
      cases kws with
      | cons _ _ => cases h
      | nil =>
        simp only [Bool.and_eq_true, decide_eq_true_eq] at h
        obtain ⟨⟨⟨h0, h1⟩, h2⟩, h3⟩ := h
        subst h0
        have h3' := h3
        cases l with
        | nil => unfold chkEs at h3; cases h3
        | cons c l =>
          unfold chkEs at h3'
          simp only [Bool.and_eq_true] at h3'
          refine PE.imp (pe_bi (bi_ok fx.dg fx.gd fx.un fx.calm b) (gl_of hsc h2) (fx.bl _ h1) (sndEs _ Xt Ew fx hsc hp h3) (star_of h3'.1.1 _ _) (stars_of h3'.2)) ?_
          rintro σ H Q ⟨G, Z, n, ρ, st, h⟩
          unfold wpE at h
          show rds Γ X.mg X.K Xt Ew (.cons c l) σ H _
          refine stepAs fx.mono st h fun ts n1 vs H1 G1 Z1 h1 g1 s1 w1 => ?_
          exact ⟨G1, Z1, n1, ts, s1.ok, w1.weak, biW_mono h1 fun r hr => Kq.lift g1 hr⟩
  | .mt m a l, X, sc, pe, Xt, Ew, fx, hsc, hp, h => by
    unfold chkE at h
    cases pe <;> first | cases h | skip
    rename_i fn es kws pos
    cases fn <;> first | cases h | skip
    rename_i o x ap
    cases kws with
    | cons _ _ => cases h
    | nil =>
      simp only [Bool.and_eq_true, decide_eq_true_eq] at h
      obtain ⟨⟨⟨⟨h0, h1⟩, h2⟩, h3⟩, h4⟩ := h
      have h1 : (ap.endLine == pos.line) = true := by simpa using h1
      cases m with
      | join =>
        simp only [Bool.and_eq_true, decide_eq_true_eq] at h3
        obtain ⟨h3, h5⟩ := h3
        subst h3
        cases es with
        | nil => cases h5
        | cons e es =>
          cases es with
          | cons _ _ => simp at h5
          | nil =>
            cases l with
            | nil => unfold chkEs at h4; cases h4
            | cons c l =>
              unfold chkEs at h4
              simp only [Bool.and_eq_true] at h4
              cases l with
              | cons _ _ => have := h4.2; unfold chkEs at this; cases this
              | nil =>
                refine PE.imp (pe_join (sndE a Xt Ew fx hsc hp h2) (sndE c Xt Ew fx hsc hp h4.1.2) (star_of h4.1.1 _ _) (base_of h0 _) h1) ?_
                rintro σ H Q ⟨G, Z, n, ρ, st, h⟩
                unfold wpE wpEs wpEs at h
                show rd Γ X.mg X.K Xt Ew a σ H _
                refine stepA fx.mono st h fun x n1 v H1 G1 Z1 h g1 s1 w1 _ => ?_
                obtain ⟨hr, h⟩ := h
                obtain ⟨z, ez⟩ := rcv_join hr
                have w := w1.weak
                rw [ez] at w
                obtain rfl := w.str
                refine ⟨⟨_, rfl⟩, ?_⟩
                show rd Γ X.mg X.K Xt Ew c σ H1 _
                refine stepA fx.mono s1 h fun y n2 v2 H2 G2 Z2 h g2 s2 w2 _ => ?_
                rw [ez] at h
                obtain ⟨xs, ys, e2, ey, hz, h⟩ := mtW_join h
                have w := w2.weak
                rw [e2] at w
                obtain ⟨p, vs, rfl, hp', r⟩ := w.lst
                have := rpa_strs r ey
                subst this
                exact ⟨_, p, ys, rfl, rfl, .inl (.of hp'), hz, Kq.str (Kq.lift (g1.trans g2) h) s2.ok⟩
      | bitlen =>
        simp only [Bool.and_eq_true, decide_eq_true_eq] at h3
        obtain ⟨h3, h5⟩ := h3
        subst h3
        cases es with
        | cons _ _ => simp at h5
        | nil =>
          cases l with
          | cons _ _ => unfold chkEs at h4; cases h4
          | nil =>
            refine PE.imp (pe_bits (sndE a Xt Ew fx hsc hp h2) (base_of h0 _) h1) ?_
            rintro σ H Q ⟨G, Z, n, ρ, st, h⟩
            unfold wpE wpEs at h
            show rd Γ X.mg X.K Xt Ew a σ H _
            refine stepA fx.mono st h fun x n1 v H1 G1 Z1 h g1 s1 w1 _ => ?_
            obtain ⟨hr, h⟩ := h
            obtain ⟨z, ez⟩ := rcv_bitlen hr
            have w := w1.weak
            rw [ez] at w h
            obtain rfl := w.int
            exact ⟨z, rfl, Kq.int (Kq.lift g1 h) s1.ok⟩
  | .lc own tg k src cnd elt, X, sc, pe, Xt, Ew, fx, hsc, hp, h => by
    unfold chkE at h
    cases pe <;> first | cases h | skip
    rename_i el gs scope pos
    cases gs with
    | nil => cases h
    | cons g gs =>
      obtain ⟨t, iter, ifs, ka⟩ := g
      cases gs with
      | cons _ _ => cases h
      | nil =>
        simp only [Bool.and_eq_true, decide_eq_true_eq] at h
        obtain ⟨⟨⟨⟨⟨⟨⟨⟨⟨hka, h0⟩, h1⟩, h2⟩, h3⟩, h4⟩, h5⟩, h6⟩, h7⟩, h8⟩ := h
        subst hka
        have bo := blkOk_by h0
        rw [← hsc] at bo
        have fb : ∀ (s : Shared) (H : Hp) (C : Addr) (cl : List (Str × Addr)) (fp : List Addr), Fx Γ (X.blk s H scope (compEnvC scope cl C X.env) fp) := fun s H C cl fp =>
          ⟨fx.nd, fx.calm, fx.gd, fx.un, fx.dg, fx.mono, fx.ar, fx.bl, fx.gc, fx.fn, fx.kw⟩
        have sb : ∀ (s : Shared) (H : Hp) (C : Addr) (cl : List (Str × Addr)) (fp : List Addr), (X.blk s H scope (compEnvC scope cl C X.env) fp).env.scope = relS scope sc := fun s H C cl fp => by rw [← hsc]; rfl
        have lo : ∀ x, tgB.isLoc scope x = true → Loc (relS scope X.env.scope) x ∧ ((scope.names.lookup x == some .cell) = true ∨ (relS scope X.env.scope).names.lookup x = some .local) := fun x hx => by
          unfold tgB.isLoc at hx
          split at hx <;> first | cases hx | skip
          · rename_i e
            have e2 := lookup_relS_keep (sc := X.env.scope) (by decide) e
            exact ⟨.inl e2, .inr e2⟩
          · rename_i e
            have e2 := lookup_relS_keep (sc := X.env.scope) (by decide) e
            exact ⟨.inr e2, .inl (by rw [e]; rfl)⟩
        have pt : ∀ (s : Shared) (H : Hp) (C : Addr) (cl : List (Str × Addr)) (fp : List Addr), PTs (X.blk s H scope (compEnvC scope cl C X.env) fp) ifs (rdT Γ X.mg X.K E0x E0s cnd) := fun s H C cl fp => by
          cases ifs with
          | nil =>
            refine ⟨fun pins s σ H Q I hh => ?_⟩
            obtain ⟨G, Z, n, ρ, st, h⟩ := hh
            have h6 : isT cnd = true := h6
            unfold isT at h6
            split at h6
            · unfold wpE at h
              exact (pts_nil).run pins s σ H Q I (h.2 H G Z Gr.refl st.ok)
            · cases h6
          | cons c ifs =>
            cases ifs with
            | cons _ _ => cases h6
            | nil => exact pts_one (sndT cnd E0x E0s (fb s H C cl fp) (sb s H C cl fp) passA h6 (sndE cnd E0x E0s (fb s H C cl fp) (sb s H C cl fp) passA h6))
        have ow : (own.map fun i => (X.N.getD i ⟨#[]⟩, i)).map (·.2) = own := by
          rw [List.map_map]
          exact List.map_id' _
        have P := pe_lc (pos := pos) (wi := rdSrc Γ X.mg X.K Xt Ew k src) (g := gOf X.K tg) (tt := rdT Γ X.mg X.K E0x E0s cnd) (te := rd Γ X.mg X.K E0x E0s elt) fx.calm fx.nd (sndSrc k src Xt Ew fx hsc hp h3 h5) bo
          (fun s H C cl fp => pg_of (X := X.blk s H scope (compEnvC scope cl C X.env) fp) fx.calm fx.nd lo h1) pt (fun s H C cl fp => sndE elt E0x E0s (fb s H C cl fp) (sb s H C cl fp) passA h8) (fold_of h4 _)
        rw [ow] at P
        exact PE.imp P (lc_rd fx.mono h2 (fun _ _ _ h => h) (fun _ _ _ h => h) h7)
  | .atm a, X, sc, pe, Xt, Ew, fx, hsc, hp, h => by
    unfold chkE at h
    have h : chkE Γ X.N sc a pe = true := by cases pe <;> exact h
    refine PE.imp (sndE a (fun er n => atomD er.x = true ∧ Xt er n) Ew fx hsc hp h) ?_
    rintro σ H Q ⟨G, Z, n, ρ, st, h⟩
    unfold wpE at h
    refine ⟨G, dks H G Z, n, unown ρ, st.other, wpE_mono fx.mono a h fun r n1 h v H1 G1 Z1 g1 o1 w1 f1 => ?_⟩
    obtain ⟨L, e, g, o⟩ := Gr.other g1 st.ok o1
    exact h.2 v H1 G1 _ g o (atom_any w1 h.1) fun z => nomatch z
theorem sndT : ∀ (e : E) {X : Cx} {sc : Scope} {pe : Expr} (Xt : XE) (Ew : XS), Fx Γ X → X.env.scope = sc → (∀ σ, PassesAt (L2.CX X.prog X.w) X σ (Ew σ)) → chkE Γ X.N sc e pe = true → PE X pe (rd Γ X.mg X.K Xt Ew e) → PT X pe (rdT Γ X.mg X.K Xt Ew e)
  | .not a, X, sc, pe, Xt, Ew, fx, hsc, hp, h, hq => by
    unfold chkE at h
    cases pe <;> first | cases h | skip
    simp only [Bool.and_eq_true] at h
    rename_i op _ _
    cases op <;> first | cases h.1 | skip
    refine PT.imp (pt_not (sndT a Xt Ew fx hsc hp h.2 (sndE a Xt Ew fx hsc hp h.2))) ?_
    rintro σ H Q ⟨G, Z, n, ρ, st, h⟩
    unfold wpE at h
    show rdT Γ X.mg X.K Xt Ew a σ H _
    exact ⟨G, Z, n, ρ, st, wpE_mono fx.mono a h fun r n1 h => truW_mono h fun b h => h.2⟩
  | .and a b, X, sc, pe, Xt, Ew, fx, hsc, hp, h, hq => by
    unfold chkE at h
    cases pe <;> first | cases h | skip
    rename_i op vs q
    cases vs with
    | nil => cases h
    | cons x vs =>
      cases vs with
      | nil => cases h
      | cons y r =>
        simp only [Bool.and_eq_true] at h
        obtain ⟨⟨⟨⟨h0, ha⟩, hb⟩, h1⟩, h2⟩ := h
        cases op <;> first | cases h0 | skip
        refine PT.imp (pw_and (sndT a Xt Ew fx hsc hp h1 (sndE a Xt Ew fx hsc hp h1)) (pw_and2 (sndT b Xt Ew fx hsc hp h2 (sndE b Xt Ew fx hsc hp h2)))).pt ?_
        rintro σ H Q ⟨G, Z, n, ρ, st, h⟩
        unfold wpE at h
        show rdT Γ X.mg X.K Xt Ew a σ H _
        refine ⟨G, Z, n, ρ, st, wpE_mono fx.mono a h fun r n1 h => ?_⟩
        obtain ⟨x, e, hf, h⟩ := truW_get h
        rw [e] at h ⊢
        refine ⟨hf, fun H1 G1 Z1 g1 o1 => ?_⟩
        cases ek : truD x with
        | true =>
          rw [ek] at h
          simp only [if_true] at h ⊢
          exact ⟨G1, Z1, n1, ρ, st.mono g1 o1, wpE_mono fx.mono b h fun r n2 h => truW_mono h fun k h H2 G2 Z2 g2 o2 => h H2 G2 Z2 (g1.trans g2) o2⟩
        | false =>
          rw [ek] at h
          simp only [Bool.false_eq_true, if_false] at h ⊢
          have := h.2 H1 G1 Z1 g1 o1
          rw [ek] at this
          exact this
  | .or a b, X, sc, pe, Xt, Ew, fx, hsc, hp, h, hq => by
    unfold chkE at h
    cases pe <;> first | cases h | skip
    rename_i op vs q
    cases vs with
    | nil => cases h
    | cons x vs =>
      cases vs with
      | nil => cases h
      | cons y r =>
        simp only [Bool.and_eq_true] at h
        obtain ⟨⟨⟨⟨h0, ha⟩, hb⟩, h1⟩, h2⟩ := h
        cases op <;> first | cases h0 | skip
        refine PT.imp (pw_or (sndT a Xt Ew fx hsc hp h1 (sndE a Xt Ew fx hsc hp h1)) (pw_or2 (sndT b Xt Ew fx hsc hp h2 (sndE b Xt Ew fx hsc hp h2)))).pt ?_
        rintro σ H Q ⟨G, Z, n, ρ, st, h⟩
        unfold wpE at h
        show rdT Γ X.mg X.K Xt Ew a σ H _
        refine ⟨G, Z, n, ρ, st, wpE_mono fx.mono a h fun r n1 h => ?_⟩
        obtain ⟨x, e, hf, h⟩ := truW_get h
        rw [e] at h ⊢
        refine ⟨hf, fun H1 G1 Z1 g1 o1 => ?_⟩
        cases ek : truD x with
        | true =>
          rw [ek] at h
          simp only [if_true] at h ⊢
          have := h.2 H1 G1 Z1 g1 o1
          rw [ek] at this
          exact this
        | false =>
          rw [ek] at h
          simp only [Bool.false_eq_true, if_false] at h ⊢
          exact ⟨G1, Z1, n1, ρ, st.mono g1 o1, wpE_mono fx.mono b h fun r n2 h => truW_mono h fun k h H2 G2 Z2 g2 o2 => h H2 G2 Z2 (g1.trans g2) o2⟩
  | .ife c a b, X, sc, pe, Xt, Ew, fx, hsc, hp, h, hq => by
    unfold chkE at h
    cases pe <;> first | cases h | skip
    simp only [Bool.and_eq_true] at h
    obtain ⟨⟨⟨⟨ha, hb⟩, h0⟩, h1⟩, h2⟩ := h
    refine PT.imp (pt_ife (sndT c Xt Ew fx hsc hp h0 (sndE c Xt Ew fx hsc hp h0)) (sndT a Xt Ew fx hsc hp h1 (sndE a Xt Ew fx hsc hp h1)) (sndT b Xt Ew fx hsc hp h2 (sndE b Xt Ew fx hsc hp h2))) ?_
    rintro σ H Q ⟨G, Z, n, ρ, st, h⟩
    unfold wpE at h
    show rdT Γ X.mg X.K Xt Ew c σ H _
    refine ⟨G, Z, n, ρ, st, wpE_mono fx.mono c h fun r n1 h => truW_mono h fun k h H1 G1 Z1 g1 o1 => ?_⟩
    have s1 := st.mono g1 o1
    cases k with
    | true =>
      simp only [if_true] at h ⊢
      exact ⟨G1, Z1, n1, ρ, s1, wpE_mono fx.mono a h fun r n2 h => truW_mono h fun k h H2 G2 Z2 g2 o2 => h H2 G2 Z2 (g1.trans g2) o2⟩
    | false =>
      simp only [Bool.false_eq_true, if_false] at h ⊢
      exact ⟨G1, Z1, n1, ρ, s1, wpE_mono fx.mono b h fun r n2 h => truW_mono h fun k h H2 G2 Z2 g2 o2 => h H2 G2 Z2 (g1.trans g2) o2⟩
  | .cmp o a b, X, sc, pe, Xt, Ew, fx, hsc, hp, h, hq => by
    unfold chkE at h
    cases pe <;> first | cases h | skip
    rename_i l ops rs _
    cases ops with
    | nil => cases h
    | cons p ops =>
      cases ops with
      | cons _ _ => cases h
      | nil =>
        cases rs with
        | nil => cases h
        | cons r rs =>
          cases rs with
          | cons _ _ => cases h
          | nil =>
            simp only [Bool.and_eq_true] at h
            obtain ⟨⟨⟨h0, h1⟩, h2⟩, h3⟩ := h
            obtain rfl := copB_eq h0
            refine PT.imp (pt_cmpR (cmp_ok fx.un o) (sndE a Xt Ew fx hsc hp h1) (sndE b Xt Ew fx hsc hp h2) (mark_of h3 _)) ?_
            rintro σ H Q ⟨G, Z, n, ρ, st, h⟩
            unfold wpE at h
            show rd Γ X.mg X.K Xt Ew a σ H _
            refine stepA fx.mono st h fun x n1 v H1 G1 Z1 h g1 s1 w1 _ => stepA fx.mono s1 h fun y n2 v2 H2 G2 Z2 h g2 s2 w2 _ => ?_
            exact ⟨G2, Z2, n2, x.t, y.t, s2.ok, (w1.mono g2 s1.ok).weak, w2.weak, cmpW_mono h fun k hk => ⟨k, rfl, hk.2 H2 G2 Z2 (g1.trans g2) s2.ok⟩⟩
  | .chain o o' a b c, X, sc, pe, Xt, Ew, fx, hsc, hp, h, hq => by
    unfold chkE at h
    cases pe <;> first | cases h | skip
    rename_i l ops rs _
    cases ops with
    | nil => cases h
    | cons p ops =>
      cases ops with
      | nil => cases h
      | cons p' ops =>
        cases ops with
        | cons _ _ => cases h
        | nil =>
          cases rs with
          | nil => cases h
          | cons r rs =>
            cases rs with
            | nil => cases h
            | cons r' rs =>
              cases rs with
              | cons _ _ => cases h
              | nil =>
                simp only [Bool.and_eq_true] at h
                obtain ⟨⟨⟨⟨⟨h0, h0'⟩, h1⟩, h2⟩, h3⟩, h4⟩ := h
                obtain rfl := copB_eq h0
                obtain rfl := copB_eq h0'
                refine PT.imp (pt_chain (cmp_ok fx.un o) (cmp_ok fx.un o') (sndE a Xt Ew fx hsc hp h1) (sndE b Xt Ew fx hsc hp h2) (sndE c Xt Ew fx hsc hp h3) (by show behindInMarks _ r' = false; exact mark_of h4 _)) ?_
                rintro σ H Q ⟨G, Z, n, ρ, st, h⟩
                unfold wpE at h
                show rd Γ X.mg X.K Xt Ew a σ H _
                refine stepA fx.mono st h fun x n1 v H1 G1 Z1 h g1 s1 w1 _ => stepA fx.mono s1 h fun y n2 v2 H2 G2 Z2 h g2 s2 w2 _ => ?_
                refine ⟨G2, Z2, n2, x.t, y.t, s2.ok, (w1.mono g2 s1.ok).weak, w2.weak, cmpW_mono h fun k hk => ⟨k, rfl, ?_⟩⟩
                cases k with
                | false =>
                  simp only [Bool.false_eq_true, if_false] at hk ⊢
                  exact ⟨false, rfl, hk.2 H2 G2 Z2 (g1.trans g2) s2.ok⟩
                | true =>
                  simp only [if_true] at hk ⊢
                  refine stepA fx.mono s2 hk fun z n3 v3 H3 G3 Z3 h g3 s3 w3 _ => ?_
                  exact ⟨G3, Z3, n3, y.t, z.t, s3.ok, (w2.mono g3 s2.ok).weak, w3.weak, cmpW_mono h fun k hk => ⟨k, rfl, hk.2 H3 G3 Z3 ((g1.trans g2).trans g3) s3.ok⟩⟩
  | .atm a, X, sc, pe, Xt, Ew, fx, hsc, hp, h, hq => by
    unfold chkE at h
    have h : chkE Γ X.N sc a pe = true := by cases pe <;> exact h
    refine PT.imp (sndT a (fun er n => atomD er.x = true ∧ Xt er n) Ew fx hsc hp h (sndE a (fun er n => atomD er.x = true ∧ Xt er n) Ew fx hsc hp h)) ?_
    rintro σ H Q ⟨G, Z, n, ρ, st, h⟩
    unfold wpE at h
    refine ⟨G, dks H G Z, n, unown ρ, st.other, wpE_mono fx.mono a h fun r n1 h => truW_mono h.2 fun b h H1 G1 Z1 g1 o1 => ?_⟩
    obtain ⟨L, e, g, o⟩ := Gr.other g1 st.ok o1
    exact h H1 G1 _ g o
  | .c x, X, sc, pe, Xt, Ew, fx, hsc, hp, h, hq => plain_pt fx.mono (by unfold chkE at h; cases pe <;> first | cases h | rfl) hq
  | .v i, X, sc, pe, Xt, Ew, fx, hsc, hp, h, hq => plain_pt fx.mono (by unfold chkE at h; cases pe <;> first | cases h | rfl) hq
  | .w i, X, sc, pe, Xt, Ew, fx, hsc, hp, h, hq => plain_pt fx.mono (by unfold chkE at h; cases pe <;> first | cases h | rfl) hq
  | .g k, X, sc, pe, Xt, Ew, fx, hsc, hp, h, hq => plain_pt fx.mono (by unfold chkE at h; cases pe <;> first | cases h | rfl) hq
  | .bin o a b, X, sc, pe, Xt, Ew, fx, hsc, hp, h, hq => plain_pt fx.mono (by unfold chkE at h; cases pe <;> first | cases h | rfl) hq
  | .lst l, X, sc, pe, Xt, Ew, fx, hsc, hp, h, hq => plain_pt fx.mono (by unfold chkE at h; cases pe <;> first | cases h | rfl) hq
  | .tup l, X, sc, pe, Xt, Ew, fx, hsc, hp, h, hq => plain_pt fx.mono (by unfold chkE at h; cases pe <;> first | cases h | rfl) hq
  | .dct kvs, X, sc, pe, Xt, Ew, fx, hsc, hp, h, hq => plain_pt fx.mono (by unfold chkE at h; cases pe <;> first | cases h | rfl) hq
  | .gix i k, X, sc, pe, Xt, Ew, fx, hsc, hp, h, hq => plain_pt fx.mono (by unfold chkE at h; cases pe <;> first | cases h | rfl) hq
  | .ix a i, X, sc, pe, Xt, Ew, fx, hsc, hp, h, hq => plain_pt fx.mono (by unfold chkE at h; cases pe <;> first | cases h | rfl) hq
  | .sl a lo hi, X, sc, pe, Xt, Ew, fx, hsc, hp, h, hq => plain_pt fx.mono (by unfold chkE at h; cases pe <;> first | cases h | rfl) hq
  | .rev a, X, sc, pe, Xt, Ew, fx, hsc, hp, h, hq => plain_pt fx.mono (by unfold chkE at h; cases pe <;> first | cases h | rfl) hq
  | .call f l, X, sc, pe, Xt, Ew, fx, hsc, hp, h, hq => plain_pt fx.mono (by unfold chkE at h; cases pe <;> first | cases h | rfl) hq
  | .callk f l pm ks, X, sc, pe, Xt, Ew, fx, hsc, hp, h, hq => plain_pt fx.mono (by unfold chkE at h; cases pe <;> first | cases h | rfl) hq
  | .isi a t, X, sc, pe, Xt, Ew, fx, hsc, hp, h, hq => plain_pt fx.mono (by unfold chkE at h; cases pe <;> first | cases h | rfl) hq
  | .lrg a, X, sc, pe, Xt, Ew, fx, hsc, hp, h, hq => plain_pt fx.mono (by unfold chkE at h; cases pe <;> first | cases h | rfl) hq
  | .isi2 a t u, X, sc, pe, Xt, Ew, fx, hsc, hp, h, hq => plain_pt fx.mono (by unfold chkE at h; cases pe <;> first | cases h | rfl) hq
  | .bi b l, X, sc, pe, Xt, Ew, fx, hsc, hp, h, hq => plain_pt fx.mono (by unfold chkE at h; cases pe <;> first | cases h | rfl) hq
  | .mt m a l, X, sc, pe, Xt, Ew, fx, hsc, hp, h, hq => plain_pt fx.mono (by unfold chkE at h; cases pe <;> first | cases h | rfl) hq
  | .lc own tg k src cnd elt, X, sc, pe, Xt, Ew, fx, hsc, hp, h, hq => plain_pt fx.mono (by unfold chkE at h; cases pe <;> first | cases h | rfl) hq
  | .neg a, X, sc, pe, Xt, Ew, fx, hsc, hp, h, hq => plain_pt fx.mono (by
      unfold chkE at h
      cases pe <;> first | cases h | skip
      rename_i op _ _
      cases op <;> first | cases h | rfl) hq
theorem sndSrc : ∀ (k : SK) (l : Es) {X : Cx} {sc : Scope} {t pe : Expr} (Xt : XE) (Ew : XS), Fx Γ X → X.env.scope = sc → (∀ σ, PassesAt (L2.CX X.prog X.w) X σ (Ew σ)) → zipT k t = true → chkSrc Γ X.N sc k l pe = true → PI X t pe (rdSrc Γ X.mg X.K Xt Ew k l)
  | .seq, .cons a .nil, X, sc, t, pe, Xt, Ew, fx, hsc, hp, hz, h => by
    unfold chkSrc at h
    have h : (sg a && chkE Γ X.N sc a pe) = true := by cases pe <;> exact h
    rw [Bool.and_eq_true] at h
    obtain ⟨hs, h⟩ := h
    refine ⟨fun pins s σ H R I hh => ?_⟩
    obtain ⟨G, Z, n, ρ, st, hh⟩ := hh
    unfold wpEs wpEs at hh
    have key := stepA (R := fun v H1 => ∃ G1 Z1 n1 t, Ok G1 Z1 H1 n1 ∧ RV X.K true H1 G1 Z1 v t ∧ srcW .seq [t] fun ds => ∀ J H2, Gr G1 Z1 H1 G1 Z1 H2 → Ok G1 Z1 H2 n1 → (∀ P : List Addr, (∀ p ∈ P, H2 p = none) → ItD X.K G1 J (P ++ Z1) H2 ds) → ItD X.K Z1 J Z1 H2 ds → R J H2) fx.mono st hh
      fun x n1 v H1 G1 Z1 h g1 s1 w1 _ => ⟨G1, Z1, n1, x.t, s1.ok, by rw [hs] at w1; exact w1, srcW_mono h fun ds h J H2 g2 o2 a1 a2 => h J H2 G1 Z1 (g1.trans g2) o2 a1 fun _ => a2⟩
    exact thn ((sndE a Xt Ew fx hsc hp h).run pins s σ H _ I key) fun u s1 ⟨v, H1, I1, r1, G1, Z1, n1, t, o1, w1, q1⟩ => src_seq I1 o1 r1 w1 q1
  | .seqw, .cons a .nil, X, sc, t, pe, Xt, Ew, fx, hsc, hp, hz, h => by
    unfold chkSrc at h
    have h : chkE Γ X.N sc a pe = true := by cases pe <;> exact h
    refine ⟨fun pins s σ H R I hh => ?_⟩
    obtain ⟨G, Z, n, ρ, st, hh⟩ := hh
    unfold wpEs wpEs at hh
    have key := stepA (R := fun v H1 => ∃ G1 Z1 n1 t, Ok G1 Z1 H1 n1 ∧ RV X.K (sg a) H1 G1 Z1 v t ∧ srcW .seqw [t] fun ds => ∀ J, (∀ P : List Addr, (∀ p ∈ P, H1 p = none) → ItD X.K G1 J (P ++ Z1) H1 ds) → (sg a = true → ItD X.K Z1 J Z1 H1 ds) → R J H1) fx.mono st hh
      fun x n1 v H1 G1 Z1 h g1 s1 w1 _ => ⟨G1, Z1, n1, x.t, s1.ok, w1, srcW_mono h fun ds h J a1 a2 => h J H1 G1 Z1 g1 s1.ok a1 fun e => a2 (by simpa [sgs] using e)⟩
    exact thn ((sndE a Xt Ew fx hsc hp h).run pins s σ H _ I key) fun u s1 ⟨v, H1, I1, r1, G1, Z1, n1, t, o1, w1, q1⟩ => src_seqw I1 o1 r1 w1 q1
  | .rng1, .cons a .nil, X, sc, t, pe, Xt, Ew, fx, hsc, hp, hz, h => by
    unfold chkSrc at h
    cases pe <;> first | cases h | skip
    rename_i fn es kws pos
    cases fn <;> first | cases h | skip
    cases es with
    | nil => cases h
    | cons e es =>
      cases es with
      | cons _ _ => cases h
      | nil =>
        cases kws with
        | cons _ _ => cases h
        | nil =>
          simp only [Bool.and_eq_true, decide_eq_true_eq] at h
          obtain ⟨⟨⟨⟨h0, h1⟩, h2⟩, h3⟩, h4⟩ := h
          subst h0
          refine PI.imp (pi_range1 (gl_of hsc h2) (fx.bl _ h1) (pa_cons (sndE a Xt Ew fx hsc hp h4) pa_nil (star_of h3 _ _)) (star_of h3 _ _)) ?_
          rintro σ H R ⟨G, Z, n, ρ, st, h⟩
          unfold wpEs wpEs at h
          show rd Γ X.mg X.K Xt Ew a σ H _
          refine stepA fx.mono st h fun x n1 v H1 G1 Z1 h g1 s1 w1 _ => ?_
          obtain ⟨z, ez, h⟩ := src_rng1 h
          have w := w1.weak
          rw [ez] at w
          obtain rfl := w.int
          exact ⟨z, rfl, h.1, h.2.1, h.2.2 _ H1 G1 Z1 g1 s1.ok (fun P _ => by simpa using itd_range (lo := 0)) fun _ => by simpa using itd_range (lo := 0)⟩
  | .rng2, .cons a (.cons b .nil), X, sc, t, pe, Xt, Ew, fx, hsc, hp, hz, h => by
    unfold chkSrc at h
    cases pe <;> first | cases h | skip
    rename_i fn es kws pos
    cases fn <;> first | cases h | skip
    cases es with
    | nil => cases h
    | cons e es =>
      cases es with
      | nil => cases h
      | cons e' es =>
        cases es with
        | cons _ _ => cases h
        | nil =>
          cases kws with
          | cons _ _ => cases h
          | nil =>
            simp only [Bool.and_eq_true, decide_eq_true_eq] at h
            obtain ⟨⟨⟨⟨⟨⟨h0, h1⟩, h2⟩, h3⟩, h3'⟩, h4⟩, h5⟩ := h
            subst h0
            refine PI.imp (pi_range2 (gl_of hsc h2) (fx.bl _ h1) (pa_cons (sndE a Xt Ew fx hsc hp h4) (pa_cons (sndE b Xt Ew fx hsc hp h5) pa_nil (star_of h3' _ _)) (star_of h3 _ _)) (by rw [star_of h3, star_of h3']; rfl) (star_of h3' _ _)) ?_
            rintro σ H R ⟨G, Z, n, ρ, st, h⟩
            unfold wpEs wpEs wpEs at h
            show rd Γ X.mg X.K Xt Ew a σ H _
            refine stepA fx.mono st h fun x n1 v H1 G1 Z1 h g1 s1 w1 _ => ?_
            show rd Γ X.mg X.K Xt Ew b σ H1 _
            refine stepA fx.mono s1 h fun y n2 v2 H2 G2 Z2 h g2 s2 w2 _ => ?_
            obtain ⟨i, j, ez, ez2, h⟩ := src_rng2 h
            have w := w1.weak
            rw [ez] at w
            obtain rfl := w.int
            have w := w2.weak
            rw [ez2] at w
            obtain rfl := w.int
            exact ⟨i, j, rfl, h.1, h.2 _ H2 G2 Z2 (g1.trans g2) s2.ok (fun P _ => itd_range) fun _ => itd_range⟩
  | .zip, .cons a (.cons b .nil), X, sc, t, pe, Xt, Ew, fx, hsc, hp, hz, h => by
    unfold chkSrc at h
    cases pe <;> first | cases h | skip
    rename_i fn es kws pos
    cases fn <;> first | cases h | skip
    cases es with
    | nil => cases h
    | cons e es =>
      cases es with
      | nil => cases h
      | cons e' es =>
        cases es with
        | cons _ _ => cases h
        | nil =>
          cases kws with
          | cons _ _ => cases h
          | nil =>
            simp only [Bool.and_eq_true, decide_eq_true_eq] at h
            obtain ⟨⟨⟨⟨⟨⟨h0, h1⟩, h2⟩, h3⟩, h3'⟩, h4⟩, h5⟩ := h
            subst h0
            cases t <;> first | cases hz | skip
            refine PI.imp (RZ.pi_zipA (gl_of hsc h2) (fx.bl _ h1) (pa_cons (sndE a Xt Ew fx hsc hp h4) (pa_cons (sndE b Xt Ew fx hsc hp h5) pa_nil (star_of h3' _ _)) (star_of h3 _ _)) (star_of h3 _ _) (by rw [star_of h3']; rfl)) ?_
            rintro σ H R ⟨G, Z, n, ρ, st, h⟩
            unfold wpEs wpEs wpEs at h
            show rd Γ X.mg X.K Xt Ew a σ H _
            refine stepA fx.mono st h fun x n1 v H1 G1 Z1 h g1 s1 w1 _ => ?_
            show rd Γ X.mg X.K Xt Ew b σ H1 _
            refine stepA fx.mono s1 h fun y n2 v2 H2 G2 Z2 h g2 s2 w2 _ => ?_
            obtain ⟨xs, ys, ⟨ez, ez2⟩ | ⟨ez, ez2⟩, h⟩ := src_zip h
            · have w1' := w1.mono g2 s1.ok
              rw [ez] at w1'
              rw [ez2] at w2
              obtain ⟨p, vs, rfl, hp1, r1, np, f1⟩ := rv_list s2.ok w1'
              obtain ⟨q, ws, rfl, hq1, r2, nq, f2⟩ := rv_list s2.ok w2
              refine ⟨p, q, vs, ws, rfl, .inl ⟨.of hp1, .of hq1, h _ H2 G2 Z2 (g1.trans g2) s2.ok (fun P hP => itd_zip (fun a h => List.mem_append_right _ (s2.ok.sub a h)) np nq hp1 hq1 (RpA.le (mask_new hP) r1) (RpA.le (mask_new hP) r2)) fun e => ?_⟩⟩
              simp only [sgs, List.all_cons, List.all_nil, Bool.and_true, Bool.and_eq_true, id] at e
              exact itd_zip (fun _ y => y) (f1 e.1) (f2 e.2) hp1 hq1 r1 r2
            · have w1' := w1.mono g2 s1.ok
              rw [ez] at w1'
              rw [ez2] at w2
              obtain ⟨p, vs, rfl, hp1, r1⟩ := rv_tup w1'
              obtain ⟨q, ws, rfl, hq1, r2⟩ := rv_tup w2
              refine ⟨p, q, vs, ws, rfl, .inr ⟨mask_le.sqT hp1, mask_le.sqT hq1, h _ H2 G2 Z2 (g1.trans g2) s2.ok (fun P hP => itd_zipT (fun a h => List.mem_append_right _ (s2.ok.sub a h)) ((mask_new hP).sqT hp1) ((mask_new hP).sqT hq1) (RpA.le (mask_new hP) r1) (RpA.le (mask_new hP) r2)) fun e => ?_⟩⟩
              exact itd_zipT (fun _ y => y) hp1 hq1 r1 r2
  | .seq, .nil, X, sc, t, pe, Xt, Ew, fx, hsc, hp, hz, h => by unfold chkSrc at h; cases h
  | .seqw, .nil, X, sc, t, pe, Xt, Ew, fx, hsc, hp, hz, h => by unfold chkSrc at h; cases h
  | .rng1, .nil, X, sc, t, pe, Xt, Ew, fx, hsc, hp, hz, h => by unfold chkSrc at h; cases h
  | .rng2, .nil, X, sc, t, pe, Xt, Ew, fx, hsc, hp, hz, h => by unfold chkSrc at h; cases h
  | .zip, .nil, X, sc, t, pe, Xt, Ew, fx, hsc, hp, hz, h => by unfold chkSrc at h; cases h
  | .seq, .cons _ (.cons _ _), X, sc, t, pe, Xt, Ew, fx, hsc, hp, hz, h => by unfold chkSrc at h; cases h
  | .seqw, .cons _ (.cons _ _), X, sc, t, pe, Xt, Ew, fx, hsc, hp, hz, h => by unfold chkSrc at h; cases h
  | .rng1, .cons _ (.cons _ _), X, sc, t, pe, Xt, Ew, fx, hsc, hp, hz, h => by unfold chkSrc at h; cases h
  | .rng2, .cons _ .nil, X, sc, t, pe, Xt, Ew, fx, hsc, hp, hz, h => by unfold chkSrc at h; cases h
  | .zip, .cons _ .nil, X, sc, t, pe, Xt, Ew, fx, hsc, hp, hz, h => by unfold chkSrc at h; cases h
  | .rng2, .cons _ (.cons _ (.cons _ _)), X, sc, t, pe, Xt, Ew, fx, hsc, hp, hz, h => by unfold chkSrc at h; cases h
  | .zip, .cons _ (.cons _ (.cons _ _)), X, sc, t, pe, Xt, Ew, fx, hsc, hp, hz, h => by unfold chkSrc at h; cases h
theorem sndEs : ∀ (l : Es) {X : Cx} {sc : Scope} {pe : List Expr} (Xt : XE) (Ew : XS), Fx Γ X → X.env.scope = sc → (∀ σ, PassesAt (L2.CX X.prog X.w) X σ (Ew σ)) → chkEs Γ X.N sc l pe = true → PA X pe (rds Γ X.mg X.K Xt Ew l)
  | .nil, X, sc, pe, Xt, Ew, fx, hsc, hp, h => by
    cases pe with
    | cons _ _ => unfold chkEs at h; cases h
    | nil =>
      refine PA.imp pa_nil ?_
      rintro σ H Q ⟨G, Z, n, ρ, st, h⟩
      unfold wpEs at h
      exact h [] H G Z Gr.refl st.ok trivial
  | .cons a l, X, sc, pe, Xt, Ew, fx, hsc, hp, h => by
    cases pe with
    | nil => unfold chkEs at h; cases h
    | cons e es =>
      unfold chkEs at h
      simp only [Bool.and_eq_true] at h
      refine PA.imp (pa_cons (sndE a Xt Ew fx hsc hp h.1.2) (sndEs l Xt Ew fx hsc hp h.2) (star_of h.1.1 _ _)) ?_
      rintro σ H Q ⟨G, Z, n, ρ, st, h⟩
      unfold wpEs at h
      show rd Γ X.mg X.K Xt Ew a σ H _
      refine stepA fx.mono st h fun x n1 v H1 G1 Z1 h g1 s1 w1 _ => ?_
      show rds Γ X.mg X.K Xt Ew l σ H1 _
      refine stepAs fx.mono s1 h fun ts n2 vs H2 G2 Z2 h g2 s2 w2 => ?_
      exact h _ H2 G2 Z2 (g1.trans g2) s2.ok ⟨w1.mono g2 s1.ok, w2⟩
theorem sndKs : ∀ (l : Es) {X : Cx} {sc : Scope} {pe : List Keyword} (Xt : XE) (Ew : XS), Fx Γ X → X.env.scope = sc → (∀ σ, PassesAt (L2.CX X.prog X.w) X σ (Ew σ)) → chkKs Γ X.N sc l pe = true → PK X pe (rds Γ X.mg X.K Xt Ew l)
  | .nil, X, sc, pe, Xt, Ew, fx, hsc, hp, h => by
    cases pe with
    | cons _ _ => unfold chkKs at h; cases h
    | nil =>
      refine PK.imp pk_nil ?_
      rintro σ H Q ⟨G, Z, n, ρ, st, h⟩
      unfold wpEs at h
      exact h [] H G Z Gr.refl st.ok trivial
  | .cons a l, X, sc, pe, Xt, Ew, fx, hsc, hp, h => by
    cases pe with
    | nil => unfold chkKs at h; cases h
    | cons e es =>
      obtain ⟨nm, e, p⟩ := e
      unfold chkKs at h
      simp only [Bool.and_eq_true] at h
      refine PK.imp (pk_cons (sndE a Xt Ew fx hsc hp h.1) (sndKs l Xt Ew fx hsc hp h.2)) ?_
      rintro σ H Q ⟨G, Z, n, ρ, st, h⟩
      unfold wpEs at h
      show rd Γ X.mg X.K Xt Ew a σ H _
      refine stepA fx.mono st h fun x n1 v H1 G1 Z1 h g1 s1 w1 _ => ?_
      show rds Γ X.mg X.K Xt Ew l σ H1 _
      refine stepAs fx.mono s1 h fun ts n2 vs H2 G2 Z2 h g2 s2 w2 => ?_
      exact h _ H2 G2 Z2 (g1.trans g2) s2.ok ⟨w1.mono g2 s1.ok, w2⟩
end
end
end TL

set_option Elab.async false
set_option linter.all false
set_option maxRecDepth 100000
/-! TL13: statements: the small syntax, its meaning over trees. -/
namespace TL
open PySem PySem.Spec PyProof.Rows L2

mutual
inductive S where
  | ret (e : E) | retO (i : Nat) | set (i : Nat) (e : E) | upk (l : List Nat) (e : E) | par (l : List Nat) (es : Es)
  | app (i : Nat) (e : E) | ex (e : E) | gst (i k : Nat) (e : E)
  | ite (c : E) (a b : Ss) | for_ (tg : Tg) (k : SK) (src : Es) (b : Ss) | whl (c : E) (b : Ss)
  | ins (i : Nat) (a b : E) | ext (i : Nat) (e : E) | pset (j i : Nat) (l : Es) | papp (j i : Nat) (l : Es) | sub (i : Nat) (a e : E)
  | pass | brk | cont | raise (c : Nat) (e : E) | no
inductive Ss where
  | nil | cons (fz : List Nat) (s : S) (l : Ss)
end

/-- x.pop(), x.pop(z) -/
def popW (ds : List PyData) : List T → (PyData → List PyData → Prop) → Prop
  | [], Q => ∃ y, ds[ds.length - 1]? = some y ∧ Q y ds.dropLast
  | [.d (.int z)], Q => (-(2 ^ 62) ≤ z ∧ z < 2 ^ 62) ∧ ∃ k y, L2.ixN ds.length z = some k ∧ ds[k]? = some y ∧ Q y (ds.eraseIdx k)
  | _, _ => False
/-- x[a] = y -/
def subW : PyData → T → PyData → (PyData → Prop) → Prop
  | .list ds, .d (.int z), y, Q => ∃ k, L2.ixN ds.length z = some k ∧ Q (.list (ds.set k y))
  | .dict kvs, .d k, y, Q => (keyOk k ∧ kOk kvs ∧ kvs.length < sizeLine) ∧ Q (.dict (dPut kvs k y))
  | _, _, _, _ => False
theorem popW_mono {ds : List PyData} {ts : List T} {Q Q' : PyData → List PyData → Prop} (h : popW ds ts Q) (q : ∀ a b, Q a b → Q' a b) : popW ds ts Q' := by
  unfold popW at h ⊢
  split at h <;> first
    | exact h.elim
    | (obtain ⟨a, b, c⟩ := h; exact ⟨a, b, q _ _ c⟩)
    | (obtain ⟨o, k, a, b, c, d⟩ := h; exact ⟨o, k, a, b, c, q _ _ d⟩)
theorem subW_mono {c : PyData} {x : T} {y : PyData} {Q Q' : PyData → Prop} (h : subW c x y Q) (q : ∀ a, Q a → Q' a) : subW c x y Q' := by
  unfold subW at h ⊢
  split at h <;> first
    | exact h.elim
    | (obtain ⟨a, b, c⟩ := h; exact ⟨a, b, q _ c⟩)
    | exact ⟨h.1, q _ h.2⟩
theorem pop_int {ds : List PyData} {t : T} {Q : PyData → List PyData → Prop} (h : popW ds [t] Q) : ∃ z k y, t = .d (.int z) ∧ (-(2 ^ 62) ≤ z ∧ z < 2 ^ 62) ∧ L2.ixN ds.length z = some k ∧ ds[k]? = some y ∧ Q y (ds.eraseIdx k) := by
  cases t with
  | gen => exact h.elim
  | scr _ => exact h.elim
  | d x =>
    cases x <;> first | exact h.elim | skip
    obtain ⟨o, k, y, h⟩ := h
    exact ⟨_, k, y, rfl, o, h⟩
theorem sub_cases {c : PyData} {x : T} {y : PyData} {Q : PyData → Prop} (h : subW c x y Q) : (∃ ds z k, c = .list ds ∧ x = .d (.int z) ∧ L2.ixN ds.length z = some k ∧ Q (.list (ds.set k y))) ∨
    ∃ kvs k, c = .dict kvs ∧ x = .d k ∧ (keyOk k ∧ kOk kvs ∧ kvs.length < sizeLine) ∧ Q (.dict (dPut kvs k y)) := by
  cases c with
  | list ds =>
    cases x with
    | gen => exact h.elim
    | scr _ => exact h.elim
    | d x =>
      cases x <;> first | exact h.elim | skip
      obtain ⟨k, e, h⟩ := h
      exact .inl ⟨ds, _, k, rfl, rfl, e, h⟩
  | dict kvs =>
    cases x with
    | gen => exact h.elim
    | scr _ => exact h.elim
    | d x => exact .inr ⟨kvs, x, rfl, rfl, h.1, h.2⟩
  | none => cases x <;> exact h.elim
  | bool b => cases x <;> exact h.elim
  | int i => cases x <;> exact h.elim
  | str s => cases x <;> exact h.elim
  | tuple l => cases x <;> exact h.elim
structure EndT where
  nx : Ev → Nat → Prop
  rt : R → Nat → Prop
  bk : Ev → Nat → Prop := fun _ _ => False
  ct : Ev → Nat → Prop := fun _ _ => False

/-- a name's list is no more its own -/
def frz1 (ρ : Ev) (i : Nat) : Ev := match ρ[i]? with
  | some (some (_, t)) => ρ.set i (some (false, t))
  | _ => ρ
def frz : List Nat → Ev → Ev
  | [], ρ => ρ
  | i :: l, ρ => frz l (frz1 ρ i)

def forGo (tg : Tg) (body : EndT → Ev → Nat → Prop) (D : EndT) : List PyData → Ev → Nat → Prop
  | [], ρ, n => D.nx ρ n
  | x :: xs, ρ, n => ∃ ρ', asgD tg x ρ = some ρ' ∧ body { D with nx := forGo tg body D xs, ct := forGo tg body D xs, bk := D.nx } ρ' n
def whlGo (test : Ev → Nat → (Bool → Nat → Prop) → Prop) (body : EndT → Ev → Nat → Prop) (D : EndT) (ρ : Ev) (n : Nat) : Prop :=
  ∃ W : Nat → Ev → Nat → Prop, (∃ m, W m ρ n) ∧ ∀ m ρ n, W m ρ n → test ρ n fun k n =>
    if k = true then body { D with nx := fun ρ n => ∃ m', m' < m ∧ W m' ρ n, ct := fun ρ n => ∃ m', m' < m ∧ W m' ρ n, bk := D.nx } ρ n else D.nx ρ n

mutual
def wpS (Φ : Nat → TSp) (C : Nat → PyData) (X : XE) : S → EndT → Ev → Nat → Prop
  | .ret e, D, ρ, n => wpE Φ C X e ρ n D.rt
  | .retO i, D, ρ, n => ∃ t, ρ[i]? = some (some (true, t)) ∧ D.rt ⟨t, true⟩ n
  | .set i e, D, ρ, n => wpE Φ C X e ρ n fun r n => D.nx (ρ.set i (some (r.fr, r.t))) n
  | .upk l e, D, ρ, n => wpE Φ C X e ρ n fun r n => ∃ x ρ', r.t = .d x ∧ asgD (.tp l) x ρ = some ρ' ∧ D.nx ρ' n
  | .par l es, D, ρ, n => wpEf Φ C X es ρ n fun rs n => D.nx (setR l rs ρ) n
  | .app i e, D, ρ, n => ∃ ds, ρ[i]? = some (some (true, .d (.list ds))) ∧ wpE Φ C X e ρ n fun r n => ∃ y, r.t = .d y ∧ ds.length < sizeLine ∧ D.nx (ρ.set i (some (true, .d (.list (ds ++ [y]))))) n
  | .ins i a b, D, ρ, n => ∃ ds, ρ[i]? = some (some (true, .d (.list ds))) ∧ wpE Φ C X a ρ n fun x n => wpE Φ C X b ρ n fun r n => ∃ z y, x.t = .d (.int z) ∧ r.t = .d y ∧ (0 ≤ z ∧ z < 2 ^ 62 ∧ ds.length < sizeLine) ∧ D.nx (ρ.set i (some (true, .d (.list (ds.take z.toNat ++ [y] ++ ds.drop z.toNat))))) n
  | .ext i e, D, ρ, n => ∃ ds, ρ[i]? = some (some (true, .d (.list ds))) ∧ wpE Φ C X e ρ n fun r n => ∃ ys, r.t = .d (.list ys) ∧ ds.length + ys.length ≤ sizeLine ∧ D.nx (ρ.set i (some (true, .d (.list (ds ++ ys))))) n
  | .pset j i l, D, ρ, n => ∃ ds, ρ[i]? = some (some (true, .d (.list ds))) ∧ wpEs Φ C X l ρ n fun ts n => popW ds ts fun y ds' => D.nx ((ρ.set i (some (true, .d (.list ds')))).set j (some (false, .d y))) n
  | .papp j i l, D, ρ, n => ∃ ds es, ρ[i]? = some (some (true, .d (.list ds))) ∧ ρ[j]? = some (some (true, .d (.list es))) ∧ es.length < sizeLine ∧ wpEs Φ C X l ρ n fun ts n => popW ds ts fun y ds' => D.nx ((ρ.set i (some (true, .d (.list ds')))).set j (some (true, .d (.list (es ++ [y]))))) n
  | .sub i a e, D, ρ, n => ∃ c, ρ[i]? = some (some (true, .d c)) ∧ wpE Φ C X e ρ n fun r n => ∃ y, r.t = .d y ∧ wpE Φ C X a ρ n fun x n => subW c x.t y fun c' => D.nx (ρ.set i (some (true, .d c'))) n
  | .ex e, D, ρ, n => wpE Φ C X e ρ n fun _ n => D.nx ρ n
  | .gst i k e, D, ρ, n => wpE Φ C X e ρ n fun r n => ∃ b, ρ[i]? = some (some (b, .gen)) ∧ ∃ z n', r.t = .d (.int z) ∧ n ≤ n' ∧ genB k n' z ∧ D.nx ρ n'
  | .ite c a b, D, ρ, n => wpE Φ C X c ρ n fun r n => truW r.t fun k => if k = true then wpSs Φ C X a D ρ n else wpSs Φ C X b D ρ n
  | .for_ tg k src b, D, ρ, n => wpEs Φ C X src ρ n fun ts n => srcW k ts fun ds => forGo tg (fun D ρ n => wpSs Φ C X b D ρ n) D ds ρ n
  | .whl c b, D, ρ, n => whlGo (fun ρ n Q => wpE Φ C X c ρ n fun r n => truW r.t fun k => Q k n) (fun D ρ n => wpSs Φ C X b D ρ n) D ρ n
  | .pass, D, ρ, n => D.nx ρ n
  | .brk, D, ρ, n => D.bk ρ n
  | .cont, D, ρ, n => D.ct ρ n
  | .raise c e, D, ρ, n => wpE Φ C X e ρ n fun r n => ∃ x, r.t = .d x ∧ X ⟨c, x⟩ n
  | .no, _, _, _ => False
def wpSs (Φ : Nat → TSp) (C : Nat → PyData) (X : XE) : Ss → EndT → Ev → Nat → Prop
  | .nil, D, ρ, n => D.nx ρ n
  | .cons fz s l, D, ρ, n => wpS Φ C X s { D with nx := wpSs Φ C X l D } (frz fz ρ) n
end

structure EndT.le (D D' : EndT) : Prop where
  nx : ∀ ρ n, D.nx ρ n → D'.nx ρ n
  rt : ∀ r n, D.rt r n → D'.rt r n
  bk : ∀ ρ n, D.bk ρ n → D'.bk ρ n
  ct : ∀ ρ n, D.ct ρ n → D'.ct ρ n
theorem EndT.le.refl {D : EndT} : D.le D := ⟨fun _ _ h => h, fun _ _ h => h, fun _ _ h => h, fun _ _ h => h⟩
theorem forGo_mono {tg : Tg} {body : EndT → Ev → Nat → Prop} (hb : ∀ D D' ρ n, D.le D' → body D ρ n → body D' ρ n) {D D' : EndT} (l : D.le D') : ∀ (ds : List PyData) (ρ : Ev) (n : Nat), forGo tg body D ds ρ n → forGo tg body D' ds ρ n
  | [], ρ, n, h => l.nx _ _ h
  | x :: xs, ρ, n, h => by
    obtain ⟨ρ', e, h⟩ := h
    refine ⟨ρ', e, hb _ _ _ _ ?_ h⟩
    exact ⟨fun _ _ => forGo_mono hb l xs _ _, l.rt, l.nx, fun _ _ => forGo_mono hb l xs _ _⟩
theorem whlGo_mono {test : Ev → Nat → (Bool → Nat → Prop) → Prop} {body : EndT → Ev → Nat → Prop} (ht : ∀ ρ n (Q Q' : Bool → Nat → Prop), test ρ n Q → (∀ k n, Q k n → Q' k n) → test ρ n Q') (hb : ∀ D D' ρ n, D.le D' → body D ρ n → body D' ρ n) {D D' : EndT} (l : D.le D')
    {ρ : Ev} {n : Nat} (h : whlGo test body D ρ n) : whlGo test body D' ρ n := by
  obtain ⟨W, h0, h⟩ := h
  refine ⟨W, h0, fun m ρ n w => ht _ _ _ _ (h m ρ n w) fun k n q => ?_⟩
  cases k with
  | true =>
    simp only [if_true] at q ⊢
    refine hb _ _ _ _ ?_ q
    exact ⟨fun _ _ h => h, l.rt, l.nx, fun _ _ h => h⟩
  | false =>
    simp only [Bool.false_eq_true, if_false] at q ⊢
    exact l.nx _ _ q
mutual
theorem wpS_mono {Φ : Nat → TSp} {C : Nat → PyData} (M : MonoPh Φ) : ∀ {X : XE} (s : S) {D D' : EndT} {ρ : Ev} {n : Nat}, D.le D' → wpS Φ C X s D ρ n → wpS Φ C X s D' ρ n
  | X, .ret e, D, D', ρ, n, l, h => wpE_mono M e h l.rt
  | X, .retO i, D, D', ρ, n, l, ⟨t, e, h⟩ => ⟨t, e, l.rt _ _ h⟩
  | X, .set i e, D, D', ρ, n, l, h => wpE_mono M e h fun _ _ h => l.nx _ _ h
  | X, .upk v e, D, D', ρ, n, l, h => wpE_mono M e h fun _ _ ⟨x, ρ', e1, e2, h⟩ => ⟨x, ρ', e1, e2, l.nx _ _ h⟩
  | X, .par v es, D, D', ρ, n, l, h => wpEf_mono M es h fun _ _ h => l.nx _ _ h
  | X, .app i e, D, D', ρ, n, l, ⟨ds, e1, h⟩ => ⟨ds, e1, wpE_mono M e h fun _ _ ⟨y, e1, e2, h⟩ => ⟨y, e1, e2, l.nx _ _ h⟩⟩
  | X, .ins i a b, D, D', ρ, n, l, ⟨ds, e1, h⟩ => ⟨ds, e1, wpE_mono M a h fun _ _ h => wpE_mono M b h fun _ _ ⟨z, y, e2, e3, o, h⟩ => ⟨z, y, e2, e3, o, l.nx _ _ h⟩⟩
  | X, .ext i e, D, D', ρ, n, l, ⟨ds, e1, h⟩ => ⟨ds, e1, wpE_mono M e h fun _ _ ⟨ys, e2, o, h⟩ => ⟨ys, e2, o, l.nx _ _ h⟩⟩
  | X, .pset j i es, D, D', ρ, n, l, ⟨ds, e1, h⟩ => ⟨ds, e1, wpEs_mono M es h fun _ _ h => popW_mono h fun _ _ => l.nx _ _⟩
  | X, .papp j i es, D, D', ρ, n, l, ⟨ds, ds2, e1, e2, e3, h⟩ => ⟨ds, ds2, e1, e2, e3, wpEs_mono M es h fun _ _ h => popW_mono h fun _ _ => l.nx _ _⟩
  | X, .sub i a e, D, D', ρ, n, l, ⟨c, e1, h⟩ => ⟨c, e1, wpE_mono M e h fun _ _ ⟨y, e2, h⟩ => ⟨y, e2, wpE_mono M a h fun _ _ h => subW_mono h fun _ => l.nx _ _⟩⟩
  | X, .ex e, D, D', ρ, n, l, h => wpE_mono M e h fun _ _ h => l.nx _ _ h
  | X, .gst i k e, D, D', ρ, n, l, h => wpE_mono M e h fun _ _ ⟨b, e1, z, n', e2, e3, e4, h⟩ => ⟨b, e1, z, n', e2, e3, e4, l.nx _ _ h⟩
  | X, .ite c a b, D, D', ρ, n, l, h => wpE_mono M c h fun _ _ h => truW_mono h fun k h => by
      cases k with
      | true =>
        simp only [if_true] at h ⊢
        exact wpSs_mono M a l h
      | false =>
        simp only [Bool.false_eq_true, if_false] at h ⊢
        exact wpSs_mono M b l h
  | X, .for_ tg k src b, D, D', ρ, n, l, h => by
      unfold wpS at h ⊢
      exact wpEs_mono M src h fun _ _ h => srcW_mono h fun ds h => forGo_mono (body := fun D ρ n => wpSs Φ C X b D ρ n) (fun _ _ _ _ l h => wpSs_mono M b l h) l ds _ _ h
  | X, .whl c b, D, D', ρ, n, l, h => by
      unfold wpS at h ⊢
      exact whlGo_mono (test := fun ρ n Q => wpE Φ C X c ρ n fun r n => truW r.t fun k => Q k n) (body := fun D ρ n => wpSs Φ C X b D ρ n) (fun _ _ _ _ h q => wpE_mono M c h fun _ _ h => truW_mono h fun k h => q _ _ h) (fun _ _ _ _ l h => wpSs_mono M b l h) l h
  | X, .pass, D, D', ρ, n, l, h => l.nx _ _ h
  | X, .brk, D, D', ρ, n, l, h => l.bk _ _ h
  | X, .cont, D, D', ρ, n, l, h => l.ct _ _ h
  | X, .raise c e, D, D', ρ, n, l, h => h
  | X, .no, D, D', ρ, n, l, h => h
theorem wpSs_mono {Φ : Nat → TSp} {C : Nat → PyData} (M : MonoPh Φ) : ∀ {X : XE} (s : Ss) {D D' : EndT} {ρ : Ev} {n : Nat}, D.le D' → wpSs Φ C X s D ρ n → wpSs Φ C X s D' ρ n
  | X, .nil, D, D', ρ, n, l, h => l.nx _ _ h
  | X, .cons fz s r, D, D', ρ, n, l, h => by
      unfold wpSs at h ⊢
      refine wpS_mono M s ?_ h
      exact ⟨fun _ _ h => wpSs_mono M r l h, l.rt, l.bk, l.ct⟩
end

/-! ### the state between statements -/
/-- what stays true of the heap and the mask, whatever is done -/
structure Iv (I : Hp → List Addr → Prop) : Prop where
  grow : ∀ {H Zm G G1 Y1 H1 n}, I H Zm → Ok G Zm H n → Gr G Zm H G1 Y1 H1 → I H1 Y1
  new : ∀ {H Zm G G1 Y1 H1 n p}, I H Zm → Ok G Zm H n → Gr G Zm H G1 Y1 H1 → H p = none → I H1 (p :: Y1)
  wr : ∀ {H Zm p o}, I H Zm → p ∈ Zm → H p ≠ none → I (upd H p o) Zm
  sub : ∀ {H Zm Z'}, I H Zm → (∀ a ∈ Z', a ∈ Zm) → I H Z'
/-- own: the lists of the names' own at O; nothing of O is reached otherwise -/
structure Sm (K : PySem.W.Frag) (I : Hp → List Addr → Prop) (G0 Z0 : List Addr) (H0 : Hp) (σ : L2.St) (ρ : Ev) (H : Hp) (n : Nat) (G Z Zm O : List Addr) : Prop where
  g : Gr G0 Z0 H0 G Z H
  mem : ∀ a, a ∈ Zm ↔ a ∈ O ∨ a ∈ Z
  ok : Ok G Zm H n
  own : ∀ p ∈ O, H0 p = none ∧ p ∉ G
  env : EnvR K H G Zm σ ρ
  at_ : ∀ (i : Nat) (t : T), ρ[i]? = some (some (true, t)) → ∃ p, p ∈ O ∧ σ[i]? = some (some (V.ref p))
  inj : ∀ (i j : Nat) (t u : T) (p : Addr), ρ[i]? = some (some (true, t)) → ρ[j]? = some (some (true, u)) → σ[i]? = some (some (V.ref p)) → σ[j]? = some (some (V.ref p)) → i = j
  len : ρ.length = σ.length
  inv : I H Zm
def SmE (K : PySem.W.Frag) (I : Hp → List Addr → Prop) (G0 Z0 : List Addr) (H0 : Hp) (σ : L2.St) (ρ : Ev) (H : Hp) (n : Nat) : Prop := ∃ G Z Zm O, Sm K I G0 Z0 H0 σ ρ H n G Z Zm O
section
variable {mg : Str → Option Value} {cn : Nat → Str} {K : PySem.W.Frag} {Xt : XE} {Ew : XK} {G0 Z0 G Z Zm O G1 Y1 : List Addr} {H0 H H1 : Hp} {n0 n n1 : Nat} {σ : L2.St} {ρ : Ev} {I : Hp → List Addr → Prop}
theorem Ok.ofZ (o : Ok G Zm H n) (s : ∀ a ∈ Z, a ∈ Zm) (g : ∀ a ∈ G, a ∈ Z) : Ok G Z H n := ⟨g, fun z hz => o.dom z (s z hz), o.gen⟩
theorem Gr.subGZ (o : Ok G0 Z0 H0 n0) (g : Gr G0 Z0 H0 G Z H) : ∀ a ∈ G, a ∈ Z := by
  obtain ⟨L, rfl, rfl, _⟩ := g.new
  intro a h
  rcases List.mem_append.mp h with h | h
  · exact List.mem_append_left _ h
  · exact List.mem_append_right _ (o.sub a h)
/-- a write where nothing stood at the entry, or at a generator -/
theorem Gr.wrG {p : Addr} {o : HO} (g : Gr G0 Z0 H0 G Z H) (h : H0 p ≠ none → p ∈ G0) : Gr G0 Z0 H0 G Z (L2.upd H p o) := by
  have ne : ∀ {a : Addr} {u : HO}, a ∉ G0 → H0 a = some u → a ≠ p := fun {a u} h1 h2 z => by
    subst z
    exact h1 (h (by rw [h2]; simp))
  refine ⟨fun a u h1 h2 => ?_, fun a u h1 hz h2 => by rw [upd_ne (ne h1 h2)]; exact g.exz a u h1 hz h2, fun a h1 => ?_, g.new⟩
  · have := g.ext a u h1 h2
    unfold Ex at this ⊢
    rw [upd_ne (ne h1 h2)]
    exact this
  · by_cases z : a = p
    · subst z; rw [upd_same]; simp
    · rw [upd_ne z]; exact g.dom a h1
theorem Sm.subZ (s : Sm K I G0 Z0 H0 σ ρ H n G Z Zm O) : ∀ a ∈ Z, a ∈ Zm := fun a h => (s.mem a).mpr (.inr h)
theorem Sm.okZ (o0 : Ok G0 Z0 H0 n0) (s : Sm K I G0 Z0 H0 σ ρ H n G Z Zm O) : Ok G Z H n := s.ok.ofZ s.subZ (s.g.subGZ o0)
/-- a growth seen from the entry: the mask less what is one's own -/
theorem Sm.grow (o0 : Ok G0 Z0 H0 n0) (s : Sm K I G0 Z0 H0 σ ρ H n G Z Zm O) (g : Gr G Zm H G1 Y1 H1) (o : Ok G1 Y1 H1 n1) : ∃ Z1, Gr G Z H G1 Z1 H1 ∧ Gr G0 Z0 H0 G1 Z1 H1 ∧ Ok G1 Z1 H1 n1 ∧ (∀ a, a ∈ Y1 ↔ a ∈ O ∨ a ∈ Z1) ∧ (∀ a ∈ Z1, a ∈ Y1) := by
  obtain ⟨L, rfl, rfl, hL⟩ := g.new
  have mem : ∀ a, a ∈ L ++ Zm ↔ a ∈ O ∨ a ∈ L ++ Z := fun a => by
    rw [List.mem_append, List.mem_append, s.mem]
    constructor
    · rintro (h | h | h)
      · exact .inr (.inl h)
      · exact .inl h
      · exact .inr (.inr h)
    · rintro (h | h | h)
      · exact .inr (.inl h)
      · exact .inl h
      · exact .inr (.inr h)
  have gz : Gr G Z H (L ++ G) (L ++ Z) H1 := ⟨g.ext, fun a o h1 h2 => g.exz a o h1 (s.subZ a h2), g.dom, L, rfl, rfl, hL⟩
  have g2 := s.g.trans gz
  refine ⟨L ++ Z, gz, g2, o.ofZ (fun a h => (mem a).mpr (.inr h)) (g2.subGZ o0), mem, fun a h => (mem a).mpr (.inr h)⟩
theorem Sm.stt (o0 : Ok G0 Z0 H0 n0) (s : Sm K I G0 Z0 H0 σ ρ H n G Z Zm O) (w : Wsh mg cn K Xt Ew G0 Z0 H0) : Stt mg cn K Xt Ew G Zm H n σ ρ := by
  refine ⟨s.ok, s.env, fun er n' cls d H' G' Z' x g o e => ?_, s.len⟩
  obtain ⟨Z1, _, g1, o1, _, sub⟩ := s.grow o0 g o
  exact w er n' cls d H' G' Z1 x g1 o1 (e.sub sub)
theorem own_new (s : Sm K I G0 Z0 H0 σ ρ H n G Z Zm O) (g : Gr G Zm H G1 Y1 H1) : ∀ p ∈ O, H0 p = none ∧ p ∉ G1 := fun p hp => by
  refine ⟨(s.own p hp).1, ?_⟩
  obtain ⟨L, rfl, rfl, hL⟩ := g.new
  intro h
  rcases List.mem_append.mp h with h | h
  · exact s.ok.dom p ((s.mem p).mpr (.inl hp)) (hL p h)
  · exact (s.own p hp).2 h
/-- behind an expression -/
theorem Sm.mono (iv : Iv I) (o0 : Ok G0 Z0 H0 n0) (s : Sm K I G0 Z0 H0 σ ρ H n G Z Zm O) (g : Gr G Zm H G1 Y1 H1) (o : Ok G1 Y1 H1 n1) : ∃ Z1, Sm K I G0 Z0 H0 σ ρ H1 n1 G1 Z1 Y1 O := by
  obtain ⟨Z1, _, g1, o1, mem, sub⟩ := s.grow o0 g o
  exact ⟨Z1, g1, mem, o, own_new s g, s.env.mono g s.ok, s.at_, s.inj, s.len, iv.grow s.inv s.ok g⟩
end
end TL

set_option Elab.async false
set_option linter.all false
set_option maxRecDepth 100000
/-! TL14: the steps from state to state. -/
namespace TL
open PySem PySem.Spec PyProof.Rows L2
section
variable {mg : Str → Option Value} {cn : Nat → Str} {K : PySem.W.Frag} {Xt : XE} {Ew : XK} {G0 Z0 G Z Zm O G1 Y1 : List Addr} {H0 H H1 : Hp} {n0 n n1 : Nat} {σ : L2.St} {ρ : Ev} {v : V} {t : T} {i : Nat} {I : Hp → List Addr → Prop}
theorem set_get {α : Type} {l : List α} {i j : Nat} {a b : α} (e : (l.set i a)[j]? = some b) : (i = j ∧ a = b) ∨ (i ≠ j ∧ l[j]? = some b) := by
  by_cases h : i = j
  · subst h
    by_cases hl : i < l.length
    · rw [List.getElem?_set_self hl] at e
      cases e
      exact .inl ⟨rfl, rfl⟩
    · rw [List.getElem?_eq_none (by simpa using hl)] at e; cases e
  · rw [List.getElem?_set_ne h] at e
    exact .inr ⟨h, e⟩
theorem set_at {α : Type} {l : List α} {i j : Nat} {a : α} (h : i ≠ j) : (l.set i a)[j]? = l[j]? := List.getElem?_set_ne h
/-- a name gets a value -/
theorem Sm.setv (s : Sm K I G0 Z0 H0 σ ρ H n G Z Zm O) (r : RpT K H G Zm v t) : Sm K I G0 Z0 H0 (σ.set i (some v)) (ρ.set i (some (false, t))) H n G Z Zm O := by
  refine ⟨s.g, s.mem, s.ok, s.own, s.env.set s.len r, fun j u e => ?_, fun j k u u' p e1 e2 e3 e4 => ?_, by rw [List.length_set, List.length_set]; exact s.len, s.inv⟩
  · rcases set_get e with ⟨_, e⟩ | ⟨h, e⟩
    · cases e
    · obtain ⟨p, hp, e2⟩ := s.at_ j u e
      exact ⟨p, hp, by rw [set_at h]; exact e2⟩
  · rcases set_get e1 with ⟨_, e⟩ | ⟨h, e1⟩
    · cases e
    · rcases set_get e2 with ⟨_, e⟩ | ⟨h', e2⟩
      · cases e
      · rw [set_at h] at e3
        rw [set_at h'] at e4
        exact s.inj j k u u' p e1 e2 e3 e4
theorem Sm.notZ (o0 : Ok G0 Z0 H0 n0) (s : Sm K I G0 Z0 H0 σ ρ H n G Z Zm O) {p : Addr} (hp : p ∈ O) : p ∉ Z := by
  obtain ⟨L, e1, e2, _⟩ := s.g.new
  obtain ⟨h1, h2⟩ := s.own p hp
  intro z
  rw [e2] at z
  rcases List.mem_append.mp z with z | z
  · exact h2 (by rw [e1]; exact List.mem_append_left _ z)
  · exact o0.dom p z h1
/-- a name gets a new object of its own -/
theorem Sm.setF (iv : Iv I) (s : Sm K I G0 Z0 H0 σ ρ H n G Z Zm O) (o0 : Ok G0 Z0 H0 n0) (g : Gr G Zm H G1 Y1 H1) (o : Ok G1 Y1 H1 n1) (r : RpT K H1 G1 Y1 v t) (f : Fresh K H H1 Y1 v t) : SmE K I G0 Z0 H0 (σ.set i (some v)) (ρ.set i (some (true, t))) H1 n1 := by
  obtain ⟨Z1, _, g1, o1, mem, sub⟩ := s.grow o0 g o
  have key : ∃ p, v = .ref p ∧ H p = none ∧ H1 p ≠ none ∧ p ∉ G1 ∧ OwnT K H1 G1 (p :: Y1) v t := by
    cases t with
    | gen => exact f.elim
    | scr _ => exact f.elim
    | d x =>
      have r : Rp K (mask H1 Y1) v x := r
      cases x with
      | list ds =>
        obtain ⟨p, vs, rfl, h1, h2, h3⟩ := f
        have nY : p ∉ Y1 := by cases r with | lst h _ => exact (mask_some h).1
        exact ⟨p, rfl, h1, by rw [h2]; simp, fun z => nY (o.sub p z), p, vs, rfl, fun z => nY (o.sub p z), h2, h3⟩
      | dict ds =>
        obtain ⟨p, rfl, h1, h2⟩ := f
        have nY : p ∉ G1 := fun z => by
          obtain ⟨a, m, c, hg, _⟩ := o.gen p z
          rcases h2 with ⟨kvs, h2, _⟩ | ⟨kvs, h2, _⟩ <;> (rw [h2] at hg; cases hg)
        refine ⟨p, rfl, h1, ?_, nY, p, rfl, ⟨nY, List.mem_cons_self ..⟩, h2⟩
        rcases h2 with ⟨kvs, h2, _⟩ | ⟨kvs, h2, _⟩ <;> (rw [h2]; simp)
      | none => exact f.elim
      | bool b => exact f.elim
      | int i => exact f.elim
      | str s => exact f.elim
      | tuple l => exact f.elim
  obtain ⟨p, rfl, hp, hp1, pG, ow⟩ := key
  have h0 : H0 p = none := by
    cases q : H0 p with
    | none => rfl
    | some ob => exact absurd hp (s.g.dom p (by rw [q]; simp))
  have nO : p ∉ O := fun z => s.ok.dom p ((s.mem p).mpr (.inl z)) hp
  have env := s.env.lock s.ok hp g
  refine ⟨G1, Z1, p :: Y1, p :: O, g1, fun a => ?_, ⟨fun a h => List.mem_cons_of_mem _ (o.sub a h), fun z h => ?_, o.gen⟩, fun q hq => ?_, fun j b u e => ?_, fun j u e => ?_, fun j k u u' q e1 e2 e3 e4 => ?_, by rw [List.length_set, List.length_set]; exact s.len, iv.new s.inv s.ok g hp⟩
  · rw [List.mem_cons, List.mem_cons, mem]
    constructor
    · rintro (h | h | h)
      · exact .inl (.inl h)
      · exact .inl (.inr h)
      · exact .inr h
    · rintro ((h | h) | h)
      · exact .inl h
      · exact .inr (.inl h)
      · exact .inr (.inr h)
  · rcases List.mem_cons.mp h with rfl | h
    · exact hp1
    · exact o.dom z h
  · rcases List.mem_cons.mp hq with rfl | hq
    · exact ⟨h0, pG⟩
    · exact own_new s g q hq
  · rcases set_get e with ⟨rfl, e'⟩ | ⟨h, e⟩
    · have hl : i < ρ.length := by
        have := (List.getElem?_eq_some_iff.mp e).1
        simpa using this
      cases e'
      exact ⟨.ref p, List.getElem?_set_self (by rw [← s.len]; exact hl), (fun z => nomatch z), fun _ => ow⟩
    · obtain ⟨w, e1, e2⟩ := env j b u e
      exact ⟨w, by rw [set_at h]; exact e1, e2⟩
  · rcases set_get e with ⟨rfl, _⟩ | ⟨h, e⟩
    · have hl : i < ρ.length := by
        have := (List.getElem?_eq_some_iff.mp e).1
        simpa using this
      exact ⟨p, List.mem_cons_self .., List.getElem?_set_self (by rw [← s.len]; exact hl)⟩
    · obtain ⟨q, hq, e2⟩ := s.at_ j u e
      exact ⟨q, List.mem_cons_of_mem _ hq, by rw [set_at h]; exact e2⟩
  · have no : ∀ j u, i ≠ j → ρ[j]? = some (some (true, u)) → (σ.set i (some (V.ref p)))[j]? = some (some (V.ref p)) → False := fun j u h e e2 => by
      obtain ⟨q, hq, e3⟩ := s.at_ j u e
      rw [set_at h, e3] at e2
      cases e2
      exact nO hq
    have me : ∀ {q : Addr}, (σ.set i (some (V.ref p)))[i]? = some (some (V.ref q)) → q = p := fun {q} e => by
      rcases set_get e with ⟨_, e⟩ | ⟨h, _⟩
      · cases e; rfl
      · exact absurd rfl h
    rcases set_get e1 with ⟨rfl, _⟩ | ⟨h, e1⟩
    · rcases set_get e2 with ⟨rfl, _⟩ | ⟨h', e2⟩
      · rfl
      · rw [me e3] at e4
        exact (no k u' h' e2 e4).elim
    · rcases set_get e2 with ⟨rfl, _⟩ | ⟨h', e2⟩
      · rw [me e4] at e3
        exact (no j u h e1 e3).elim
      · rw [set_at h] at e3
        rw [set_at h'] at e4
        exact s.inj j k u u' q e1 e2 e3 e4
/-- a list of one's own gets an item more -/
theorem Sm.app (iv : Iv I) {ds : List PyData} {y : PyData} (s : Sm K I G0 Z0 H0 σ ρ H n G Z Zm O) (e : ρ[i]? = some (some (true, .d (.list ds)))) (r : Rp K (mask H Zm) v y) :
    ∃ p vs, σ[i]? = some (some (V.ref p)) ∧ H p = some (.lst vs) ∧ vs.length = ds.length ∧ Sm K I G0 Z0 H0 σ (ρ.set i (some (true, .d (.list (ds ++ [y]))))) (upd H p (.lst (vs ++ [v]))) n G Z Zm O := by
  obtain ⟨w, e1, _, e2⟩ := s.env i true _ e
  obtain ⟨p, vs, rfl, pG, hp, ra⟩ := e2 rfl
  obtain ⟨p', hO, e3⟩ := s.at_ i _ e
  have ep : p' = p := by rw [e1] at e3; cases e3; rfl
  subst ep
  have pZ : p' ∈ Zm := (s.mem p').mpr (.inl hO)
  have em : mask (upd H p' (.lst (vs ++ [v]))) Zm = mask H Zm := by
    funext a
    by_cases ha : a ∈ Zm
    · unfold mask; rw [if_pos ha, if_pos ha]
    · rw [mask_of ha, mask_of ha, upd_ne fun (z : a = p') => ha (by rw [z]; exact pZ)]
  have hl : i < ρ.length := (List.getElem?_eq_some_iff.mp e).1
  refine ⟨p', vs, e1, hp, ra.length, s.g.wrG (fun e => absurd (s.own p' hO).1 e), s.mem, ⟨s.ok.sub, fun z hz h => ?_, fun g hg => ?_⟩, s.own, fun j b u e4 => ?_, fun j u e4 => ?_, fun j k u u' q f1 f2 f3 f4 => ?_, by rw [List.length_set]; exact s.len, iv.wr s.inv pZ (by rw [hp]; simp)⟩
  · by_cases q : z = p'
    · subst q; rw [upd_same] at h; cases h
    · rw [upd_ne q] at h; exact s.ok.dom z hz h
  · obtain ⟨a, m, c, h1, h2⟩ := s.ok.gen g hg
    exact ⟨a, m, c, by rw [upd_ne fun (z : g = p') => pG (by rw [← z]; exact hg)]; exact h1, h2⟩
  · rcases set_get e4 with ⟨rfl, e4'⟩ | ⟨h, e4⟩
    · cases e4'
      refine ⟨.ref p', e1, (fun z => nomatch z), fun _ => ⟨p', _, rfl, pG, upd_same, ?_⟩⟩
      rw [em]
      exact ra.append (.one r)
    · obtain ⟨w, h1, h2, h3⟩ := s.env j b u e4
      refine ⟨w, h1, fun z => ?_, fun z => ?_⟩
      · have := h2 z
        cases u with
        | gen => exact this
        | scr ns =>
          obtain ⟨a, e, h⟩ := this
          refine ⟨a, e, ?_⟩
          rcases h with ⟨ob, h⟩ | h
          · exact .inl ⟨ob, by rw [upd_ne fun (z : a = p') => ?_]; exact h; rw [z, hp] at h; cases h⟩
          · exact .inr h
        | d x =>
          show Rp K (mask _ Zm) w x
          rw [em]
          exact this
      · subst z
        have own := h3 rfl
        obtain ⟨q, hq, e5⟩ := s.at_ j u e4
        have ne : q ≠ p' := fun (z : q = p') => h (s.inj i j _ _ p' e e4 e1 (by rw [← z]; exact e5))
        cases u with
        | gen => exact own
        | scr _ => exact own
        | d x =>
          cases x with
          | list xs =>
            obtain ⟨q', ws, rfl, a1, a2, a3⟩ := own
            have : q' = q := by rw [h1] at e5; cases e5; rfl
            subst this
            exact ⟨q', ws, rfl, a1, by rw [upd_ne ne]; exact a2, by rw [em]; exact a3⟩
          | dict xs =>
            obtain ⟨q', rfl, a1, a2⟩ := own
            have : q' = q := by rw [h1] at e5; cases e5; rfl
            subst this
            refine ⟨q', rfl, a1, ?_⟩
            rcases a2 with ⟨kvs, a2, a3⟩ | ⟨kvs, a2, a3⟩
            · exact .inl ⟨kvs, by rw [upd_ne ne]; exact a2, by rw [em]; exact a3⟩
            · exact .inr ⟨kvs, by rw [upd_ne ne]; exact a2, by rw [em]; exact a3⟩
          | none => exact own.elim
          | bool b => exact own.elim
          | int i => exact own.elim
          | str s => exact own.elim
          | tuple l => exact own.elim
  · rcases set_get e4 with ⟨rfl, _⟩ | ⟨h, e4⟩
    · exact ⟨p', hO, e1⟩
    · exact s.at_ j u e4
  · have bk : ∀ {j : Nat} {u : T}, (ρ.set i (some (true, .d (.list (ds ++ [y])))))[j]? = some (some (true, u)) → ∃ u', ρ[j]? = some (some (true, u')) := fun {j u} h => by
      rcases set_get h with ⟨rfl, _⟩ | ⟨_, h⟩
      · exact ⟨_, e⟩
      · exact ⟨_, h⟩
    obtain ⟨_, f1⟩ := bk f1
    obtain ⟨_, f2⟩ := bk f2
    exact s.inj j k _ _ q f1 f2 f3 f4
/-- what stands at one's own address, with its items -/
def OwnC (K : PySem.W.Frag) (M : Hp) (u : HO) : PyData → Prop
  | .list ds => ∃ vs, u = .lst vs ∧ RpA K M vs ds
  | .dict ds => (∃ kvs, u = .dK kvs ∧ RpK K M kvs ds) ∨ (∃ kvs, u = .dT kvs ∧ RpTK K M kvs ds)
  | _ => False
theorem OwnC.ne {K : PySem.W.Frag} {M : Hp} {u : HO} {t : PyData} (h : OwnC K M u t) : ∀ ob w, u ≠ .frz ob w := fun ob w e => by
  subst e
  cases t with
  | list ds => obtain ⟨_, e, _⟩ := h; cases e
  | dict ds => rcases h with ⟨_, e, _⟩ | ⟨_, e, _⟩ <;> cases e
  | none => exact h.elim
  | bool b => exact h.elim
  | int i => exact h.elim
  | str s => exact h.elim
  | tuple l => exact h.elim
/-- a list or dict of one's own is written -/
theorem Sm.wrO (iv : Iv I) {t : PyData} (s : Sm K I G0 Z0 H0 σ ρ H n G Z Zm O) (e : ρ[i]? = some (some (true, .d t))) :
    ∃ p u, σ[i]? = some (some (V.ref p)) ∧ H p = some u ∧ OwnC K (mask H Zm) u t ∧ (∀ u', mask (upd H p u') Zm = mask H Zm) ∧ ∀ u' t', OwnC K (mask H Zm) u' t' → Sm K I G0 Z0 H0 σ (ρ.set i (some (true, .d t'))) (upd H p u') n G Z Zm O := by
  obtain ⟨w, e1, _, e2⟩ := s.env i true _ e
  obtain ⟨p', hO, e3⟩ := s.at_ i _ e
  obtain ⟨p, u, rfl, pG, hp, oc⟩ : ∃ p u, w = .ref p ∧ p ∉ G ∧ H p = some u ∧ OwnC K (mask H Zm) u t := by
    have own := e2 rfl
    cases t with
    | list ds =>
      obtain ⟨p, vs, e, pG, hp, ra⟩ := own
      exact ⟨p, _, e, pG, hp, vs, rfl, ra⟩
    | dict ds =>
      obtain ⟨p, e, pG, ⟨kvs, hp, ra⟩ | ⟨kvs, hp, ra⟩⟩ := own
      · exact ⟨p, _, e, pG.1, hp, .inl ⟨kvs, rfl, ra⟩⟩
      · exact ⟨p, _, e, pG.1, hp, .inr ⟨kvs, rfl, ra⟩⟩
    | none => exact own.elim
    | bool b => exact own.elim
    | int i => exact own.elim
    | str s => exact own.elim
    | tuple l => exact own.elim
  have ep : p' = p := by rw [e1] at e3; cases e3; rfl
  subst ep
  have pZ : p' ∈ Zm := (s.mem p').mpr (.inl hO)
  have em : ∀ u', mask (upd H p' u') Zm = mask H Zm := fun u' => by
    funext a
    by_cases ha : a ∈ Zm
    · unfold mask; rw [if_pos ha, if_pos ha]
    · rw [mask_of ha, mask_of ha, upd_ne fun (z : a = p') => ha (by rw [z]; exact pZ)]
  have hl : i < ρ.length := (List.getElem?_eq_some_iff.mp e).1
  refine ⟨p', u, e1, hp, oc, em, fun uN tN oN => ⟨s.g.wrG (fun e => absurd (s.own p' hO).1 e), s.mem, ⟨s.ok.sub, fun z hz h => ?_, fun g hg => ?_⟩, s.own, fun j b u e4 => ?_, fun j u e4 => ?_, fun j k u u' q f1 f2 f3 f4 => ?_, by rw [List.length_set]; exact s.len, iv.wr s.inv pZ (by rw [hp]; simp)⟩⟩
  · by_cases q : z = p'
    · subst q; rw [upd_same] at h; cases h
    · rw [upd_ne q] at h; exact s.ok.dom z hz h
  · obtain ⟨a, m, c, h1, h2⟩ := s.ok.gen g hg
    exact ⟨a, m, c, by rw [upd_ne fun (z : g = p') => pG (by rw [← z]; exact hg)]; exact h1, h2⟩
  · rcases set_get e4 with ⟨rfl, e4'⟩ | ⟨h, e4⟩
    · cases e4'
      refine ⟨.ref p', e1, (fun z => nomatch z), fun _ => ?_⟩
      cases tN with
      | list ds =>
        obtain ⟨vs, rfl, ra⟩ := oN
        exact ⟨p', vs, rfl, pG, upd_same, by rw [em]; exact ra⟩
      | dict ds =>
        refine ⟨p', rfl, ⟨pG, pZ⟩, ?_⟩
        rcases oN with ⟨kvs, rfl, ra⟩ | ⟨kvs, rfl, ra⟩
        · exact .inl ⟨kvs, upd_same, by rw [em]; exact ra⟩
        · exact .inr ⟨kvs, upd_same, by rw [em]; exact ra⟩
      | none => exact oN.elim
      | bool b => exact oN.elim
      | int i => exact oN.elim
      | str s => exact oN.elim
      | tuple l => exact oN.elim
    · obtain ⟨w, h1, h2, h3⟩ := s.env j b u e4
      refine ⟨w, h1, fun z => ?_, fun z => ?_⟩
      · have := h2 z
        cases u with
        | gen => exact this
        | scr ns =>
          obtain ⟨a, e, h⟩ := this
          refine ⟨a, e, ?_⟩
          rcases h with ⟨ob, h⟩ | h
          · exact .inl ⟨ob, by rw [upd_ne fun (z : a = p') => ?_]; exact h; rw [z, hp] at h; exact absurd (Option.some.inj h) (oc.ne _ _)⟩
          · exact .inr h
        | d x =>
          show Rp K (mask _ Zm) w x
          rw [em]
          exact this
      · subst z
        have own := h3 rfl
        obtain ⟨q, hq, e5⟩ := s.at_ j u e4
        have ne : q ≠ p' := fun (z : q = p') => h (s.inj i j _ _ p' e e4 e1 (by rw [← z]; exact e5))
        cases u with
        | gen => exact own
        | scr _ => exact own
        | d x =>
          cases x with
          | list xs =>
            obtain ⟨q', ws, rfl, a1, a2, a3⟩ := own
            have : q' = q := by rw [h1] at e5; cases e5; rfl
            subst this
            exact ⟨q', ws, rfl, a1, by rw [upd_ne ne]; exact a2, by rw [em]; exact a3⟩
          | dict xs =>
            obtain ⟨q', rfl, a1, a2⟩ := own
            have : q' = q := by rw [h1] at e5; cases e5; rfl
            subst this
            refine ⟨q', rfl, a1, ?_⟩
            rcases a2 with ⟨kvs, a2, a3⟩ | ⟨kvs, a2, a3⟩
            · exact .inl ⟨kvs, by rw [upd_ne ne]; exact a2, by rw [em]; exact a3⟩
            · exact .inr ⟨kvs, by rw [upd_ne ne]; exact a2, by rw [em]; exact a3⟩
          | none => exact own.elim
          | bool b => exact own.elim
          | int i => exact own.elim
          | str s => exact own.elim
          | tuple l => exact own.elim
  · rcases set_get e4 with ⟨rfl, _⟩ | ⟨h, e4⟩
    · exact ⟨p', hO, e1⟩
    · exact s.at_ j u e4
  · have bk : ∀ {j : Nat} {u : T}, (ρ.set i (some (true, .d tN)))[j]? = some (some (true, u)) → ∃ u', ρ[j]? = some (some (true, u')) := fun {j u} h => by
      rcases set_get h with ⟨rfl, _⟩ | ⟨_, h⟩
      · exact ⟨_, e⟩
      · exact ⟨_, h⟩
    obtain ⟨_, f1⟩ := bk f1
    obtain ⟨_, f2⟩ := bk f2
    exact s.inj j k _ _ q f1 f2 f3 f4
/-- a generator turns -/
theorem Sm.gset {g : Addr} {n' : Nat} {a m c : Int} (iv : Iv I) (o0 : Ok G0 Z0 H0 n0) (s : Sm K I G0 Z0 H0 σ ρ H n G Z Zm O) (hg : g ∈ G) (hn : n ≤ n') (b : 0 ≤ a ∧ a < 2 ^ 2000 ∧ 0 ≤ m ∧ m < 2147483647 ∧ 0 ≤ c ∧ c ≤ 1000000 + n') :
    Sm K I G0 Z0 H0 σ ρ (upd H g (.lst [.int a, .int m, .int c])) n' G Z Zm O := by
  have gZ : g ∈ Zm := s.ok.sub g hg
  have em : mask (upd H g (.lst [.int a, .int m, .int c])) Zm = mask H Zm := by
    funext x
    by_cases ha : x ∈ Zm
    · unfold mask; rw [if_pos ha, if_pos ha]
    · rw [mask_of ha, mask_of ha, upd_ne fun (z : x = g) => ha (by rw [z]; exact gZ)]
  have hHg : H g ≠ none := s.ok.dom g gZ
  have gG : H0 g ≠ none → g ∈ G0 := fun q => by
    obtain ⟨L, e1, _, hL⟩ := s.g.new
    rw [e1] at hg
    rcases List.mem_append.mp hg with z | z
    · exact absurd (hL g z) q
    · exact z
  refine ⟨s.g.wrG gG, s.mem, ⟨s.ok.sub, fun z hz h => ?_, fun q hq => ?_⟩, s.own, fun j b u e4 => ?_, s.at_, s.inj, s.len, iv.wr s.inv gZ hHg⟩
  · by_cases q : z = g
    · subst q; rw [upd_same] at h; cases h
    · rw [upd_ne q] at h; exact s.ok.dom z hz h
  · by_cases z : q = g
    · subst z
      exact ⟨a, m, c, upd_same, b⟩
    · obtain ⟨a', m', c', h1, h2, h3, h4, h5, h6, h7⟩ := s.ok.gen q hq
      exact ⟨a', m', c', by rw [upd_ne z]; exact h1, h2, h3, h4, h5, h6, by omega⟩
  · obtain ⟨w, h1, h2, h3⟩ := s.env j b u e4
    refine ⟨w, h1, fun z => ?_, fun z => ?_⟩
    · have := h2 z
      cases u with
      | gen => exact this
      | scr ns =>
        obtain ⟨p, e, h⟩ := this
        refine ⟨p, e, ?_⟩
        rcases h with ⟨ob, h⟩ | h
        · refine .inl ⟨ob, ?_⟩
          rw [upd_ne fun (z : p = g) => ?_]
          · exact h
          · obtain ⟨_, _, _, hG, _⟩ := s.ok.gen g hg
            rw [z, hG] at h; cases h
        · exact .inr h
      | d x =>
        show Rp K (mask _ Zm) w x
        rw [em]
        exact this
    · have own := h3 z
      cases u with
      | gen => exact own
      | scr _ => exact own
      | d x =>
        cases x with
        | list xs =>
          obtain ⟨q', ws, rfl, a1, a2, a3⟩ := own
          exact ⟨q', ws, rfl, a1, by rw [upd_ne fun (z : q' = g) => a1 (by rw [z]; exact hg)]; exact a2, by rw [em]; exact a3⟩
        | dict xs =>
          obtain ⟨q', rfl, a1, a2⟩ := own
          refine ⟨q', rfl, a1, ?_⟩
          rcases a2 with ⟨kvs, a2, a3⟩ | ⟨kvs, a2, a3⟩
          · exact .inl ⟨kvs, by rw [upd_ne fun (z : q' = g) => a1.1 (by rw [z]; exact hg)]; exact a2, by rw [em]; exact a3⟩
          · exact .inr ⟨kvs, by rw [upd_ne fun (z : q' = g) => a1.1 (by rw [z]; exact hg)]; exact a2, by rw [em]; exact a3⟩
        | none => exact own.elim
        | bool b => exact own.elim
        | int i => exact own.elim
        | str s => exact own.elim
        | tuple l => exact own.elim
/-- .. is no more its own -/
theorem Sm.frz1 (iv : Iv I) (o0 : Ok G0 Z0 H0 n0) (s : Sm K I G0 Z0 H0 σ ρ H n G Z Zm O) (i : Nat) : SmE K I G0 Z0 H0 σ (frz1 ρ i) H n := by
  unfold TL.frz1
  split
  · rename_i b t e
    cases b with
    | false =>
      have : ρ.set i (some (false, t)) = ρ := by
        apply List.ext_getElem?
        intro j
        by_cases hj : i = j
        · subst hj
          rw [List.getElem?_set_self (List.getElem?_eq_some_iff.mp e).1, e]
        · rw [set_at hj]
      rw [this]
      exact ⟨G, Z, Zm, O, s⟩
    | true =>
      obtain ⟨p, hO, e1⟩ := s.at_ i t e
      obtain ⟨w, e2, _, ow⟩ := s.env i true t e
      have ow := ow rfl
      rw [e1] at e2
      cases e2
      have pZ := s.notZ o0 hO
      have sub : ∀ a ∈ Zm.filter (fun a => decide (a ≠ p)), a ∈ Zm := fun a h => (List.mem_filter.mp h).1
      have pN : p ∉ Zm.filter (fun a => decide (a ≠ p)) := fun h => by simpa using (List.mem_filter.mp h).2
      have gp : ∀ g ∈ G, g ≠ p := fun g hg (z : g = p) => (s.own p hO).2 (by rw [← z]; exact hg)
      have rp : ∀ {w : V} {u : T}, RpT K H G Zm w u → RpT K H G (Zm.filter (fun a => decide (a ≠ p))) w u := fun {w u} h => by
        cases u with
        | gen => exact h
        | scr _ => exact h
        | d x => exact Rp.le (mask_sub sub) h
      refine ⟨G, Z, Zm.filter (fun a => decide (a ≠ p)), O.filter (fun a => decide (a ≠ p)), s.g, fun a => ?_, ⟨fun a h => List.mem_filter.mpr ⟨s.ok.sub a h, by simpa using gp a h⟩, fun z h => s.ok.dom z (sub z h), s.ok.gen⟩,
        fun q hq => s.own q ((List.mem_filter.mp hq).1), fun j b u e3 => ?_, fun j u e3 => ?_, fun j k u u' q f1 f2 f3 f4 => ?_, by rw [List.length_set]; exact s.len, iv.sub s.inv sub⟩
      · rw [List.mem_filter, List.mem_filter, s.mem]
        constructor
        · rintro ⟨h | h, h2⟩
          · exact .inl ⟨h, h2⟩
          · exact .inr h
        · rintro (⟨h, h2⟩ | h)
          · exact ⟨.inl h, h2⟩
          · exact ⟨.inr h, by simpa using fun (z : a = p) => pZ (by rw [← z]; exact h)⟩
      · rcases set_get e3 with ⟨rfl, e3'⟩ | ⟨h, e3⟩
        · cases e3'
          refine ⟨_, e1, fun _ => ?_, (fun z => nomatch z)⟩
          cases t with
          | gen => exact ow.elim
          | scr _ => exact ow.elim
          | d x =>
            show Rp K (mask H _) _ x
            cases x with
            | list ds =>
              obtain ⟨p', vs, ep, hp, hH, r⟩ := ow
              cases ep
              exact .lst (by rw [mask_of pN]; exact hH) (RpA.le (mask_sub sub) r)
            | dict ds =>
              obtain ⟨p', ep, hp, ⟨kvs, hH, r⟩ | ⟨kvs, hH, r⟩⟩ := ow
              · cases ep
                exact .dK (.of (by rw [mask_of pN]; exact hH)) (RpK.le (mask_sub sub) r)
              · cases ep
                exact .dT (.of (by rw [mask_of pN]; exact hH)) (RpTK.le (mask_sub sub) r)
            | none => exact ow.elim
            | bool b => exact ow.elim
            | int i => exact ow.elim
            | str s => exact ow.elim
            | tuple l => exact ow.elim
        · obtain ⟨w, h1, h2, h3⟩ := s.env j b u e3
          refine ⟨w, h1, fun z => rp (h2 z), fun z => ?_⟩
          have own := h3 z
          cases u with
          | gen => exact own
          | scr _ => exact own
          | d x =>
            cases x with
            | list xs =>
              obtain ⟨q', ws, rfl, a1, a2, a3⟩ := own
              exact ⟨q', ws, rfl, a1, a2, RpA.le (mask_sub sub) a3⟩
            | dict xs =>
              obtain ⟨q', rfl, a1, a2⟩ := own
              have ne : q' ≠ p := fun zz => h (s.inj i j _ _ p e (by rw [z] at e3; exact e3) e1 (by rw [← zz]; exact h1))
              have a1 : q' ∉ G ∧ q' ∈ Zm.filter (fun a => decide (a ≠ p)) := ⟨a1.1, List.mem_filter.mpr ⟨a1.2, by simpa using ne⟩⟩
              rcases a2 with ⟨kvs, a2, a3⟩ | ⟨kvs, a2, a3⟩
              · exact ⟨q', rfl, a1, .inl ⟨kvs, a2, RpK.le (mask_sub sub) a3⟩⟩
              · exact ⟨q', rfl, a1, .inr ⟨kvs, a2, RpTK.le (mask_sub sub) a3⟩⟩
            | none => exact own.elim
            | bool b => exact own.elim
            | int i => exact own.elim
            | str s => exact own.elim
            | tuple l => exact own.elim
      · rcases set_get e3 with ⟨_, e3⟩ | ⟨h, e3⟩
        · cases e3
        · obtain ⟨q, hq, e4⟩ := s.at_ j u e3
          refine ⟨q, List.mem_filter.mpr ⟨hq, ?_⟩, e4⟩
          simpa using fun (z : q = p) => h (s.inj i j _ _ p e e3 e1 (by rw [← z]; exact e4))
      · rcases set_get f1 with ⟨_, f1⟩ | ⟨h, f1⟩
        · cases f1
        · rcases set_get f2 with ⟨_, f2⟩ | ⟨h', f2⟩
          · cases f2
          · exact s.inj j k u u' q f1 f2 f3 f4
  · exact ⟨G, Z, Zm, O, s⟩
theorem SmE.frz (iv : Iv I) (o0 : Ok G0 Z0 H0 n0) : ∀ (l : List Nat) {ρ : Ev}, SmE K I G0 Z0 H0 σ ρ H n → SmE K I G0 Z0 H0 σ (frz l ρ) H n
  | [], _, h => h
  | i :: l, _, ⟨_, _, _, _, s⟩ => SmE.frz iv o0 l (s.frz1 iv o0 i)
/-- a value leaves the def -/
theorem Sm.out {Q : VK} {r : R} (o0 : Ok G0 Z0 H0 n0) (s : Sm K I G0 Z0 H0 σ ρ H n G Z Zm O) (h : Kq K true G0 Z0 H0 Q r n1) : Kq K true G Zm H Q r n1 := by
  intro v H1 G1 Y1 g o w f
  obtain ⟨Z1, gz, g1, o1, mem, sub⟩ := s.grow o0 g o
  refine h v H1 G1 Z1 g1 o1 ?_ fun e => ?_
  · have w : RpT K H1 G1 Y1 v r.t := w
    show RpT K H1 G1 Z1 v r.t
    cases e : r.t with
    | gen => rw [e] at w; exact w
    | scr _ => rw [e] at w; exact w
    | d x =>
      rw [e] at w
      exact Rp.le (mask_sub sub) w
  · have f := Fresh.back s.g (f e)
    have sub' : ∀ p, ∀ a ∈ p :: Z1, a ∈ p :: Y1 := fun p a h => (List.mem_cons.mp h).elim (fun (z : a = p) => by rw [z]; exact List.mem_cons_self ..) fun z => List.mem_cons_of_mem _ (sub a z)
    cases et : r.t with
    | gen => rw [et] at f; exact f
    | scr _ => rw [et] at f; exact f
    | d x =>
      rw [et] at f
      cases x with
      | list ds =>
        obtain ⟨p, vs, rfl, h1, h2, h3⟩ := f
        exact ⟨p, vs, rfl, h1, h2, RpA.le (mask_sub (sub' p)) h3⟩
      | dict ds =>
        obtain ⟨p, rfl, h1, ⟨kvs, h2, h3⟩ | ⟨kvs, h2, h3⟩⟩ := f
        · exact ⟨p, rfl, h1, .inl ⟨kvs, h2, RpK.le (mask_sub (sub' p)) h3⟩⟩
        · exact ⟨p, rfl, h1, .inr ⟨kvs, h2, RpTK.le (mask_sub (sub' p)) h3⟩⟩
      | none => exact f
      | bool b => exact f
      | int i => exact f
      | str s => exact f
      | tuple l => exact f
/-- a name's own list leaves -/
theorem Sm.outO {Q : VK} (o0 : Ok G0 Z0 H0 n0) (s : Sm K I G0 Z0 H0 σ ρ H n G Z Zm O) (e : ρ[i]? = some (some (true, t))) (h : Kq K true G0 Z0 H0 Q ⟨t, true⟩ n) : ∃ v, σ[i]? = some (some v) ∧ Q v H := by
  obtain ⟨p, hO, e1⟩ := s.at_ i t e
  obtain ⟨w, e2, _, ow⟩ := s.env i true t e
  have ow := ow rfl
  rw [e1] at e2
  cases e2
  have pZ := s.notZ o0 hO
  have h0 := (s.own p hO).1
  have subp : ∀ a ∈ p :: Z, a ∈ Zm := fun a h => (List.mem_cons.mp h).elim (fun (z : a = p) => by rw [z]; exact (s.mem p).mpr (.inl hO)) fun z => s.subZ a z
  refine ⟨_, e1, h _ H G Z s.g (s.okZ o0) ?_ fun _ => ?_⟩
  · show RpT K H G Z _ t
    cases t with
    | gen => exact ow.elim
    | scr _ => exact ow.elim
    | d x =>
      show Rp K (mask H Z) _ x
      cases x with
      | list ds =>
        obtain ⟨p', vs, ep, hp, hH, r⟩ := ow
        cases ep
        exact .lst (by rw [mask_of pZ]; exact hH) (RpA.le (mask_sub s.subZ) r)
      | dict ds =>
        obtain ⟨p', ep, hp, ⟨kvs, hH, r⟩ | ⟨kvs, hH, r⟩⟩ := ow
        · cases ep
          exact .dK (.of (by rw [mask_of pZ]; exact hH)) (RpK.le (mask_sub s.subZ) r)
        · cases ep
          exact .dT (.of (by rw [mask_of pZ]; exact hH)) (RpTK.le (mask_sub s.subZ) r)
      | none => exact ow.elim
      | bool b => exact ow.elim
      | int i => exact ow.elim
      | str s => exact ow.elim
      | tuple l => exact ow.elim
  · cases t with
    | gen => exact ow.elim
    | scr _ => exact ow.elim
    | d x =>
      cases x with
      | list ds =>
        obtain ⟨p', vs, ep, hp, hH, r⟩ := ow
        cases ep
        exact ⟨p, vs, rfl, h0, hH, RpA.le (mask_sub subp) r⟩
      | dict ds =>
        obtain ⟨p', ep, hp, ⟨kvs, hH, r⟩ | ⟨kvs, hH, r⟩⟩ := ow
        · cases ep
          exact ⟨p, rfl, h0, .inl ⟨kvs, hH, RpK.le (mask_sub subp) r⟩⟩
        · cases ep
          exact ⟨p, rfl, h0, .inr ⟨kvs, hH, RpTK.le (mask_sub subp) r⟩⟩
      | none => exact ow.elim
      | bool b => exact ow.elim
      | int i => exact ow.elim
      | str s => exact ow.elim
      | tuple l => exact ow.elim
end
section
variable {mg : Str → Option Value} {cn : Nat → Str} {K : PySem.W.Frag} {Xt : XE} {Ew : XK} {G0 Z0 G Z Zm O G1 Y1 : List Addr} {H0 H H1 : Hp} {n0 n n1 : Nat} {σ σ' τ : L2.St} {ρ ρ' θ : Ev} {v : V} {t : T} {i : Nat} {I : Hp → List Addr → Prop}
/-- names taken anew -/
theorem Sm.sel (s : Sm K I G0 Z0 H0 σ ρ H n G Z Zm O) (f : Nat → Nat) (hl : ρ'.length = σ'.length) (h : ∀ k x, ρ'[k]? = some (some x) → ρ[f k]? = some (some x) ∧ σ'[k]? = σ[f k]?) (inj : ∀ j k, f j = f k → j = k) : Sm K I G0 Z0 H0 σ' ρ' H n G Z Zm O := by
  refine ⟨s.g, s.mem, s.ok, s.own, fun k b t e => ?_, fun k t e => ?_, fun j k t u p e1 e2 e3 e4 => ?_, hl, s.inv⟩
  · obtain ⟨h1, h2⟩ := h k _ e
    obtain ⟨v, q1, q2⟩ := s.env (f k) b t h1
    exact ⟨v, h2.trans q1, q2⟩
  · obtain ⟨h1, h2⟩ := h k _ e
    obtain ⟨p, hp, q⟩ := s.at_ (f k) t h1
    exact ⟨p, hp, h2.trans q⟩
  · obtain ⟨h1, h2⟩ := h j _ e1
    obtain ⟨h3, h4⟩ := h k _ e2
    exact inj j k (s.inj (f j) (f k) t u p h1 h3 (h2 ▸ e3) (h4 ▸ e4))
theorem get_app {α : Type} {l r : List α} {k : Nat} : (l ++ r)[k]? = if k < l.length then l[k]? else r[k - l.length]? := by
  by_cases h : k < l.length
  · rw [if_pos h, List.getElem?_append_left h]
  · rw [if_neg h, List.getElem?_append_right (by omega)]
/-- a place more -/
theorem Sm.push (s : Sm K I G0 Z0 H0 σ ρ H n G Z Zm O) : Sm K I G0 Z0 H0 (σ ++ [none]) (ρ ++ [none]) H n G Z Zm O := by
  refine s.sel id (by simp [s.len]) (fun k x e => ?_) fun j k e => e
  have hk : k < ρ.length := by
    rw [get_app] at e
    by_cases h : k < ρ.length
    · exact h
    · rw [if_neg h] at e
      cases q : k - ρ.length with
      | zero => rw [q] at e; cases e
      | succ m => rw [q] at e; cases e
  rw [List.getElem?_append_left hk] at e
  exact ⟨e, by rw [List.getElem?_append_left (by rw [← s.len]; exact hk)]; rfl⟩
/-- the first of the places behind goes to a name -/
theorem Sm.move {x : Option V} {y : Option (Bool × T)} (hl : ρ.length = σ.length) (s : Sm K I G0 Z0 H0 (σ ++ x :: τ) (ρ ++ y :: θ) H n G Z Zm O) (i : Nat) : Sm K I G0 Z0 H0 (σ.set i x ++ τ) (ρ.set i y ++ θ) H n G Z Zm O := by
  have ht : θ.length = τ.length := by have := s.len; simp at this; omega
  refine s.sel (fun k => if k < ρ.length then (if k = i then ρ.length else k) else k + 1) (by simp [hl, ht]) (fun k z e => ?_) fun j k e => ?_
  · rw [get_app, List.length_set] at e
    by_cases hk : k < ρ.length
    · have hk' : k < σ.length := by omega
      rw [if_pos hk] at e
      rw [if_pos hk, get_app (l := σ.set i x), List.length_set, if_pos hk']
      by_cases hi : k = i
      · subst hi
        rw [List.getElem?_set_self hk] at e
        rw [if_pos rfl, List.getElem?_set_self hk', get_app, if_neg (Nat.lt_irrefl _), Nat.sub_self, get_app, if_neg (by omega), show ρ.length - σ.length = 0 by omega]
        exact ⟨e, rfl⟩
      · rw [List.getElem?_set_ne (Ne.symm hi)] at e
        rw [if_neg hi, List.getElem?_set_ne (Ne.symm hi), get_app, if_pos hk, get_app, if_pos hk']
        exact ⟨e, rfl⟩
    · have hk' : ¬ k < σ.length := by omega
      rw [if_neg hk] at e
      rw [if_neg hk, get_app (l := σ.set i x), List.length_set, if_neg hk', get_app, if_neg (by omega), get_app, if_neg (by omega), show k + 1 - ρ.length = (k - ρ.length) + 1 by omega, show k + 1 - σ.length = (k - σ.length) + 1 by omega]
      exact ⟨e, rfl⟩
  · have e : (if j < ρ.length then (if j = i then ρ.length else j) else j + 1) = (if k < ρ.length then (if k = i then ρ.length else k) else k + 1) := e
    by_cases a : j < ρ.length <;> by_cases b : k < ρ.length <;> by_cases c : j = i <;> by_cases d : k = i <;> (first | rw [if_pos a] at e | rw [if_neg a] at e) <;> (first | rw [if_pos b] at e | rw [if_neg b] at e) <;>
      (try first | rw [if_pos c] at e | rw [if_neg c] at e) <;> (try first | rw [if_pos d] at e | rw [if_neg d] at e) <;> omega
end
end TL

set_option Elab.async false
set_option linter.all false
set_option maxRecDepth 100000
set_option maxHeartbeats 2000000
/-! TL15: the theorem about statements. -/
namespace TL
open PySem PySem.Spec PyProof.Rows L2

def notComp : Expr → Bool
  | .ListComp _ _ _ _ => false | .SetComp _ _ _ _ => false | .DictComp _ _ _ _ _ => false | _ => true
/-- stores aren't swapped -/
def noSwap : Expr → Bool
  | .Tuple vs _ _ => vs.all (foldedForSure 8) | _ => true
def isLocal (sc : Scope) (x : Str) : Bool := match sc.names.lookup x with
  | some .local => true | _ => false
/-- a name among the targets that an inner block holds, too -/
def cellAny (sc : Scope) (ts : List Expr) : Bool := ts.any fun | .Name x _ => !isLocal sc x | _ => true
/-- a comprehension stored into a name on its line -/
def swB (sc : Scope) (x : Str) (p : Pos) : Expr → Bool
  | .ListComp _ _ scope q => isLocal sc x && (p.line == q.line) && !(scope.names.any fun (n, k) => n == x && (k == .local || k == .cell))
  | .DictComp _ _ _ scope q => isLocal sc x && (p.line == q.line) && !(scope.names.any fun (n, k) => n == x && (k == .local || k == .cell))
  | .SetComp _ _ scope q => isLocal sc x && (p.line == q.line) && !(scope.names.any fun (n, k) => n == x && (k == .local || k == .cell))
  | _ => false
def lcSet : Expr → Bool
  | .ListComp _ [_] _ _ => true
  | e => notComp e
def isLc : E → Bool
  | .lc _ _ _ _ _ _ => true | _ => false
/-- plain local names of one line, all unlike; the values are neither folded nor constants alone -/
def parOk (sc : Scope) (N : List Str) : List Nat → List Expr → List Expr → Bool
  | [i, j], [.Name x px, .Name y py], [a, b] => decide (N[i]? = some x) && decide (N[j]? = some y) && isLocal sc x && isLocal sc y && !(x == y) && (py.line == px.line) && !(foldedForSure 8 a && foldedForSure 8 b) && !(constantsAlone 8 a && constantsAlone 8 b)
  | [i, j, k], [.Name x px, .Name y py, .Name z pz], [a, b, c] => decide (N[i]? = some x) && decide (N[j]? = some y) && decide (N[k]? = some z) && isLocal sc x && isLocal sc y && isLocal sc z && !(x == y) && !(x == z) && !(y == z) && (py.line == px.line) && (pz.line == px.line) &&
    !(foldedForSure 8 a && (foldedForSure 8 b && foldedForSure 8 c)) && !(constantsAlone 8 a && (constantsAlone 8 b && constantsAlone 8 c))
  | _, _, _ => false
mutual
def chkS (Γ : TCx) (N : List Str) : Scope → S → Stmt → Bool
  | sc, .ret e, .Return (some x) _ => sg e && chkE Γ N sc e x
  | sc, .retO i, .Return (some (.Name x _)) _ => decide (N[i]? = some x) && isVis sc x && notDbg x
  | sc, .set i e, .Assign [.Name x p] v _ => decide (N[i]? = some x) && tgB.isLoc sc x && sg e && lcSet v && (notComp v || isLc e) && chkE Γ N sc e v
  | sc, .upk l e, .Assign [.Tuple es k p] v _ => tgB N sc (.tp l) (.Tuple es k p) && sg e && notComp v && (noSwap v || cellAny sc es) && chkE Γ N sc e v
  | sc, .par l es, .Assign [.Tuple ts _ _] (.Tuple vs _ _) _ => parOk sc N l ts vs && (sgs es).all id && vs.all notStar && chkEs Γ N sc es vs
  | sc, .app i e, .Expr (.Call (.Attribute (.Name x _) m ap) [v] [] cp) _ => decide (m = ("append" : Str)) && decide (ap.endLine = cp.line) && decide (N[i]? = some x) && isVis sc x && notDbg x && sg e && notStar v && chkE Γ N sc e v
  | sc, .ins i a b, .Expr (.Call (.Attribute (.Name x _) m ap) [v, w] [] cp) _ => decide (m = ("insert" : Str)) && decide (ap.endLine = cp.line) && decide (N[i]? = some x) && isVis sc x && notDbg x && sg b && notStar v && notStar w && chkE Γ N sc a v && chkE Γ N sc b w
  | sc, .ext i e, .Expr (.Call (.Attribute (.Name x _) m ap) [v] [] cp) _ => decide (m = ("extend" : Str)) && decide (ap.endLine = cp.line) && decide (N[i]? = some x) && isVis sc x && notDbg x && sg e && notStar v && chkE Γ N sc e v
  | sc, .pset j i l, .Assign [.Name x p] (.Call (.Attribute (.Name y _) m ap) vs [] cp) _ => decide (N[j]? = some x) && tgB.isLoc sc x && decide (m = ("pop" : Str)) && decide (ap.endLine = cp.line) && decide (N[i]? = some y) && isVis sc y && notDbg y && decide (vs.length ≤ 1) && chkEs Γ N sc l vs
  | sc, .papp j i l, .Expr (.Call (.Attribute (.Name x _) mx apx) [.Call (.Attribute (.Name y _) m ap) vs [] cp] [] cpx) _ => decide (N[j]? = some x) && isVis sc x && notDbg x && decide (mx = ("append" : Str)) && decide (apx.endLine = cpx.line) && decide (m = ("pop" : Str)) && decide (ap.endLine = cp.line) && decide (N[i]? = some y) && isVis sc y && notDbg y && decide (vs.length ≤ 1) && decide (i ≠ j) && chkEs Γ N sc l vs
  | sc, .sub i a e, .Assign [.Subscript (.Name x _) s _] v _ => plainIxB s && decide (N[i]? = some x) && isVis sc x && notDbg x && sg e && notComp v && chkE Γ N sc e v && chkE Γ N sc a s
  | sc, .gst i k e, .Assign [.Subscript (.Name x _) (.Constant (.int j) _ _) _] v _ => decide (N[i]? = some x) && isVis sc x && notDbg x && decide (j = k) && decide (k < 3) && sg e && notComp v && chkE Γ N sc e v
  | sc, .ex e, .Expr v _ => notComp v && chkE Γ N sc e v
  | sc, .ite c a b, .If t x y _ => chkE Γ N sc c t && chkSs Γ N sc a x && chkSs Γ N sc b y
  | sc, .for_ tg k src b, .For t iter body [] _ => tgB N sc tg t && zipT k t && notSet iter && (sgs src).all id && chkSrc Γ N sc k src iter && chkSs Γ N sc b body
  | sc, .whl c b, .While t body [] _ => chkE Γ N sc c t && chkSs Γ N sc b body
  | _, .pass, .Pass _ => true
  | _, .brk, .Break _ => true
  | _, .cont, .Continue _ => true
  | _, .no, _ => true
  | _, _, _ => false
def chkSs (Γ : TCx) (N : List Str) : Scope → Ss → List Stmt → Bool
  | _, .nil, [] => true
  | sc, .cons _ s l, st :: sts => chkS Γ N sc s st && chkSs Γ N sc l sts
  | _, _, _ => false
end

def endR (K : PySem.W.Frag) (I : Hp → List Addr → Prop) (G0 Z0 : List Addr) (H0 : Hp) (D : Ends) : EndT where
  nx := fun ρ n => ∀ σ H, SmE K I G0 Z0 H0 σ ρ H n → D.nx σ H
  rt := fun r n => Kq K true G0 Z0 H0 D.rt r n
  bk := fun ρ n => ∀ σ H, SmE K I G0 Z0 H0 σ ρ H n → D.bk σ H
  ct := fun ρ n => ∀ σ H, SmE K I G0 Z0 H0 σ ρ H n → D.ct σ H
/-- the statement's reading -/
def rs (K : PySem.W.Frag) (G0 Z0 : List Addr) (H0 : Hp) (wp : EndT → Ev → Nat → Prop) : TS := fun D σ H =>
  ∃ I, Iv I ∧ ∃ n ρ, SmE K I G0 Z0 H0 σ ρ H n ∧ wp (endR K I G0 Z0 H0 D) ρ n

/-- since the loop's beginning -/
def Since (H1 : Hp) (Y1 : List Addr) (H : Hp) (Zm : List Addr) : Prop :=
  (∀ a o, a ∉ Y1 → H1 a = some o → Ex H a o) ∧ (∀ a, H1 a ≠ none → H a ≠ none) ∧ ∀ a ∈ Zm, a ∈ Y1 ∨ H1 a = none
theorem since_none {H1 H : Hp} (d : ∀ a, H1 a ≠ none → H a ≠ none) {a : Addr} (h : H a = none) : H1 a = none := by
  cases q : H1 a with
  | none => rfl
  | some o => exact absurd h (d a (by rw [q]; simp))
theorem Since.iv {I : Hp → List Addr → Prop} (iv : Iv I) (H1 : Hp) (Y1 : List Addr) : Iv fun H Zm => I H Zm ∧ Since H1 Y1 H Zm := by
  have key : ∀ {H Zm G G1 Y H2 : _} {n : Nat}, Since H1 Y1 H Zm → Ok G Zm H n → Gr G Zm H G1 Y H2 → Since H1 Y1 H2 Y := by
    rintro H Zm G G1 Y H2 n ⟨a1, a2, a3⟩ o g
    obtain ⟨L, rfl, rfl, hL⟩ := g.new
    have nG : ∀ a ob, a ∉ Y1 → H1 a = some ob → a ∉ G := fun a ob h1 h2 z => by
      rcases a3 a (o.sub a z) with h | h
      · exact h1 h
      · rw [h] at h2; cases h2
    refine ⟨fun a ob h1 h2 => ?_, fun a h => g.dom a (a2 a h), fun a h => ?_⟩
    · rcases a1 a ob h1 h2 with q | ⟨k, u, q⟩
      · exact g.ext a ob (nG a ob h1 h2) q
      · exact .inr ⟨k, u, (g.ext a _ (nG a ob h1 h2) q).eq fun z => z⟩
    · rcases List.mem_append.mp h with h | h
      · exact .inr (since_none a2 (hL a h))
      · exact a3 a h
  refine ⟨fun h o g => ⟨iv.grow h.1 o g, key h.2 o g⟩, fun h o g hp => ⟨iv.new h.1 o g hp, ?_⟩, fun {H Zm p o} h hp hn => ⟨iv.wr h.1 hp hn, ?_⟩, fun h s => ⟨iv.sub h.1 s, h.2.1, h.2.2.1, fun a z => h.2.2.2 a (s a z)⟩⟩
  · have k := key h.2 o g
    refine ⟨k.1, k.2.1, fun a z => ?_⟩
    rcases List.mem_cons.mp z with rfl | z
    · exact .inr (since_none h.2.2.1 hp)
    · exact k.2.2 a z
  · obtain ⟨_, a1, a2, a3⟩ := h
    refine ⟨fun a ob h1 h2 => ?_, fun a h1 h2 => ?_, a3⟩
    · have ne : a ≠ p := fun z => by
        rcases a3 p hp with q | q
        · exact h1 (by rw [z]; exact q)
        · rw [z, q] at h2; cases h2
      have := a1 a ob h1 h2
      unfold Ex at this ⊢
      rw [upd_ne ne]
      exact this
    · by_cases z : a = p
      · subst z; rw [upd_same] at h2; cases h2
      · rw [upd_ne z] at h2; exact a2 a h1 h2
section
variable {K : PySem.W.Frag} {I I' : Hp → List Addr → Prop} {G0 Z0 G Z Zm O : List Addr} {H0 H : Hp} {n : Nat} {σ : L2.St} {ρ : Ev}
theorem Sm.inv_to (s : Sm K I G0 Z0 H0 σ ρ H n G Z Zm O) (h : I' H Zm) : Sm K I' G0 Z0 H0 σ ρ H n G Z Zm O := ⟨s.g, s.mem, s.ok, s.own, s.env, s.at_, s.inj, s.len, h⟩
theorem SmE.weak {P : Hp → List Addr → Prop} (h : SmE K (fun H Z => I H Z ∧ P H Z) G0 Z0 H0 σ ρ H n) : SmE K I G0 Z0 H0 σ ρ H n := by
  obtain ⟨G, Z, Zm, O, s⟩ := h
  exact ⟨G, Z, Zm, O, s.inv_to s.inv.1⟩
theorem Sm.gs {Q : L2.St → Hp → Prop} : ∀ (l : List Nat) (xs : List PyData) (vs : List V) {σ : L2.St} {ρ ρ' : Ev}, setAll l xs ρ = some ρ' → Sm K I G0 Z0 H0 σ ρ H n G Z Zm O → RpA K (mask H Zm) vs xs →
    (∀ σ', Sm K I G0 Z0 H0 σ' ρ' H n G Z Zm O → Q σ' H) → gsOf l vs σ H Q ∧ vs.length = l.length
  | [], [], _, σ, ρ, ρ', e, s, .nil, q => by
    cases e
    exact ⟨⟨rfl, q _ s⟩, rfl⟩
  | i :: l, x :: xs, _, σ, ρ, ρ', e, s, .cons a b, q => by
    unfold setAll at e
    have s2 := s.setv (i := i) (t := .d x) a
    obtain ⟨r1, r2⟩ := Sm.gs (Q := Q) l xs _ e s2 b q
    exact ⟨⟨_, _, rfl, r1⟩, by rw [List.length_cons, r2, List.length_cons]⟩
theorem Sm.tg {Q : L2.St → Hp → Prop} {tg : Tg} {x : PyData} {v : V} {ρ' : Ev} (s : Sm K I G0 Z0 H0 σ ρ H n G Z Zm O) (e : asgD tg x ρ = some ρ') (r : Rp K (mask H Zm) v x)
    (q : ∀ σ', Sm K I G0 Z0 H0 σ' ρ' H n G Z Zm O → Q σ' H) : gOf K tg v σ H Q := by
  cases tg with
  | nm i =>
    cases e
    exact q _ (s.setv (t := .d x) r)
  | tp l =>
    cases x <;> first | cases e | skip
    · cases r with
      | lst hs ra =>
        obtain ⟨r1, r2⟩ := Sm.gs (Q := Q) l _ _ e s ra q
        exact .inr ⟨_, _, rfl, .of (mask_some hs).2, r2, r1⟩
    · cases r with
      | tup hs ra =>
        obtain ⟨r1, r2⟩ := Sm.gs (Q := Q) l _ _ e s ra q
        exact .inl ⟨_, _, rfl, mask_le.sqT hs, r2, r1⟩
end
theorem sw_false {v : Expr} (h : notComp v = true) (tg : Option Expr) (l : Nat) (env : Env) : swapsWith v tg l env = pure false := by
  cases v <;> first | rfl | cases h
theorem isLocal_val {sc : Scope} {x : Str} : isLocal sc x = (sc.names.lookup x == some .local) := by
  unfold isLocal
  cases sc.names.lookup x with
  | none => rfl
  | some k => cases k <;> rfl
theorem sw_val {v : Expr} {x : Str} {p : Pos} {l : Nat} {env : Env} (hk : env.blockKind = .function) : swapsWith v (some (.Name x p)) l env = pure (swB env.scope x p v) := by
  have hx : env.kindOf x = env.scope.names.lookup x := rfl
  cases v <;> first
    | rfl
    | (unfold swapsWith swB
       simp only [hk, hx, isLocal_val, Expr.pos]
       rfl)
theorem sw_none {es : List Expr} {k : Nat} {p : Pos} {v : Expr} (h : noSwap v = true) (env : Env) : swappedStores [.Tuple es k p] v env = pure none := by
  cases v <;> first | rfl | skip
  rename_i vs k2 p2
  have h : vs.all (foldedForSure 8) = true := h
  unfold swappedStores
  dsimp only
  split
  · rfl
  · split
    · rfl
    · split
      · rfl
      · first | rfl | (rw [h]; rfl)
theorem filterMap_lt {α β : Type} {F : α → Option β} : ∀ {l : List α}, (∃ a ∈ l, F a = none) → (l.filterMap F).length < l.length
  | [], h => by obtain ⟨_, h, _⟩ := h; cases h
  | a :: l, h => by
    cases q : F a with
    | none =>
      rw [List.filterMap_cons_none q, List.length_cons]
      have := List.length_filterMap_le F l
      omega
    | some b =>
      rw [List.filterMap_cons_some q, List.length_cons, List.length_cons]
      obtain ⟨x, hx, e⟩ := h
      rcases List.mem_cons.mp hx with rfl | hx
      · rw [q] at e; cases e
      · have := filterMap_lt ⟨x, hx, e⟩
        omega
theorem sw_cell {es : List Expr} {k : Nat} {p : Pos} {v : Expr} {env : Env} (h : cellAny env.scope es = true) : swappedStores [.Tuple es k p] v env = pure none := by
  cases v <;> first | rfl | skip
  rename_i vs k2 p2
  let F : Expr → Option Str := fun
    | .Name id pos => if env.kindOf id == some .local && pos.line == (es.head?.map (·.pos.line)).getD 0 then some id else none
    | _ => none
  have lt : (es.filterMap F).length < es.length := by
    unfold cellAny at h
    obtain ⟨x, hx, e⟩ := List.any_eq_true.mp h
    refine filterMap_lt ⟨x, hx, ?_⟩
    cases x <;> first | rfl | skip
    rename_i id pos
    have e : (!isLocal env.scope id) = true := e
    have e2 : (env.kindOf id == some .local) = false := by
      have hx : env.kindOf id = env.scope.names.lookup id := rfl
      rw [hx]
      unfold isLocal at e
      cases q : env.scope.names.lookup id with
      | none => rfl
      | some kk =>
        rw [q] at e
        cases kk <;> first | rfl | cases e
    show (if (env.kindOf id == some .local && _) = true then some id else none) = none
    rw [e2]; rfl
  have ne : ((es.filterMap F).length != es.length || (es.filterMap F).eraseDups.length != (es.filterMap F).length) = true := by
    have : ((es.filterMap F).length != es.length) = true := by simpa using Nat.ne_of_lt lt
    rw [this]; rfl
  unfold swappedStores
  dsimp only
  split
  · rfl
  · split
    · rfl
    · rename_i c
      split
      · rfl
      · rename_i c
        exact absurd ne c
def isStarE : Expr → Bool
  | .Starred _ _ => true
  | _ => false
theorem star_no {e : Expr} (h : notStar e = true) : isStarE e = false := by
  cases e <;> first | rfl | cases h
theorem sw_two {x y : Str} {px py pt pt2 : Pos} {kt k2 : Nat} {v w : Expr} {env : Env} (hk : env.blockKind = .function) (hx : env.kindOf x = some .local) (hy : env.kindOf y = some .local) (hxy : (x == y) = false) (hl : (py.line == px.line) = true)
    (hv : notStar v = true) (hw : notStar w = true) (hf : (foldedForSure 8 v && foldedForSure 8 w) = false) (hc : (constantsAlone 8 v && constantsAlone 8 w) = false) :
    swappedStores [.Tuple [.Name x px, .Name y py] kt pt] (.Tuple [v, w] k2 pt2) env = pure (some [x, y]) := by
  have s1 : [v, w].any isStarE = false := by
    rw [List.any_cons, List.any_cons, star_no hv, star_no hw]
    rfl
  let F : Expr → Option Str := fun
    | .Name id pos => if env.kindOf id == some .local && pos.line == px.line then some id else none
    | _ => none
  have nm : [Expr.Name x px, .Name y py].filterMap F = [x, y] := by
    have a : F (.Name x px) = some x := by
      show (if (env.kindOf x == some .local && px.line == px.line) = true then some x else none) = some x
      rw [hx]; simp
    have b : F (.Name y py) = some y := by
      show (if (env.kindOf y == some .local && py.line == px.line) = true then some y else none) = some y
      rw [hy, hl]; rfl
    rw [List.filterMap_cons_some a, List.filterMap_cons_some b]
    rfl
  have ed : [x, y].eraseDups.length = 2 := by
    have hyx : (y == x) = false := by rw [← hxy]; exact BEq.comm
    simp [List.eraseDups_cons, hyx]
  have c1 : (([Expr.Name x px, .Name y py].filterMap F).length != 2 || ([Expr.Name x px, .Name y py].filterMap F).eraseDups.length != ([Expr.Name x px, .Name y py].filterMap F).length) = false := by
    rw [nm, ed]; rfl
  have e1 : [v, w].all (foldedForSure 8) = false := by simpa using hf
  have e2 : [v, w].all (constantsAlone 8) = false := by simpa using hc
  unfold swappedStores
  dsimp only [List.length_cons, List.length_nil, List.head?, Option.map, Option.getD]
  rw [hk]
  refine (if_neg (by decide)).trans ((if_neg fun h => absurd (s1.symm.trans h) Bool.false_ne_true).trans ((if_neg fun h => absurd (c1.symm.trans h) Bool.false_ne_true).trans ((if_neg fun h => absurd (e1.symm.trans h) Bool.false_ne_true).trans ((if_neg fun h => absurd (e2.symm.trans h) Bool.false_ne_true).trans ?_))))
  exact congrArg (fun l => (pure (some l) : Sem (Option (List Str)))) nm
theorem sw_three {x y z : Str} {px py pz pt pt2 : Pos} {kt k2 : Nat} {u v w : Expr} {env : Env} (hk : env.blockKind = .function) (hx : env.kindOf x = some .local) (hy : env.kindOf y = some .local) (hz : env.kindOf z = some .local) (hxy : (x == y) = false) (hxz : (x == z) = false) (hyz : (y == z) = false)
    (hl : (py.line == px.line) = true) (hl2 : (pz.line == px.line) = true) (hu : notStar u = true) (hv : notStar v = true) (hw : notStar w = true) (hf : (foldedForSure 8 u && (foldedForSure 8 v && foldedForSure 8 w)) = false) (hc : (constantsAlone 8 u && (constantsAlone 8 v && constantsAlone 8 w)) = false) :
    swappedStores [.Tuple [.Name x px, .Name y py, .Name z pz] kt pt] (.Tuple [u, v, w] k2 pt2) env = pure (some [x, y, z]) := by
  have s1 : [u, v, w].any isStarE = false := by
    rw [List.any_cons, List.any_cons, List.any_cons, star_no hu, star_no hv, star_no hw]
    rfl
  let F : Expr → Option Str := fun
    | .Name id pos => if env.kindOf id == some .local && pos.line == px.line then some id else none
    | _ => none
  have nm : [Expr.Name x px, .Name y py, .Name z pz].filterMap F = [x, y, z] := by
    have a : F (.Name x px) = some x := by
      show (if (env.kindOf x == some .local && px.line == px.line) = true then some x else none) = some x
      rw [hx]; simp
    have b : F (.Name y py) = some y := by
      show (if (env.kindOf y == some .local && py.line == px.line) = true then some y else none) = some y
      rw [hy, hl]; rfl
    have c : F (.Name z pz) = some z := by
      show (if (env.kindOf z == some .local && pz.line == px.line) = true then some z else none) = some z
      rw [hz, hl2]; rfl
    rw [List.filterMap_cons_some a, List.filterMap_cons_some b, List.filterMap_cons_some c]
    rfl
  have ed : [x, y, z].eraseDups.length = 3 := by
    have hyx : (y == x) = false := by rw [← hxy]; exact BEq.comm
    have hzx : (z == x) = false := by rw [← hxz]; exact BEq.comm
    have hzy : (z == y) = false := by rw [← hyz]; exact BEq.comm
    simp [List.eraseDups_cons, hyx, hzx, hzy]
  have c1 : (([Expr.Name x px, .Name y py, .Name z pz].filterMap F).length != 3 || ([Expr.Name x px, .Name y py, .Name z pz].filterMap F).eraseDups.length != ([Expr.Name x px, .Name y py, .Name z pz].filterMap F).length) = false := by
    rw [nm, ed]; rfl
  have e1 : [u, v, w].all (foldedForSure 8) = false := by simpa [List.all_cons] using hf
  have e2 : [u, v, w].all (constantsAlone 8) = false := by simpa [List.all_cons] using hc
  unfold swappedStores
  dsimp only [List.length_cons, List.length_nil, List.head?, Option.map, Option.getD]
  rw [hk]
  refine (if_neg (by decide)).trans ((if_neg fun h => absurd (s1.symm.trans h) Bool.false_ne_true).trans ((if_neg fun h => absurd (c1.symm.trans h) Bool.false_ne_true).trans ((if_neg fun h => absurd (e1.symm.trans h) Bool.false_ne_true).trans ((if_neg fun h => absurd (e2.symm.trans h) Bool.false_ne_true).trans ?_))))
  exact congrArg (fun l => (pure (some l) : Sem (Option (List Str)))) nm
end TL

set_option Elab.async false
set_option linter.all false
set_option maxRecDepth 100000
set_option maxHeartbeats 2000000
/-! TL16: the theorem about statements. -/
namespace TL
open PySem PySem.Spec PyProof.Rows L2

/-- a def's context -/
structure Gx (Γ : TCx) (X : Cx) (sc : Scope) (Xt : XE) (Ew : XS) (G0 Z0 : List Addr) (H0 : Hp) (n0 : Nat) : Prop where
  fx : Fx Γ X
  hsc : X.env.scope = sc
  kd : sc.kind = .function
  tk : Takes X (fun cls d σ H => Ew σ cls d H)
  po : PassesOwn (model X.prog X.w) X.A X.env X.xe
  fn : ∀ x, X.fn x = true
  o0 : Ok G0 Z0 H0 n0
  ws : ∀ σ, Wsh X.mg Γ.cn X.K Xt (Ew σ) G0 Z0 H0
section
variable {Γ : TCx} {X : Cx} {sc : Scope} {Xt : XE} {Ew : XS} {G0 Z0 : List Addr} {H0 : Hp} {n0 : Nat}
theorem Gx.pa (g : Gx Γ X sc Xt Ew G0 Z0 H0 n0) : ∀ σ, PassesAt (L2.CX X.prog X.w) X σ (Ew σ) := fun σ => passAt g.tk σ
theorem Gx.loc (g : Gx Γ X sc Xt Ew G0 Z0 H0 n0) : ∀ x, tgB.isLoc sc x = true → Loc X.env.scope x ∧ (X.fn x = true ∨ X.env.scope.names.lookup x = some .local) := fun x h => by
  refine ⟨?_, .inl (g.fn x)⟩
  rw [g.hsc]
  unfold tgB.isLoc at h
  split at h
  · exact .inl (by assumption)
  · exact .inr (by assumption)
  · cases h
theorem isLocal_eq {x : Str} (h : isLocal sc x = true) : sc.names.lookup x = some .local := by
  unfold isLocal at h
  split at h
  · assumption
  · cases h
theorem Gx.bk (g : Gx Γ X sc Xt Ew G0 Z0 H0 n0) : X.env.blockKind = .function := by
  unfold Env.blockKind
  rw [g.hsc, g.kd]
  rfl
/-- name = comprehension, on one line -/
theorem set_lc (g : Gx Γ X sc Xt Ew G0 Z0 H0 n0) {i : Nat} {x : Str} {p sp : Pos} {own : List Nat} {tg : Tg} {k : SK} {src : Es} {cnd elt : E} {el : Expr} {gn : Comprehension} {scope : Scope} {q : Pos} (hi : X.N[i]? = some x)
    (hs : swB sc x p (.ListComp el [gn] scope q) = true) (h : chkE Γ X.N sc (.lc own tg k src cnd elt) (.ListComp el [gn] scope q) = true) :
    PS X (.Assign [.Name x p] (.ListComp el [gn] scope q) sp) (tAsg (rd Γ X.mg X.K Xt Ew (.lc own tg k src cnd elt)) (gName i)) := by
  have fx := g.fx
  have hsc := g.hsc
  have hp := g.pa
  obtain ⟨t, iter, ifs, ka⟩ := gn
  unfold chkE at h
  simp only [Bool.and_eq_true, decide_eq_true_eq] at h
  obtain ⟨⟨⟨⟨⟨⟨⟨⟨⟨hka, h0⟩, h1⟩, h2⟩, h3⟩, h4⟩, h5⟩, h6⟩, h7⟩, h8⟩ := h
  subst hka
  unfold swB at hs
  simp only [Bool.and_eq_true, Bool.not_eq_true'] at hs
  obtain ⟨⟨hl, hli⟩, hno⟩ := hs
  have hl' : X.env.scope.names.lookup x = some .local := by rw [hsc]; exact isLocal_eq hl
  have bo := blkOk_by h0
  rw [← hsc] at bo
  have fb : ∀ (s : Shared) (H : Hp) (C : Addr) (cl : List (Str × Addr)) (fp : List Addr), Fx Γ (X.blk s H scope (compEnvC scope cl C X.env) fp) := fun s H C cl fp =>
    ⟨fx.nd, fx.calm, fx.gd, fx.un, fx.dg, fx.mono, fx.ar, fx.bl, fx.gc, fx.fn, fx.kw⟩
  have sb : ∀ (s : Shared) (H : Hp) (C : Addr) (cl : List (Str × Addr)) (fp : List Addr), (X.blk s H scope (compEnvC scope cl C X.env) fp).env.scope = relS scope sc := fun s H C cl fp => by rw [← hsc]; rfl
  have lo : ∀ x, tgB.isLoc scope x = true → Loc (relS scope X.env.scope) x ∧ ((scope.names.lookup x == some .cell) = true ∨ (relS scope X.env.scope).names.lookup x = some .local) := fun x hx => by
    unfold tgB.isLoc at hx
    split at hx <;> first | cases hx | skip
    · rename_i e
      have e2 := lookup_relS_keep (sc := X.env.scope) (by decide) e
      exact ⟨.inl e2, .inr e2⟩
    · rename_i e
      have e2 := lookup_relS_keep (sc := X.env.scope) (by decide) e
      exact ⟨.inr e2, .inl (by rw [e]; rfl)⟩
  have pt : ∀ (s : Shared) (H : Hp) (C : Addr) (cl : List (Str × Addr)) (fp : List Addr), PTs (X.blk s H scope (compEnvC scope cl C X.env) fp) ifs (rdT Γ X.mg X.K E0x E0s cnd) := fun s H C cl fp => by
    cases ifs with
    | nil =>
      refine ⟨fun pins s σ H Q I hh => ?_⟩
      obtain ⟨G, Z, n, ρ, st, h⟩ := hh
      have h6 : isT cnd = true := h6
      unfold isT at h6
      split at h6
      · unfold wpE at h
        exact (pts_nil).run pins s σ H Q I (h.2 H G Z Gr.refl st.ok)
      · cases h6
    | cons c ifs =>
      cases ifs with
      | cons _ _ => cases h6
      | nil => exact pts_one (sndT cnd E0x E0s (fb s H C cl fp) (sb s H C cl fp) passA h6 (sndE cnd E0x E0s (fb s H C cl fp) (sb s H C cl fp) passA h6))
  have ow : (own.map fun i => (X.N.getD i ⟨#[]⟩, i)).map (·.2) = own := by
    rw [List.map_map]
    exact List.map_id' _
  have P := ps_setLc (pos := q) (py := p) (spos := sp) (y := x) (i := i) (wi := rdSrc Γ X.mg X.K Xt Ew k src) (g := gOf X.K tg) (tt := rdT Γ X.mg X.K E0x E0s cnd) (te := rd Γ X.mg X.K E0x E0s elt) fx.calm fx.nd hi hl'
    (sw_true (by rw [hsc]; exact g.kd) hl' hli hno) (sndSrc k src Xt Ew fx hsc hp h3 h5) bo
    (fun s H C cl fp => pg_of (X := X.blk s H scope (compEnvC scope cl C X.env) fp) fx.calm fx.nd lo h1) pt (fun s H C cl fp => sndE elt E0x E0s (fb s H C cl fp) (sb s H C cl fp) passA h8) (fold_of h4 _)
  rw [ow] at P
  exact PS.imp P fun D σ H hh => lc_rd fx.mono h2 (fun _ _ _ h => h) (fun _ _ _ h => h) h7 σ H _ hh
theorem PSs.imp {e : List Stmt} {t t' : TS} (h : PSs X e t) (q : ∀ D σ H, t' D σ H → t D σ H) : PSs X e t' :=
  ⟨fun pins s σ H Q I hw => h.run pins s σ H Q I (q Q σ H hw)⟩
theorem tru_bool {P : Bool → Prop} {t : T} (h : truW t P) : truW t P := h
/-- name = e -/
theorem set_rd (g : Gx Γ X sc Xt Ew G0 Z0 H0 n0) {i : Nat} {e : E} (hsg : sg e = true) : ∀ D σ H, rs X.K G0 Z0 H0 (wpS Γ.Φ Γ.C Xt (.set i e)) D σ H → tAsg (rd Γ X.mg X.K Xt Ew e) (gName i) D σ H := by
  rintro D σ H ⟨I, iv, n, ρ, ⟨G, Z, Zm, O, s⟩, h⟩
  unfold wpS at h
  refine ⟨G, Zm, n, ρ, s.stt g.o0 (g.ws σ), wpE_mono g.fx.mono e h fun r n1 h v H1 G1 Y1 gr o w f => ?_⟩
  rw [hsg] at w
  show D.nx (σ.set i (some v)) H1
  obtain ⟨t, fr⟩ := r
  cases fr with
  | true => exact h _ _ (s.setF iv g.o0 gr o w (f rfl))
  | false =>
    obtain ⟨Z1, s1⟩ := s.mono iv g.o0 gr o
    exact h _ _ ⟨_, _, _, _, s1.setv w⟩
/-- names get values, one by one -/
def setV : List Nat → List V → L2.St → L2.St
  | i :: l, v :: vs, σ => setV l vs (σ.set i (some v))
  | _, _, σ => σ
theorem Sm.sets {K : PySem.W.Frag} {I : Hp → List Addr → Prop} {H : Hp} {n : Nat} {G Z Zm O : List Addr} : ∀ (l : List Nat) (vs : List V) (rs : List R) {σ : L2.St} {ρ : Ev}, vs.length = l.length → rs.length = l.length → ρ.length = σ.length → Sm K I G0 Z0 H0 (σ ++ vs.map some) (ρ ++ rs.map slot) H n G Z Zm O → Sm K I G0 Z0 H0 (setV l vs σ) (setR l rs ρ) H n G Z Zm O
  | [], [], [], σ, ρ, _, _, _, s => by simpa [setV, setR] using s
  | i :: l, v :: vs, r :: rs, σ, ρ, e1, e2, e3, s => by
    have s1 := Sm.move (x := some v) (y := slot r) e3 s i
    exact Sm.sets l vs rs (by simpa using e1) (by simpa using e2) (by simp [e3]) s1
theorem len_two {α : Type} : ∀ {l : List α}, l.length = 2 → ∃ a b, l = [a, b]
  | [a, b], _ => ⟨a, b, rfl⟩
theorem len_three {α : Type} : ∀ {l : List α}, l.length = 3 → ∃ a b c, l = [a, b, c]
  | [a, b, c], _ => ⟨a, b, c, rfl⟩
/-- values one by one, each with its sign: behind them all stand as places more -/
def rdf (Γ : TCx) (K : PySem.W.Frag) (Xt : XE) (G0 Z0 : List Addr) (H0 : Hp) (l : Es) : TA := fun σ H Q => ∃ I, Iv I ∧ ∃ (n : Nat) (ρ θ : Ev) (τ : L2.St), ρ.length = σ.length ∧ ∃ G Z Zm O, Sm K I G0 Z0 H0 (σ ++ τ) (ρ ++ θ) H n G Z Zm O ∧
  wpEf Γ.Φ Γ.C Xt l ρ n fun rs n' => ∀ (vs : List V) H' G' Z' Zm' O', vs.length = (sgs l).length → rs.length = (sgs l).length → Sm K I G0 Z0 H0 (σ ++ (τ ++ vs.map some)) (ρ ++ (θ ++ rs.map slot)) H' n' G' Z' Zm' O' → Q vs H'
theorem Stt.sub {mg : Str → Option Value} {cn : Nat → Str} {K : PySem.W.Frag} {Ew : XK} {G Z : List Addr} {H : Hp} {n : Nat} {σ τ : L2.St} {ρ θ : Ev} (hl : ρ.length = σ.length) (s : Stt mg cn K Xt Ew G Z H n (σ ++ τ) (ρ ++ θ)) : Stt mg cn K Xt Ew G Z H n σ ρ := by
  refine ⟨s.ok, fun i b t e => ?_, s.wsh, hl⟩
  have hi : i < ρ.length := (List.getElem?_eq_some_iff.mp e).1
  obtain ⟨v, h1, h2⟩ := s.env i b t (by rw [List.getElem?_append_left hi]; exact e)
  rw [List.getElem?_append_left (by rw [← hl]; exact hi)] at h1
  exact ⟨v, h1, h2⟩
theorem set_end {α : Type} {l : List α} {a b : α} : (l ++ [a]).set l.length b = l ++ [b] := by
  rw [List.set_append_right _ _ (Nat.le_refl _), Nat.sub_self]
  rfl
theorem sndEf (g : Gx Γ X sc Xt Ew G0 Z0 H0 n0) : ∀ (l : Es) {es : List Expr}, (sgs l).all id = true → chkEs Γ X.N sc l es = true → PA X es (rdf Γ X.K Xt G0 Z0 H0 l)
  | .nil, es, _, h => by
    cases es with
    | cons _ _ => unfold chkEs at h; cases h
    | nil =>
      refine PA.imp pa_nil ?_
      rintro σ H Q ⟨I, iv, n, ρ, θ, τ, hl, G, Z, Zm, O, s, h⟩
      unfold wpEf at h
      exact h [] H G Z Zm O rfl rfl (by simpa using s)
  | .cons a l, es, hs, h => by
    cases es with
    | nil => unfold chkEs at h; cases h
    | cons e es =>
      unfold chkEs at h
      simp only [Bool.and_eq_true] at h
      have hs' : sg a = true ∧ (sgs l).all id = true := by
        have hs : (sgs (.cons a l)).all id = true := hs
        unfold sgs at hs
        rw [List.all_cons, Bool.and_eq_true] at hs
        exact hs
      refine PA.imp (pa_cons (sndE a Xt Ew g.fx g.hsc g.pa h.1.2) (sndEf g l hs'.2 h.2) (star_of h.1.1 _ _)) ?_
      rintro σ H Q ⟨I, iv, n, ρ, θ, τ, hl, G, Z, Zm, O, s, hh⟩
      unfold wpEf at hh
      refine ⟨G, Zm, n, ρ, (s.stt g.o0 (g.ws σ)).sub hl, wpE_mono g.fx.mono a hh fun r n1 hr v H1 G1 Y1 gr o w f => ?_⟩
      rw [hs'.1] at w
      have key : ∃ G2 Z2 Zm2 O2, Sm X.K I G0 Z0 H0 (σ ++ (τ ++ [some v])) (ρ ++ (θ ++ [slot r])) H1 n1 G2 Z2 Zm2 O2 := by
        obtain ⟨t, fr⟩ := r
        cases fr with
        | true =>
          obtain ⟨G2, Z2, Zm2, O2, s2⟩ := s.push.setF (i := (σ ++ τ).length) iv g.o0 gr o w (f rfl)
          rw [set_end] at s2
          rw [← s.len, set_end] at s2
          exact ⟨G2, Z2, Zm2, O2, by simpa [slot] using s2⟩
        | false =>
          obtain ⟨Z2, s2⟩ := s.push.mono iv g.o0 gr o
          have s3 := s2.setv (i := (σ ++ τ).length) w
          rw [set_end] at s3
          rw [← s.len, set_end] at s3
          exact ⟨_, _, _, _, by simpa [slot] using s3⟩
      obtain ⟨G2, Z2, Zm2, O2, s2⟩ := key
      refine ⟨I, iv, n1, ρ, θ ++ [slot r], τ ++ [some v], hl, G2, Z2, Zm2, O2, s2, wpEf_mono g.fx.mono l hr fun rs n2 hq vs H' G' Z' Zm' O' e1 e2 s3 => ?_⟩
      exact hq (v :: vs) H' G' Z' Zm' O' (by unfold sgs; simp [e1]) (by unfold sgs; simp [e2]) (by simpa using s3)
mutual
theorem sndS (g : Gx Γ X sc Xt Ew G0 Z0 H0 n0) : ∀ (s : S) {st : Stmt}, chkS Γ X.N sc s st = true → PS X st (rs X.K G0 Z0 H0 (wpS Γ.Φ Γ.C Xt s))
  | .no, st, h => by
    refine ⟨fun pins s σ H D I hh => ?_⟩
    obtain ⟨_, _, _, _, _, hh⟩ := hh
    unfold wpS at hh
    exact hh.elim
  | .raise c e, st, h => by unfold chkS at h; cases st <;> cases h
  | .pass, st, h => by
    unfold chkS at h
    cases st <;> first | cases h | skip
    refine PS.imp ps_pass ?_
    rintro D σ H ⟨I, iv, n, ρ, sm, h⟩
    unfold wpS at h
    exact h σ H sm
  | .brk, st, h => by
    unfold chkS at h
    cases st <;> first | cases h | skip
    refine PS.imp ps_break ?_
    rintro D σ H ⟨I, iv, n, ρ, sm, h⟩
    unfold wpS at h
    exact h σ H sm
  | .cont, st, h => by
    unfold chkS at h
    cases st <;> first | cases h | skip
    refine PS.imp ps_continue ?_
    rintro D σ H ⟨I, iv, n, ρ, sm, h⟩
    unfold wpS at h
    exact h σ H sm
  | .ret e, st, h => by
    unfold chkS at h
    cases st <;> first | cases h | skip
    rename_i o _
    cases o with
    | none => cases h
    | some x =>
      simp only [Bool.and_eq_true] at h
      refine PS.imp (ps_ret (sndE e Xt Ew g.fx g.hsc g.pa h.2)) ?_
      rintro D σ H ⟨I, iv, n, ρ, ⟨G, Z, Zm, O, s⟩, hh⟩
      unfold wpS at hh
      refine ⟨G, Zm, n, ρ, s.stt g.o0 (g.ws σ), wpE_mono g.fx.mono e hh fun r n1 hr => ?_⟩
      rw [h.1]
      exact s.out g.o0 hr
  | .retO i, st, h => by
    unfold chkS at h
    cases st <;> first | cases h | skip
    rename_i o _
    cases o with
    | none => cases h
    | some x =>
      cases x <;> first | cases h | skip
      simp only [Bool.and_eq_true, decide_eq_true_eq] at h
      refine PS.imp (ps_ret (pe_var h.1.1 (vis_of g.hsc h.1.2) (dbg_of h.2).1 (dbg_of h.2).2)) ?_
      rintro D σ H ⟨I, iv, n, ρ, ⟨G, Z, Zm, O, s⟩, hh⟩
      unfold wpS at hh
      obtain ⟨t, e, hh⟩ := hh
      exact s.outO g.o0 e hh
  | .set i e, st, h => by
    unfold chkS at h
    cases st <;> first | cases h | skip
    rename_i ts v sp
    cases ts with
    | nil => cases h
    | cons tx ts =>
      cases tx <;> first | cases h | skip
      rename_i x p
      cases ts with
      | cons _ _ => cases h
      | nil =>
        simp only [Bool.and_eq_true, decide_eq_true_eq] at h
        obtain ⟨⟨⟨⟨⟨h1, h2⟩, h3⟩, h4⟩, h6⟩, h5⟩ := h
        have plain : swB sc x p v = false → PS X (.Assign [.Name x p] v sp) (rs X.K G0 Z0 H0 (wpS Γ.Φ Γ.C Xt (.set i e))) := fun hn =>
          PS.imp (ps_set g.fx.nd h1 (g.loc x h2).1 (sndE e Xt Ew g.fx g.hsc g.pa h5) (by rw [sw_val g.bk, g.hsc, hn]) (.inl (g.fn x))) (set_rd g h3)
        cases hn : swB sc x p v with
        | false => exact plain hn
        | true =>
          cases v <;> first | cases hn | skip
          · rename_i el gs scope q
            cases gs with
            | nil => cases h4
            | cons gn gs =>
              cases gs with
              | cons _ _ => cases h4
              | nil =>
                cases e <;> first | (unfold chkE at h5; cases h5; done) | skip
                case lc own tg k src cnd elt => exact PS.imp (set_lc g h1 hn h5) (set_rd g h3)
                case atm a => cases h6
          · cases h4
          · cases h4
  | .upk l e, st, h => by
    unfold chkS at h
    cases st <;> first | cases h | skip
    rename_i ts v sp
    cases ts with
    | nil => cases h
    | cons tx ts =>
      cases tx <;> first | cases h | skip
      rename_i es k p
      cases ts with
      | cons _ _ => cases h
      | nil =>
        simp only [Bool.and_eq_true] at h
        obtain ⟨⟨⟨⟨h1, h2⟩, h3⟩, h4⟩, h5⟩ := h
        refine PS.imp (ps_asg (sndE e Xt Ew g.fx g.hsc g.pa h5) (pg_of g.fx.calm g.fx.nd g.loc h1) (by unfold swapsWithSole; exact sw_false h3 _ _ _) (by
          rw [Bool.or_eq_true] at h4
          rcases h4 with h4 | h4
          · exact sw_none h4 _
          · exact sw_cell (by rw [g.hsc]; exact h4))) ?_
        rintro D σ H ⟨I, iv, n, ρ, ⟨G, Z, Zm, O, s⟩, h⟩
        unfold wpS at h
        refine ⟨G, Zm, n, ρ, s.stt g.o0 (g.ws σ), wpE_mono g.fx.mono e h fun r n1 h v H1 G1 Y1 gr o w f => ?_⟩
        rw [h2] at w
        obtain ⟨x, ρ', e1, e2, h⟩ := h
        rw [e1] at w
        obtain ⟨Z1, s1⟩ := s.mono iv g.o0 gr o
        exact s1.tg e2 w fun σ' s2 => h σ' H1 ⟨_, _, _, _, s2⟩
  | .par l es, st, h => by
    unfold chkS at h
    cases st <;> first | cases h | skip
    rename_i ts v sp
    cases ts with
    | nil => cases h
    | cons tx ts =>
      cases tx <;> first | cases h | skip
      rename_i xs k p
      cases ts with
      | cons _ _ => cases h
      | nil =>
        cases v <;> first | cases h | skip
        rename_i vs k2 p2
        simp only [Bool.and_eq_true] at h
        obtain ⟨⟨⟨h1, h2⟩, h3⟩, h4⟩ := h
        have ha := sndEf g es h2 h4
        have fin : ∀ {vs : List V} {rs : List R} {D : Ends} {H' : Hp} {I : Hp → List Addr → Prop} {n : Nat} {ρ : Ev} {σ : L2.St} {G Z Zm O : List Addr}, vs.length = l.length → rs.length = l.length → ρ.length = σ.length → Sm X.K I G0 Z0 H0 (σ ++ vs.map some) (ρ ++ rs.map slot) H' n G Z Zm O →
            (endR X.K I G0 Z0 H0 D).nx (setR l rs ρ) n → D.nx (setV l vs σ) H' := fun {vs rs D H' I n ρ σ G Z Zm O} e1 e2 e3 s hd => hd _ _ ⟨_, _, _, _, Sm.sets l vs rs e1 e2 e3 s⟩
        unfold parOk at h1
        split at h1
        · simp only [Bool.and_eq_true, Bool.not_eq_true', decide_eq_true_eq] at h1
          obtain ⟨⟨⟨⟨⟨⟨⟨q0, q1⟩, q2⟩, q3⟩, q4⟩, q5⟩, q6⟩, q7⟩ := h1
          rename_i i j x px y py a b
          have lx : X.env.scope.names.lookup x = some .local := by rw [g.hsc]; exact isLocal_eq q2
          have ly : X.env.scope.names.lookup y = some .local := by rw [g.hsc]; exact isLocal_eq q3
          have hij : i ≠ j := fun z => by
            subst z
            rw [q0] at q1
            rw [Option.some.inj q1] at q4
            simp at q4
          simp only [List.all_cons, List.all_nil, Bool.and_true, Bool.and_eq_true] at h3
          refine PS.imp (ps_par g.fx.calm g.fx.nd q0 q1 hij lx ly ha (sw_two g.bk lx ly q4 q5 h3.1 h3.2 q6 q7)) ?_
          rintro D σ H ⟨I, iv, n, ρ, ⟨G, Z, Zm, O, s⟩, h⟩
          unfold wpS at h
          refine ⟨I, iv, n, ρ, [], [], s.len, G, Z, Zm, O, by simpa using s, wpEf_mono g.fx.mono es h fun rs n1 h vs H1 G1 Z1 Zm1 O1 e1 e2 s1 => ?_⟩
          have e0 : (sgs es).length = 2 := chkEs_len h4
          obtain ⟨v1, v2, rfl⟩ := len_two (e1.trans e0)
          exact ⟨v1, v2, rfl, fin (vs := [v1, v2]) rfl (e2.trans e0) s.len (by simpa using s1) h⟩
        · simp only [Bool.and_eq_true, Bool.not_eq_true', decide_eq_true_eq] at h1
          obtain ⟨⟨⟨⟨⟨⟨⟨⟨⟨⟨⟨⟨q0, q1⟩, q2⟩, q3⟩, q4⟩, q5⟩, q6⟩, q7⟩, q8⟩, q9⟩, q10⟩, q11⟩, q12⟩ := h1
          rename_i i j k x px y py z pz a b c
          have lx : X.env.scope.names.lookup x = some .local := by rw [g.hsc]; exact isLocal_eq q3
          have ly : X.env.scope.names.lookup y = some .local := by rw [g.hsc]; exact isLocal_eq q4
          have lz : X.env.scope.names.lookup z = some .local := by rw [g.hsc]; exact isLocal_eq q5
          have hij : i ≠ j := fun z => by
            subst z
            rw [q0] at q1
            rw [Option.some.inj q1] at q6
            simp at q6
          have hik : i ≠ k := fun z => by
            subst z
            rw [q0] at q2
            rw [Option.some.inj q2] at q7
            simp at q7
          have hjk : j ≠ k := fun z => by
            subst z
            rw [q1] at q2
            rw [Option.some.inj q2] at q8
            simp at q8
          simp only [List.all_cons, List.all_nil, Bool.and_true, Bool.and_eq_true] at h3
          refine PS.imp (ps_par3 g.fx.calm g.fx.nd q0 q1 q2 hij hik hjk lx ly lz ha (sw_three g.bk lx ly lz q6 q7 q8 q9 q10 h3.1 h3.2.1 h3.2.2 q11 q12)) ?_
          rintro D σ H ⟨I, iv, n, ρ, ⟨G, Z, Zm, O, s⟩, h⟩
          unfold wpS at h
          refine ⟨I, iv, n, ρ, [], [], s.len, G, Z, Zm, O, by simpa using s, wpEf_mono g.fx.mono es h fun rs n1 h vs H1 G1 Z1 Zm1 O1 e1 e2 s1 => ?_⟩
          have e0 : (sgs es).length = 3 := chkEs_len h4
          obtain ⟨v1, v2, v3, rfl⟩ := len_three (e1.trans e0)
          exact ⟨v1, v2, v3, rfl, fin (vs := [v1, v2, v3]) rfl (e2.trans e0) s.len (by simpa using s1) h⟩
        · cases h1
  | .app i e, st, h => by
    unfold chkS at h
    cases st <;> first | cases h | skip
    rename_i ce sp
    cases ce <;> first | cases h | skip
    rename_i fn es kws cp
    cases fn <;> first | cases h | skip
    rename_i o m ap
    cases o <;> first | cases h | skip
    rename_i x xp
    cases es with
    | nil => cases h
    | cons v es =>
      cases es with
      | cons _ _ => cases h
      | nil =>
        cases kws with
        | cons _ _ => cases h
        | nil =>
          simp only [Bool.and_eq_true, decide_eq_true_eq] at h
          obtain ⟨⟨⟨⟨⟨⟨⟨h0, h1⟩, h2⟩, h3⟩, h4⟩, h5⟩, h6⟩, h7⟩ := h
          subst h0
          refine PS.imp (ps_expr (pe_bm PySem.F.plainAttrs_list PySem.F.slot_list_append PySem.F.type_list_append mt_append (pe_var h2 (vis_of g.hsc h3) (dbg_of h4).1 (dbg_of h4).2) (pa_cons (sndE e Xt Ew g.fx g.hsc g.pa h7) pa_nil (star_of h6 _ _)) rfl
            (by rw [star_of h6]; rfl) (by simpa using h1) (star_of h6 _ _) rfl)) ?_
          rintro D σ H ⟨I, iv, n, ρ, ⟨G, Z, Zm, O, s⟩, h⟩
          unfold wpS at h
          obtain ⟨ds, e1, h⟩ := h
          obtain ⟨w, e2, _, ow⟩ := s.env i true _ e1
          obtain ⟨p, vs, rfl, pG, hp, ra⟩ := ow rfl
          refine ⟨_, e2, .inl ⟨rfl, _, .inl (.inl hp)⟩, ?_⟩
          show rd Γ X.mg X.K Xt Ew e σ H _
          refine ⟨G, Zm, n, ρ, s.stt g.o0 (g.ws σ), wpE_mono g.fx.mono e h fun r n1 h v H1 G1 Y1 gr o w f => ?_⟩
          rw [h5] at w
          obtain ⟨y, ey, hz, h⟩ := h
          rw [ey] at w
          obtain ⟨Z1, s1⟩ := s.mono iv g.o0 gr o
          obtain ⟨p', vs', e3, hp', hl, s2⟩ := s1.app iv e1 w
          rw [e2] at e3
          cases e3
          exact ⟨p, vs', v, rfl, rfl, hp', by rw [hl]; exact hz, h _ _ ⟨_, _, _, _, s2⟩⟩
  | .ins i a b, st, h => by
    unfold chkS at h
    split at h <;> first | contradiction | skip
    all_goals first | (rename_i he _; cases he; done) | skip
    rename_i he
    cases he
    rename_i x xp m ap v w cp sp
    simp only [Bool.and_eq_true, decide_eq_true_eq] at h
    obtain ⟨⟨⟨⟨⟨⟨⟨⟨⟨h0, h1⟩, h2⟩, h3⟩, h4⟩, h5⟩, h6⟩, h6'⟩, h7⟩, h7'⟩ := h
    subst h0
    refine PS.imp (ps_expr (pe_bm PySem.F.plainAttrs_list PySem.F.slot_list_insert PySem.F.type_list_insert mt_insert (pe_var h2 (vis_of g.hsc h3) (dbg_of h4).1 (dbg_of h4).2) (pa_cons (sndE a Xt Ew g.fx g.hsc g.pa h7) (pa_cons (sndE b Xt Ew g.fx g.hsc g.pa h7') pa_nil (star_of h6' _ _)) (star_of h6 _ _)) rfl
      (by rw [star_of h6, star_of h6']; rfl) (by simpa using h1) (star_of h6 _ _) (by rw [star_of h6']; rfl))) ?_
    rintro D σ H ⟨I, iv, n, ρ, ⟨G, Z, Zm, O, s⟩, h⟩
    unfold wpS at h
    obtain ⟨ds, e1, h⟩ := h
    obtain ⟨p, u, e2, hp, oc, _, _⟩ := s.wrO iv e1
    obtain ⟨vs, rfl, ra⟩ := oc
    refine ⟨_, e2, .inl ⟨rfl, _, .inl (.inl hp)⟩, ?_⟩
    show rd Γ X.mg X.K Xt Ew a σ H _
    refine ⟨G, Zm, n, ρ, s.stt g.o0 (g.ws σ), wpE_mono g.fx.mono a h fun x1 n1 h va H1 G1 Y1 gr o wa fa => ?_⟩
    obtain ⟨Z1, s1⟩ := s.mono iv g.o0 gr o
    show rd Γ X.mg X.K Xt Ew b σ H1 _
    refine ⟨G1, Y1, n1, ρ, s1.stt g.o0 (g.ws σ), wpE_mono g.fx.mono b h fun r n2 h vb H2 G2 Y2 gr2 o2 wb fb => ?_⟩
    obtain ⟨Z2, s2⟩ := s1.mono iv g.o0 gr2 o2
    rw [h5] at wb
    obtain ⟨z, y, ez, ey, ⟨z0, z1, z2⟩, h⟩ := h
    rw [ez] at wa
    rw [ey] at wb
    obtain rfl := wa.weak.int
    have wb : Rp X.K (mask H2 Y2) vb y := wb
    obtain ⟨p', u, e3, hp', oc, _, wr⟩ := s2.wrO iv e1
    obtain ⟨vs', rfl, ra'⟩ := oc
    rw [e2] at e3
    cases e3
    exact ⟨p, vs', z, vb, rfl, rfl, hp', by rw [ra'.length]; exact z2, z0, by omega, h _ _ ⟨_, _, _, _, wr _ _ ⟨_, rfl, ((ra'.take _).append (.one wb)).append (ra'.drop _)⟩⟩⟩
  | .ext i e, st, h => by
    unfold chkS at h
    split at h <;> first | contradiction | skip
    all_goals first | (rename_i he _; cases he; done) | skip
    rename_i he
    cases he
    rename_i x xp m ap v cp sp
    simp only [Bool.and_eq_true, decide_eq_true_eq] at h
    obtain ⟨⟨⟨⟨⟨⟨⟨h0, h1⟩, h2⟩, h3⟩, h4⟩, h5⟩, h6⟩, h7⟩ := h
    subst h0
    refine PS.imp (ps_expr (pe_bm PySem.F.plainAttrs_list PySem.F.slot_list_extend PySem.F.type_list_extend mt_extend (pe_var h2 (vis_of g.hsc h3) (dbg_of h4).1 (dbg_of h4).2) (pa_cons (sndE e Xt Ew g.fx g.hsc g.pa h7) pa_nil (star_of h6 _ _)) rfl
      (by rw [star_of h6]; rfl) (by simpa using h1) (star_of h6 _ _) rfl)) ?_
    rintro D σ H ⟨I, iv, n, ρ, ⟨G, Z, Zm, O, s⟩, h⟩
    unfold wpS at h
    obtain ⟨ds, e1, h⟩ := h
    obtain ⟨p, u, e2, hp, oc, _, _⟩ := s.wrO iv e1
    obtain ⟨vs, rfl, ra⟩ := oc
    refine ⟨_, e2, .inl ⟨rfl, _, .inl (.inl hp)⟩, ?_⟩
    show rd Γ X.mg X.K Xt Ew e σ H _
    refine ⟨G, Zm, n, ρ, s.stt g.o0 (g.ws σ), wpE_mono g.fx.mono e h fun r n1 h v H1 G1 Y1 gr o w f => ?_⟩
    obtain ⟨Z1, s1⟩ := s.mono iv g.o0 gr o
    rw [h5] at w
    obtain ⟨ys, ey, hz, h⟩ := h
    rw [ey] at w
    obtain ⟨q, ws, rfl, hq, rb⟩ := (show RW X.K H1 G1 Y1 v (.d (.list ys)) from .inl w).lst
    obtain ⟨p', u, e3, hp', oc, em, wr⟩ := s1.wrO iv e1
    obtain ⟨vs', rfl, ra'⟩ := oc
    rw [e2] at e3
    cases e3
    exact ⟨p, q, vs', ws, rfl, rfl, hp', hq, by rw [ra'.length, rb.length]; exact hz, h _ _ ⟨_, _, _, _, wr _ _ ⟨_, rfl, ra'.append rb⟩⟩⟩
  | .pset j i l, st, h => by
    unfold chkS at h
    split at h <;> first | contradiction | skip
    all_goals first | (rename_i he _; cases he; done) | skip
    rename_i he
    cases he
    rename_i x p y yp m ap vs cp sp
    simp only [Bool.and_eq_true, decide_eq_true_eq] at h
    obtain ⟨⟨⟨⟨⟨⟨⟨⟨q1, q2⟩, h0⟩, h1⟩, h2⟩, h3⟩, h4⟩, h5⟩, h7⟩ := h
    subst h0
    have pv : PE X (.Name y yp) _ := pe_var h2 (vis_of g.hsc h3) (dbg_of h4).1 (dbg_of h4).2
    cases vs with
    | nil =>
      cases l with
      | cons _ _ => unfold chkEs at h7; cases h7
      | nil =>
        refine PS.imp (ps_set g.fx.nd q1 (g.loc x q2).1 (pe_bm0 PySem.F.plainAttrs_list PySem.F.slot_list_pop PySem.F.type_list_pop mt_pop pv rfl (by simpa using h1)) rfl (.inl (g.fn x))) ?_
        rintro D σ H ⟨I, iv, n, ρ, ⟨G, Z, Zm, O, s⟩, h⟩
        unfold wpS wpEs at h
        obtain ⟨ds, e1, yy, ey, h⟩ := h
        obtain ⟨pp, u, e2, hp, oc, em, wr⟩ := s.wrO iv e1
        obtain ⟨us, rfl, ra⟩ := oc
        obtain ⟨v, ev, rv⟩ := ra.get ey
        have s2 := wr _ (.list ds.dropLast) ⟨us.dropLast, rfl, by rw [List.dropLast_eq_take, List.dropLast_eq_take, ra.length]; exact ra.take _⟩
        have rv2 : RpT X.K _ G Zm v (.d yy) := show Rp X.K (mask (upd H pp (.lst us.dropLast)) Zm) v yy by rw [em]; exact rv
        exact ⟨_, e2, .inl ⟨rfl, _, .inl (.inl hp)⟩, pp, us, v, rfl, rfl, hp, by rw [ra.length]; exact ev, h _ _ ⟨_, _, _, _, s2.setv rv2⟩⟩
    | cons w vs =>
      cases vs with
      | cons _ _ => exact absurd h5 (by simp)
      | nil =>
        cases l with
        | nil => unfold chkEs at h7; cases h7
        | cons a l =>
          cases l with
          | cons _ _ => unfold chkEs chkEs at h7; simp at h7
          | nil =>
            unfold chkEs chkEs at h7
            simp only [Bool.and_eq_true, Bool.and_true] at h7
            obtain ⟨h6, h7⟩ := h7
            refine PS.imp (ps_set g.fx.nd q1 (g.loc x q2).1 (pe_bm PySem.F.plainAttrs_list PySem.F.slot_list_pop PySem.F.type_list_pop mt_popAt pv (pa_cons (sndE a Xt Ew g.fx g.hsc g.pa h7) pa_nil (star_of h6 _ _)) rfl (by rw [star_of h6]; rfl) (by simpa using h1) (star_of h6 _ _) rfl) rfl (.inl (g.fn x))) ?_
            rintro D σ H ⟨I, iv, n, ρ, ⟨G, Z, Zm, O, s⟩, h⟩
            unfold wpS wpEs wpEs at h
            obtain ⟨ds, e1, h⟩ := h
            obtain ⟨pp, u, e2, hp, oc, _, _⟩ := s.wrO iv e1
            obtain ⟨us, rfl, ra⟩ := oc
            refine ⟨_, e2, .inl ⟨rfl, _, .inl (.inl hp)⟩, ?_⟩
            show rd Γ X.mg X.K Xt Ew a σ H _
            refine ⟨G, Zm, n, ρ, s.stt g.o0 (g.ws σ), wpE_mono g.fx.mono a h fun r n1 h va H1 G1 Y1 gr o wa fa => ?_⟩
            obtain ⟨Z1, s1⟩ := s.mono iv g.o0 gr o
            obtain ⟨z, k, yy, ez, ⟨z0, z1⟩, ek, ey, h⟩ := pop_int h
            rw [ez] at wa
            obtain rfl := wa.weak.int
            obtain ⟨p', u, e3, hp', oc, em, wr⟩ := s1.wrO iv e1
            obtain ⟨us', rfl, ra'⟩ := oc
            rw [e2] at e3
            cases e3
            obtain ⟨v, ev, rv⟩ := ra'.get ey
            obtain ⟨k1, k2, k3, k4⟩ := ixN_seq ek
            have s2 := wr _ (.list (ds.eraseIdx k)) ⟨us'.eraseIdx k, rfl, ra'.erase k⟩
            have rv2 : RpT X.K _ G1 Y1 v (.d yy) := show Rp X.K (mask (upd H1 pp (.lst (us'.eraseIdx k))) Y1) v yy by rw [em]; exact rv
            exact ⟨pp, us', z, k, v, rfl, rfl, hp', by omega, by omega, by rw [ra'.length]; exact k1, ev, h _ _ ⟨_, _, _, _, s2.setv rv2⟩⟩
  | .papp j i l, st, h => by
    unfold chkS at h
    split at h <;> first | contradiction | skip
    all_goals first | (rename_i he _; cases he; done) | skip
    rename_i he
    cases he
    rename_i x xp mx apx y yp m ap vs cp cpx sp
    simp only [Bool.and_eq_true, decide_eq_true_eq] at h
    obtain ⟨⟨⟨⟨⟨⟨⟨⟨⟨⟨⟨⟨q1, q2⟩, q3⟩, q4⟩, q5⟩, h0⟩, h1⟩, h2⟩, h3⟩, h4⟩, h5⟩, hij⟩, h7⟩ := h
    subst h0 q4
    have pv : PE X (.Name y yp) _ := pe_var h2 (vis_of g.hsc h3) (dbg_of h4).1 (dbg_of h4).2
    have px : PE X (.Name x xp) _ := pe_var q1 (vis_of g.hsc q2) (dbg_of q3).1 (dbg_of q3).2
    cases vs with
    | nil =>
      cases l with
      | cons _ _ => unfold chkEs at h7; cases h7
      | nil =>
        refine PS.imp (ps_expr (pe_bm PySem.F.plainAttrs_list PySem.F.slot_list_append PySem.F.type_list_append mt_append px (pa_cons (pe_bm0 PySem.F.plainAttrs_list PySem.F.slot_list_pop PySem.F.type_list_pop mt_pop pv rfl (by simpa using h1)) pa_nil rfl) rfl rfl (by simpa using q5) rfl rfl)) ?_
        rintro D σ H ⟨I, iv, n, ρ, ⟨G, Z, Zm, O, s⟩, h⟩
        unfold wpS wpEs at h
        obtain ⟨ds, es, e1, f1, fl, yy, ey, h⟩ := h
        obtain ⟨pp, u, e2, hp, oc, em, wr⟩ := s.wrO iv e1
        obtain ⟨us, rfl, ra⟩ := oc
        obtain ⟨pj, uj, f2, hpj, ocj, _, _⟩ := s.wrO iv f1
        obtain ⟨ws, rfl, rj⟩ := ocj
        obtain ⟨v, ev, rv⟩ := ra.get ey
        have s2 := wr _ (.list ds.dropLast) ⟨us.dropLast, rfl, by rw [List.dropLast_eq_take, List.dropLast_eq_take, ra.length]; exact ra.take _⟩
        have rv2 : Rp X.K (mask (upd H pp (.lst us.dropLast)) Zm) v yy := by rw [em]; exact rv
        obtain ⟨pj', ws', f3, hpj', hlj, s3⟩ := s2.app iv (by rw [List.getElem?_set_ne hij]; exact f1) rv2
        rw [f2] at f3
        cases f3
        exact ⟨_, f2, .inl ⟨rfl, _, .inl (.inl hpj)⟩, _, e2, .inl ⟨rfl, _, .inl (.inl hp)⟩, pp, us, v, rfl, rfl, hp, by rw [ra.length]; exact ev, pj, ws', v, rfl, rfl, hpj', by rw [hlj]; exact fl, h _ _ ⟨_, _, _, _, s3⟩⟩
    | cons w vs =>
      cases vs with
      | cons _ _ => exact absurd h5 (by simp)
      | nil =>
        cases l with
        | nil => unfold chkEs at h7; cases h7
        | cons a l =>
          cases l with
          | cons _ _ => unfold chkEs chkEs at h7; simp at h7
          | nil =>
            unfold chkEs chkEs at h7
            simp only [Bool.and_eq_true, Bool.and_true] at h7
            obtain ⟨h6, h7⟩ := h7
            refine PS.imp (ps_expr (pe_bm PySem.F.plainAttrs_list PySem.F.slot_list_append PySem.F.type_list_append mt_append px (pa_cons (pe_bm PySem.F.plainAttrs_list PySem.F.slot_list_pop PySem.F.type_list_pop mt_popAt pv (pa_cons (sndE a Xt Ew g.fx g.hsc g.pa h7) pa_nil (star_of h6 _ _)) rfl (by rw [star_of h6]; rfl) (by simpa using h1) (star_of h6 _ _) rfl) pa_nil rfl) rfl rfl (by simpa using q5) rfl rfl)) ?_
            rintro D σ H ⟨I, iv, n, ρ, ⟨G, Z, Zm, O, s⟩, h⟩
            unfold wpS wpEs wpEs at h
            obtain ⟨ds, es, e1, f1, fl, h⟩ := h
            obtain ⟨pp, u, e2, hp, oc, _, _⟩ := s.wrO iv e1
            obtain ⟨us, rfl, ra⟩ := oc
            obtain ⟨pj, uj, f2, hpj, ocj, _, _⟩ := s.wrO iv f1
            obtain ⟨ws, rfl, rj⟩ := ocj
            refine ⟨_, f2, .inl ⟨rfl, _, .inl (.inl hpj)⟩, _, e2, .inl ⟨rfl, _, .inl (.inl hp)⟩, ?_⟩
            show rd Γ X.mg X.K Xt Ew a σ H _
            refine ⟨G, Zm, n, ρ, s.stt g.o0 (g.ws σ), wpE_mono g.fx.mono a h fun r n1 h va H1 G1 Y1 gr o wa fa => ?_⟩
            obtain ⟨Z1, s1⟩ := s.mono iv g.o0 gr o
            obtain ⟨z, k, yy, ez, ⟨z0, z1⟩, ek, ey, h⟩ := pop_int h
            rw [ez] at wa
            obtain rfl := wa.weak.int
            obtain ⟨p', u, e3, hp', oc, em, wr⟩ := s1.wrO iv e1
            obtain ⟨us', rfl, ra'⟩ := oc
            rw [e2] at e3
            cases e3
            obtain ⟨v, ev, rv⟩ := ra'.get ey
            obtain ⟨k1, k2, k3, k4⟩ := ixN_seq ek
            have s2 := wr _ (.list (ds.eraseIdx k)) ⟨us'.eraseIdx k, rfl, ra'.erase k⟩
            have rv2 : Rp X.K (mask (upd H1 pp (.lst (us'.eraseIdx k))) Y1) v yy := by rw [em]; exact rv
            obtain ⟨pj', ws', f3, hpj', hlj, s3⟩ := s2.app iv (by rw [List.getElem?_set_ne hij]; exact f1) rv2
            rw [f2] at f3
            cases f3
            exact ⟨pp, us', z, k, v, rfl, rfl, hp', by omega, by omega, by rw [ra'.length]; exact k1, ev, pj, ws', v, rfl, rfl, hpj', by rw [hlj]; exact fl, h _ _ ⟨_, _, _, _, s3⟩⟩
  | .sub i a e, st, h => by
    unfold chkS at h
    split at h <;> first | contradiction | skip
    all_goals first | (rename_i he _; cases he; done) | skip
    rename_i he
    cases he
    rename_i x xp sl tp v sp
    simp only [Bool.and_eq_true, decide_eq_true_eq] at h
    obtain ⟨⟨⟨⟨⟨⟨⟨hpl, h0⟩, h1⟩, h2⟩, h5⟩, h6⟩, h7⟩, h8⟩ := h
    have ps : PSet X (fun o i v H Q => rSetL o i v H Q ∨ rSetD o i v H Q) := fun pins s σ H o i v ov iv u Q I ro ri rv h => by
      rcases h with h | h
      · exact set_list pins s σ H o i v ov iv u Q I ro ri rv h
      · exact set_dict (by have := g.fx.un; omega) pins s σ H o i v ov iv u Q I ro ri rv h
    refine PS.imp (ps_asg (sndE e Xt Ew g.fx g.hsc g.pa h7) (pg_sub (pe_var h0 (vis_of g.hsc h1) (dbg_of h2).1 (dbg_of h2).2) (sndE a Xt Ew g.fx g.hsc g.pa h8) ps (by intro v; cases sl <;> first | rfl | cases hpl)) (by unfold swapsWithSole; exact sw_false h6 _ _ _) (by cases v <;> rfl)) ?_
    rintro D σ H ⟨I, iv, n, ρ, ⟨G, Z, Zm, O, s⟩, h⟩
    unfold wpS at h
    obtain ⟨c, e1, h⟩ := h
    refine ⟨G, Zm, n, ρ, s.stt g.o0 (g.ws σ), wpE_mono g.fx.mono e h fun r n1 h va H1 G1 Y1 gr o w f => ?_⟩
    obtain ⟨Z1, s1⟩ := s.mono iv g.o0 gr o
    rw [h5] at w
    obtain ⟨y, ey, h⟩ := h
    rw [ey] at w
    have w : Rp X.K (mask H1 Y1) va y := w
    obtain ⟨pp, u, e2, _, _, _, _⟩ := s1.wrO iv e1
    refine ⟨_, e2, ?_⟩
    show rd Γ X.mg X.K Xt Ew a σ H1 _
    refine ⟨G1, Y1, n1, ρ, s1.stt g.o0 (g.ws σ), wpE_mono g.fx.mono a h fun r n2 h vb H2 G2 Y2 gr2 o2 wb fb => ?_⟩
    obtain ⟨Z2, s2⟩ := s1.mono iv g.o0 gr2 o2
    have w2 : Rp X.K (mask H2 Y2) va y := Rp.le (gr2.le o.sub) w
    obtain ⟨p', u, e3, hp', oc, em, wr⟩ := s2.wrO iv e1
    rw [e2] at e3
    cases e3
    rcases sub_cases h with ⟨ds, z, k, rfl, ez, ek, h⟩ | ⟨kvs, kk, rfl, ek, ⟨k1, k2, k3⟩, h⟩
    · rw [ez] at wb
      obtain rfl := wb.weak.int
      obtain ⟨us, rfl, ra⟩ := oc
      exact .inl ⟨pp, us, z, k, rfl, rfl, hp', by rw [ra.length]; exact ek, h _ _ ⟨_, _, _, _, wr _ _ ⟨_, rfl, ra.set k w2⟩⟩⟩
    · rw [ek] at wb
      obtain ⟨kk, rfl⟩ := keyOk_key k1
      obtain rfl := wb.weak.key
      rcases oc with ⟨us, rfl, ra⟩ | ⟨us, rfl, ra⟩
      · exact .inr ⟨pp, _, rfl, DPut.k hp' (by rw [rpk_len ra]; exact k3), h _ _ ⟨_, _, _, _, wr _ (.dict (dPut kvs (keyD kk) y)) (.inl ⟨_, rfl, rpk_put w2 ra⟩)⟩⟩
      · exact (rptk_no ra k2).elim
  | .gst i k e, st, h => by
    unfold chkS at h
    cases st <;> first | cases h | skip
    rename_i ts v sp
    cases ts with
    | nil => cases h
    | cons tx ts =>
      cases tx <;> first | cases h | skip
      rename_i o sl tp
      cases o <;> first | (cases sl <;> cases h; done) | skip
      cases sl <;> first | cases h | skip
      rename_i x xp c kk cp
      cases c <;> first | cases h | skip
      rename_i j
      cases ts with
      | cons _ _ => cases h
      | nil =>
        simp only [Bool.and_eq_true, decide_eq_true_eq] at h
        obtain ⟨⟨⟨⟨⟨⟨⟨h0, h1⟩, h2⟩, h3⟩, h4⟩, h5⟩, h6⟩, h7⟩ := h
        subst h3
        refine PS.imp (ps_asg (sndE e Xt Ew g.fx g.hsc g.pa h7) (pg_sub (pe_var h0 (vis_of g.hsc h1) (dbg_of h2).1 (dbg_of h2).2) pe_int set_list) (by unfold swapsWithSole; exact sw_false h6 _ _ _) (by cases v <;> rfl)) ?_
        rintro D σ H ⟨I, iv, n, ρ, ⟨G, Z, Zm, O, s⟩, h⟩
        unfold wpS at h
        refine ⟨G, Zm, n, ρ, s.stt g.o0 (g.ws σ), wpE_mono g.fx.mono e h fun r n1 h v H1 G1 Y1 gr o w f => ?_⟩
        rw [h5] at w
        obtain ⟨b, e1, z, n', e2, hn, hb, hfin⟩ := h
        rw [e2] at w
        have w : Rp X.K (mask H1 Y1) v (.int z) := w
        cases w
        obtain ⟨Z1, s1⟩ := s.mono iv g.o0 gr o
        obtain ⟨u, f1, f2, f3⟩ := s1.env i b .gen e1
        cases b with
        | true => exact (f3 rfl).elim
        | false =>
          obtain ⟨a, ha, rfl⟩ := f2 rfl
          obtain ⟨x1, x2, x3, hG, b1, b2, b3, b4, b5, b6⟩ := s1.ok.gen a ha
          refine ⟨_, f1, ?_⟩
          match k, h4, hb with
          | 0, _, hb => exact ⟨a, _, 0, 0, rfl, rfl, hG, rfl, hfin _ _ ⟨_, _, _, _, s1.gset iv g.o0 ha hn ⟨hb.1, hb.2, b3, b4, b5, by omega⟩⟩⟩
          | 1, _, hb => exact ⟨a, _, 1, 1, rfl, rfl, hG, rfl, hfin _ _ ⟨_, _, _, _, s1.gset iv g.o0 ha hn ⟨b1, b2, hb.1, hb.2, b5, by omega⟩⟩⟩
          | 2, _, hb => exact ⟨a, _, 2, 2, rfl, rfl, hG, rfl, hfin _ _ ⟨_, _, _, _, s1.gset iv g.o0 ha hn ⟨b1, b2, b3, b4, hb.1, hb.2⟩⟩⟩
  | .ex e, st, h => by
    unfold chkS at h
    cases st <;> first | cases h | skip
    simp only [Bool.and_eq_true] at h
    refine PS.imp (ps_expr (sndE e Xt Ew g.fx g.hsc g.pa h.2) (sw_false h.1 _ _ _)) ?_
    rintro D σ H ⟨I, iv, n, ρ, ⟨G, Z, Zm, O, s⟩, h⟩
    unfold wpS at h
    refine ⟨G, Zm, n, ρ, s.stt g.o0 (g.ws σ), wpE_mono g.fx.mono e h fun r n1 h v H1 G1 Y1 gr o w f => ?_⟩
    obtain ⟨Z1, s1⟩ := s.mono iv g.o0 gr o
    exact h _ _ ⟨_, _, _, _, s1⟩
  | .ite c a b, st, h => by
    unfold chkS at h
    cases st <;> first | cases h | skip
    simp only [Bool.and_eq_true] at h
    obtain ⟨⟨h1, h2⟩, h3⟩ := h
    refine PS.imp (ps_if (sndT c Xt Ew g.fx g.hsc g.pa h1 (sndE c Xt Ew g.fx g.hsc g.pa h1)) (sndSs g a h2) (sndSs g b h3)) ?_
    rintro D σ H ⟨I, iv, n, ρ, ⟨G, Z, Zm, O, s⟩, h⟩
    unfold wpS at h
    refine ⟨G, Zm, n, ρ, s.stt g.o0 (g.ws σ), wpE_mono g.fx.mono c h fun r n1 h => truW_mono h fun k h H1 G1 Y1 gr o => ?_⟩
    obtain ⟨Z1, s1⟩ := s.mono iv g.o0 gr o
    cases k with
    | true =>
      simp only [if_true] at h ⊢
      exact ⟨I, iv, n1, ρ, ⟨_, _, _, _, s1⟩, h⟩
    | false =>
      simp only [Bool.false_eq_true, if_false] at h ⊢
      exact ⟨I, iv, n1, ρ, ⟨_, _, _, _, s1⟩, h⟩
  | .whl c b, st, h => by
    unfold chkS at h
    cases st <;> first | cases h | skip
    rename_i t body oe sp
    cases oe with
    | cons _ _ => cases h
    | nil =>
      simp only [Bool.and_eq_true] at h
      refine PS.imp (ps_while g.po (sndT c Xt Ew g.fx g.hsc g.pa h.1 (sndE c Xt Ew g.fx g.hsc g.pa h.1)) (sndSs g b h.2)) ?_
      rintro D σ H ⟨I, iv, n, ρ, sm, h⟩
      unfold wpS whlGo at h
      obtain ⟨W, ⟨m, w0⟩, turn⟩ := h
      refine ⟨fun m σ H => ∃ n ρ, SmE X.K I G0 Z0 H0 σ ρ H n ∧ W m ρ n, ⟨m, n, ρ, sm, w0⟩, ?_⟩
      rintro m σ H ⟨n, ρ, ⟨G, Z, Zm, O, s⟩, w⟩
      refine ⟨G, Zm, n, ρ, s.stt g.o0 (g.ws σ), wpE_mono g.fx.mono c (turn m ρ n w) fun r n1 h => truW_mono h fun k h H1 G1 Y1 gr o => ?_⟩
      obtain ⟨Z1, s1⟩ := s.mono iv g.o0 gr o
      cases k with
      | true =>
        simp only [if_true] at h ⊢
        refine ⟨fun σ H => ∃ m', m' < m ∧ ∃ n ρ, SmE X.K I G0 Z0 H0 σ ρ H n ∧ W m' ρ n, fun _ _ h => h, I, iv, n1, ρ, ⟨_, _, _, _, s1⟩, wpSs_mono g.fx.mono b ?_ h⟩
        exact ⟨fun ρ n ⟨m', hm, hw⟩ σ H sm => ⟨m', hm, n, ρ, sm, hw⟩, fun _ _ h => h, fun _ _ h => h, fun ρ n ⟨m', hm, hw⟩ σ H sm => ⟨m', hm, n, ρ, sm, hw⟩⟩
      | false =>
        simp only [Bool.false_eq_true, if_false] at h ⊢
        exact h _ _ ⟨_, _, _, _, s1⟩
  | .for_ tg k src b, st, h => by
    unfold chkS at h
    cases st <;> first | cases h | skip
    rename_i t iter body oe sp
    cases oe with
    | cons _ _ => cases h
    | nil =>
      simp only [Bool.and_eq_true] at h
      obtain ⟨⟨⟨⟨⟨h1, h2⟩, h3⟩, h4⟩, h5⟩, h6⟩ := h
      refine PS.imp (ps_for g.po g.fx.calm (sndSrc k src Xt Ew g.fx g.hsc g.pa h2 h5) (pg_of g.fx.calm g.fx.nd g.loc h1) (sndSs g b h6) (fold_of h3 _)) ?_
      rintro D σ H ⟨I, iv, n, ρ, ⟨G, Z, Zm, O, s⟩, h⟩
      unfold wpS at h
      refine ⟨G, Zm, n, ρ, s.stt g.o0 (g.ws σ), wpEs_mono g.fx.mono src h fun ts n1 h => srcW_mono h fun ds h J H1 G1 Y1 gr o _ hB => ?_⟩
      have it := hB h4
      obtain ⟨Z1, s1⟩ := s.mono iv g.o0 gr o
      have iv' := Since.iv iv H1 Y1
      refine ⟨fun i m σ H => m = ds.length - i ∧ i ≤ ds.length ∧ ∃ n ρ, SmE X.K (fun H Zm => I H Zm ∧ Since H1 Y1 H Zm) G0 Z0 H0 σ ρ H n ∧ forGo tg (fun D ρ n => wpSs Γ.Φ Γ.C Xt b D ρ n) (endR X.K I G0 Z0 H0 D) (ds.drop i) ρ n,
        ⟨ds.length, rfl, Nat.zero_le _, n1, ρ, ⟨_, _, _, _, s1.inv_to ⟨s1.inv, fun _ _ _ h => .inl h, fun _ h => h, fun _ h => .inl h⟩⟩, h⟩, ?_⟩
      rintro i m σ' H' ⟨rfl, hi, n', ρ', ⟨G', Z', Zm', O', s'⟩, go⟩
      obtain ⟨a1, a2, a3⟩ := s'.inv.2
      have fY : ∀ a ∈ Zm'.filter (fun a => decide (a ∉ Y1)), a ∈ Zm' ∧ a ∉ Y1 := fun a h => by
        obtain ⟨q1, q2⟩ := List.mem_filter.mp h
        exact ⟨q1, by simpa using q2⟩
      have at_ := it H' (Zm'.filter (fun a => decide (a ∉ Y1))) a1 (fun a h => (a3 a (fY a h).1).resolve_left (fY a h).2) (fun z hz => by
        rcases List.mem_append.mp hz with q | q
        · exact s'.ok.dom z (fY z q).1
        · exact a2 z (o.dom z q)) i
      by_cases hlt : i < ds.length
      · have hd : ds[i]? = some ds[i] := List.getElem?_eq_getElem hlt
        obtain ⟨hgo, hy⟩ := at_.1 _ hd
        rw [List.drop_eq_getElem_cons hlt] at go
        unfold forGo at go
        obtain ⟨ρ1, ea, go⟩ := go
        refine .inr ⟨hgo, fun σ H => ∃ n ρ, SmE X.K (fun H Zm => I H Zm ∧ Since H1 Y1 H Zm) G0 Z0 H0 σ ρ H n ∧ forGo tg (fun D ρ n => wpSs Γ.Φ Γ.C Xt b D ρ n) (endR X.K I G0 Z0 H0 D) (ds.drop (i + 1)) ρ n,
          fun σ2 H2 hN => ⟨ds.length - (i + 1), by omega, rfl, hlt, hN⟩, fun x H2 y => ?_⟩
        obtain ⟨hH, rx⟩ := hy x H2 y
        have gr2 : Gr G' Zm' H' G' Zm' H2 := by
          rcases hH with e | ⟨p, ob, hp, e⟩
          · rw [e]; exact Gr.refl
          · rw [e]; exact Gr.upd hp
        have ok2 : Ok G' Zm' H2 n' := by
          rcases hH with e | ⟨p, ob, hp, e⟩
          · rw [e]; exact s'.ok
          · rw [e]; exact s'.ok.upd hp
        obtain ⟨Z2, s2⟩ := s'.mono iv' g.o0 gr2 ok2
        have rx' : Rp X.K (mask H2 Zm') x ds[i] := Rp.le (mask_sub fun a ha => by
          by_cases hY : a ∈ Y1
          · exact List.mem_append_right _ hY
          · exact List.mem_append_left _ (List.mem_filter.mpr ⟨ha, by simpa using hY⟩)) rx
        refine s2.tg ea rx' fun σ3 s3 => ⟨_, iv', n', ρ1, ⟨_, _, _, _, s3⟩, wpSs_mono g.fx.mono b ?_ go⟩
        exact ⟨fun ρ n h σ H sm => ⟨n, ρ, sm, h⟩, fun _ _ h => h, fun ρ n h σ H sm => h σ H sm.weak, fun ρ n h σ H sm => ⟨n, ρ, sm, h⟩⟩
      · have e : i = ds.length := by omega
        refine .inl ⟨at_.2 e.symm, ?_⟩
        rw [e, List.drop_length] at go
        exact go σ' H' (SmE.weak (P := Since H1 Y1) ⟨_, _, _, _, s'⟩)
theorem sndSs (g : Gx Γ X sc Xt Ew G0 Z0 H0 n0) : ∀ (l : Ss) {sts : List Stmt}, chkSs Γ X.N sc l sts = true → PSs X sts (rs X.K G0 Z0 H0 (wpSs Γ.Φ Γ.C Xt l))
  | .nil, sts, h => by
    cases sts with
    | cons _ _ => unfold chkSs at h; cases h
    | nil =>
      refine PSs.imp pss_nil ?_
      rintro D σ H ⟨I, iv, n, ρ, sm, h⟩
      unfold wpSs at h
      exact h σ H sm
  | .cons fz s l, sts, h => by
    cases sts with
    | nil => unfold chkSs at h; cases h
    | cons st sts =>
      unfold chkSs at h
      simp only [Bool.and_eq_true] at h
      refine PSs.imp (pss_cons (sndS g s h.1) (sndSs g l h.2)) ?_
      rintro D σ H ⟨I, iv, n, ρ, sm, h⟩
      unfold wpSs at h
      refine ⟨I, iv, n, frz fz ρ, sm.frz iv g.o0 fz, wpS_mono g.fx.mono s ?_ h⟩
      exact ⟨fun ρ n h σ H sm => ⟨I, iv, n, ρ, sm, h⟩, fun _ _ h => h, fun _ _ h => h, fun _ _ h => h⟩
end
end
end TL

set_option Elab.async false
set_option linter.all false
set_option maxRecDepth 100000
/-! TL17: a def keeps its promise. -/
namespace TL
open PySem PySem.Spec PyProof.Rows L2

/-- what holds of the text's tables, for calls k deep -/
structure Fz (Γ : TCx) (P : Program) (w : World) (K : PySem.W.Frag) (mg : Str → Option Value) (base : Heap) (k : Nat) : Prop where
  dg : PySem.W.nsIn K cStatics "sys.int_max_str_digits" = some none
  mono : MonoPh Γ.Φ
  ar : ∀ f ts n Q Xt, Γ.Φ f ts n Q Xt → ts.length = Γ.ar f
  bl : ∀ x, Γ.bl.contains x = true → mg x = none
  gc : ∀ k, Γ.hc k = true → ∃ u v, mg (Γ.gm k) = some u ∧ RelV v u ∧ ∀ H, Rp K H v (Γ.C k)
  fn : ∀ f, Γ.hf f = true → ∃ a fd ps, FnG P w K mg base (L2.CX P w) k a fd ps (low mg Γ.cn K ps.length (Γ.Φ f)) ∧ ps.length = Γ.ar f ∧ mg (Γ.nm f) = some (.ref a) ∧ PySem.W.keepIn K (.ref a) = true ∧ Binds K fd ps []
  kw : ∀ f pm n ks, Γ.kw f pm n ks = true → ∃ a fd ps, FnG P w K mg base (L2.CX P w) k a fd ps (low mg Γ.cn K ps.length (Γ.Φ f)) ∧ ps.length = Γ.ar f ∧ mg (Γ.nm f) = some (.ref a) ∧ PySem.W.keepIn K (.ref a) = true ∧ KBinds K fd ps ks (kwG n ks.length pm) (kwG n ks.length pm)
theorem Fz.up {Γ : TCx} {P : Program} {w : World} {K : PySem.W.Frag} {mg : Str → Option Value} {base : Heap} {j k : Nat} (h : Fz Γ P w K mg base j) (hj : j ≤ k) : Fz Γ P w K mg base k :=
  ⟨h.dg, h.mono, h.ar, h.bl, h.gc, fun f e => by
    obtain ⟨a, fd, ps, F, r⟩ := h.fn f e
    exact ⟨a, fd, ps, F.mono hj, r⟩, fun f pm n ks e => by
    obtain ⟨a, fd, ps, F, r⟩ := h.kw f pm n ks e
    exact ⟨a, fd, ps, F.mono hj, r⟩⟩
/-- names at the entry -/
def startE (N : List Str) (ts : List T) : Ev := ts.map (fun t => some (false, t)) ++ List.replicate (N.length - ts.length) none
theorem startE_env {K : PySem.W.Frag} {H : Hp} {G Z : List Addr} {N : List Str} {vs : List V} {ts : List T} (h : Paired (RpT K H G Z) vs ts) : EnvR K H G Z (L2.start N vs) (startE N ts) := by
  intro i b t e
  unfold startE at e
  by_cases hi : i < ts.length
  · rw [List.getElem?_append_left (by simpa using hi), List.getElem?_map] at e
    cases q : ts[i]? with
    | none => rw [q] at e; cases e
    | some t' =>
      rw [q] at e
      simp only [Option.map_some, Option.some.injEq, Prod.mk.injEq] at e
      obtain ⟨rfl, rfl⟩ := e
      obtain ⟨v, hv, r⟩ : ∃ v, vs[i]? = some v ∧ RpT K H G Z v t' := by
        have hl := h.length
        have hiv : i < vs.length := by rw [hl]; exact hi
        clear hi hl
        induction h generalizing i with
        | nil => simp at q
        | cons a b ih =>
          cases i with
          | zero => simp at q; subst q; exact ⟨_, rfl, a⟩
          | succ i =>
            obtain ⟨v, h1, h2⟩ := ih (i := i) (by simpa using q) (by simpa using hiv)
            exact ⟨v, by simpa using h1, h2⟩
      refine ⟨v, ?_, fun _ => r, fun z => nomatch z⟩
      unfold L2.start
      rw [List.getElem?_append_left (by rw [List.length_map]; exact (List.getElem?_eq_some_iff.mp hv).1), List.getElem?_map, hv]
      rfl
  · rw [List.getElem?_append_right (by simpa using hi)] at e
    have := List.mem_of_getElem? e
    have := List.eq_of_mem_replicate this
    cases this
theorem startE_len {N : List Str} {vs : List V} {ts : List T} (h : vs.length = ts.length) : (startE N ts).length = (L2.start N vs).length := by
  unfold startE L2.start
  simp [h]
/-- the end of a body -/
def endD (Q : QE) : EndT := { nx := fun _ n => Q ⟨.d .none, false⟩ n, rt := Q }
theorem def_ok {Γ : TCx} {P : Program} {ww : World} {K : PySem.W.Frag} {mg : Str → Option Value} {base : Heap} {k : Nat} {x qual : Str} {st : Stmt} {f : Addr} {fd : FuncData} {N ps : List Str} {sp : TSp} (b : Ss)
    (Z : Fz Γ P ww K mg base k) (F : Fun K x qual st f fd) (S : FnScope N ps (defScope st)) (hc : chkSs Γ N (defScope st) b (defBody st) = true)
    (h : ∀ ts n Q X, (∀ t n, Q ⟨t, false⟩ n → Q ⟨t, true⟩ n) → ts.length = ps.length → sp ts n Q X → wpSs Γ.Φ Γ.C X b (endD Q) (startE N ts) n) :
    FnG P ww K mg base (L2.CX P ww) (k + 1) f fd ps (low mg Γ.cn K ps.length sp) := by
  refine gn_of F S (fun vs H Q E h => h.1) fun cdv A outer s H vs Q E hr hg hsp => ?_
  obtain ⟨hl, G, Y, n, ts, o, w, hsp⟩ := hsp
  have fx : Fx Γ (cxOf (L2.CX P ww) P ww K mg base N qual (defScope st) f cdv A outer s H E) := ⟨S.nd, rfl, hg, hr.units, Z.dg, Z.mono, Z.ar, Z.bl, Z.gc, fun f e => by
    obtain ⟨a, fd, ps, F, r1, r2⟩ := Z.fn f e
    exact ⟨a, fd, k, ps, F, r1, hr, r2⟩, fun f pm n ks e => by
    obtain ⟨a, fd, ps, F, r1, r2⟩ := Z.kw f pm n ks e
    exact ⟨a, fd, k, ps, F, r1, hr, r2⟩⟩
  have gx : Gx Γ (cxOf (L2.CX P ww) P ww K mg base N qual (defScope st) f cdv A outer s H E) (defScope st) (fun er n' => ∀ (cls : Value) (d : Option Addr) (H' : Hp) (G' Z' : List Addr), Gr G Y H G' Z' H' → Ok G' Z' H' n' → ErAt mg Γ.cn K H' Z' er cls d → E cls d H') (fun _ => E) G Y H n := ⟨fx, rfl, S.kind, takes_of rfl rfl rfl rfl, passes_of rfl, fun _ => rfl, o, fun σ er n' cls d H' G' Z' x g o e => x cls d H' G' Z' g o e⟩
  refine ⟨_, sndSs gx b hc, fun _ _ => True, ⟨fun _ _ _ => trivial, fun _ _ _ _ => trivial, fun _ _ _ => trivial, fun _ _ => trivial⟩, n, startE N ts, ⟨G, Y, Y, [], Gr.refl, fun a => ?_, o, fun p hp => ?_, startE_env w, fun i t e => ?_, fun i j t u p e => ?_, startE_len w.length, trivial⟩, ?_⟩
  · simp
  · cases hp
  · obtain ⟨v, _, h1, h2⟩ := startE_env w i true t e
    exfalso
    unfold startE at e
    rcases Nat.lt_or_ge i ts.length with hi | hi
    · rw [List.getElem?_append_left (by simpa using hi), List.getElem?_map] at e
      cases q : ts[i]? with
      | none => rw [q] at e; cases e
      | some t' => rw [q] at e; cases e
    · rw [List.getElem?_append_right (by simpa using hi)] at e
      have := List.eq_of_mem_replicate (List.mem_of_getElem? e)
      cases this
  · exfalso
    unfold startE at e
    rcases Nat.lt_or_ge i ts.length with hi | hi
    · rw [List.getElem?_append_left (by simpa using hi), List.getElem?_map] at e
      cases q : ts[i]? with
      | none => rw [q] at e; cases e
      | some t' => rw [q] at e; cases e
    · rw [List.getElem?_append_right (by simpa using hi)] at e
      have := List.eq_of_mem_replicate (List.mem_of_getElem? e)
      cases this
  · refine wpSs_mono Z.mono b ?_ (h ts n _ _ (fun t n h v H' G' Z' g o w f => h v H' G' Z' g o w fun z => nomatch z) (by rw [← w.length]; exact hl) hsp)
    refine ⟨fun ρ n1 h σ H1 ⟨G1, Z1, Zm1, O1, s1⟩ => ?_, fun _ _ h => h, fun _ _ h => h.elim, fun _ _ h => h.elim⟩
    exact h .non H1 G1 Z1 s1.g (s1.okZ o) Rp.non fun z => nomatch z
/-- nothing is promised -/
def spNo : TSp := fun _ _ _ _ => False
theorem fn_no {P : Program} {w : World} {K : PySem.W.Frag} {mg : Str → Option Value} {base : Heap} {CX : CXT} {k : Nat} {f : Addr} {fd : FuncData} {ps : List Str} {cn : Nat → Str} : FnG P w K mg base CX k f fd ps (low mg cn K ps.length spNo) :=
  ⟨fun _ _ _ _ h => h.1, fun _ _ _ _ _ _ _ _ _ _ _ _ _ _ h => by obtain ⟨_, _, _, _, _, _, _, z⟩ := h; exact z.elim⟩
end TL

set_option Elab.async false
set_option linter.all false
set_option maxRecDepth 100000
/-! TL18: specs, loops, plain facts for the reckoning. -/
namespace TL
open PySem PySem.Spec PyProof.Rows L2

/-! ### specs -/
structure Spc where
  ar : Nat
  pre : List T → Nat → Prop
  post : List T → Nat → R → Nat → Prop
  exn : List T → Nat → Er → Nat → Prop := fun _ _ _ _ => False
def Spc.sp (s : Spc) : TSp := fun ts n Q X => ts.length = s.ar ∧ s.pre ts n ∧ (∀ r n', s.post ts n r n' → Q r n') ∧ ∀ e n', s.exn ts n e n' → X e n'
def Spc.no (k : Nat) : Spc := { ar := k, pre := fun _ _ => False, post := fun _ _ _ _ => False }
theorem mono_sp (S : Nat → Spc) : MonoPh fun i => (S i).sp := fun i ts n Q Q' X X' h q x => ⟨h.1, h.2.1, fun r n' e => q r n' (h.2.2.1 r n' e), fun e n' z => x e n' (h.2.2.2 e n' z)⟩
theorem fn_noS {P : Program} {w : World} {K : PySem.W.Frag} {mg : Str → Option Value} {base : Heap} {CX : CXT} {k : Nat} {f : Addr} {fd : FuncData} {ps : List Str} {cn : Nat → Str} {j : Nat} : FnG P w K mg base CX k f fd ps (low mg cn K ps.length (Spc.no j).sp) :=
  ⟨fun _ _ _ _ h => h.1, fun _ _ _ _ _ _ _ _ _ _ _ _ _ _ h => by obtain ⟨_, _, _, _, _, _, _, z⟩ := h; exact z.2.1.elim⟩
/-- a def, by its spec -/
theorem def_sp {Γ : TCx} {P : Program} {ww : World} {K : PySem.W.Frag} {mg : Str → Option Value} {base : Heap} {k : Nat} {x qual : Str} {st : Stmt} {f : Addr} {fd : FuncData} {N ps : List Str} {s : Spc} (b : Ss)
    (Z : Fz Γ P ww K mg base k) (F : Fun K x qual st f fd) (S : FnScope N ps (defScope st)) (hc : chkSs Γ N (defScope st) b (defBody st) = true)
    (h : ∀ ts n (Q : QE) (X : XE), (∀ t n, Q ⟨t, false⟩ n → Q ⟨t, true⟩ n) → ts.length = s.ar → s.pre ts n → (∀ r n', s.post ts n r n' → Q r n') → (∀ e n', s.exn ts n e n' → X e n') → wpSs Γ.Φ Γ.C X b (endD Q) (startE N ts) n) :
    FnG P ww K mg base (L2.CX P ww) (k + 1) f fd ps (low mg Γ.cn K ps.length s.sp) :=
  def_ok b Z F S hc fun ts n Q X hq _ hs => h ts n Q X hq hs.1 hs.2.1 hs.2.2.1 hs.2.2.2

/-! ### loops -/
section
variable {Φ : Nat → TSp} {C : Nat → PyData} {X : XE}
theorem for_inv (M : MonoPh Φ) {tg : Tg} {b : Ss} {D : EndT} (J : Nat → Ev → Nat → Prop) : ∀ (ds : List PyData) (i0 : Nat) {ρ : Ev} {n : Nat}, J i0 ρ n →
    (∀ i ρ n x, ds[i]? = some x → J (i0 + i) ρ n → ∃ ρ', asgD tg x ρ = some ρ' ∧ wpSs Φ C X b { D with nx := J (i0 + i + 1), ct := J (i0 + i + 1), bk := D.nx } ρ' n) → (∀ ρ n, J (i0 + ds.length) ρ n → D.nx ρ n) →
    forGo tg (fun D ρ n => wpSs Φ C X b D ρ n) D ds ρ n
  | [], i0, ρ, n, h, _, he => he ρ n h
  | x :: xs, i0, ρ, n, h, hs, he => by
    obtain ⟨ρ', e, w⟩ := hs 0 ρ n x rfl h
    refine ⟨ρ', e, wpSs_mono M b ?_ w⟩
    have rest : ∀ ρ n, J (i0 + 1) ρ n → forGo tg (fun D ρ n => wpSs Φ C X b D ρ n) D xs ρ n := fun ρ n h => for_inv M J xs (i0 + 1) h
      (fun i ρ n y e h => by
        have := hs (i + 1) ρ n y (by simpa using e) (by rw [show i0 + (i + 1) = i0 + 1 + i by omega]; exact h)
        rw [show i0 + (i + 1) + 1 = i0 + 1 + i + 1 by omega] at this
        exact this)
      (fun ρ n h => he ρ n (by rw [List.length_cons, show i0 + (xs.length + 1) = i0 + 1 + xs.length by omega]; exact h))
    exact ⟨rest, fun _ _ h => h, fun _ _ h => h, rest⟩
/-- over all items, by the turn -/
theorem for_by (M : MonoPh Φ) {tg : Tg} {b : Ss} {D : EndT} (J : Nat → Ev → Nat → Prop) {ds : List PyData} {ρ : Ev} {n : Nat} (h0 : J 0 ρ n)
    (hs : ∀ i ρ n x, ds[i]? = some x → J i ρ n → ∃ ρ', asgD tg x ρ = some ρ' ∧ wpSs Φ C X b { D with nx := J (i + 1), ct := J (i + 1), bk := D.nx } ρ' n) (he : ∀ ρ n, J ds.length ρ n → D.nx ρ n) :
    forGo tg (fun D ρ n => wpSs Φ C X b D ρ n) D ds ρ n :=
  for_inv M J ds 0 h0 (fun i ρ n x e h => by rw [Nat.zero_add] at h ⊢; exact hs i ρ n x e h) fun ρ n h => he ρ n (by rw [Nat.zero_add] at h; exact h)
def cndW (Φ : Nat → TSp) (C : Nat → PyData) (cnd : E) : Ev → Nat → (Bool → Nat → Prop) → Prop := fun ρ n Q => wpE Φ C (fun _ _ => False) cnd ρ n fun x n => truW x.t fun b => Q b n
def eltW (Φ : Nat → TSp) (C : Nat → PyData) (elt : E) : Ev → Nat → QE → Prop := fun ρ n Q => wpE Φ C (fun _ _ => False) elt ρ n Q
theorem lc_inv (M : MonoPh Φ) {tg : Tg} {cnd elt : E} {ρ : Ev} {Q : List PyData → Nat → Prop} (J : Nat → List PyData → Nat → Prop) : ∀ (ds : List PyData) (i0 : Nat) {acc : List PyData} {n : Nat}, J i0 acc n →
    (∀ i acc n x, ds[i]? = some x → J (i0 + i) acc n → ∃ ρ', asgD tg x ρ = some ρ' ∧ cndW Φ C cnd ρ' n fun b n => if b = true then eltW Φ C elt ρ' n fun r n => ∃ y, r.t = .d y ∧ acc.length < sizeLine ∧ J (i0 + i + 1) (acc ++ [y]) n else J (i0 + i + 1) acc n) →
    (∀ acc n, J (i0 + ds.length) acc n → Q acc n) → lcGo tg ρ (cndW Φ C cnd) (eltW Φ C elt) Q ds acc n
  | [], i0, acc, n, h, _, he => he acc n h
  | x :: xs, i0, acc, n, h, hs, he => by
    obtain ⟨ρ', e, w⟩ := hs 0 acc n x rfl h
    have rest : ∀ acc n, J (i0 + 1) acc n → lcGo tg ρ (cndW Φ C cnd) (eltW Φ C elt) Q xs acc n := fun acc n h => lc_inv M J xs (i0 + 1) h
      (fun i acc n y e h => by
        have := hs (i + 1) acc n y (by simpa using e) (by rw [show i0 + (i + 1) = i0 + 1 + i by omega]; exact h)
        rw [show i0 + (i + 1) + 1 = i0 + 1 + i + 1 by omega] at this
        exact this)
      (fun acc n h => he acc n (by rw [List.length_cons, show i0 + (xs.length + 1) = i0 + 1 + xs.length by omega]; exact h))
    refine ⟨ρ', e, wpE_mono M cnd w fun r n1 w => truW_mono w fun k w => ?_⟩
    cases k with
    | true =>
      simp only [if_true] at w ⊢
      exact wpE_mono M elt w fun r n2 ⟨y, e1, e2, h⟩ => ⟨y, e1, e2, rest _ _ h⟩
    | false =>
      simp only [Bool.false_eq_true, if_false] at w ⊢
      exact rest _ _ w
theorem lc_by (M : MonoPh Φ) {tg : Tg} {cnd elt : E} {ρ : Ev} {Q : List PyData → Nat → Prop} (J : Nat → List PyData → Nat → Prop) {ds : List PyData} {n : Nat} (h0 : J 0 [] n)
    (hs : ∀ i acc n x, ds[i]? = some x → J i acc n → ∃ ρ', asgD tg x ρ = some ρ' ∧ cndW Φ C cnd ρ' n fun b n => if b = true then eltW Φ C elt ρ' n fun r n => ∃ y, r.t = .d y ∧ acc.length < sizeLine ∧ J (i + 1) (acc ++ [y]) n else J (i + 1) acc n)
    (he : ∀ acc n, J ds.length acc n → Q acc n) : lcGo tg ρ (cndW Φ C cnd) (eltW Φ C elt) Q ds [] n :=
  lc_inv M J ds 0 h0 (fun i acc n x e h => by rw [Nat.zero_add] at h ⊢; exact hs i acc n x e h) fun acc n h => he acc n (by rw [Nat.zero_add] at h; exact h)
/-- a comprehension that only picks -/
theorem lc_pure (M : MonoPh Φ) {tg : Tg} {cnd elt : E} {ρ : Ev} {Q : List PyData → Nat → Prop} (p : PyData → Bool) (f : PyData → PyData) {ds : List PyData} {n : Nat} (hl : ds.length ≤ sizeLine)
    (hs : ∀ x ∈ ds, ∃ ρ', asgD tg x ρ = some ρ' ∧ (∀ P : Bool → Nat → Prop, P (p x) n → cndW Φ C cnd ρ' n P) ∧ (p x = true → ∀ P : QE, (∀ fr, P ⟨.d (f x), fr⟩ n) → eltW Φ C elt ρ' n P))
    (he : Q ((ds.filter p).map f) n) : lcGo tg ρ (cndW Φ C cnd) (eltW Φ C elt) Q ds [] n := by
  refine lc_by M (fun i acc m => m = n ∧ acc = ((ds.take i).filter p).map f) ⟨rfl, rfl⟩ (fun i acc m x e h => ?_) fun acc m h => ?_
  · obtain ⟨rfl, rfl⟩ := h
    obtain ⟨ρ', e1, h1, h2⟩ := hs x (List.mem_of_getElem? e)
    have hi : i < ds.length := (List.getElem?_eq_some_iff.mp e).1
    have tk : ds.take (i + 1) = ds.take i ++ [x] := by rw [List.take_add_one, e]; rfl
    refine ⟨ρ', e1, h1 _ ?_⟩
    cases hp : p x with
    | true =>
      simp only [if_true]
      refine h2 hp _ fun fr => ⟨f x, rfl, ?_, rfl, ?_⟩
      · rw [List.length_map]
        exact Nat.lt_of_lt_of_le (Nat.lt_of_le_of_lt (List.length_filter_le ..) (by rw [List.length_take]; omega)) hl
      · rw [tk, List.filter_append, List.map_append]
        simp [hp]
    | false =>
      simp only [Bool.false_eq_true, if_false]
      refine ⟨trivial, ?_⟩
      rw [tk, List.filter_append]
      simp [hp]
  · obtain ⟨rfl, rfl⟩ := h
    rw [List.take_length]
    exact he
end

/-! ### the meaning, step by step -/
section
variable {Φ : Nat → TSp} {C : Nat → PyData} {X : XE} {ρ : Ev} {n : Nat}
@[simp] theorem wpE_c {x : PyData} {Q : QE} : wpE Φ C X (.c x) ρ n Q = (Q ⟨.d x, false⟩ n) := rfl
@[simp] theorem wpE_v {i : Nat} {Q : QE} : wpE Φ C X (.v i) ρ n Q = (∃ t, ρ[i]? = some (some (false, t)) ∧ Q ⟨t, false⟩ n) := rfl
@[simp] theorem wpE_w {i : Nat} {Q : QE} : wpE Φ C X (.w i) ρ n Q = (∃ b t, ρ[i]? = some (some (b, t)) ∧ Q ⟨t, false⟩ n) := rfl
@[simp] theorem wpE_g {k : Nat} {Q : QE} : wpE Φ C X (.g k) ρ n Q = (Q ⟨.d (C k), false⟩ n) := rfl
@[simp] theorem wpE_bin {o : BOp} {a b : E} {Q : QE} : wpE Φ C X (.bin o a b) ρ n Q = (wpE Φ C X a ρ n fun x n => wpE Φ C X b ρ n fun y n => binW o x.t y.t fun r => Q r n) := rfl
@[simp] theorem wpE_neg {a : E} {Q : QE} : wpE Φ C X (.neg a) ρ n Q = (wpE Φ C X a ρ n fun x n => ∃ i, x.t = .d (.int i) ∧ Q ⟨.d (.int (-i)), false⟩ n) := rfl
@[simp] theorem wpE_not {a : E} {Q : QE} : wpE Φ C X (.not a) ρ n Q = (wpE Φ C X a ρ n fun x n => truW x.t fun b => Q ⟨.d (.bool !b), false⟩ n) := rfl
@[simp] theorem wpE_and {a b : E} {Q : QE} : wpE Φ C X (.and a b) ρ n Q = (wpE Φ C X a ρ n fun x n => truW x.t fun k => if k = true then wpE Φ C X b ρ n Q else Q ⟨x.t, false⟩ n) := rfl
@[simp] theorem wpE_or {a b : E} {Q : QE} : wpE Φ C X (.or a b) ρ n Q = (wpE Φ C X a ρ n fun x n => truW x.t fun k => if k = true then Q ⟨x.t, false⟩ n else wpE Φ C X b ρ n Q) := rfl
@[simp] theorem wpE_ife {c a b : E} {Q : QE} : wpE Φ C X (.ife c a b) ρ n Q = (wpE Φ C X c ρ n fun x n => truW x.t fun k => if k = true then wpE Φ C X a ρ n Q else wpE Φ C X b ρ n Q) := rfl
@[simp] theorem wpE_cmp {o : COp} {a b : E} {Q : QE} : wpE Φ C X (.cmp o a b) ρ n Q = (wpE Φ C X a ρ n fun x n => wpE Φ C X b ρ n fun y n => cmpW o x.t y.t fun k => Q ⟨.d (.bool k), false⟩ n) := rfl
@[simp] theorem wpE_chain {o p : COp} {a b c : E} {Q : QE} : wpE Φ C X (.chain o p a b c) ρ n Q = (wpE Φ C X a ρ n fun x n => wpE Φ C X b ρ n fun y n => cmpW o x.t y.t fun k =>
      if k = true then wpE Φ C X c ρ n fun z n => cmpW p y.t z.t fun k => Q ⟨.d (.bool k), false⟩ n else Q ⟨.d (.bool false), false⟩ n) := rfl
@[simp] theorem wpE_lst {l : Es} {Q : QE} : wpE Φ C X (.lst l) ρ n Q = (wpEs Φ C X l ρ n fun ts n => ∃ ds, datas ts = some ds ∧ ds.length ≤ sizeLine ∧ Q ⟨.d (.list ds), true⟩ n) := rfl
@[simp] theorem wpE_tup {l : Es} {Q : QE} : wpE Φ C X (.tup l) ρ n Q = (wpEs Φ C X l ρ n fun ts n => ∃ ds, datas ts = some ds ∧ ds.length ≤ sizeLine ∧ Q ⟨.d (.tuple ds), false⟩ n) := rfl
@[simp] theorem wpE_dct {kvs : List (Key × PyData)} {Q : QE} : wpE Φ C X (.dct kvs) ρ n Q = (Q ⟨.d (.dict (kvs.map fun kv => (keyD kv.1, kv.2))), true⟩ n) := rfl
@[simp] theorem wpE_gix {i k : Nat} {Q : QE} : wpE Φ C X (.gix i k) ρ n Q = (∃ b, ρ[i]? = some (some (b, .gen)) ∧ ∀ z, genB k n z → Q ⟨.d (.int z), false⟩ n) := rfl
@[simp] theorem wpE_ix {a i : E} {Q : QE} : wpE Φ C X (.ix a i) ρ n Q = (wpE Φ C X a ρ n fun x n => wpE Φ C X i ρ n fun y n => ixW x.t y.t fun t => Q ⟨t, false⟩ n) := rfl
@[simp] theorem wpE_sl {a lo hi : E} {Q : QE} : wpE Φ C X (.sl a lo hi) ρ n Q = (wpE Φ C X a ρ n fun x n => wpE Φ C X lo ρ n fun l n => ∃ i, bnd (isNoB lo) l.t = some i ∧ wpE Φ C X hi ρ n fun h n =>
      ∃ j, bnd (isNoB hi) h.t = some j ∧ slW i j x.t fun r => Q r n) := rfl
@[simp] theorem wpE_rev {a : E} {Q : QE} : wpE Φ C X (.rev a) ρ n Q = (wpE Φ C X a ρ n fun x n => ∃ xs, x.t = .d (.list xs) ∧ Q ⟨.d (.list xs.reverse), true⟩ n) := rfl
@[simp] theorem wpE_call {f : Nat} {l : Es} {Q : QE} : wpE Φ C X (.call f l) ρ n Q = (wpEs Φ C X l ρ n fun ts n => Φ f ts n Q X) := rfl
@[simp] theorem wpE_callk {f : Nat} {l : Es} {pm : List Nat} {ks : Es} {Q : QE} : wpE Φ C X (.callk f l pm ks) ρ n Q = (wpEs Φ C X l ρ n fun ts n => wpEs Φ C X ks ρ n fun us n => ∃ ws, pm.mapM (fun j => (ts ++ us)[j]?) = some ws ∧ Φ f ws n Q X) := rfl
@[simp] theorem wpE_isi {a : E} {t : TyN} {Q : QE} : wpE Φ C X (.isi a t) ρ n Q = (wpE Φ C X a ρ n fun x n => ∃ y, x.t = .d y ∧ Q ⟨.d (.bool (isTy y t)), false⟩ n) := rfl
@[simp] theorem wpE_bi {b : Bi} {l : Es} {Q : QE} : wpE Φ C X (.bi b l) ρ n Q = (wpEs Φ C X l ρ n fun ts n => biW b ts fun r => Q r n) := rfl
@[simp] theorem wpE_mt {m : Mt} {a : E} {l : Es} {Q : QE} : wpE Φ C X (.mt m a l) ρ n Q = (wpE Φ C X a ρ n fun x n => rcv m x.t ∧ wpEs Φ C X l ρ n fun ts n => mtW m x.t ts fun r => Q r n) := rfl
@[simp] theorem wpE_lrg {a : E} {Q : QE} : wpE Φ C X (.lrg a) ρ n Q = (wpE Φ C X a ρ n fun x n => ∃ j, x.t = .d (.int j) ∧ (-(2 ^ 62) ≤ j ∧ j ≤ 16777216) ∧ Q ⟨.d (.list ((List.range j.toNat).map fun (m : Nat) => .int m)), true⟩ n) := rfl
@[simp] theorem wpE_isi2 {a : E} {t u : TyN} {Q : QE} : wpE Φ C X (.isi2 a t u) ρ n Q = (wpE Φ C X a ρ n fun x n => ∃ y, x.t = .d y ∧ isiOk y ∧ Q ⟨.d (.bool (isTy y t || isTy y u)), false⟩ n) := rfl
@[simp] theorem wpE_lc {own : List Nat} {tg : Tg} {k : SK} {src : Es} {cnd elt : E} {Q : QE} : wpE Φ C X (.lc own tg k src cnd elt) ρ n Q = (wpEs Φ C X src ρ n fun ts n => srcW k ts fun ds =>
      lcGo tg (wipeE ρ own) (cndW Φ C cnd) (eltW Φ C elt) (fun acc n => Q ⟨.d (.list acc), true⟩ n) ds [] n) := rfl
@[simp] theorem wpE_atm {a : E} {Q : QE} : wpE Φ C X (.atm a) ρ n Q = (wpE Φ C (fun er n => atomD er.x = true ∧ X er n) a (unown ρ) n fun r n => atom r.t = true ∧ Q ⟨r.t, false⟩ n) := rfl
@[simp] theorem wpEs_nil  {Q : List T → Nat → Prop} : wpEs Φ C X (.nil) ρ n Q = (Q [] n) := rfl
@[simp] theorem wpEs_cons {a : E} {l : Es} {Q : List T → Nat → Prop} : wpEs Φ C X (.cons a l) ρ n Q = (wpE Φ C X a ρ n fun x n => wpEs Φ C X l ρ n fun ts n => Q (x.t :: ts) n) := rfl
@[simp] theorem wpS_ret {e : E} {D : EndT} : TL.wpS Φ C X (.ret e) D ρ n = (wpE Φ C X e ρ n D.rt) := rfl
@[simp] theorem wpS_retO {i : Nat} {D : EndT} : TL.wpS Φ C X (.retO i) D ρ n = (∃ t, ρ[i]? = some (some (true, t)) ∧ D.rt ⟨t, true⟩ n) := rfl
@[simp] theorem wpS_set {i : Nat} {e : E} {D : EndT} : TL.wpS Φ C X (.set i e) D ρ n = (wpE Φ C X e ρ n fun r n => D.nx (ρ.set i (some (r.fr, r.t))) n) := rfl
@[simp] theorem wpS_upk {l : List Nat} {e : E} {D : EndT} : TL.wpS Φ C X (.upk l e) D ρ n = (wpE Φ C X e ρ n fun r n => ∃ x ρ', r.t = .d x ∧ asgD (.tp l) x ρ = some ρ' ∧ D.nx ρ' n) := rfl
@[simp] theorem wpS_par {l : List Nat} {es : Es} {D : EndT} : TL.wpS Φ C X (.par l es) D ρ n = (wpEf Φ C X es ρ n fun rs n => D.nx (setR l rs ρ) n) := rfl
@[simp] theorem wpEf_nil {Q : List R → Nat → Prop} : wpEf Φ C X (.nil) ρ n Q = (Q [] n) := rfl
@[simp] theorem wpEf_cons {a : E} {l : Es} {Q : List R → Nat → Prop} : wpEf Φ C X (.cons a l) ρ n Q = (wpE Φ C X a ρ n fun x n => wpEf Φ C X l ρ n fun rs n => Q (x :: rs) n) := rfl
@[simp] theorem setR_nil {rs : List R} {ρ : Ev} : setR [] rs ρ = ρ := by cases rs <;> rfl
@[simp] theorem setR_cons {i : Nat} {l : List Nat} {r : R} {rs : List R} {ρ : Ev} : setR (i :: l) (r :: rs) ρ = setR l rs (ρ.set i (some (r.fr, r.t))) := rfl
@[simp] theorem wpS_app {i : Nat} {e : E} {D : EndT} : TL.wpS Φ C X (.app i e) D ρ n = (∃ ds, ρ[i]? = some (some (true, .d (.list ds))) ∧ wpE Φ C X e ρ n fun r n => ∃ y, r.t = .d y ∧ ds.length < sizeLine ∧ D.nx (ρ.set i (some (true, .d (.list (ds ++ [y]))))) n) := rfl
@[simp] theorem wpS_ins {i : Nat} {a b : E} {D : EndT} : TL.wpS Φ C X (.ins i a b) D ρ n = (∃ ds, ρ[i]? = some (some (true, .d (.list ds))) ∧ wpE Φ C X a ρ n fun x n => wpE Φ C X b ρ n fun r n => ∃ z y, x.t = .d (.int z) ∧ r.t = .d y ∧ (0 ≤ z ∧ z < 2 ^ 62 ∧ ds.length < sizeLine) ∧ D.nx (ρ.set i (some (true, .d (.list (ds.take z.toNat ++ [y] ++ ds.drop z.toNat))))) n) := rfl
@[simp] theorem wpS_ext {i : Nat} {e : E} {D : EndT} : TL.wpS Φ C X (.ext i e) D ρ n = (∃ ds, ρ[i]? = some (some (true, .d (.list ds))) ∧ wpE Φ C X e ρ n fun r n => ∃ ys, r.t = .d (.list ys) ∧ ds.length + ys.length ≤ sizeLine ∧ D.nx (ρ.set i (some (true, .d (.list (ds ++ ys))))) n) := rfl
@[simp] theorem wpS_pset {j i : Nat} {l : Es} {D : EndT} : TL.wpS Φ C X (.pset j i l) D ρ n = (∃ ds, ρ[i]? = some (some (true, .d (.list ds))) ∧ wpEs Φ C X l ρ n fun ts n => popW ds ts fun y ds' => D.nx ((ρ.set i (some (true, .d (.list ds')))).set j (some (false, .d y))) n) := rfl
@[simp] theorem wpS_papp {j i : Nat} {l : Es} {D : EndT} : TL.wpS Φ C X (.papp j i l) D ρ n = (∃ ds es, ρ[i]? = some (some (true, .d (.list ds))) ∧ ρ[j]? = some (some (true, .d (.list es))) ∧ es.length < sizeLine ∧ wpEs Φ C X l ρ n fun ts n => popW ds ts fun y ds' => D.nx ((ρ.set i (some (true, .d (.list ds')))).set j (some (true, .d (.list (es ++ [y]))))) n) := rfl
@[simp] theorem wpS_sub {i : Nat} {a e : E} {D : EndT} : TL.wpS Φ C X (.sub i a e) D ρ n = (∃ c, ρ[i]? = some (some (true, .d c)) ∧ wpE Φ C X e ρ n fun r n => ∃ y, r.t = .d y ∧ wpE Φ C X a ρ n fun x n => subW c x.t y fun c' => D.nx (ρ.set i (some (true, .d c'))) n) := rfl
@[simp] theorem wpS_ex {e : E} {D : EndT} : TL.wpS Φ C X (.ex e) D ρ n = (wpE Φ C X e ρ n fun _ n => D.nx ρ n) := rfl
@[simp] theorem wpS_gst {i k : Nat} {e : E} {D : EndT} : TL.wpS Φ C X (.gst i k e) D ρ n = (wpE Φ C X e ρ n fun r n => ∃ b, ρ[i]? = some (some (b, .gen)) ∧ ∃ z n', r.t = .d (.int z) ∧ n ≤ n' ∧ genB k n' z ∧ D.nx ρ n') := rfl
@[simp] theorem wpS_ite {c : E} {a b : Ss} {D : EndT} : TL.wpS Φ C X (.ite c a b) D ρ n = (wpE Φ C X c ρ n fun r n => truW r.t fun k => if k = true then wpSs Φ C X a D ρ n else wpSs Φ C X b D ρ n) := rfl
@[simp] theorem wpS_for {tg : Tg} {k : SK} {src : Es} {b : Ss} {D : EndT} : TL.wpS Φ C X (.for_ tg k src b) D ρ n = (wpEs Φ C X src ρ n fun ts n => srcW k ts fun ds => forGo tg (fun D ρ n => wpSs Φ C X b D ρ n) D ds ρ n) := rfl
@[simp] theorem wpS_whl {c : E} {b : Ss} {D : EndT} : TL.wpS Φ C X (.whl c b) D ρ n = (whlGo (fun ρ n Q => wpE Φ C X c ρ n fun r n => truW r.t fun k => Q k n) (fun D ρ n => wpSs Φ C X b D ρ n) D ρ n) := rfl
@[simp] theorem wpS_pass  {D : EndT} : TL.wpS Φ C X (.pass) D ρ n = (D.nx ρ n) := rfl
@[simp] theorem wpS_brk  {D : EndT} : TL.wpS Φ C X (.brk) D ρ n = (D.bk ρ n) := rfl
@[simp] theorem wpS_cont  {D : EndT} : TL.wpS Φ C X (.cont) D ρ n = (D.ct ρ n) := rfl
@[simp] theorem wpS_raise {c : Nat} {e : E} {D : EndT} : TL.wpS Φ C X (.raise c e) D ρ n = (wpE Φ C X e ρ n fun r n => ∃ x, r.t = .d x ∧ X ⟨c, x⟩ n) := rfl
@[simp] theorem wpSs_nil {D : EndT} : wpSs Φ C X .nil D ρ n = D.nx ρ n := rfl
@[simp] theorem wpSs_cons {fz : List Nat} {s : S} {l : Ss} {D : EndT} : wpSs Φ C X (.cons fz s l) D ρ n = TL.wpS Φ C X s { D with nx := wpSs Φ C X l D } (frz fz ρ) n := rfl
theorem cndW_eq {cnd : E} {Q : Bool → Nat → Prop} : cndW Φ C cnd ρ n Q = wpE Φ C (fun _ _ => False) cnd ρ n fun x n => truW x.t fun b => Q b n := rfl
theorem eltW_eq {elt : E} {Q : QE} : eltW Φ C elt ρ n Q = wpE Φ C (fun _ _ => False) elt ρ n Q := rfl
end
@[simp] theorem truW_bool {b : Bool} {P : Bool → Prop} : truW (.d (.bool b)) P = P b := by simp [truW, fitD, truD]
theorem truW_d {x : PyData} {P : Bool → Prop} : truW (.d x) P = (fitD x ∧ P (truD x)) := rfl
@[simp] theorem frz_nil {ρ : Ev} : frz [] ρ = ρ := rfl
@[simp] theorem frz_cons {i : Nat} {l : List Nat} {ρ : Ev} : frz (i :: l) ρ = frz l (frz1 ρ i) := rfl
@[simp] theorem frz1_eq {i : Nat} {ρ : Ev} : frz1 ρ i = (match ρ[i]? with | some (some (_, t)) => ρ.set i (some (false, t)) | _ => ρ) := rfl
@[simp] theorem startE_eq {N : List Str} {ts : List T} : startE N ts = ts.map (fun t => some (false, t)) ++ List.replicate (N.length - ts.length) none := rfl
@[simp] theorem endD_eq {Q : QE} : endD Q = { nx := fun _ n => Q ⟨.d .none, false⟩ n, rt := Q } := rfl
/-! ### plain facts -/
theorem ltOk_int {a b : Int} : ltOk (.int a) (.int b) := ⟨rfl, by simp, by simp [PyData.depth]⟩
theorem ltOk_str {a b : Str} : ltOk (.str a) (.str b) := ⟨rfl, by simp, by simp [PyData.depth]⟩
theorem occ1 {x : Str} {c : Nat} : (!(Builtin.Str.occurrences x ⟨#[c]⟩ 0 x.length 1).isEmpty) = decide (c ∈ x.cps.toList) := StrLaws.found_one x c
theorem occ0 {x : Str} {c : Nat} : (Builtin.Str.occurrences x ⟨#[c]⟩ 0 x.length 1).isEmpty = !decide (c ∈ x.cps.toList) := by
  rw [← occ1, Bool.not_not]
theorem cut1S {z : Str} : L2.cutS z none (some 1) = ⟨(z.cps.toList.take 1).toArray⟩ := by
  unfold L2.cutS
  rw [HT.sIx_none, show HT.sIx z.length z.length (some 1) = min 1 z.length from HT.sIx_nat _ _ 1]
  have : z.length = z.cps.toList.length := by simp [Str.length]
  rw [this, List.drop_zero, Nat.sub_zero]
  cases z.cps.toList with
  | nil => rfl
  | cons c r => rw [show min 1 (c :: r).length = 1 by rw [List.length_cons]; omega]
theorem plainAll_iff {xs : List PyData} : PyData.plainAll xs = true ↔ ∀ x ∈ xs, x.plain = true := by
  induction xs with
  | nil => simp [PyData.plainAll]
  | cons x xs ih => simp [PyData.plainAll, ih]
theorem eqv_nil {xs : List PyData} : PyData.eqv (.list xs) (.list []) = xs.isEmpty := by
  cases xs <;> simp [PyData.eqv, PyData.eqvAll]
theorem depthAll_le {xs : List PyData} {k : Nat} : PyData.depthAll xs ≤ k ↔ ∀ x ∈ xs, x.depth ≤ k := by
  induction xs with
  | nil => simp [PyData.depthAll]
  | cons x xs ih => simp [PyData.depthAll, Nat.max_le, ih]
theorem eqOk_nil {xs : List PyData} (h : PyData.plainAll xs = true) (d : (PyData.list xs).depth ≤ 60) : eqOk (.list xs) (.list []) := ⟨by simpa [PyData.plain] using h, rfl, d⟩
theorem plain_filter {xs : List PyData} {p : PyData → Bool} (h : PyData.plainAll xs = true) : PyData.plainAll (xs.filter p) = true := by
  rw [plainAll_iff] at h ⊢
  exact fun x hx => h x ((List.mem_filter.mp hx).1)
theorem depth_filter {xs : List PyData} {p : PyData → Bool} {k : Nat} (h : (PyData.list xs).depth ≤ k) : (PyData.list (xs.filter p)).depth ≤ k := by
  have h : PyData.depthAll xs + 1 ≤ k := h
  show PyData.depthAll (xs.filter p) + 1 ≤ k
  have := depthAll_le.mp (Nat.le_refl (PyData.depthAll xs))
  have : PyData.depthAll (xs.filter p) ≤ PyData.depthAll xs := depthAll_le.mpr fun x hx => this x ((List.mem_filter.mp hx).1)
  omega
theorem filter_none {xs : List PyData} {p : PyData → Bool} : (xs.filter p).isEmpty = xs.all fun x => !p x := by
  induction xs with
  | nil => rfl
  | cons x xs ih => cases h : p x <;> simp [h, ih]
theorem chars_len {z : Str} : (chars z).length = z.length := by unfold chars; rw [List.length_map]; rfl
theorem chars_all {z : Str} {q : PyData → Bool} : (chars z).all q = z.cps.toList.all fun c => q (chr1 c) := by
  unfold chars; rw [List.all_map]; rfl
theorem chars_plain {z : Str} : PyData.plainAll (chars z) = true := by
  rw [plainAll_iff]
  intro x hx
  unfold chars at hx
  obtain ⟨c, _, rfl⟩ := List.mem_map.mp hx
  rfl
theorem chars_depth {z : Str} : (PyData.list (chars z)).depth ≤ 1 := by
  show PyData.depthAll (chars z) + 1 ≤ 1
  have : PyData.depthAll (chars z) ≤ 0 := depthAll_le.mpr fun x hx => by
    unfold chars at hx
    obtain ⟨c, _, rfl⟩ := List.mem_map.mp hx
    exact Nat.le_refl _
  omega
theorem eqv_chr {c : Nat} {y : Str} : PyData.eqv (chr1 c) (.str y) = decide (y.cps.toList = [c]) := by
  show ((⟨#[c]⟩ : Str) == y) = _
  rw [Bool.eq_iff_iff, beq_iff_eq, decide_eq_true_eq]
  constructor
  · intro h; rw [← h]
  · intro h
    cases y with
    | mk a =>
      have : a = #[c] := by
        apply Array.toList_inj.mp
        exact h
      rw [this]
theorem emod_b {a b : Int} (h : 0 < b) : 0 ≤ a.fmod b ∧ a.fmod b < b := by
  rw [Int.fmod_eq_emod_of_nonneg a (by omega)]
  exact ⟨Int.emod_nonneg a (by omega), Int.emod_lt_of_pos a h⟩
theorem mul_l {i j : Int} (h1 : -(2 ^ 64) < i) (h2 : i < 2 ^ 64) : mulOk i j := .inl ⟨h1, h2⟩
theorem mul_r {i j : Int} (h1 : -(2 ^ 64) < j) (h2 : j < 2 ^ 64) : mulOk i j := .inr (.inl ⟨h1, h2⟩)
end TL

set_option Elab.async false
set_option linter.all false
set_option maxRecDepth 100000
/-! TL19: the law's end. -/
namespace TL
open PySem PySem.Spec PyProof.Rows L2

/-- the script's record, frozen -/
def scrO (vs : List Value) : Obj := { cls := .type "list", data := .seq vs.toArray }
/-- the law's def is called with a script -/
theorem law_run {P : Program} {w : World} {K : PySem.W.Frag} {mg mb : Str → Option Value} {k : Nat} {fa a : Addr} {fd : FuncData} {x : Str} {sp : Sp} {s : Shared} {vs : List Value} {ns : List Int}
    (kin : K.In s.heap) (nsm : s.heap.Ns mainGlobals mg) (nsb : s.heap.Ns builtinsNs mb) (bts : ∀ y : Str, y ≠ "__name__" → mb y = bootBuiltins y) (nol : s.heap.NoLimit) (gen0 : s.gens = #[])
    (oa : s.heap.get? a = some (scrO vs)) (iv : IntsAre vs ns) (le : ns.length ≤ sizeLine) (rm : Room k callerA)
    (F : ∀ base : Heap, K.In base → base.Ns mainGlobals mg → FnG P w K mg base (L2.CX P w) k fa fd [x] sp) (bd : ∀ (t : Shared) (u : Value), BindsTo t fd ⟨[u], []⟩ [(x, u)])
    (ok : ∀ H : Hp, SqF K H a (ns.map V.int) → sp [.ref a] H (fun v _ => v = .bl true) fun _ _ _ => False) :
    codeAny (model P w) callerA (.call (.ref fa) ⟨[.ref a], []⟩) (fun r t => r = .ok (.ret (.bool true)) ∧ OldK s.heap t.heap ∧ t.os = s.os ∧ AllBare t.gens) s := by
  have rel := vals_ints iv
  have lv := iv.length
  -- H tracks the script alone, or nothing
  have main : ∀ H : Hp, (∀ b, H b = none ∨ b = a ∧ H b = some (.frz (scrO vs) (.lst (ns.map V.int)))) → SqF K H a (ns.map V.int) → HOk P w H s.heap → (H a ≠ none → K.lookup a = none) →
      codeAny (model P w) callerA (.call (.ref fa) ⟨[.ref a], []⟩) (fun r t => r = .ok (.ret (.bool true)) ∧ OldK s.heap t.heap ∧ t.os = s.os ∧ AllBare t.gens) s := by
    intro H only sq hok hk
    have free : ∀ {b : Addr}, b ≠ a → H b = none := fun {b} h => (only b).resolve_right fun z => h z.1
    have keep : ∀ {b : Addr} {o : Obj}, s.heap.get? b = some o → H b = none → (hidT s.heap H).get? b = some o := fun e n => hidT_get e n
    have dicts : ∀ {b : Addr} {o : Obj} {es : Array DictEntry} {ep : Nat}, s.heap.get? b = some o → o.data = .dict es ep → H b = none := fun {b o es ep} e d => free fun z => by
      subst z
      rw [oa] at e
      cases e
      exact nomatch (d : Data.seq vs.toArray _ = Data.dict es ep)
    have space : ∀ {b : Addr} {m : Str → Option Value}, s.heap.Ns b m → (hidT s.heap H).Ns b m := fun {b m} h => by
      obtain ⟨o, es, ep, e, d, r⟩ := h
      exact ⟨o, es, ep, keep e (dicts e d), d, r⟩
    have kin' : K.In (hidT s.heap H) := fun b o e => keep (kin b o e) (by
      by_cases z : b = a
      · subst z
        cases q : H b with
        | none => rfl
        | some u =>
          have := hk (by rw [q]; simp)
          rw [this] at e
          cases e
      · exact free z)
    have md : Mod K mg (hidT s.heap H) := ⟨kin', space nsm, ⟨mb, space nsb, bts⟩, by
      obtain ⟨mc, h1, h2⟩ := nol
      exact ⟨mc, space h1, h2⟩⟩
    have env : Env0 P w K mg (hidT s.heap H) callerA [] s H := ⟨rfl, md, fun b o e => of_hidT e, Nat.le_of_eq (hidT_size _ _), trivial, fun b hb => (nomatch hb), hok, .of_eq gen0⟩
    refine codeAny_mono ((F _ kin' (space nsm)).go callerA [] s H ⟨[.ref a], []⟩ [.ref a] [.ref a] _ _ rm rfl env (bd s (.ref a)) (.cons rfl .nil) (ok H sq)) fun r t h => ?_
    cases r with
    | error e =>
      obtain ⟨_, _, _, _, _, _, _, _, _, _, _, _, z⟩ := h
      exact z.elim
    | ok fl =>
      cases fl with
      | next => exact False.elim h
      | brk => exact False.elim h
      | cont => exact False.elim h
      | ret u =>
        obtain ⟨v, H', eo, bare, un, hok', rv, q⟩ := h
        have q : v = .bl true := q
        subst q
        obtain rfl : u = Value.bool true := rv
        refine ⟨rfl, OldK.of_keep fun b o e => ?_, eo, bare⟩
        rcases only b with z | ⟨z, z2⟩
        · exact un.keep b o e z (fun h => nomatch h) (fun h => nomatch h)
        · subst z
          rw [oa] at e
          cases e
          exact (hok' b _ (un.frzs b _ _ z2)).1
  cases q : K.lookup a with
  | some o =>
    have e := kin a o q
    rw [oa] at e
    cases e
    exact main (fun _ => none) (fun _ => .inl rfl) (.inr ⟨_, vs.toArray, _, q, rfl, rfl, rfl, by rw [List.size_toArray, lv]; exact le, by simpa using rel⟩) (fun b u z => nomatch z) fun z => absurd rfl z
  | none =>
    refine main (fun b => if b = a then some (.frz (scrO vs) (.lst (ns.map V.int))) else none) (fun b => ?_) (.inl ⟨scrO vs, if_pos rfl⟩) (fun b u z => ?_) fun _ => q
    · by_cases h : b = a
      · exact .inr ⟨h, if_pos h⟩
      · exact .inl (if_neg h)
    · by_cases h : b = a
      · have z := (if_pos h).symm.trans z
        cases z
        subst h
        exact ⟨oa, by rw [List.length_map]; exact le, vs, _, rel, oa⟩
      · have z := (if_neg h).symm.trans z
        cases z
theorem walk_run {l : PySem.W.OpenLaw} {most k : Nat} {q : Program} {loose : List Str} {XP : (Str → Option Value) → Heap → Prop} {YP : World → Heap → Prop} {d : DefRec} {K : Params → PySem.W.Frag} {x : Str}
    (h1 : l.most = some most) (h2 : most ≤ sizeLine) (h3 : d.params.defaults = []) (rm : Room k callerA) (part : ∀ (w : World) (h : Heap), YP w h → (K w.params).In h)
    (F : ∀ (w : World) (mg : Str → Option Value) (fa : Addr) (h : Heap), (K w.params).In h → h.Ns mainGlobals mg → mg d.name = some (.ref fa) → ∃ (fd : FuncData) (sp : Sp), (∀ (t : Shared) (u : Value), BindsTo t fd ⟨[u], []⟩ [(x, u)]) ∧
      (∀ base : Heap, (K w.params).In base → base.Ns mainGlobals mg → FnG l.prog w (K w.params) mg base (L2.CX l.prog w) k fa fd [x] sp) ∧
      ∀ (H : Hp) (a : Addr) (ns : List Int), ns.length ≤ most → SqF (K w.params) H a (ns.map V.int) → sp [.ref a] H (fun v _ => v = .bl true) fun _ _ _ => False) :
    PySem.W.WalkO q loose XP YP l.row.toRowW d [] (fun f vs => PySem.call f vs) := by
  refine Att.attach_call h1 h3 fun w _ t mg mb fa _ _ _ _ a vs ns G Y _ _ _ e oa iv len g0 => ?_
  obtain ⟨fd, sp, bd, fn, ok⟩ := F w mg fa _ (part w _ Y) G.T.g e
  exact law_run (part w _ Y) G.T.g G.T.b G.T.builtins G.T.nolimit g0 oa iv (Nat.le_trans len h2) rm fn bd fun H sq => ok H a ns len sq
/-- the law's promise is enough -/
theorem low_true {mg : Str → Option Value} {cn : Nat → Str} {K : PySem.W.Frag} {H : Hp} {a : Addr} {ns : List Int} {s : Spc} (har : s.ar = 1) (hp : s.pre [.scr ns] 0) (hq : ∀ r n', s.post [.scr ns] 0 r n' → r = ⟨.d (.bool true), false⟩) (hx : ∀ e n', ¬ s.exn [.scr ns] 0 e n') (sq : SqF K H a (ns.map V.int)) :
    low mg cn K 1 s.sp [.ref a] H (fun v _ => v = .bl true) fun _ _ _ => False := by
  refine ⟨rfl, [], [], 0, [.scr ns], ⟨(fun _ h => nomatch h), (fun _ h => nomatch h), (fun _ h => nomatch h)⟩, .cons ⟨a, rfl, sq⟩ .nil, by rw [har]; rfl, hp, fun r n' h => ?_, fun e n' h => (hx e n' h).elim⟩
  obtain rfl := hq r n' h
  intro v H' G' Z' g o w f
  have w : Rp K (mask H' Z') v (.bool true) := w
  cases w
  rfl
end TL

set_option Elab.async false
set_option linter.all false
set_option maxRecDepth 100000
/-! TL20: all defs of a text, one after another. -/
namespace TL
open PySem PySem.Spec PyProof.Rows L2

/-- the def number i keeps its spec, for calls L deep -/
def Has (P : Program) (w : World) (K : PySem.W.Frag) (mg : Str → Option Value) (base : Heap) (cn : Nat → Str) (nm : Str) (ar : Nat) (kws : List (List Nat × Nat × List Str)) (L : Nat) (sp : TSp) : Prop :=
  ∃ a fd ps, FnG P w K mg base (L2.CX P w) L a fd ps (low mg cn K ps.length sp) ∧ ps.length = ar ∧ mg nm = some (.ref a) ∧ PySem.W.keepIn K (.ref a) = true ∧ Binds K fd ps [] ∧
    ∀ q ∈ kws, KBinds K fd ps q.2.2 (kwG q.2.1 q.2.2.length q.1) (kwG q.2.1 q.2.2.length q.1)
theorem Has.up {P : Program} {w : World} {K : PySem.W.Frag} {mg : Str → Option Value} {base : Heap} {cn : Nat → Str} {nm : Str} {ar : Nat} {kws : List (List Nat × Nat × List Str)} {L L' : Nat} {sp : TSp} (h : Has P w K mg base cn nm ar kws L sp) (hl : L ≤ L') :
    Has P w K mg base cn nm ar kws L' sp := by
  obtain ⟨a, fd, ps, F, r⟩ := h
  exact ⟨a, fd, ps, F.mono hl, r⟩
/-- a spec that asks what never is -/
theorem fn_false {P : Program} {w : World} {K : PySem.W.Frag} {mg : Str → Option Value} {base : Heap} {CX : CXT} {k : Nat} {f : Addr} {fd : FuncData} {ps : List Str} {cn : Nat → Str} {s : Spc} (h : ∀ ts n, ¬ s.pre ts n) : FnG P w K mg base CX k f fd ps (low mg cn K ps.length s.sp) :=
  ⟨fun _ _ _ _ h => h.1, fun _ _ _ _ _ _ _ _ _ _ _ _ _ _ z => by
    obtain ⟨_, _, _, _, _, _, _, z⟩ := z
    exact (h _ _ z.2.1).elim⟩
/-- the generator: from the list of its three numbers -/
theorem gen_of {mg : Str → Option Value} {cn : Nat → Str} {K : PySem.W.Frag} {ar : Nat} {s s' : Spc} (e : s.ar = s'.ar) (hp : ∀ ts n, s'.pre ts n → s.pre ts n)
    (hq : ∀ ts n r n', s.post ts n r n' → n' = n ∧ ∃ a m c : Int, r = ⟨.d (.list [.int a, .int m, .int c]), true⟩ ∧ 0 ≤ a ∧ a < 2 ^ 2000 ∧ 0 ≤ m ∧ m < 2147483647 ∧ 0 ≤ c ∧ c ≤ 1000000)
    (hq' : ∀ ts n, s'.post ts n ⟨.gen, false⟩ n) (hx : ∀ ts n e n', ¬ s.exn ts n e n') : ∀ vs H Q E, low mg cn K ar s'.sp vs H Q E → low mg cn K ar s.sp vs H Q E := by
  rintro vs H Q E ⟨hl, G, Z, n, ts, o, w, h1, h2, h3, _⟩
  refine ⟨hl, G, Z, n, ts, o, w, h1.trans e.symm, hp ts n h2, fun r n' h => ?_, fun e n' h => (hx _ _ _ _ h).elim⟩
  obtain ⟨rfl, a, m, c, rfl, b⟩ := hq ts n r n' h
  intro v H' G' Z' g o' w' f
  obtain ⟨p, us, rfl, hp0, hp1, ra⟩ := f rfl
  have eu : us = [.int a, .int m, .int c] := by
    cases ra with
    | cons r1 ra =>
      cases ra with
      | cons r2 ra =>
        cases ra with
        | cons r3 ra =>
          cases ra
          cases r1
          cases r2
          cases r3
          rfl
  subst eu
  obtain ⟨L, e1, e2, hL⟩ := g.new
  refine h3 _ _ (hq' ts n') _ H' (p :: G') (p :: Z') ⟨g.ext, g.exz, g.dom, p :: L, by rw [e1]; rfl, by rw [e2]; rfl, fun x hx => ?_⟩ ⟨fun x hx => ?_, fun z hz => ?_, fun x hx => ?_⟩ ⟨p, List.mem_cons_self .., rfl⟩ fun z => nomatch z
  · rcases List.mem_cons.mp hx with rfl | hx
    · exact hp0
    · exact hL x hx
  · rcases List.mem_cons.mp hx with rfl | hx
    · exact List.mem_cons_self ..
    · exact List.mem_cons_of_mem _ (o'.sub x hx)
  · rcases List.mem_cons.mp hz with rfl | hz
    · rw [hp1]; simp
    · exact o'.dom z hz
  · rcases List.mem_cons.mp hx with rfl | hx
    · exact ⟨a, m, c, hp1, b.1, b.2.1, b.2.2.1, b.2.2.2.1, b.2.2.2.2.1, by omega⟩
    · exact o'.gen x hx
end TL

set_option Elab.async false
set_option linter.all false
set_option maxRecDepth 100000
set_option maxHeartbeats 4000000
/-! HL0: defs that many laws share: their bodies, what they promise. -/
namespace HL
open PySem PySem.Spec PyProof.Rows L2 TL
def bl (b : Bool) : R := ⟨.d (.bool b), false⟩
/-- what a body must show -/
def Body (s : Spc) (b : Ss) (N : List Str) (Φ : Nat → TSp) (C : Nat → PyData) : Prop := ∀ (ts : List T) (n : Nat) (Q : QE) (X : TL.XE), (∀ t n, Q ⟨t, false⟩ n → Q ⟨t, true⟩ n) → ts.length = s.ar → s.pre ts n →
  (∀ r n', s.post ts n r n' → Q r n') → (∀ e n', s.exn ts n e n' → X e n') → wpSs Φ C X b (endD Q) (startE N ts) n
theorem Body.names {s : Spc} {b : Ss} {N N' : List Str} {Φ : Nat → TSp} {C : Nat → PyData} (h : Body s b N Φ C) (e : N'.length = N.length) : Body s b N' Φ C := fun ts n Q X h1 h2 h3 h4 h5 => by
  have := h ts n Q X h1 h2 h3 h4 h5
  unfold startE at this ⊢
  rw [e]; exact this
/-- a def's promise, by its number -/
abbrev Is (Φ : Nat → TSp) (i : Nat) (s : Spc) : Prop := Φ i = s.sp
abbrev nHash : List Str := ["seed", "index", "mixed"]
def bHash : Ss := (.cons [] (.set 2 (.bin .mod (.bi .int (.cons (.bin .add (.bin .add (.bin .add (.bin .mul (.v 0) (.c (.int 1140671))) (.bin .mul (.bin .mul (.c (.int 27644437)) (.v 1)) (.v 1))) (.bin .mul (.c (.int 131)) (.v 1))) (.c (.int 19))) .nil)) (.c (.int 2147483629))))
  (.cons [] (.set 2 (.bin .mod (.bi .int (.cons (.bin .add (.bin .add (.bin .mul (.v 2) (.v 2)) (.bin .mul (.c (.int 62089)) (.v 1))) (.c (.int 32416187))) .nil)) (.c (.int 2147483587))))
  (.cons [] (.ret (.bin .mod (.bi .int (.cons (.bin .mul (.v 2) (.c (.int 48271))) .nil)) (.c (.int 2147483647))))
  .nil)))
abbrev nCell : List Str := ["script", "index"]
def bCell : Ss := (.cons [] (.ite (.cmp .lt (.v 1) (.bi .len (.cons (.v 0) .nil)))
  (.cons [] (.ret (.ix (.v 0) (.v 1)))
  .nil) .nil)
  (.cons [] (.ret (.bin .mod (.bi .sum (.cons (.sl (.v 0) (.c .none) (.c (.int 1))) .nil)) (.c (.int 1000003))))
  .nil))
abbrev nGen : List Str := ["script", "index", "seed"]
def bGen (i : Nat) : Ss := (.cons [] (.set 2 (.call i (.cons (.v 0) (.cons (.v 1) .nil))))
  (.cons [] (.ret (.lst (.cons (.bin .mod (.bi .int (.cons (.bi .max2 (.cons (.bin .sub (.w 2) (.bin .pow (.c (.int 10)) (.c (.int 18)))) (.cons (.c (.int 0)) .nil))) .nil)) (.bin .pow (.bin .pow (.c (.int 10)) (.c (.int 60))) (.c (.int 10)))) (.cons (.bin .mod (.bi .int (.cons (.w 2) .nil)) (.c (.int 2147483647))) (.cons (.bin .mul (.c (.int 1000)) (.v 1)) .nil)))))
  .nil))
abbrev nRand : List Str := ["generator", "bound", "drawn", "turn"]
def lRand_0 (i : Nat) : Ss := (.cons [] (.gst 0 2 (.bin .add (.gix 0 2) (.c (.int 1))))
  (.cons [] (.set 2 (.bin .add (.bin .mul (.w 2) (.c (.int 2147483587))) (.call i (.cons (.gix 0 1) (.cons (.gix 0 2) .nil)))))
  .nil))
def bRand (i : Nat) : Ss := (.cons [] (.ite (.cmp .gt (.gix 0 0) (.c (.int 0)))
  (.cons [] (.set 2 (.bin .mod (.bi .int (.cons (.gix 0 0) .nil)) (.v 1)))
  (.cons [] (.gst 0 0 (.bin .fdiv (.gix 0 0) (.v 1)))
  (.cons [2] (.ret (.v 2))
  .nil))) .nil)
  (.cons [] (.set 2 (.c (.int 0)))
  (.cons [] (.for_ (.nm 3) .rng1 (.cons (.bin .add (.c (.int 1)) (.bin .fdiv (.mt .bitlen (.v 1) .nil) (.c (.int 30)))) .nil) (lRand_0 i))
  (.cons [] (.ret (.bin .mod (.bi .int (.cons (.w 2) .nil)) (.v 1)))
  .nil))))
abbrev nPick : List Str := ["generator", "things"]
def bPick (i : Nat) : Ss := (.cons [] (.ret (.ix (.v 1) (.call i (.cons (.v 0) (.cons (.bi .len (.cons (.v 1) .nil)) .nil)))))
  .nil)
abbrev nCopy : List Str := ["value", "item"]
def eCopy_0 (i : Nat) : E := (.call i (.cons (.v 1) .nil))
def eCopy_1 (i : Nat) : E := (.call i (.cons (.v 1) .nil))
def bCopy (i : Nat) : Ss := (.cons [] (.ite (.isi (.v 0) .list)
  (.cons [] (.ret (.lc [1] (.nm 1) .seq (.cons (.v 0) .nil) (.c (.bool true)) (eCopy_0 i)))
  .nil) .nil)
  (.cons [] (.ite (.isi (.v 0) .tuple)
  (.cons [] (.ret (.bi .tuple (.cons (.lc [1] (.nm 1) .seq (.cons (.v 0) .nil) (.c (.bool true)) (eCopy_1 i)) .nil)))
  .nil) .nil)
  (.cons [] (.ret (.v 0))
  .nil)))
abbrev nSame : List Str := ["told", "due", "one", "other"]
def eSame_0 (i : Nat) : E := (.call i (.cons (.v 2) (.cons (.v 3) .nil)))
def eSame_1 (i : Nat) : E := (.call i (.cons (.v 2) (.cons (.v 3) .nil)))
def bSame (i : Nat) : Ss := (.cons [] (.ite (.isi (.v 1) .list)
  (.cons [] (.ret (.and (.isi (.v 0) .list) (.and (.cmp .eq (.bi .len (.cons (.v 0) .nil)) (.bi .len (.cons (.v 1) .nil))) (.cmp .nin (.c (.bool false)) (.lc [2, 3] (.tp [2, 3]) .zip (.cons (.v 0) (.cons (.v 1) .nil)) (.c (.bool true)) (eSame_0 i))))))
  .nil) .nil)
  (.cons [] (.ite (.isi (.v 1) .tuple)
  (.cons [] (.ret (.and (.isi (.v 0) .tuple) (.and (.cmp .eq (.bi .len (.cons (.v 0) .nil)) (.bi .len (.cons (.v 1) .nil))) (.cmp .nin (.c (.bool false)) (.lc [2, 3] (.tp [2, 3]) .zip (.cons (.v 0) (.cons (.v 1) .nil)) (.c (.bool true)) (eSame_1 i))))))
  .nil) .nil)
  (.cons [] (.ite (.cmp .is_ (.v 1) (.c .none))
  (.cons [] (.ret (.cmp .is_ (.v 0) (.c .none)))
  .nil) .nil)
  (.cons [] (.ite (.cmp .is_ (.v 1) (.c (.bool true)))
  (.cons [] (.ret (.cmp .is_ (.v 0) (.c (.bool true))))
  .nil) .nil)
  (.cons [] (.ite (.cmp .is_ (.v 1) (.c (.bool false)))
  (.cons [] (.ret (.cmp .is_ (.v 0) (.c (.bool false))))
  .nil) .nil)
  (.cons [] (.ite (.isi (.v 1) .int)
  (.cons [] (.ret (.and (.isi (.v 0) .int) (.and (.not (.isi (.v 0) .bool)) (.cmp .eq (.v 0) (.v 1)))))
  .nil) .nil)
  (.cons [] (.ret (.and (.isi (.v 0) .str) (.cmp .eq (.v 0) (.v 1))))
  .nil)))))))
abbrev nAny : List Str := ["generator", "menu"]
def bAny (i : Nat) (j : Nat) : Ss := (.cons [] (.set 1 (.lst (.cons (.c .none) (.cons (.c (.bool true)) (.cons (.c (.bool false)) (.cons (.c (.int 0)) (.cons (.c (.int 1)) (.cons (.neg (.c (.int 1))) (.cons (.bin .pow (.c (.int 10)) (.c (.int 29))) (.cons (.c (.str "")) (.cons (.c (.str "a")) (.cons (.c (.str "A")) (.cons (.c (.str "ab")) (.cons (.c (.str "a b")) (.cons (.c (.str "1a")) (.cons (.c (.str "a1")) (.cons (.c (.str " ")) (.cons (.c (.str "a\n")) (.cons (.bin .mul (.c (.str "z")) (.c (.int 20))) (.cons (.bin .mul (.c (.str "z")) (.c (.int 21))) (.cons (.c (.str "abcdefgh")) (.cons (.c (.str "abcdefghi")) .nil))))))))))))))))))))))
  (.cons [] (.set 1 (.bin .add (.w 1) (.lst (.cons (.lst .nil) (.cons (.tup .nil) (.cons (.dct []) (.cons (.lst (.cons (.c (.int 0)) .nil)) (.cons (.lst (.cons (.c (.int 1)) (.cons (.c (.int 0)) .nil))) (.cons (.lst (.cons (.c (.int 0)) (.cons (.c (.str "a")) .nil))) (.cons (.lst (.cons (.c (.str "a")) (.cons (.c (.int 0)) .nil))) (.cons (.lst (.cons (.c .none) (.cons (.c (.int 0)) .nil))) (.cons (.lst (.cons (.c (.int 0)) (.cons (.lst (.cons (.c (.int 1)) .nil)) .nil))) (.cons (.lst (.cons (.c (.int 0)) (.cons (.tup (.cons (.c (.int 1)) .nil)) .nil))) (.cons (.lst (.cons (.c (.bool true)) .nil)) (.cons (.lst (.cons (.c (.int 0)) (.cons (.c (.int 1)) .nil))) (.cons (.lst (.cons (.c (.int 0)) (.cons (.c (.int 0)) .nil))) (.cons (.tup (.cons (.c (.int 0)) (.cons (.c (.int 1)) .nil))) (.cons (.lst (.cons (.c (.str "a")) .nil)) (.cons (.lst (.cons (.lst .nil) .nil)) .nil)))))))))))))))))))
  (.cons [] (.set 1 (.bin .add (.w 1) (.lst (.cons (.dct [(.inr "a", (.int 1))]) (.cons (.lst (.cons (.c (.int 1)) (.cons (.c (.int 2)) (.cons (.bin .pow (.c (.int 10)) (.c (.int 29))) .nil)))) (.cons (.lst (.cons (.neg (.c (.int 1))) .nil)) (.cons (.c (.str "a_b")) (.cons (.c (.str "aB")) (.cons (.bin .mul (.c (.str "a")) (.c (.int 200))) (.cons (.c (.str "e0")) (.cons (.c (.str "0")) (.cons (.c (.str "house")) (.cons (.tup (.cons (.c (.str "house")) .nil)) .nil)))))))))))))
  (.cons [1] (.ret (.call j (.cons (.call i (.cons (.v 0) (.cons (.v 1) .nil))) .nil)))
  .nil))))
/-! comparisons and subscripts, once their parts are known -/
section
variable {x y : PyData} {Q : Bool → Prop} {P : TL.T → Prop} {a b : PyData}
@[simp] theorem cw_eq : cmpW .eq (.d x) (.d y) Q = (eqOk x y ∧ Q (PyData.eqv x y)) := rfl
@[simp] theorem cw_ne : cmpW .ne (.d x) (.d y) Q = (eqOk x y ∧ Q (!PyData.eqv x y)) := rfl
@[simp] theorem cw_lt : cmpW .lt (.d x) (.d y) Q = (ltOk x y ∧ Q (PySem.W.dataLt x y)) := rfl
@[simp] theorem cw_gt : cmpW .gt (.d x) (.d y) Q = (ltOk x y ∧ Q (PySem.W.dataLt y x)) := rfl
@[simp] theorem cw_le : cmpW .le (.d x) (.d y) Q = (ltOk x y ∧ Q (!PySem.W.dataLt y x)) := rfl
@[simp] theorem cw_ge : cmpW .ge (.d x) (.d y) Q = (ltOk x y ∧ Q (!PySem.W.dataLt x y)) := rfl
@[simp] theorem cw_is : cmpW .is_ (.d x) (.d y) Q = (litIs y = true ∧ Q (isD x y)) := rfl
@[simp] theorem cw_isn : cmpW .isn (.d x) (.d y) Q = (litIs y = true ∧ Q (!isD x y)) := rfl
@[simp] theorem cw_in : cmpW .in_ (.d x) (.d y) Q = inW x y Q := rfl
@[simp] theorem cw_nin : cmpW .nin (.d x) (.d y) Q = inW x y fun b => Q (!b) := rfl
variable {i j : Int} {W : R → Prop} {u v : Str} {xs ys : List PyData}
@[simp] theorem bw_addI : binW .add (.d (.int i)) (.d (.int j)) W = W ⟨.d (.int (i + j)), false⟩ := rfl
@[simp] theorem bw_subI : binW .sub (.d (.int i)) (.d (.int j)) W = W ⟨.d (.int (i - j)), false⟩ := rfl
@[simp] theorem bw_mulI : binW .mul (.d (.int i)) (.d (.int j)) W = (mulOk i j ∧ W ⟨.d (.int (i * j)), false⟩) := rfl
@[simp] theorem bw_fdivI : binW .fdiv (.d (.int i)) (.d (.int j)) W = (j ≠ 0 ∧ j.natAbs.log2 < 9000 ∧ W ⟨.d (.int (i.fdiv j)), false⟩) := rfl
@[simp] theorem bw_modI : binW .mod (.d (.int i)) (.d (.int j)) W = (j ≠ 0 ∧ W ⟨.d (.int (i.fmod j)), false⟩) := rfl
@[simp] theorem bw_powI : binW .pow (.d (.int i)) (.d (.int j)) W = (0 ≤ j ∧ (Builtin.Int.intBits i : Int) * j ≤ 2 ^ 27 ∧ W ⟨.d (.int (i ^ j.toNat)), false⟩) := rfl
@[simp] theorem bw_addS : binW .add (.d (.str u)) (.d (.str v)) W = (u.length + v.length ≤ sizeLine ∧ W ⟨.d (.str (u ++ v)), false⟩) := rfl
@[simp] theorem bw_addL : binW .add (.d (.list xs)) (.d (.list ys)) W = (xs.length + ys.length ≤ sizeLine ∧ W ⟨.d (.list (xs ++ ys)), true⟩) := rfl
@[simp] theorem bw_addT : binW .add (.d (.tuple xs)) (.d (.tuple ys)) W = (xs.length + ys.length ≤ sizeLine ∧ W ⟨.d (.tuple (xs ++ ys)), false⟩) := rfl
@[simp] theorem bw_mulL : binW .mul (.d (.list xs)) (.d (.int j)) W = (-(2 ^ 63) ≤ j ∧ j < 2 ^ 63 ∧ xs.length * j.toNat ≤ sizeLine ∧ W ⟨.d (.list (List.replicate j.toNat xs).flatten), true⟩) := rfl
theorem ix0 (h : P (.d a)) : ixW (.d (.tuple [a, b])) (.d (.int 0)) P := ⟨a, rfl, h⟩
theorem ix1 (h : P (.d b)) : ixW (.d (.tuple [a, b])) (.d (.int 1)) P := ⟨b, rfl, h⟩
theorem ixT0 {xs : List PyData} : ixW (.d (.tuple (a :: xs))) (.d (.int 0)) P = P (.d a) := propext ⟨fun ⟨x, e, h⟩ => by
  have e2 : L2.atI (a :: xs) 0 = some a := L2.atI_nat (j := 0) rfl
  rw [e2] at e; cases e; exact h, fun h => ⟨a, L2.atI_nat (j := 0) rfl, h⟩⟩
theorem ixT1 {xs : List PyData} : ixW (.d (.tuple (a :: b :: xs))) (.d (.int 1)) P = P (.d b) := propext ⟨fun ⟨x, e, h⟩ => by
  have e2 : L2.atI (a :: b :: xs) 1 = some b := L2.atI_nat (xs := a :: b :: xs) (j := 1) rfl
  rw [e2] at e; cases e; exact h, fun h => ⟨b, L2.atI_nat (xs := a :: b :: xs) (j := 1) rfl, h⟩⟩
theorem eqv_int {i j : Int} : PyData.eqv (.int i) (.int j) = decide (i = j) := rfl
theorem eqOk_int {i j : Int} : eqOk (.int i) (.int j) := ⟨rfl, rfl, by simp [PyData.depth]⟩
end
end HL

set_option Elab.async false
set_option linter.all false
set_option maxRecDepth 100000
set_option maxHeartbeats 4000000
namespace HL
open PySem PySem.Spec PyProof.Rows L2 TL
/-! HL1: what the shared defs of the laws promise; that they keep it. -/
def sHash : Spc := { ar := 2, pre := (fun | [.d (.int m), .d (.int c)], _ => (0 ≤ m ∧ m < 2147483647) ∧ 0 ≤ c ∧ c < 2 ^ 62 | _, _ => False), post := (fun _ n => fun r n' => n' = n ∧ ∃ z : Int, 0 ≤ z ∧ z < 2147483647 ∧ r = ⟨.d (.int z), false⟩) }
def sCell : Spc := { ar := 2, pre := (fun | [.scr ns, .d (.int i)], _ => 0 ≤ i ∧ ns.length ≤ 63 | _, _ => False), post := (fun _ n => fun r n' => n' = n ∧ ∃ z : Int, r = ⟨.d (.int z), false⟩) }
/-- as a list -/
def sGenL : Spc := { ar := 2, pre := (fun | [.scr ns, .d (.int i)], _ => 0 ≤ i ∧ i < 100 ∧ ns.length ≤ 63 | _, _ => False), post := (fun _ n => fun r n' => n' = n ∧ ∃ a m c : Int, r = ⟨.d (.list [.int a, .int m, .int c]), true⟩ ∧ 0 ≤ a ∧ a < 2 ^ 2000 ∧ 0 ≤ m ∧ m < 2147483647 ∧ 0 ≤ c ∧ c ≤ 1000000) }
def sGen : Spc := { ar := 2, pre := (fun | [.scr ns, .d (.int i)], _ => 0 ≤ i ∧ i < 100 ∧ ns.length ≤ 63 | _, _ => False), post := (fun _ n => fun r n' => n' = n ∧ r = ⟨.gen, false⟩) }
def sRand : Spc := { ar := 2, pre := (fun | [.gen, .d (.int b)], n => 0 < b ∧ b < 2 ^ 1800 ∧ n < 2 ^ 60 | _, _ => False), post := (fun | [.gen, .d (.int b)], n => fun r n' => n ≤ n' ∧ n' ≤ n + 64 ∧ ∃ z : Int, 0 ≤ z ∧ z < b ∧ r = ⟨.d (.int z), false⟩ | _, _ => fun _ _ => False) }

def its : PyData → List PyData
  | .list xs => xs
  | .tuple xs => xs
  | .str z => chars z
  | _ => []
def isSq : PyData → Bool
  | .list _ => true
  | .tuple _ => true
  | .str _ => true
  | _ => false

def sPick : Spc := { ar := 2, pre := (fun | [.gen, .d t], n => isSq t = true ∧ 0 < (its t).length ∧ (its t).length ≤ 1000000 ∧ n < 2 ^ 60 | _, _ => False), post := (fun | [.gen, .d t], n => fun r n' => n ≤ n' ∧ n' ≤ n + 64 ∧ ∃ x, x ∈ its t ∧ r = ⟨.d x, false⟩ | _, _ => fun _ _ => False) }
/-- a copy, so deep at most -/
def sCopy (d : Nat) : Spc := { ar := 1, pre := (fun | [.d x], _ => x.depth < d ∧ x.weight ≤ 1000000 | _, _ => False), post := (fun | [.d x], n => fun r n' => n' = n ∧ r = ⟨.d x, false⟩ | _, _ => fun _ _ => False) }
/-- trees of lists, so deep at most -/
def okX : Nat → PyData → Prop
  | 0, _ => False
  | d + 1, .list xs => xs.length ≤ 1000 ∧ ∀ y ∈ xs, okX d y
  | d + 1, .tuple xs => xs.length ≤ 1000 ∧ ∀ y ∈ xs, okX d y
  | _ + 1, .dict _ => False
  | _ + 1, _ => True
/-- the same tree -/
def sSame (d : Nat) : Spc := { ar := 2, pre := (fun | [.d x, .d y], _ => y = x ∧ okX d x | _, _ => False), post := (fun | [.d x, .d y], n => fun r n' => n' = n ∧ r = bl true | _, _ => fun _ _ => False) }

section
variable {Φ : Nat → TSp} {C : Nat → PyData}
theorem wHash : Body sHash bHash nHash Φ C := by
  intro ts n Q X hq hl hp hQ hX
  match ts, hp with
  | [.d (.int m), .d (.int c)], hp =>
    obtain ⟨⟨h1, h2⟩, h3, h4⟩ := hp
    simp [bHash, nHash, binW, biW]
    have a1 := emod_b (a := m * 1140671 + 27644437 * c * c + 131 * c + 19) (b := 2147483629) (by decide)
    refine ⟨mul_l (by omega) (by omega), mul_l (by decide) (by decide), mul_r (by omega) (by omega), mul_l (by decide) (by decide), mul_l (by omega) (by omega), mul_l (by decide) (by decide), mul_r (by decide) (by decide), hQ _ _ ⟨rfl, _, (emod_b (by decide)).1, (emod_b (by decide)).2, rfl⟩⟩
theorem sum_one (ns : List Int) : ∃ ms, intsOf (TL.cutD (ns.map PyData.int) none (some 1)) = some ms := by
  unfold TL.cutD
  rw [List.length_map]
  generalize HT.sIx ns.length 0 none = a
  generalize HT.sIx ns.length ns.length (some 1) - a = b
  rw [← List.map_drop, ← List.map_take]
  have : ∀ l : List Int, intsOf (l.map PyData.int) = some l := fun l => by
    induction l with
    | nil => rfl
    | cons x l ih => rw [List.map_cons, intsOf, ih]; rfl
  exact ⟨_, this _⟩
theorem wCell : Body sCell bCell nCell Φ C := by
  intro ts n Q X hq hl hp hQ hX
  match ts, hp with
  | [.scr ns, .d (.int i)], hp =>
    obtain ⟨h1, h2⟩ := hp
    simp [bCell, nCell, binW, biW, cmpW, truW, fitD, truD, ixW, slW, bnd, isNoB, ltOk_int, PySem.W.dataLt_int]
    split
    · rename_i hlt
      have hi : i.toNat < ns.length := by omega
      refine ⟨ns[i.toNat], ?_, hQ _ _ ⟨rfl, _, rfl⟩⟩
      have := atI_nat (xs := ns) (j := i.toNat) (List.getElem?_eq_getElem hi)
      rwa [Int.toNat_of_nonneg h1] at this
    · obtain ⟨ms, e⟩ := sum_one ns
      exact ⟨ms, e, hQ _ _ ⟨rfl, _, rfl⟩⟩

theorem wGen {f : Nat} (h5 : Φ f = sCell.sp) : Body sGenL (bGen f) nGen Φ C := by
  intro ts n Q X hq hl hp hQ hX
  match ts, hp with
  | [.scr ns, .d (.int i)], hp =>
    obtain ⟨h1, h2, h3⟩ := hp
    simp [bGen, nGen]
    rw [h5]
    refine ⟨rfl, ⟨h1, h3⟩, fun r n' hr => ?_, fun _ _ h => h.elim⟩
    obtain ⟨rfl, z, rfl⟩ := hr
    simp [binW, biW, datas, Builtin.Int.intBits]
    refine ⟨by decide +kernel, by decide +kernel, by decide +kernel, mul_l (by decide) (by decide), by rw [sizeLine_eq]; decide, hQ _ _ ⟨rfl, _, _, _, rfl, ?_⟩⟩
    have e1 := emod_b (a := if z - 1000000000000000000 < 0 then 0 else z - 1000000000000000000) (b := (10 ^ 60) ^ 10) (by decide +kernel)
    have e2 := emod_b (a := z) (b := 2147483647) (by decide)
    refine ⟨e1.1, Int.lt_trans e1.2 (by decide +kernel), e2.1, e2.2, by omega, by omega⟩
theorem bits30 {b : Int} (h : 0 < b) (h2 : b < 2 ^ 1800) : 0 ≤ 1 + ((Builtin.Int.intBits b : Int)).fdiv 30 ∧ 1 + ((Builtin.Int.intBits b : Int)).fdiv 30 ≤ 62 := by
  have h3 : b.natAbs < 2 ^ 1800 := by
    have h4 : (b.natAbs : Int) < ((2 ^ 1800 : Nat) : Int) := by
      rw [Int.natAbs_of_nonneg (by omega)]
      exact_mod_cast h2
    exact_mod_cast h4
  have := PyProof.Rows.intBits_le h3
  rw [Int.fdiv_eq_ediv_of_nonneg _ (by decide)]
  omega
theorem wRand (M : MonoPh Φ) {f : Nat} (h4 : Φ f = sHash.sp) : Body sRand (bRand f) nRand Φ C := by
  intro ts n Q X hq hl hp hQ hX
  match ts, hp with
  | [.gen, .d (.int b)], hp =>
    obtain ⟨h1, h2, h3⟩ := hp
    have fin : ∀ (z : Int) (n' : Nat), n ≤ n' → n' ≤ n + 64 → Q ⟨.d (.int (z.fmod b)), false⟩ n' := fun z n' a1 a2 => hQ _ _ ⟨a1, a2, _, (emod_b h1).1, (emod_b h1).2, rfl⟩
    simp [bRand, nRand, cmpW, truW, fitD, truD, ltOk_int, PySem.W.dataLt_int, binW, biW, mtW, rcv, srcW]
    intro z hz
    have lb : b.natAbs.log2 < 9000 := by
      have h3 : b.natAbs < 2 ^ 1800 := by
        have h4 : (b.natAbs : Int) < ((2 ^ 1800 : Nat) : Int) := by
          rw [Int.natAbs_of_nonneg (by omega)]
          exact_mod_cast h2
        exact_mod_cast h4
      exact Nat.lt_trans ((Nat.log2_lt (by omega)).mpr h3) (by decide)
    split
    · intro z1 hz1
      refine ⟨by omega, fun z2 hz2 => ⟨by omega, lb, n, Nat.le_refl _, ?_, fin _ _ (Nat.le_refl _) (by omega)⟩⟩
      have hz2 : 0 ≤ z2 ∧ z2 < 2 ^ 2000 := hz2
      rw [Int.fdiv_eq_ediv_of_nonneg _ (by omega)]
      exact ⟨Int.ediv_nonneg hz2.1 (by omega), Int.lt_of_le_of_lt (Int.ediv_le_self _ hz2.1) hz2.2⟩
    · obtain ⟨q1, q2⟩ := bits30 h1 h2
      refine ⟨by decide +kernel, by omega, by omega, ?_⟩
      refine for_by M (fun i ρ m => ∃ (d : Int) (t : Option (Bool × T)), ρ = [some (false, .gen), some (false, .d (.int b)), some (false, .d (.int d)), t] ∧ n ≤ m ∧ m ≤ n + i) ⟨0, none, rfl, Nat.le_refl _, Nat.le_refl _⟩ (fun i ρ m x e h => ?_) fun ρ m h => ?_
      · obtain ⟨d, t, rfl, e1, e2⟩ := h
        have hi : i < (1 + ((Builtin.Int.intBits b : Int)).fdiv 30).toNat := by
          have := (List.getElem?_eq_some_iff.mp e).1
          simpa using this
        refine ⟨_, rfl, ?_⟩
        simp [lRand_0, stA, binW]
        intro z2 hz2
        have hz2 : 0 ≤ z2 ∧ z2 ≤ 1000000 + m := hz2
        refine ⟨m + 1, by omega, ⟨by omega, by omega⟩, mul_r (by decide) (by decide), fun z3 hz3 z4 hz4 => ?_⟩
        have hz3 : 0 ≤ z3 ∧ z3 < 2147483647 := hz3
        have hz4 : 0 ≤ z4 ∧ z4 ≤ 1000000 + (m + 1 : Nat) := hz4
        rw [h4]
        refine ⟨rfl, ⟨hz3, hz4.1, by omega⟩, fun r n' hr => ?_, fun _ _ h => h.elim⟩
        obtain ⟨rfl, z5, _, _, rfl⟩ := hr
        first
          | exact ⟨_, _, rfl, by omega, by omega⟩
          | (constructor <;> omega)
          | (simp; omega)
      · obtain ⟨d, t, rfl, e1, e2⟩ := h
        simp at e2 ⊢
        exact ⟨by omega, fin _ _ e1 (by omega)⟩

theorem wPick {f : Nat} (h7 : Φ f = sRand.sp) : Body sPick (bPick f) nPick Φ C := by
  intro ts n Q X hq hl hp hQ hX
  match ts, hp with
  | [.gen, .d t], hp =>
    obtain ⟨h1, h2, h3, h4⟩ := hp
    have h24 : (sizeLine : Nat) = 16777216 := sizeLine_eq
    have cl : ∀ z : Str, (its (.str z)).length = z.length := fun z => chars_len
    simp [bPick, nPick]
    have go : ∀ k : Int, 0 < k → k < 2 ^ 40 → (∀ (z : Int) (n' : Nat), 0 ≤ z → z < k → n ≤ n' → n' ≤ n + 64 → ixW (.d t) (.d (.int z)) fun t => Q ⟨t, false⟩ n') → Φ f [.gen, .d (.int k)] n (fun y n => ixW (.d t) y.t fun t => Q ⟨t, false⟩ n) X := fun k k0 k1 h => by
      rw [h7]
      refine ⟨rfl, ⟨k0, Int.lt_trans k1 (by decide +kernel), h4⟩, fun r n' hr => ?_, fun _ _ h => h.elim⟩
      obtain ⟨a1, a2, z, b1, b2, rfl⟩ := hr
      exact h z n' b1 b2 a1 a2
    cases t <;> first | cases h1 | skip
    · rename_i z
      rw [cl] at h2 h3
      refine ⟨by omega, go _ (by omega) (by omega) fun i n' b1 b2 a1 a2 => ?_⟩
      have hi : i.toNat < z.cps.toList.length := by
        have : z.length = z.cps.toList.length := by simp [Str.length]
        omega
      refine ⟨by omega, z.cps.toList[i.toNat], ?_, hQ _ _ ⟨a1, a2, _, ?_, rfl⟩⟩
      · have := atI_nat (xs := z.cps.toList) (j := i.toNat) (List.getElem?_eq_getElem hi)
        rwa [Int.toNat_of_nonneg b1] at this
      · show _ ∈ chars z
        exact List.mem_map_of_mem (List.getElem_mem hi)
    · rename_i xs
      refine go _ (by have : 0 < xs.length := h2; omega) (by have : xs.length ≤ 1000000 := h3; omega) fun i n' b1 b2 a1 a2 => ?_
      have hi : i.toNat < xs.length := by omega
      refine ⟨xs[i.toNat], ?_, hQ _ _ ⟨a1, a2, _, List.getElem_mem hi, rfl⟩⟩
      have := atI_nat (xs := xs) (j := i.toNat) (List.getElem?_eq_getElem hi)
      rwa [Int.toNat_of_nonneg b1] at this
    · rename_i xs
      refine go _ (by have : 0 < xs.length := h2; omega) (by have : xs.length ≤ 1000000 := h3; omega) fun i n' b1 b2 a1 a2 => ?_
      have hi : i.toNat < xs.length := by omega
      refine ⟨xs[i.toNat], ?_, hQ _ _ ⟨a1, a2, _, List.getElem_mem hi, rfl⟩⟩
      have := atI_nat (xs := xs) (j := i.toNat) (List.getElem?_eq_getElem hi)
      rwa [Int.toNat_of_nonneg b1] at this
theorem weight_mem {xs : List PyData} : ∀ x ∈ xs, x.weight ≤ PyData.weightAll xs := by
  induction xs with
  | nil => intro x h; cases h
  | cons y ys ih =>
    intro x h
    show _ ≤ y.weight + 1 + PyData.weightAll ys
    rcases List.mem_cons.mp h with rfl | h
    · omega
    · have := ih x h; omega
theorem weight_len {xs : List PyData} : xs.length ≤ PyData.weightAll xs := by
  induction xs with
  | nil => exact Nat.zero_le _
  | cons y ys ih =>
    show ys.length + 1 ≤ y.weight + 1 + PyData.weightAll ys
    omega
theorem wCopy (M : MonoPh Φ) (d : Nat) {f : Nat} (h9 : Φ f = (sCopy d).sp) : Body (sCopy (d + 1)) (bCopy f) nCopy Φ C := by
  intro ts n Q X hq hl hp hQ hX
  match ts, hp with
  | [.d x], hp =>
    obtain ⟨h1, h2⟩ := hp
    have hq2 := hQ _ _ ⟨rfl, rfl⟩
    have h24 : (sizeLine : Nat) = 16777216 := sizeLine_eq
    have comp : ∀ (xs : List PyData) (ρ : Ev) (Q' : List PyData → Nat → Prop), ρ.length = 2 → (∀ x ∈ xs, x.depth < d) → PyData.weightAll xs ≤ 1000000 → Q' xs n → lcGo (.nm 1) ρ (cndW Φ C (.c (.bool true))) (eltW Φ C (eCopy_0 f)) Q' xs [] n := fun xs ρ Q' hl hd hw h => by
      refine lc_pure M (fun _ => true) id (by have := weight_len (xs := xs); omega) (fun x hx => ?_) (by rw [List.filter_eq_self.mpr (fun _ _ => rfl), List.map_id]; exact h)
      refine ⟨_, rfl, fun P h => ?_, fun _ P h => ?_⟩
      · simpa [cndW_eq] using h
      · match ρ, hl with
        | [a, b], _ =>
          simp [eltW_eq, eCopy_0, stA]
          rw [h9]
          refine ⟨rfl, ⟨hd x hx, by have := weight_mem x hx; omega⟩, fun r n' hr => ?_, fun _ _ h => h.elim⟩
          obtain ⟨rfl, rfl⟩ := hr
          exact h _
    have dep : ∀ xs : List PyData, PyData.depthAll xs + 1 < d + 1 → ∀ x ∈ xs, x.depth < d := fun xs h x hx => by
      have := depthAll_le.mp (Nat.le_refl (PyData.depthAll xs)) x hx
      omega
    simp [bCopy, nCopy]
    cases x <;> simp [isTy] <;> try exact hq2
    · rename_i xs
      exact comp xs _ _ (by simp [wipeE]) (dep xs h1) h2 (hq _ _ hq2)
    · rename_i xs
      refine comp xs _ _ (by simp [wipeE]) (dep xs h1) h2 ?_
      simp [biW]
      exact hq2
theorem eqv_self : ∀ x : PyData, x.plain = true → PyData.eqv x x = true := fun x h => by
  exact PySem.SeqAt.eqv_refl_plain x h
theorem nin_true {xs : List PyData} (h : ∀ x ∈ xs, x = .bool true) : (xs.any fun y => PyData.eqv y (.bool false)) = false := by
  rw [List.any_eq_false]
  intro x hx
  rw [h x hx]
  decide
theorem wSame (M : MonoPh Φ) (d : Nat) {f : Nat} (h10 : Φ f = (sSame d).sp) : Body (sSame (d + 1)) (bSame f) nSame Φ C := by
  intro ts n Q X hq hl hp hQ hX
  match ts, hp with
  | [.d x, .d y], hp =>
    obtain ⟨rfl, h1⟩ := hp
    have hq2 := hQ _ _ ⟨rfl, rfl⟩
    have h24 : (sizeLine : Nat) = 16777216 := sizeLine_eq
    have comp : ∀ (xs : List PyData) (ρ : Ev) (Q' : List PyData → Nat → Prop), ρ.length = 4 → (∀ x ∈ xs, okX d x) → xs.length ≤ 1000 → (∀ acc, (∀ x ∈ acc, x = .bool true) → Q' acc n) →
        lcGo (.tp [2, 3]) ρ (cndW Φ C (.c (.bool true))) (eltW Φ C (eSame_0 f)) Q' (List.zipWith (fun x y => PyData.tuple [x, y]) xs xs) [] n := fun xs ρ Q' hl hd hw h => by
      have hz : (List.zipWith (fun x y => PyData.tuple [x, y]) xs xs) = xs.map fun x => .tuple [x, x] := by
        clear hd hw h
        induction xs with
        | nil => rfl
        | cons x xs ih => rw [List.zipWith_cons_cons, ih, List.map_cons]
      rw [hz]
      refine lc_pure M (fun _ => true) (fun _ => .bool true) (by rw [List.length_map]; omega) (fun y hy => ?_) (h _ fun y hy => ?_)
      · obtain ⟨x, hx, rfl⟩ := List.mem_map.mp hy
        match ρ, hl with
        | [a, b, c, e], _ =>
          refine ⟨_, rfl, fun P h => ?_, fun _ P h => ?_⟩
          · simpa [cndW_eq] using h
          · simp [eltW_eq, eSame_0, stA]
            rw [h10]
            refine ⟨rfl, ⟨rfl, hd x hx⟩, fun r n' hr => ?_, fun _ _ h => h.elim⟩
            obtain ⟨rfl, rfl⟩ := hr
            exact h _
      · obtain ⟨z, _, rfl⟩ := List.mem_map.mp hy
        rfl
    have fin : ∀ acc : List PyData, (∀ x ∈ acc, x = .bool true) → inOk (.bool false) acc ∧ (acc.any fun y => PyData.eqv y (.bool false)) = false := fun acc h =>
      ⟨⟨rfl, plainAll_iff.mpr fun x hx => by rw [h x hx]; rfl, by simp [PyData.depth]⟩, nin_true h⟩
    have hq3 : Q ⟨.d (.bool true), false⟩ n := hq2
    simp [bSame, nSame]
    cases y with
    | none => simp [isTy, cmpW, litIs, isD]; exact hq3
    | bool b => cases b <;> simp [isTy, cmpW, litIs, isD] <;> exact hq3
    | int i =>
      simp [isTy, cmpW, litIs, isD]
      rw [eqv_self _ rfl]
      exact ⟨⟨rfl, rfl, by simp [PyData.depth]⟩, hq3⟩
    | str z =>
      simp [isTy, cmpW, litIs, isD]
      rw [eqv_self _ rfl]
      exact ⟨⟨rfl, rfl, by simp [PyData.depth]⟩, hq3⟩
    | dict kvs => exact h1.elim
    | tuple xs =>
      simp [isTy, biW, cmpW]
      refine ⟨⟨rfl, rfl, by simp [PyData.depth]⟩, ?_⟩
      rw [if_pos (by simp [PyData.eqv])]
      refine comp xs _ _ (by simp [wipeE]) h1.2 h1.1 fun acc ha => ?_
      obtain ⟨f1, f2⟩ := fin acc ha
      simp [inW]
      refine ⟨f1, ?_⟩
      rw [f2]
      exact hq3
    | list xs =>
      simp [isTy, biW, cmpW]
      refine ⟨⟨rfl, rfl, by simp [PyData.depth]⟩, ?_⟩
      rw [if_pos (by simp [PyData.eqv])]
      refine comp xs _ _ (by simp [wipeE]) h1.2 h1.1 fun acc ha => ?_
      obtain ⟨f1, f2⟩ := fin acc ha
      simp [inW]
      refine ⟨f1, ?_⟩
      rw [f2]
      exact hq3

end
def plainL : PyData → Bool
  | .list xs => PyData.plainAll xs && decide (xs.length ≤ 1000)
  | .tuple xs => PyData.plainAll xs && decide (xs.length ≤ 1000)
  | _ => true
def good (x : PyData) : Bool := x.leavesShort 64 && x.showable && decide (x.weight ≤ 200000) && decide (x.depth ≤ 40) && plainL x
def goodA (x : PyData) : Bool := x.leavesShort 64 && x.showable && decide (x.weight ≤ 100) && decide (x.depth = 0) && x.plain

theorem goodA_all {xs : List PyData} (h : ∀ x ∈ xs, goodA x = true) : PyData.leavesShortAll 64 xs = true ∧ PyData.showableAll xs = true ∧ PyData.weightAll xs ≤ 101 * xs.length ∧ PyData.depthAll xs = 0 ∧ PyData.plainAll xs = true := by
  induction xs with
  | nil => exact ⟨rfl, rfl, Nat.le_refl _, rfl, rfl⟩
  | cons x xs ih =>
    obtain ⟨a1, a2, a3, a4, a5⟩ := ih fun y hy => h y (List.mem_cons_of_mem _ hy)
    have hx := h x (List.mem_cons_self ..)
    unfold goodA at hx
    simp only [Bool.and_eq_true, decide_eq_true_eq] at hx
    obtain ⟨⟨⟨⟨b1, b2⟩, b3⟩, b4⟩, b5⟩ := hx
    refine ⟨by rw [PyData.leavesShortAll, b1, a1]; rfl, by rw [PyData.showableAll, b2, a2]; rfl, ?_, by rw [PyData.depthAll, b4, a4]; rfl, by rw [PyData.plainAll, b5, a5]; rfl⟩
    show x.weight + 1 + PyData.weightAll xs ≤ 101 * (xs.length + 1)
    omega
theorem good_list {xs : List PyData} (h : ∀ x ∈ xs, goodA x = true) (hl : xs.length ≤ 1000) : good (.list xs) = true ∧ good (.tuple xs) = true := by
  obtain ⟨a1, a2, a3, a4, a5⟩ := goodA_all h
  have w : PyData.weightAll xs ≤ 200000 := by omega
  have d : PyData.depthAll xs + 1 ≤ 40 := by omega
  constructor
  · unfold good
    simp only [Bool.and_eq_true, decide_eq_true_eq]
    exact ⟨⟨⟨⟨a1, a2⟩, w⟩, d⟩, by show (PyData.plainAll xs && decide (xs.length ≤ 1000)) = true; rw [a5]; simpa using hl⟩
  · unfold good
    simp only [Bool.and_eq_true, decide_eq_true_eq]
    exact ⟨⟨⟨⟨a1, a2⟩, w⟩, d⟩, by show (PyData.plainAll xs && decide (xs.length ≤ 1000)) = true; rw [a5]; simpa using hl⟩
theorem good_of_A {x : PyData} (h : goodA x = true) : good x = true := by
  unfold goodA at h
  unfold good
  simp only [Bool.and_eq_true, decide_eq_true_eq] at h ⊢
  obtain ⟨⟨⟨⟨b1, b2⟩, b3⟩, b4⟩, b5⟩ := h
  refine ⟨⟨⟨⟨b1, b2⟩, by omega⟩, by omega⟩, ?_⟩
  cases x <;> first | rfl | skip
  all_goals
    rename_i xs
    have : PyData.depthAll xs + 1 = 0 := b4
    omega
theorem good_show {x : PyData} (h : good x = true) : showOk x := by
  unfold good at h
  simp only [Bool.and_eq_true, decide_eq_true_eq] at h
  obtain ⟨⟨⟨⟨h1, h2⟩, h3⟩, h4⟩, h5⟩ := h
  have h24 : (sizeLine : Nat) = 16777216 := sizeLine_eq
  refine ⟨h2, ?_, by omega⟩
  have := PyData.shown_le 64 (by decide) x h1
  have : (64 + 2) * x.weight ≤ 66 * 200000 := Nat.mul_le_mul (by omega) h3
  omega
theorem goodA_int {i : Int} (h : i.natAbs < 10 ^ 30) : goodA (.int i) = true := by
  unfold goodA
  simp only [Bool.and_eq_true, decide_eq_true_eq]
  have h1 : i.natAbs.log2 < 100 := by
    by_cases h0 : i.natAbs = 0
    · rw [h0]; decide
    · exact (Nat.log2_lt h0).mpr (Nat.lt_trans h (by decide +kernel))
  refine ⟨⟨⟨⟨?_, ?_⟩, ?_⟩, rfl⟩, rfl⟩
  · show decide ((PyData.shown (.int i)).length ≤ 64) = true
    have := int_text_length_le10 (a := i) (k := 30) (by decide) h
    refine decide_eq_true ?_
    show (Str.ofString (toString i)).length ≤ 64
    rw [PySem.ofString_length]
    omega
  · show decide (i.natAbs.log2 < 1920) = true
    exact decide_eq_true (by omega)
  · show (if (i == 0) = true then 0 else i.natAbs.log2 + 1) ≤ 100
    split <;> omega

def sAny : Spc := { ar := 1, pre := (fun | [.gen], n => n < 2 ^ 60 | _, _ => False), post := (fun _ n => fun r n' => n ≤ n' ∧ n' ≤ n + 64 ∧ ∃ x, good x = true ∧ r = ⟨.d x, false⟩) }

section
variable {Φ : Nat → TSp} {C : Nat → PyData}
theorem wAny {f g : Nat} (h8 : Φ f = sPick.sp) (h9 : Φ g = (sCopy 5).sp) : Body sAny (bAny f g) nAny Φ C := by
  intro ts n Q X hq hl hp hQ hX
  match ts, hp with
  | [.gen], hp =>
    simp [bAny, nAny, datas, binW, Builtin.Int.intBits]
    rw [sizeLine_eq]
    refine ⟨by decide +kernel, by decide +kernel, by decide +kernel, by decide, by decide, by decide, by decide, by decide, by decide, by decide, by decide, by decide, by decide, by decide, by decide, by decide +kernel, by decide, by decide, by decide +kernel, by decide, by decide, by decide, ?_⟩
    rw [h8]
    refine ⟨rfl, ⟨rfl, by decide, by decide, hp⟩, fun r n' hr => ?_, fun _ _ h => h.elim⟩
    obtain ⟨a1, a2, x, hx, rfl⟩ := hr
    have key : ∀ l : List PyData, l.all (fun x => decide (x.depth < 5) && decide (x.weight ≤ 1000000) && good x) = true → x ∈ l → x.depth < 5 ∧ x.weight ≤ 1000000 ∧ good x = true := fun l h hx => by
      have := List.all_eq_true.mp h x hx
      simp only [Bool.and_eq_true, decide_eq_true_eq] at this
      exact ⟨this.1.1, this.1.2, this.2⟩
    obtain ⟨k1, k2, k3⟩ := key _ (by decide +kernel) hx
    rw [h9]
    refine ⟨rfl, ⟨k1, k2⟩, fun r n2 hr => ?_, fun _ _ h => h.elim⟩
    obtain ⟨rfl, rfl⟩ := hr
    exact hQ _ _ ⟨a1, a2, x, k3, rfl⟩

end
theorem noCopy : ∀ ts n, ¬ (sCopy 0).pre ts n := fun ts n h => by
  match ts, h with
  | [.d x], h => exact absurd h.1 (Nat.not_lt_zero _)
theorem noSame : ∀ ts n, ¬ (sSame 0).pre ts n := fun ts n h => by
  match ts, h with
  | [.d x, .d y], h => exact h.2
end HL

set_option Elab.async false
set_option linter.all false
set_option maxRecDepth 100000
namespace K3
open PySem
/-! K3m: fractions in lowest terms; how many turns Euclid's way takes. -/
/-- one turn -/
def eu (p : Int × Int) : Int × Int := if 0 < p.2 then (p.2, p.1.fmod p.2) else (p.1, 0)
def eus : Nat → Int × Int → Int × Int
  | 0, p => p
  | k + 1, p => eus k (eu p)
theorem eus_succ (k : Nat) (p : Int × Int) : eus (k + 1) p = eu (eus k p) := by
  induction k generalizing p with
  | zero => rfl
  | succ k ih => exact ih (eu p)
def fib : Nat → Nat
  | 0 => 0
  | 1 => 1
  | n + 2 => fib n + fib (n + 1)
theorem gcd_fmod {a b : Int} (ha : 0 ≤ a) (hb : 0 < b) : Int.gcd b (a.fmod b) = Int.gcd a b := by
  rw [Int.fmod_eq_emod_of_nonneg a (by omega)]
  obtain ⟨x, rfl⟩ := Int.eq_ofNat_of_zero_le ha
  obtain ⟨y, rfl⟩ := Int.eq_ofNat_of_zero_le (show 0 ≤ b by omega)
  rw [← Int.natCast_emod]
  show Nat.gcd y (x % y) = Nat.gcd x y
  rw [Nat.gcd_comm y, ← Nat.gcd_rec, Nat.gcd_comm]
structure EuOk (g : Nat) (p : Int × Int) : Prop where
  a : 0 ≤ p.1
  b : 0 ≤ p.2
  g : Int.gcd p.1 p.2 = g
theorem EuOk.step {g : Nat} {p : Int × Int} (h : EuOk g p) : EuOk g (eu p) := by
  unfold eu
  by_cases c : 0 < p.2
  · rw [if_pos c]
    refine ⟨h.b, ?_, by rw [← h.g]; exact gcd_fmod h.a c⟩
    show 0 ≤ p.1.fmod p.2
    rw [Int.fmod_eq_emod_of_nonneg _ h.b]
    exact Int.emod_nonneg _ (by omega)
  · rw [if_neg c]
    have e : p.2 = 0 := by have := h.b; omega
    exact ⟨h.a, Int.le_refl _, by rw [← h.g, e]⟩
theorem EuOk.steps {g : Nat} : ∀ (k : Nat) {p : Int × Int}, EuOk g p → EuOk g (eus k p)
  | 0, _, h => h
  | k + 1, _, h => EuOk.steps k h.step
/-- Lame: a number that is not yet 0 is as great as this -/
theorem lame : ∀ (k : Nat) (p : Int × Int), 0 ≤ p.2 → p.2 ≤ p.1 → 0 < (eus k p).2 → (fib (k + 1) : Int) ≤ p.2 ∧ (fib (k + 2) : Int) ≤ p.1
  | 0, p, h1, h2, h3 => by
    have h3 : 0 < p.2 := h3
    have e1 : fib 1 = 1 := rfl
    have e2 : fib 2 = 1 := rfl
    exact ⟨by rw [e1]; omega, by rw [e2]; omega⟩
  | k + 1, p, h1, h2, h3 => by
    have c : 0 < p.2 := by
      by_cases c : 0 < p.2
      · exact c
      · exfalso
        have h3 : 0 < (eus k (eu p)).2 := h3
        have e : eu p = (p.1, 0) := by unfold eu; rw [if_neg c]
        rw [e] at h3
        have z : ∀ k (x : Int), (eus k (x, 0)).2 = 0 := fun k x => by
          induction k with
          | zero => rfl
          | succ k ih => exact ih
        rw [z] at h3
        exact Int.lt_irrefl _ h3
    have e : eu p = (p.2, p.1.fmod p.2) := by unfold eu; rw [if_pos c]
    have m : p.1.fmod p.2 = p.1 % p.2 := Int.fmod_eq_emod_of_nonneg _ h1
    have m1 : 0 ≤ p.1 % p.2 := Int.emod_nonneg _ (by omega)
    have m2 : p.1 % p.2 < p.2 := Int.emod_lt_of_pos _ c
    have ih := lame k (eu p) (by rw [e, m]; exact m1) (by rw [e, m]; exact Int.le_of_lt m2) h3
    rw [e, m] at ih
    obtain ⟨i1, i2⟩ := ih
    have i1 : (fib (k + 1) : Int) ≤ p.1 % p.2 := i1
    have i2 : (fib (k + 2) : Int) ≤ p.2 := i2
    refine ⟨i2, ?_⟩
    have d : p.2 * (p.1 / p.2) + p.1 % p.2 = p.1 := Int.mul_ediv_add_emod p.1 p.2
    have q : 1 ≤ p.1 / p.2 := by
      have := Int.ediv_le_ediv c h2
      rwa [Int.ediv_self (by omega)] at this
    have q2 : p.2 * 1 ≤ p.2 * (p.1 / p.2) := Int.mul_le_mul_of_nonneg_left q h1
    have f : fib (k + 3) = fib (k + 1) + fib (k + 2) := rfl
    rw [f]
    push_cast
    omega
theorem fib5 (n : Nat) : 10 ^ n ≤ fib (5 * n + 2) ∧ fib (5 * n + 2) ≤ 2 * fib (5 * n + 1) := by
  induction n with
  | zero => decide
  | succ n ih =>
    obtain ⟨i1, i2⟩ := ih
    have s (m : Nat) : fib (m + 2) = fib m + fib (m + 1) := rfl
    have a := s (5 * n + 1)
    have b := s (5 * n + 2)
    have c := s (5 * n + 3)
    have d := s (5 * n + 4)
    have e := s (5 * n + 5)
    rw [show 5 * (n + 1) + 2 = 5 * n + 5 + 2 by omega, show 5 * (n + 1) + 1 = 5 * n + 4 + 2 by omega, Nat.pow_succ]
    have a : fib (5 * n + 3) = fib (5 * n + 1) + fib (5 * n + 2) := a
    have b : fib (5 * n + 4) = fib (5 * n + 2) + fib (5 * n + 3) := b
    have c : fib (5 * n + 5) = fib (5 * n + 3) + fib (5 * n + 4) := c
    have d : fib (5 * n + 6) = fib (5 * n + 4) + fib (5 * n + 5) := d
    have e : fib (5 * n + 7) = fib (5 * n + 5) + fib (5 * n + 6) := e
    have d' : fib (5 * n + 4 + 2) = fib (5 * n + 6) := rfl
    have e' : fib (5 * n + 5 + 2) = fib (5 * n + 7) := rfl
    rw [d', e']
    omega
/-- five turns a figure and one more are enough -/
theorem eus_end {g d : Nat} {p : Int × Int} (h : EuOk g p) (hd : p.2 < 10 ^ d) : eus (5 * d + 1) p = ((g : Int), 0) := by
  have key : (eus (5 * d + 1) p).2 = 0 := by
    have o := (h.steps (5 * d + 1)).b
    by_cases c : 0 < (eus (5 * d + 1) p).2
    · exfalso
      obtain ⟨f1, _⟩ := fib5 d
      have f1 : ((10 ^ d : Nat) : Int) ≤ fib (5 * d + 2) := by exact_mod_cast f1
      push_cast at f1
      by_cases le : p.2 ≤ p.1
      · have := (lame _ p h.b le c).1
        have e : 5 * d + 1 + 1 = 5 * d + 2 := rfl
        rw [e] at this
        omega
      · have lt : p.1 < p.2 := by omega
        have hb : 0 < p.2 := by have := h.a; omega
        have e : eu p = (p.2, p.1) := by
          unfold eu
          rw [if_pos hb, Int.fmod_eq_emod_of_nonneg _ h.b, Int.emod_eq_of_lt h.a lt]
        have c : 0 < (eus (5 * d) (eu p)).2 := c
        rw [e] at c
        have := (lame _ (p.2, p.1) h.a (Int.le_of_lt lt) c).2
        have this : (fib (5 * d + 2) : Int) ≤ p.2 := this
        omega
    · omega
  have o := h.steps (5 * d + 1)
  generalize eus (5 * d + 1) p = q at key o
  obtain ⟨x, y⟩ := q
  have key : y = 0 := key
  subst key
  have g' := o.g
  have a' : 0 ≤ x := o.a
  have g' : Int.gcd x 0 = g := g'
  rw [Int.gcd_zero_right] at g'
  have : x = (g : Int) := by omega
  rw [this]
/-- lowest terms, the second number above 0 -/
def low (a b : Int) : Int × Int := (a.fdiv (if b < 0 then 0 - (Int.gcd a b : Int) else Int.gcd a b), b.fdiv (if b < 0 then 0 - (Int.gcd a b : Int) else Int.gcd a b))
def isFr (p : Int × Int) : Prop := 1 ≤ p.2 ∧ Int.gcd p.1 p.2 = 1
theorem fdiv_dvd {a g : Int} (h : g ∣ a) : a.fdiv g = a / g := Int.fdiv_eq_ediv_of_dvd h
theorem low_pos {a b : Int} (h : 0 < b) : low a b = (a / (Int.gcd a b : Int), b / (Int.gcd a b : Int)) := by
  unfold low
  rw [if_neg (by omega), fdiv_dvd (Int.gcd_dvd_left ..), fdiv_dvd (Int.gcd_dvd_right ..)]
theorem low_neg {a b : Int} (h : b < 0) : low a b = low (0 - a) (0 - b) := by
  rw [low_pos (a := 0 - a) (b := 0 - b) (by omega)]
  unfold low
  have e : Int.gcd (0 - a) (0 - b) = Int.gcd a b := by
    rw [Int.zero_sub, Int.zero_sub, Int.gcd_neg, Int.neg_gcd]
  rw [if_pos h, e, fdiv_dvd, fdiv_dvd, Int.zero_sub, Int.zero_sub, Int.zero_sub, Int.ediv_neg, Int.ediv_neg, Int.neg_ediv_of_dvd (Int.gcd_dvd_left ..), Int.neg_ediv_of_dvd (Int.gcd_dvd_right ..)]
  · rw [Int.zero_sub]; exact (Int.neg_dvd).mpr (Int.gcd_dvd_right ..)
  · rw [Int.zero_sub]; exact (Int.neg_dvd).mpr (Int.gcd_dvd_left ..)
theorem gcd_pos {a b : Int} (h : b ≠ 0) : 0 < (Int.gcd a b : Int) := by
  have : Int.gcd a b ≠ 0 := fun e => h (Int.gcd_eq_zero_iff.mp e).2
  omega
theorem low_isFr {a b : Int} (h : b ≠ 0) : isFr (low a b) := by
  have pos : ∀ a b : Int, 0 < b → isFr (low a b) := fun a b h => by
    rw [low_pos h]
    have g := gcd_pos (a := a) (show b ≠ 0 by omega)
    refine ⟨?_, ?_⟩
    · have : (Int.gcd a b : Int) ≤ b := Int.le_of_dvd h (Int.gcd_dvd_right ..)
      have := Int.ediv_le_ediv g this
      rwa [Int.ediv_self (by omega)] at this
    · exact Int.gcd_ediv_gcd_ediv_gcd (by omega)
  rcases Int.lt_trichotomy b 0 with c | c | c
  · rw [low_neg c]; exact pos _ _ (by omega)
  · exact absurd c h
  · exact pos _ _ c
theorem low_id {p : Int × Int} (h : isFr p) : low p.1 p.2 = p := by
  obtain ⟨h1, h2⟩ := h
  rw [low_pos (by omega), h2]
  simp
theorem low_iff {a b : Int} (h : 1 ≤ b) : low a b = (a, b) ↔ Int.gcd a b = 1 := by
  constructor
  · intro e
    have := (low_isFr (a := a) (show b ≠ 0 by omega)).2
    rwa [e] at this
  · intro e
    exact low_id (p := (a, b)) ⟨h, e⟩
theorem low_times {a b t : Int} (h : b ≠ 0) (ht : 0 < t) : low (a * t) (b * t) = low a b := by
  have pos : ∀ a b : Int, 0 < b → low (a * t) (b * t) = low a b := fun a b h => by
    have hb : 0 < b * t := Int.mul_pos h ht
    rw [low_pos hb, low_pos h, Int.gcd_mul_right]
    have : (((Int.gcd a b * t.natAbs : Nat)) : Int) = (Int.gcd a b : Int) * t := by push_cast; rw [Int.natAbs_of_nonneg (by omega)]
    rw [this, Int.mul_ediv_mul_of_pos_left _ _ ht, Int.mul_ediv_mul_of_pos_left _ _ ht]
  rcases Int.lt_trichotomy b 0 with c | c | c
  · have : b * t < 0 := Int.mul_neg_of_neg_of_pos c ht
    rw [low_neg this, low_neg c, Int.zero_sub, Int.zero_sub, Int.zero_sub, Int.zero_sub, ← Int.neg_mul, ← Int.neg_mul]
    exact pos _ _ (by omega)
  · exact absurd c h
  · exact pos _ _ c
theorem natAbs_ediv_le {a g : Int} (hg : 0 < g) : (a / g).natAbs ≤ a.natAbs := Int.natAbs_ediv_le_natAbs a g
theorem low_le {a b : Int} (h : b ≠ 0) : (low a b).1.natAbs ≤ a.natAbs ∧ (low a b).2.natAbs ≤ b.natAbs := by
  rcases Int.lt_trichotomy b 0 with c | c | c
  · rw [low_neg c, low_pos (by omega)]
    exact ⟨Nat.le_trans (Int.natAbs_ediv_le_natAbs ..) (by omega), Nat.le_trans (Int.natAbs_ediv_le_natAbs ..) (by omega)⟩
  · exact absurd c h
  · rw [low_pos c]
    exact ⟨Int.natAbs_ediv_le_natAbs .., Int.natAbs_ediv_le_natAbs ..⟩
/-- as many figures as it has -/
theorem digits_core (fuel : Nat) : ∀ (n : Nat) (ds : List Char), n < fuel → n < 10 ^ ((Nat.toDigitsCore 10 fuel n ds).length - ds.length) ∧ ds.length ≤ (Nat.toDigitsCore 10 fuel n ds).length := by
  induction fuel with
  | zero => intro n ds h; omega
  | succ f ih =>
    intro n ds h
    unfold Nat.toDigitsCore
    by_cases c : n / 10 = 0
    · simp only [c, if_true]
      simp
      omega
    · simp only [c, if_false]
      obtain ⟨i1, i2⟩ := ih (n / 10) (Nat.digitChar (n % 10) :: ds) (by omega)
      rw [List.length_cons] at i1 i2
      refine ⟨?_, by omega⟩
      have e : (Nat.toDigitsCore 10 f (n / 10) (Nat.digitChar (n % 10) :: ds)).length - ds.length = (Nat.toDigitsCore 10 f (n / 10) (Nat.digitChar (n % 10) :: ds)).length - (ds.length + 1) + 1 := by omega
      rw [e, Nat.pow_succ]
      omega
theorem figures {b : Int} (h : 0 ≤ b) : b < 10 ^ (Str.ofString (toString b)).length := by
  obtain ⟨n, rfl⟩ := Int.eq_ofNat_of_zero_le h
  have e : toString (n : Int) = Nat.repr n := rfl
  rw [PySem.ofString_length, e]
  have := (digits_core (n + 1) n [] (by omega)).1
  have l : (Nat.repr n).length = (Nat.toDigitsCore 10 (n + 1) n []).length := by
    unfold Nat.repr Nat.toDigits
    simp
  rw [l]
  simp at this
  exact_mod_cast this
end K3

set_option Elab.async false
set_option linter.all false
set_option maxRecDepth 100000
set_option maxHeartbeats 4000000
/-! HF0: bodies that the ridge laws share. -/
namespace HL
open PySem PySem.Spec PyProof.Rows L2 TL
/-- is_whole -/
abbrev nWhole : List Str := ["value"]
def bWhole  : Ss := (.cons [] (.ret (.and (.isi (.v 0) .int) (.not (.isi (.v 0) .bool))))
  .nil)
/-- is_count -/
abbrev nCount : List Str := ["value"]
def bCount (f0 : Nat) : Ss := (.cons [] (.ret (.and (.call f0 (.cons (.v 0) .nil)) (.cmp .ge (.v 0) (.c (.int 0)))))
  .nil)
/-- ascends -/
abbrev nAsc : List Str := ["items", "at"]
def cAsc_0  : E := (.cmp .ge (.ix (.v 0) (.bin .sub (.v 1) (.c (.int 1)))) (.ix (.v 0) (.v 1)))
def bAsc  : Ss := (.cons [] (.ret (.cmp .eq (.lc [1] (.nm 1) .rng2 (.cons (.c (.int 1)) (.cons (.bi .len (.cons (.v 0) .nil)) .nil)) cAsc_0 (.v 1)) (.lst .nil)))
  .nil)
/-- common_of -/
abbrev nCommon : List Str := ["one", "other"]
def cCommon_0  : E := (.cmp .gt (.v 1) (.c (.int 0)))
def lCommon_1  : Ss := (.cons [] (.par [0, 1] (.cons (.v 1) (.cons (.bin .mod (.v 0) (.v 1)) .nil)))
  .nil)
def bCommon  : Ss := (.cons [] (.par [0, 1] (.cons (.bi .abs (.cons (.v 0) .nil)) (.cons (.bi .abs (.cons (.v 1) .nil)) .nil)))
  (.cons [] (.whl cCommon_0 lCommon_1)
  (.cons [] (.ret (.v 0))
  .nil)))
/-- lowest_of -/
abbrev nLowest : List Str := ["above", "below", "part"]
def bLowest (f0 : Nat) : Ss := (.cons [] (.set 2 (.call f0 (.cons (.v 0) (.cons (.v 1) .nil))))
  (.cons [] (.ite (.cmp .lt (.v 1) (.c (.int 0)))
  (.cons [] (.set 2 (.bin .sub (.c (.int 0)) (.w 2)))
  .nil) .nil)
  (.cons [] (.ret (.tup (.cons (.bin .fdiv (.v 0) (.w 2)) (.cons (.bin .fdiv (.v 1) (.w 2)) .nil))))
  .nil)))
/-- fraction_of -/
abbrev nFraction : List Str := ["above", "below"]
def bFraction (f0 : Nat) (f1 : Nat) : Ss := (.cons [] (.ite (.not (.call f0 (.cons (.v 0) .nil)))
  (.cons [] .no
  .nil) .nil)
  (.cons [] (.ite (.or (.not (.call f0 (.cons (.v 1) .nil))) (.cmp .eq (.v 1) (.c (.int 0))))
  (.cons [] .no
  .nil) .nil)
  (.cons [] (.ret (.call f1 (.cons (.v 0) (.cons (.v 1) .nil))))
  .nil)))
/-- plus_of -/
abbrev nPlus : List Str := ["one", "other"]
def bPlus (f0 : Nat) : Ss := (.cons [] (.ret (.call f0 (.cons (.bin .add (.bin .mul (.ix (.v 0) (.c (.int 0))) (.ix (.v 1) (.c (.int 1)))) (.bin .mul (.ix (.v 1) (.c (.int 0))) (.ix (.v 0) (.c (.int 1))))) (.cons (.bin .mul (.ix (.v 0) (.c (.int 1))) (.ix (.v 1) (.c (.int 1)))) .nil))))
  .nil)
/-- less_than -/
abbrev nLess : List Str := ["one", "other"]
def bLess  : Ss := (.cons [] (.ret (.cmp .lt (.bin .mul (.ix (.v 0) (.c (.int 0))) (.ix (.v 1) (.c (.int 1)))) (.bin .mul (.ix (.v 1) (.c (.int 0))) (.ix (.v 0) (.c (.int 1))))))
  .nil)
/-- is_ridge -/
abbrev nIsRidge : List Str := ["value", "point"]
def eIsRidge_0 (f0 : Nat) (f1 : Nat) : E := (.and (.isi (.v 1) .tuple) (.cmp .eq (.bi .len (.cons (.v 1) .nil)) (.c (.int 2))))
def eIsRidge_1 (f0 : Nat) (f1 : Nat) : E := (.and (.call f0 (.cons (.ix (.v 1) (.c (.int 0))) .nil)) (.call f0 (.cons (.ix (.v 1) (.c (.int 1))) .nil)))
def eIsRidge_2 (f0 : Nat) (f1 : Nat) : E := (.ix (.v 1) (.c (.int 0)))
def bIsRidge (f0 : Nat) (f1 : Nat) : Ss := (.cons [] (.ite (.or (.not (.isi (.v 0) .list)) (.cmp .lt (.bi .len (.cons (.v 0) .nil)) (.c (.int 2))))
  (.cons [] (.ret (.c (.bool false)))
  .nil) .nil)
  (.cons [] (.ite (.not (.bi .all (.cons (.lc [1] (.nm 1) .seq (.cons (.v 0) .nil) (.c (.bool true)) (eIsRidge_0 f0 f1)) .nil)))
  (.cons [] (.ret (.c (.bool false)))
  .nil) .nil)
  (.cons [] (.ite (.not (.bi .all (.cons (.lc [1] (.nm 1) .seq (.cons (.v 0) .nil) (.c (.bool true)) (eIsRidge_1 f0 f1)) .nil)))
  (.cons [] (.ret (.c (.bool false)))
  .nil) .nil)
  (.cons [] (.ret (.call f1 (.cons (.lc [1] (.nm 1) .seq (.cons (.v 0) .nil) (.c (.bool true)) (eIsRidge_2 f0 f1)) .nil)))
  .nil))))
/-- check_ridge -/
abbrev nChkRidge : List Str := ["ridge"]
def bChkRidge (f0 : Nat) : Ss := (.cons [] (.ite (.not (.call f0 (.cons (.v 0) .nil)))
  (.cons [] .no
  .nil) .nil)
  .nil)
/-- check_point -/
abbrev nChkPoint : List Str := ["ridge", "number"]
def bChkPoint (f0 : Nat) : Ss := (.cons [] (.ite (.or (.not (.call f0 (.cons (.v 1) .nil))) (.cmp .ge (.v 1) (.bi .len (.cons (.v 0) .nil))))
  (.cons [] .no
  .nil) .nil)
  .nil)
/-- check_points -/
abbrev nChkPoints : List Str := ["ridge", "one", "other"]
def bChkPoints (f0 : Nat) (f1 : Nat) : Ss := (.cons [] (.ex (.call f0 (.cons (.v 0) .nil)))
  (.cons [] (.ex (.call f1 (.cons (.v 0) (.cons (.v 1) .nil))))
  (.cons [] (.ex (.call f1 (.cons (.v 0) (.cons (.v 2) .nil))))
  .nil)))
/-- over_line -/
abbrev nOver : List Str := ["one", "other", "point", "wide", "far"]
def bOver  : Ss := (.cons [] (.par [3, 4] (.cons (.bin .sub (.ix (.v 1) (.c (.int 0))) (.ix (.v 0) (.c (.int 0)))) (.cons (.bin .sub (.ix (.v 2) (.c (.int 0))) (.ix (.v 0) (.c (.int 0)))) .nil)))
  (.cons [] (.ret (.bin .sub (.bin .mul (.bin .sub (.ix (.v 2) (.c (.int 1))) (.ix (.v 0) (.c (.int 1)))) (.v 3)) (.bin .mul (.bin .sub (.ix (.v 1) (.c (.int 1))) (.ix (.v 0) (.c (.int 1)))) (.v 4))))
  .nil))
/-- sees_in -/
abbrev nSeesIn : List Str := ["ridge", "one", "other", "low", "high", "point"]
def eSeesIn_0 (f0 : Nat) : E := (.cmp .le (.call f0 (.cons (.ix (.v 0) (.v 3)) (.cons (.ix (.v 0) (.v 4)) (.cons (.v 5) .nil)))) (.c (.int 0)))
def bSeesIn (f0 : Nat) : Ss := (.cons [] (.upk [3, 4] (.tup (.cons (.bi .min2 (.cons (.v 1) (.cons (.v 2) .nil))) (.cons (.bi .max2 (.cons (.v 1) (.cons (.v 2) .nil))) .nil))))
  (.cons [] (.ret (.bi .all (.cons (.lc [5] (.nm 5) .seq (.cons (.sl (.v 0) (.bin .add (.v 3) (.c (.int 1))) (.v 4)) .nil) (.c (.bool true)) (eSeesIn_0 f0)) .nil)))
  .nil))
/-- does_see -/
abbrev nDoesSee : List Str := ["ridge", "one", "other"]
def bDoesSee (f0 : Nat) (f1 : Nat) : Ss := (.cons [] (.ex (.call f0 (.cons (.v 0) (.cons (.v 1) (.cons (.v 2) .nil)))))
  (.cons [] (.ret (.call f1 (.cons (.v 0) (.cons (.v 1) (.cons (.v 2) .nil)))))
  .nil))
/-- _law_same -/
abbrev nSame2 : List Str := ["found", "due", "one", "other", "key"]
def eSame2_0 (f0 : Nat) : E := (.call f0 (.cons (.v 2) (.cons (.v 3) .nil)))
def eSame2_1 (f0 : Nat) : E := (.and (.cmp .in_ (.v 4) (.v 0)) (.call f0 (.cons (.ix (.v 0) (.v 4)) (.cons (.ix (.v 1) (.v 4)) .nil))))
def tSame2_2 (f0 : Nat) : Ss := (.cons [] (.ret (.and (.isi (.v 0) .int) (.and (.cmp .eq (.isi (.v 0) .bool) (.isi (.v 1) .bool)) (.cmp .eq (.v 0) (.v 1)))))
  .nil)
def tSame2_3 (f0 : Nat) : Ss := (.cons [] (.ite (.cmp .is_ (.v 1) (.c .none))
  (.cons [] (.ret (.cmp .is_ (.v 0) (.c .none)))
  .nil) .nil)
  (tSame2_2 f0))
def tSame2_4 (f0 : Nat) : Ss := (.cons [] (.ite (.isi (.v 1) .str)
  (.cons [] (.ret (.and (.isi (.v 0) .str) (.cmp .eq (.v 0) (.v 1))))
  .nil) .nil)
  (tSame2_3 f0))
def tSame2_5 (f0 : Nat) : Ss := (.cons [] (.ite (.isi (.v 1) .dict)
  (.cons [] (.ite (.or (.not (.isi (.v 0) .dict)) (.cmp .ne (.bi .len (.cons (.v 0) .nil)) (.bi .len (.cons (.v 1) .nil))))
  (.cons [] (.ret (.c (.bool false)))
  .nil) .nil)
  (.cons [] (.ret (.bi .all (.cons (.lc [4] (.nm 4) .seq (.cons (.v 1) .nil) (.c (.bool true)) (eSame2_1 f0)) .nil)))
  .nil)) .nil)
  (tSame2_4 f0))
def bSame2 (f0 : Nat) : Ss := (.cons [] (.ite (.isi2 (.v 1) .list .tuple)
  (.cons [] (.ite (.or (.cmp .ne (.isi (.v 0) .list) (.isi (.v 1) .list)) (.cmp .ne (.isi (.v 0) .tuple) (.isi (.v 1) .tuple)))
  (.cons [] (.ret (.c (.bool false)))
  .nil) .nil)
  (.cons [] (.ret (.and (.cmp .eq (.bi .len (.cons (.v 0) .nil)) (.bi .len (.cons (.v 1) .nil))) (.bi .all (.cons (.lc [2, 3] (.tp [2, 3]) .zip (.cons (.v 0) (.cons (.v 1) .nil)) (.c (.bool true)) (eSame2_0 f0)) .nil))))
  .nil)) .nil)
  (tSame2_5 f0))
/-- _law_low -/
abbrev nLow : List Str := ["above", "below", "one", "other", "sign"]
def cLow_0  : E := (.cmp .gt (.v 3) (.c (.int 0)))
def lLow_1  : Ss := (.cons [] (.par [2, 3] (.cons (.v 3) (.cons (.bin .mod (.bi .int (.cons (.v 2) .nil)) (.bi .int (.cons (.v 3) .nil))) .nil)))
  .nil)
def bLow  : Ss := (.cons [] (.par [2, 3] (.cons (.bi .abs (.cons (.v 0) .nil)) (.cons (.bi .abs (.cons (.v 1) .nil)) .nil)))
  (.cons [] (.whl cLow_0 lLow_1)
  (.cons [] (.set 4 (.ife (.cmp .gt (.v 1) (.c (.int 0))) (.c (.int 1)) (.neg (.c (.int 1)))))
  (.cons [] (.ret (.tup (.cons (.bin .fdiv (.bin .mul (.w 4) (.v 0)) (.v 2)) (.cons (.bin .fdiv (.bin .mul (.w 4) (.v 1)) (.v 2)) .nil))))
  .nil))))
/-- _law_plus -/
abbrev nLPlus : List Str := ["one", "other"]
def bLPlus (f0 : Nat) : Ss := (.cons [] (.ret (.call f0 (.cons (.bin .add (.bin .mul (.ix (.v 0) (.c (.int 0))) (.ix (.v 1) (.c (.int 1)))) (.bin .mul (.ix (.v 1) (.c (.int 0))) (.ix (.v 0) (.c (.int 1))))) (.cons (.bin .mul (.ix (.v 0) (.c (.int 1))) (.ix (.v 1) (.c (.int 1)))) .nil))))
  .nil)
/-- _law_times -/
abbrev nLTimes : List Str := ["one", "other"]
def bLTimes (f0 : Nat) : Ss := (.cons [] (.ret (.call f0 (.cons (.bin .mul (.ix (.v 0) (.c (.int 0))) (.ix (.v 1) (.c (.int 0)))) (.cons (.bin .mul (.ix (.v 0) (.c (.int 1))) (.ix (.v 1) (.c (.int 1)))) .nil))))
  .nil)
/-- _law_less -/
abbrev nLLess : List Str := ["one", "other"]
def bLLess  : Ss := (.cons [] (.ret (.cmp .lt (.bin .mul (.ix (.v 0) (.c (.int 0))) (.ix (.v 1) (.c (.int 1)))) (.bin .mul (.ix (.v 1) (.c (.int 0))) (.ix (.v 0) (.c (.int 1))))))
  .nil)
/-- _law_minus -/
abbrev nLMinus : List Str := ["one", "other"]
def bLMinus (f0 : Nat) : Ss := (.cons [] (.ret (.call f0 (.cons (.v 0) (.cons (.tup (.cons (.bin .sub (.c (.int 0)) (.ix (.v 1) (.c (.int 0)))) (.cons (.ix (.v 1) (.c (.int 1))) .nil))) .nil))))
  .nil)
/-- _law_ridge -/
abbrev nRidge : List Str := ["generator", "most", "far", "ridge", "here", "turn"]
def lRidge_0 (f0 : Nat) (f1 : Nat) : Ss := (.cons [4] (.app 3 (.tup (.cons (.v 4) (.cons (.bin .sub (.call f0 (.cons (.v 0) (.cons (.bin .add (.bin .mul (.c (.int 2)) (.v 2)) (.c (.int 1))) .nil))) (.v 2)) .nil))))
  (.cons [] (.set 4 (.bin .add (.bin .add (.w 4) (.c (.int 1))) (.call f0 (.cons (.v 0) (.cons (.call f1 (.cons (.v 0) (.cons (.lst (.cons (.c (.int 1)) (.cons (.c (.int 3)) (.cons (.c (.int 9)) .nil)))) .nil))) .nil)))))
  .nil))
def bRidge (f0 : Nat) (f1 : Nat) : Ss := (.cons [] (.par [3, 4] (.cons (.lst .nil) (.cons (.bin .sub (.call f0 (.cons (.v 0) (.cons (.c (.int 21)) .nil))) (.c (.int 10))) .nil)))
  (.cons [] (.for_ (.nm 5) .rng1 (.cons (.bin .add (.c (.int 2)) (.call f0 (.cons (.v 0) (.cons (.bin .sub (.v 1) (.c (.int 1))) .nil)))) .nil) (lRidge_0 f0 f1))
  (.cons [] (.retO 3)
  .nil)))
/-- seen_in -/
abbrev nSeenIn : List Str := ["ridge", "one", "other"]
def cSeenIn_0 (f0 : Nat) : E := (.call f0 (.cons (.v 0) (.cons (.v 1) (.cons (.v 2) .nil))))
def bSeenIn (f0 : Nat) : Ss := (.cons [] (.ret (.lc [2] (.nm 2) .rng1 (.cons (.bi .len (.cons (.v 0) .nil)) .nil) (cSeenIn_0 f0) (.v 2)))
  .nil)
/-- seen_from -/
abbrev nSeenFrom : List Str := ["ridge", "one"]
def bSeenFrom (f0 : Nat) (f1 : Nat) (f2 : Nat) : Ss := (.cons [] (.ex (.call f0 (.cons (.v 0) .nil)))
  (.cons [] (.ex (.call f1 (.cons (.v 0) (.cons (.v 1) .nil))))
  (.cons [] (.ret (.call f2 (.cons (.v 0) (.cons (.v 1) .nil))))
  .nil)))
/-- _law_above -/
abbrev nAbove : List Str := ["one", "other", "point"]
def bAbove (f0 : Nat) : Ss := (.cons [] (.ret (.call f0 (.cons (.bin .sub (.bin .mul (.bin .sub (.ix (.v 2) (.c (.int 1))) (.ix (.v 0) (.c (.int 1)))) (.bin .sub (.ix (.v 1) (.c (.int 0))) (.ix (.v 0) (.c (.int 0))))) (.bin .mul (.bin .sub (.ix (.v 1) (.c (.int 1))) (.ix (.v 0) (.c (.int 1)))) (.bin .sub (.ix (.v 2) (.c (.int 0))) (.ix (.v 0) (.c (.int 0)))))) (.cons (.bin .sub (.ix (.v 1) (.c (.int 0))) (.ix (.v 0) (.c (.int 0)))) .nil))))
  .nil)
/-- _law_sees -/
abbrev nLSees : List Str := ["ridge", "one", "other", "low", "high", "at"]
def cLSees_0 (f0 : Nat) : E := (.cmp .gt (.ix (.call f0 (.cons (.ix (.v 0) (.v 3)) (.cons (.ix (.v 0) (.v 4)) (.cons (.ix (.v 0) (.v 5)) .nil)))) (.c (.int 0))) (.c (.int 0)))
def bLSees (f0 : Nat) : Ss := (.cons [] (.upk [3, 4] (.bi .sorted (.cons (.lst (.cons (.v 1) (.cons (.v 2) .nil))) .nil)))
  (.cons [] (.ret (.cmp .eq (.lc [5] (.nm 5) .rng2 (.cons (.bin .add (.v 3) (.c (.int 1))) (.cons (.v 4) .nil)) (cLSees_0 f0) (.v 5)) (.lst .nil)))
  .nil))
end HL

set_option Elab.async false
set_option linter.all false
set_option maxRecDepth 100000
set_option maxHeartbeats 4000000
set_option exponentiation.threshold 10000
/-! HF1: fractions. -/
namespace HL
open PySem PySem.Spec PyProof.Rows L2 TL K3
def wh : PyData → Bool
  | .int _ => true
  | _ => false
def isCnt : PyData → Bool
  | .int i => decide (0 ≤ i)
  | _ => false
def frD (p : Int × Int) : PyData := .tuple [.int p.1, .int p.2]
def addF (t q : Int × Int) : Int × Int := low (t.1 * q.2 + q.1 * t.2) (t.2 * q.2)
def mulF (t q : Int × Int) : Int × Int := low (t.1 * q.1) (t.2 * q.2)
def subF (t q : Int × Int) : Int × Int := addF t (0 - q.1, q.2)
def lessF (p q : Int × Int) : Bool := decide (p.1 * q.2 < q.1 * p.2)
def Bd (k : Nat) (p : Int × Int) : Prop := p.1.natAbs < 2 ^ k ∧ p.2.natAbs < 2 ^ k
def nn : R := ⟨.d .none, false⟩
def ff (p : Int × Int) : R := ⟨.d (frD p), false⟩
def sWhole : Spc := { ar := 1, pre := (fun | [.d _], _ => True | _, _ => False), post := (fun | [.d x], n => fun r n' => n' = n ∧ r = bl (wh x) | _, _ => fun _ _ => False) }
def sCount : Spc := { ar := 1, pre := (fun | [.d _], _ => True | _, _ => False), post := (fun | [.d x], n => fun r n' => n' = n ∧ r = bl (isCnt x) | _, _ => fun _ _ => False) }
def sCommon : Spc := { ar := 2, pre := (fun | [.d (.int _), .d (.int _)], _ => True | _, _ => False), post := (fun | [.d (.int a), .d (.int b)], n => fun r n' => n' = n ∧ r = ⟨.d (.int (Int.gcd a b)), false⟩ | _, _ => fun _ _ => False) }
def sLowest : Spc := { ar := 2, pre := (fun | [.d (.int _), .d (.int b)], _ => b ≠ 0 ∧ b.natAbs < 2 ^ 8999 | _, _ => False), post := (fun | [.d (.int a), .d (.int b)], n => fun r n' => n' = n ∧ r = ff (low a b) | _, _ => fun _ _ => False) }
def two (f : Int × Int → Int × Int → Prop) : List T → Nat → Prop
  | [.d (.tuple [.int a, .int b]), .d (.tuple [.int c, .int d])], _ => f (a, b) (c, d)
  | _, _ => False
def twoP (f : Int × Int → Int × Int → R) : List T → Nat → R → Nat → Prop
  | [.d (.tuple [.int a, .int b]), .d (.tuple [.int c, .int d])], n => fun r n' => n' = n ∧ r = f (a, b) (c, d)
  | _, _ => fun _ _ => False
def big2 (p q : Int × Int) : Prop := (1 ≤ p.2 ∧ 1 ≤ q.2) ∧ Bd 4400 p ∧ Bd 4400 q
def sPlus : Spc := { ar := 2, pre := two big2, post := twoP fun p q => ff (addF p q) }
def sTimes : Spc := { ar := 2, pre := two big2, post := twoP fun p q => ff (mulF p q) }
def sMinus : Spc := { ar := 2, pre := two big2, post := twoP fun p q => ff (subF p q) }
def sLess : Spc := { ar := 2, pre := two big2, post := twoP fun p q => bl (lessF p q) }
theorem Bd.mul {j k : Nat} {p q : Int × Int} (h : Bd j p) (h' : Bd k q) : Bd (j + k + 2) (mulF p q) ∨ p.2 * q.2 = 0 := by
  by_cases z : p.2 * q.2 = 0
  · exact .inr z
  · refine .inl ?_
    obtain ⟨l1, l2⟩ := low_le (a := p.1 * q.1) z
    have m : ∀ a b : Int, a.natAbs < 2 ^ j → b.natAbs < 2 ^ k → (a * b).natAbs < 2 ^ (j + k + 2) := fun a b ha hb => by
      rw [Int.natAbs_mul]
      have : a.natAbs * b.natAbs ≤ 2 ^ j * 2 ^ k := Nat.mul_le_mul (Nat.le_of_lt ha) (Nat.le_of_lt hb)
      have p0 : 0 < 2 ^ j * 2 ^ k := Nat.mul_pos (Nat.pow_pos (by decide)) (Nat.pow_pos (by decide))
      rw [Nat.pow_add, Nat.pow_add]
      omega
    exact ⟨Nat.lt_of_le_of_lt l1 (m _ _ h.1 h'.1), Nat.lt_of_le_of_lt l2 (m _ _ h.2 h'.2)⟩
theorem Bd.add {j k : Nat} {p q : Int × Int} (h : Bd j p) (h' : Bd k q) : Bd (j + k + 2) (addF p q) ∨ p.2 * q.2 = 0 := by
  by_cases z : p.2 * q.2 = 0
  · exact .inr z
  · refine .inl ?_
    obtain ⟨l1, l2⟩ := low_le (a := p.1 * q.2 + q.1 * p.2) z
    have m : ∀ a b : Int, a.natAbs < 2 ^ j → b.natAbs < 2 ^ k → (a * b).natAbs ≤ 2 ^ (j + k) := fun a b ha hb => by
      rw [Int.natAbs_mul, Nat.pow_add]
      exact Nat.mul_le_mul (Nat.le_of_lt ha) (Nat.le_of_lt hb)
    have p0 : 0 < 2 ^ (j + k) := Nat.pow_pos (by decide)
    have e : 2 ^ (j + k + 2) = 4 * 2 ^ (j + k) := by rw [Nat.pow_add]; omega
    have m1 := m _ _ h.1 h'.2
    have m2 := m _ _ h.2 h'.1
    have m3 := m _ _ h.2 h'.2
    have t : (p.1 * q.2 + q.1 * p.2).natAbs ≤ (p.1 * q.2).natAbs + (p.2 * q.1).natAbs := by
      rw [Int.mul_comm q.1 p.2]
      exact Int.natAbs_add_le ..
    refine ⟨?_, ?_⟩
    · show (low (p.1 * q.2 + q.1 * p.2) (p.2 * q.2)).1.natAbs < _
      omega
    · show (low (p.1 * q.2 + q.1 * p.2) (p.2 * q.2)).2.natAbs < _
      omega
theorem Bd.up {j k : Nat} {p : Int × Int} (h : Bd j p) (l : j ≤ k) : Bd k p := ⟨Nat.lt_of_lt_of_le h.1 (Nat.pow_le_pow_right (by decide) l), Nat.lt_of_lt_of_le h.2 (Nat.pow_le_pow_right (by decide) l)⟩
theorem add_ok {j k : Nat} {p q : Int × Int} (h1 : 1 ≤ p.2) (h2 : 1 ≤ q.2) (b1 : Bd j p) (b2 : Bd k q) : isFr (addF p q) ∧ Bd (j + k + 2) (addF p q) := by
  have z : p.2 * q.2 ≠ 0 := Int.ne_of_gt (Int.mul_pos (by omega) (by omega))
  exact ⟨low_isFr z, (b1.add b2).resolve_right z⟩
theorem mul_ok {j k : Nat} {p q : Int × Int} (h1 : 1 ≤ p.2) (h2 : 1 ≤ q.2) (b1 : Bd j p) (b2 : Bd k q) : isFr (mulF p q) ∧ Bd (j + k + 2) (mulF p q) := by
  have z : p.2 * q.2 ≠ 0 := Int.ne_of_gt (Int.mul_pos (by omega) (by omega))
  exact ⟨low_isFr z, (b1.mul b2).resolve_right z⟩
theorem Bd.neg {k : Nat} {q : Int × Int} (h : Bd k q) : Bd k (0 - q.1, q.2) := ⟨by have := h.1; show (0 - q.1).natAbs < _; omega, h.2⟩
theorem sub_ok {j k : Nat} {p q : Int × Int} (h1 : 1 ≤ p.2) (h2 : 1 ≤ q.2) (b1 : Bd j p) (b2 : Bd k q) : isFr (subF p q) ∧ Bd (j + k + 2) (subF p q) := add_ok (q := (0 - q.1, q.2)) h1 h2 b1 b2.neg
theorem log2_of {a k : Nat} (h : a < 2 ^ k) (hk : 0 < k) : a.log2 < k := by
  by_cases z : a = 0
  · rw [z]; simpa using hk
  · exact (Nat.log2_lt z).mpr h
theorem gcd_log {a b : Int} (h : b ≠ 0) (h2 : b.natAbs < 2 ^ 8999) : (Int.gcd a b).log2 < 9000 := by
  refine log2_of (Nat.lt_of_le_of_lt ?_ (Nat.lt_trans h2 (Nat.pow_lt_pow_right (by decide) (by decide)))) (by decide)
  have : Int.gcd a b ∣ b.natAbs := Nat.gcd_dvd_right ..
  exact Nat.le_of_dvd (by omega) this
theorem mul_b {j k : Nat} {a b : Int} (ha : a.natAbs < 2 ^ j) (hb : b.natAbs < 2 ^ k) (h : j + k ≤ 134217728) : mulOk a b := .inr (.inr ⟨j, k, ha, hb, h⟩)
theorem mul_lt {j k : Nat} {a b : Int} (ha : a.natAbs < 2 ^ j) (hb : b.natAbs < 2 ^ k) : (a * b).natAbs < 2 ^ (j + k) := by
  rw [Int.natAbs_mul, Nat.pow_add]
  exact Nat.mul_lt_mul_of_lt_of_le ha (Nat.le_of_lt hb) (Nat.pow_pos (by decide))
theorem frD_inj {p q : Int × Int} (h : frD p = frD q) : p = q := by
  cases p; cases q
  simp [frD] at h
  rw [h.1, h.2]
theorem eqv_fr {p q : Int × Int} : PyData.eqv (frD p) (frD q) = decide (p = q) := by
  show (decide (p.1 = q.1) && (decide (p.2 = q.2) && true)) = _
  rw [Bool.and_true, Bool.eq_iff_iff]
  simp [Prod.ext_iff]
theorem eqOk_fr {p q : Int × Int} : eqOk (frD p) (frD q) := ⟨rfl, rfl, by simp [frD, PyData.depth, PyData.depthAll]⟩
section
variable {Φ : Nat → TSp} {C : Nat → PyData}
theorem wWhole : Body sWhole bWhole nWhole Φ C := by
  intro ts n Q X hq hl hp hQ hX
  match ts, hp with
  | [.d x], hp =>
    have hq2 := hQ _ _ ⟨rfl, rfl⟩
    simp [bWhole, nWhole]
    cases x <;> simp [isTy] <;> exact hq2
theorem wCount {f : Nat} (h : Φ f = sWhole.sp) : Body sCount (bCount f) nCount Φ C := by
  intro ts n Q X hq hl hp hQ hX
  match ts, hp with
  | [.d x], hp =>
    have hq2 := hQ _ _ ⟨rfl, rfl⟩
    simp [bCount, nCount]
    rw [h]
    refine ⟨rfl, trivial, fun r n' hr => ?_, fun _ _ h => h.elim⟩
    obtain ⟨rfl, rfl⟩ := hr
    cases x <;> simp [bl, wh] <;> try exact hq2
    rename_i i
    refine ⟨ltOk_int, ?_⟩
    rw [PySem.W.dataLt_int]
    have e : bl (isCnt (.int i)) = bl (!decide (i < 0)) := by
      have : isCnt (.int i) = decide (0 ≤ i) := rfl
      rw [this]
      congr 1
      by_cases c : 0 ≤ i
      · rw [decide_eq_true c, decide_eq_false (show ¬ i < 0 by omega)]; rfl
      · rw [decide_eq_false c, decide_eq_true (show i < 0 by omega)]; rfl
    rw [e] at hq2
    exact hq2
theorem wCommon (M : MonoPh Φ) : Body sCommon bCommon nCommon Φ C := by
  intro ts n Q X hq hl hp hQ hX
  match ts, hp with
  | [.d (.int a), .d (.int b)], hp =>
    have hq2 := hQ _ _ ⟨rfl, rfl⟩
    simp [bCommon, nCommon, biW]
    refine ⟨fun m ρ n' => n' = n ∧ ∃ x y : Int, ρ = [some (false, .d (.int x)), some (false, .d (.int y))] ∧ EuOk (Int.gcd a b) (x, y) ∧ m = y.toNat, ⟨_, rfl, _, _, rfl, ⟨?_, ?_, ?_⟩, rfl⟩, ?_⟩
    · show 0 ≤ (if a < 0 then -a else a)
      split <;> omega
    · show 0 ≤ (if b < 0 then -b else b)
      split <;> omega
    · show Int.gcd (if a < 0 then -a else a) (if b < 0 then -b else b) = _
      split <;> split <;> simp [Int.gcd_neg, Int.neg_gcd]
    · rintro m ρ n' ⟨rfl, x, y, rfl, e, rfl⟩
      simp [cCommon_0, cmpW, ltOk_int, PySem.W.dataLt_int]
      have hy : 0 ≤ y := e.b
      split
      · rename_i c
        simp [lCommon_1, binW]
        have s := e.step
        unfold eu at s
        rw [if_pos c] at s
        have m := emod_b (a := x) (b := y) c
        exact ⟨by omega, (x.fmod y).toNat, by omega, _, _, ⟨rfl, rfl⟩, s, rfl⟩
      · rename_i c
        have y0 : y = 0 := by omega
        subst y0
        have g := e.g
        have x0 : 0 ≤ x := e.a
        have g : Int.gcd x 0 = Int.gcd a b := g
        rw [Int.gcd_zero_right] at g
        have : x = (Int.gcd a b : Int) := by omega
        rw [this]
        exact hq2
theorem wLowest {f : Nat} (h2 : Φ f = sCommon.sp) : Body sLowest (bLowest f) nLowest Φ C := by
  intro ts n Q X hq hl hp hQ hX
  match ts, hp with
  | [.d (.int a), .d (.int b)], hp =>
    obtain ⟨p1, p2⟩ := hp
    have hq2 := hQ _ _ ⟨rfl, rfl⟩
    have g0 := gcd_pos (a := a) p1
    have lg := gcd_log (a := a) p1 p2
    simp [bLowest, nLowest]
    rw [h2]
    refine ⟨rfl, trivial, fun r n' hr => ?_, fun _ _ h => h.elim⟩
    obtain ⟨rfl, rfl⟩ := hr
    simp [cmpW, binW, ltOk_int, PySem.W.dataLt_int, datas]
    unfold ff frD K3.low at hq2
    split
    · rename_i c
      rw [if_pos c] at hq2
      refine ⟨?_, ?_, ?_, ?_, ?_, ?_⟩ <;> first | (simpa using hq2) | exact lg | exact fun _ => p1 | (rw [sizeLine_eq]; decide) | omega
    · rename_i c
      rw [if_neg c] at hq2
      refine ⟨?_, ?_, ?_, ?_, ?_, ?_⟩ <;> first | (simpa using hq2) | exact lg | exact fun _ => p1 | (rw [sizeLine_eq]; decide) | omega
theorem wFraction {f g : Nat} (h0 : Φ f = sWhole.sp) (h5 : Φ g = sLowest.sp) : Body sLowest (bFraction f g) nFraction Φ C := by
  intro ts n Q X hq hl hp hQ hX
  match ts, hp with
  | [.d (.int a), .d (.int b)], hp =>
    obtain ⟨p1, p2⟩ := hp
    have hq2 := hQ _ _ ⟨rfl, rfl⟩
    simp [bFraction, nFraction]
    rw [h0]
    refine ⟨rfl, trivial, fun r n' hr => ?_, fun _ _ h => h.elim⟩
    obtain ⟨rfl, rfl⟩ := hr
    simp [bl, wh]
    refine ⟨rfl, trivial, fun r n' hr => ?_, fun _ _ h => h.elim⟩
    obtain ⟨rfl, rfl⟩ := hr
    simp [bl, wh, cmpW]
    refine ⟨⟨rfl, rfl, by simp [PyData.depth]⟩, ?_⟩
    have e : PyData.eqv (.int b) (.int 0) = false := by
      show (b == 0) = false
      simpa using p1
    rw [e]
    simp
    rw [h5]
    refine ⟨rfl, ⟨p1, p2⟩, fun r n' hr => ?_, fun _ _ h => h.elim⟩
    obtain ⟨rfl, rfl⟩ := hr
    exact hq2
/-- the law's own -/
theorem wLow (M : MonoPh Φ) : Body sLowest bLow nLow Φ C := by
  intro ts n Q X hq hl hp hQ hX
  match ts, hp with
  | [.d (.int a), .d (.int b)], hp =>
    obtain ⟨p1, p2⟩ := hp
    have hq2 := hQ _ _ ⟨rfl, rfl⟩
    have g0 := gcd_pos (a := a) p1
    have lg := gcd_log (a := a) p1 p2
    simp [bLow, nLow, biW]
    refine ⟨fun m ρ n' => n' = n ∧ ∃ x y : Int, ρ = [some (false, .d (.int a)), some (false, .d (.int b)), some (false, .d (.int x)), some (false, .d (.int y)), none] ∧ EuOk (Int.gcd a b) (x, y) ∧ m = y.toNat, ⟨_, rfl, _, _, rfl, ⟨?_, ?_, ?_⟩, rfl⟩, ?_⟩
    · show 0 ≤ (if a < 0 then -a else a)
      split <;> omega
    · show 0 ≤ (if b < 0 then -b else b)
      split <;> omega
    · show Int.gcd (if a < 0 then -a else a) (if b < 0 then -b else b) = _
      split <;> split <;> simp [Int.gcd_neg, Int.neg_gcd]
    · rintro m ρ n' ⟨rfl, x, y, rfl, e, rfl⟩
      simp [cLow_0, cmpW, ltOk_int, PySem.W.dataLt_int]
      have hy : 0 ≤ y := e.b
      split
      · rename_i c
        simp [lLow_1, binW, biW]
        have s := e.step
        unfold eu at s
        rw [if_pos c] at s
        have m := emod_b (a := x) (b := y) c
        exact ⟨by omega, (x.fmod y).toNat, by omega, _, _, ⟨rfl, rfl⟩, s, rfl⟩
      · rename_i c
        have y0 : y = 0 := by omega
        subst y0
        have g := e.g
        have x0 : 0 ≤ x := e.a
        have g : Int.gcd x 0 = Int.gcd a b := g
        rw [Int.gcd_zero_right] at g
        have : x = (Int.gcd a b : Int) := by omega
        subst this
        by_cases c : 0 < b
        · simp [cmpW, ltOk_int, PySem.W.dataLt_int, c, binW, datas]
          have e : ff (low a b) = ⟨.d (.tuple [.int (a.fdiv (Int.gcd a b)), .int (b.fdiv (Int.gcd a b))]), false⟩ := by
            unfold ff frD K3.low
            rw [if_neg (by omega)]
          rw [e] at hq2
          refine ⟨mul_l (by decide) (by decide), ?_, lg, mul_l (by decide) (by decide), ?_, ?_, ?_⟩ <;> first | (simpa using hq2) | exact lg | exact fun _ => p1 | (rw [sizeLine_eq]; decide) | omega | exact ⟨by rw [sizeLine_eq]; decide, hq2⟩
        · simp [cmpW, ltOk_int, PySem.W.dataLt_int, c, binW, datas]
          have e : ff (low a b) = ⟨.d (.tuple [.int ((-a).fdiv (Int.gcd a b)), .int ((-b).fdiv (Int.gcd a b))]), false⟩ := by
            rw [low_neg (by omega), low_pos (by omega)]
            have e : Int.gcd (0 - a) (0 - b) = Int.gcd a b := by
              rw [Int.zero_sub, Int.zero_sub, Int.gcd_neg, Int.neg_gcd]
            rw [e, fdiv_dvd, fdiv_dvd, Int.zero_sub, Int.zero_sub]
            · rfl
            · exact (Int.dvd_neg).mpr (Int.gcd_dvd_right ..)
            · exact (Int.dvd_neg).mpr (Int.gcd_dvd_left ..)
          rw [e] at hq2
          refine ⟨mul_l (by decide) (by decide), ?_, lg, mul_l (by decide) (by decide), ?_, ?_, ?_⟩ <;> first | (simpa using hq2) | exact lg | exact fun _ => p1 | (rw [sizeLine_eq]; decide) | omega | exact ⟨by rw [sizeLine_eq]; decide, hq2⟩
theorem plus_w {f : Nat} {a b c d : Int} {n : Nat} {Q : QE} {X : TL.XE} (h5 : Φ f = sLowest.sp) (hp : big2 (a, b) (c, d)) (hq2 : Q (ff (addF (a, b) (c, d))) n) :
    mulOk a d ∧ mulOk c b ∧ mulOk b d ∧ Φ f [.d (.int (a * d + c * b)), .d (.int (b * d))] n Q X := by
  obtain ⟨⟨p1, p2⟩, ⟨q1, q2⟩, q3, q4⟩ := hp
  have p1 : 1 ≤ b := p1
  have p2 : 1 ≤ d := p2
  refine ⟨mul_b q1 q4 (by decide), mul_b q3 q2 (by decide), mul_b q2 q4 (by decide), ?_⟩
  rw [h5]
  have z : b * d ≠ 0 := Int.ne_of_gt (Int.mul_pos (by omega) (by omega))
  refine ⟨rfl, ⟨z, Nat.lt_of_lt_of_le (mul_lt q2 q4) (Nat.pow_le_pow_right (by decide) (by decide))⟩, fun r n' hr => ?_, fun _ _ h => h.elim⟩
  obtain ⟨rfl, rfl⟩ := hr
  exact hq2
theorem wPlus {f : Nat} (h5 : Φ f = sLowest.sp) : Body sPlus (bPlus f) nPlus Φ C := by
  intro ts n Q X hq hl hp hQ hX
  match ts, hp with
  | [.d (.tuple [.int a, .int b]), .d (.tuple [.int c, .int d])], hp =>
    obtain ⟨m1, m2, m3, w⟩ := plus_w (X := X) h5 hp (hQ _ _ ⟨rfl, rfl⟩)
    simp [bPlus, nPlus]
    refine ix0 (ix1 ⟨m1, ix0 (ix1 ⟨m2, ?_⟩)⟩)
    dsimp only [binW]
    exact ix1 (ix1 ⟨m3, w⟩)
theorem wLPlus {f : Nat} (h5 : Φ f = sLowest.sp) : Body sPlus (bLPlus f) nLPlus Φ C := wPlus h5
theorem wLTimes {f : Nat} (h5 : Φ f = sLowest.sp) : Body sTimes (bLTimes f) nLTimes Φ C := by
  intro ts n Q X hq hl hp hQ hX
  match ts, hp with
  | [.d (.tuple [.int a, .int b]), .d (.tuple [.int c, .int d])], hp =>
    obtain ⟨⟨p1, p2⟩, ⟨q1, q2⟩, q3, q4⟩ := hp
    have hq2 := hQ _ _ ⟨rfl, rfl⟩
    have p1 : 1 ≤ b := p1
    have p2 : 1 ≤ d := p2
    simp [bLTimes, nLTimes]
    refine ix0 (ix0 ⟨mul_b q1 q3 (by decide), ix1 (ix1 ⟨mul_b q2 q4 (by decide), ?_⟩)⟩)
    rw [h5]
    have z : b * d ≠ 0 := Int.ne_of_gt (Int.mul_pos (by omega) (by omega))
    refine ⟨rfl, ⟨z, Nat.lt_of_lt_of_le (mul_lt q2 q4) (Nat.pow_le_pow_right (by decide) (by decide))⟩, fun r n' hr => ?_, fun _ _ h => h.elim⟩
    obtain ⟨rfl, rfl⟩ := hr
    exact hq2
theorem wLess : Body sLess bLess nLess Φ C := by
  intro ts n Q X hq hl hp hQ hX
  match ts, hp with
  | [.d (.tuple [.int a, .int b]), .d (.tuple [.int c, .int d])], hp =>
    obtain ⟨_, ⟨q1, q2⟩, q3, q4⟩ := hp
    have hq2 := hQ _ _ ⟨rfl, rfl⟩
    simp [bLess, nLess]
    refine ix0 (ix1 ⟨mul_b q1 q4 (by decide), ix0 (ix1 ⟨mul_b q3 q2 (by decide), ⟨ltOk_int, ?_⟩⟩)⟩)
    rw [PySem.W.dataLt_int]
    exact hq2
theorem wLLess : Body sLess bLLess nLLess Φ C := wLess
theorem wLMinus {f : Nat} (h : Φ f = sPlus.sp) : Body sMinus (bLMinus f) nLMinus Φ C := by
  intro ts n Q X hq hl hp hQ hX
  match ts, hp with
  | [.d (.tuple [.int a, .int b]), .d (.tuple [.int c, .int d])], hp =>
    obtain ⟨p1, q1, q2⟩ := hp
    have hq2 := hQ _ _ ⟨rfl, rfl⟩
    simp [bLMinus, nLMinus]
    refine ix0 ?_
    dsimp only [binW]
    refine ix1 ?_
    simp [datas]
    refine ⟨by rw [sizeLine_eq]; decide, ?_⟩
    rw [h]
    refine ⟨rfl, ⟨p1, q1, by have := q2.neg; simpa using this⟩, fun r n' hr => ?_, fun _ _ h => h.elim⟩
    obtain ⟨rfl, rfl⟩ := hr
    have e : addF (a, b) (-c, d) = subF (a, b) (c, d) := by unfold subF; rw [Int.zero_sub]
    show Q (ff (addF (a, b) (-c, d))) _
    rw [e]
    exact hq2
end
end HL

set_option Elab.async false
set_option linter.all false
set_option maxRecDepth 100000
set_option maxHeartbeats 4000000
set_option exponentiation.threshold 10000
/-! HF2: ridges. -/
namespace HL
open PySem PySem.Spec PyProof.Rows L2 TL K3
def rD (r : List (Int × Int)) : PyData := .list (r.map frD)
def unP : PyData → Int × Int
  | .tuple [.int a, .int b] => (a, b)
  | _ => (0, 0)
def unR : PyData → List (Int × Int)
  | .list xs => xs.map unP
  | _ => []
@[simp] theorem unP_fr (p : Int × Int) : unP (frD p) = p := rfl
@[simp] theorem unR_rD (r : List (Int × Int)) : unR (rD r) = r := by
  show (r.map frD).map unP = r
  rw [List.map_map]
  have : (unP ∘ frD) = id := funext fun p => rfl
  rw [this, List.map_id]
def pt (r : List (Int × Int)) (i : Int) : Int × Int := r.getD i.toNat (0, 0)
theorem pt_nat {r : List (Int × Int)} {i : Nat} {p : Int × Int} (h : r[i]? = some p) : pt r i = p := by
  unfold pt
  rw [Int.toNat_natCast, List.getD_eq_getElem?_getD, h]; rfl
theorem pt_mem {r : List (Int × Int)} {i : Int} (h0 : 0 ≤ i) (h1 : i < r.length) : pt r i ∈ r := by
  unfold pt
  rw [List.getD_eq_getElem?_getD, List.getElem?_eq_getElem (by omega)]
  exact List.getElem_mem _
structure Rok (k : Nat) (r : List (Int × Int)) : Prop where
  two : 2 ≤ r.length
  le : r.length ≤ 1000
  asc : ∀ i j : Int, 0 ≤ i → i < j → j < r.length → (pt r i).1 < (pt r j).1
  bd : ∀ p ∈ r, Bd k p
theorem Rok.up {k k' : Nat} {r : List (Int × Int)} (h : Rok k r) (l : k ≤ k') : Rok k' r := ⟨h.two, h.le, h.asc, fun p hp => (h.bd p hp).up l⟩
theorem Rok.at_ {k : Nat} {r : List (Int × Int)} (h : Rok k r) {i : Int} (h0 : 0 ≤ i) (h1 : i < r.length) : Bd k (pt r i) := h.bd _ (pt_mem h0 h1)
theorem ix_r {r : List (Int × Int)} {i : Int} {P : TL.T → Prop} (h0 : 0 ≤ i) (h1 : i < r.length) : ixW (.d (rD r)) (.d (.int i)) P = P (.d (frD (pt r i))) := by
  have e : L2.atI (r.map frD) i = some (frD (pt r i)) := by
    have hi : i.toNat < r.length := by omega
    have e : (r.map frD)[i.toNat]? = some (frD (pt r i)) := by
      unfold pt
      rw [List.getElem?_map, List.getD_eq_getElem?_getD, List.getElem?_eq_getElem hi]
      rfl
    have := atI_nat e
    rwa [Int.toNat_of_nonneg h0] at this
  exact propext ⟨fun ⟨x, e', h⟩ => by rw [e] at e'; cases e'; exact h, fun h => ⟨_, e, h⟩⟩
theorem ix_f0 {p : Int × Int} {P : TL.T → Prop} : ixW (.d (frD p)) (.d (.int 0)) P = P (.d (.int p.1)) := ixT0
theorem ix_f1 {p : Int × Int} {P : TL.T → Prop} : ixW (.d (frD p)) (.d (.int 1)) P = P (.d (.int p.2)) := ixT1
def over (a b c : Int × Int) : Int := (c.2 - a.2) * (b.1 - a.1) - (b.2 - a.2) * (c.1 - a.1)
def Sees (r : List (Int × Int)) (i j : Int) : Prop := ∀ k : Int, min i j < k → k < max i j → over (pt r (min i j)) (pt r (max i j)) (pt r k) ≤ 0
theorem sl_r {r : List (Int × Int)} {i j : Option Int} {Q : R → Prop} : slW i j (.d (rD r)) Q = Q ⟨.d (.list (TL.cutD (r.map frD) i j)), true⟩ := rfl
theorem len_r {r : List (Int × Int)} {Q : R → Prop} : biW .len [.d (rD r)] Q = Q ⟨.d (.int r.length), false⟩ := by
  show Q ⟨.d (.int (r.map frD).length), false⟩ = _
  rw [List.length_map]
theorem cut_nat {xs : List PyData} {a b : Nat} (ha : a ≤ xs.length) (hb : b ≤ xs.length) : TL.cutD xs (some (a : Int)) (some (b : Int)) = (xs.drop a).take (b - a) := by
  unfold TL.cutD
  rw [HT.sIx_nat, HT.sIx_nat, Nat.min_eq_left ha, Nat.min_eq_left hb]
theorem mem_cut {xs : List PyData} {a b : Nat} {x : PyData} : x ∈ (xs.drop a).take (b - a) ↔ ∃ k, a ≤ k ∧ k < b ∧ xs[k]? = some x := by
  rw [List.mem_iff_getElem?]
  constructor
  · rintro ⟨i, e⟩
    rw [List.getElem?_take] at e
    split at e
    · rw [List.getElem?_drop] at e
      exact ⟨a + i, by omega, by omega, e⟩
    · cases e
  · rintro ⟨k, h1, h2, e⟩
    refine ⟨k - a, ?_⟩
    rw [List.getElem?_take, if_pos (by omega), List.getElem?_drop, show a + (k - a) = k by omega, e]
def Asc (ns : List Int) : Prop := ∀ (i : Nat) (a b : Int), ns[i]? = some a → ns[i + 1]? = some b → a < b
def sAsc : Spc := { ar := 1, pre := (fun | [.d x], _ => ∃ ns : List Int, x = .list (ns.map .int) ∧ ns.length ≤ 1000 ∧ Asc ns | _, _ => False), post := (fun _ n => fun r n' => n' = n ∧ r = bl true) }
def sIsRidge : Spc := { ar := 1, pre := (fun | [.d x], _ => ∃ r, x = rD r ∧ Rok 4000 r | _, _ => False), post := (fun _ n => fun r n' => n' = n ∧ r = bl true) }
def sChkRidge : Spc := { ar := 1, pre := (fun | [.d x], _ => ∃ r, x = rD r ∧ Rok 4000 r | _, _ => False), post := (fun _ n => fun r n' => n' = n ∧ r = nn) }
def sChkPoint : Spc := { ar := 2, pre := (fun | [.d x, .d (.int i)], _ => ∃ r, x = rD r ∧ 0 ≤ i ∧ i < r.length | _, _ => False), post := (fun _ n => fun r n' => n' = n ∧ r = nn) }
def in2 (k : Nat) : List T → Nat → Prop
  | [.d x, .d (.int i), .d (.int j)], _ => ∃ r, x = rD r ∧ Rok k r ∧ (0 ≤ i ∧ i < r.length) ∧ 0 ≤ j ∧ j < r.length
  | _, _ => False
def sChkPoints : Spc := { ar := 3, pre := in2 4000, post := (fun _ n => fun r n' => n' = n ∧ r = nn) }
def sOver : Spc := { ar := 3, pre := (fun | [.d (.tuple [.int a, .int b]), .d (.tuple [.int c, .int d]), .d (.tuple [.int e, .int f])], _ => Bd 4000 (a, b) ∧ Bd 4000 (c, d) ∧ Bd 4000 (e, f) | _, _ => False), post := (fun | [.d (.tuple [.int a, .int b]), .d (.tuple [.int c, .int d]), .d (.tuple [.int e, .int f])], n => fun r n' => n' = n ∧ r = ⟨.d (.int (over (a, b) (c, d) (e, f))), false⟩ | _, _ => fun _ _ => False) }
def sSees : Spc := { ar := 3, pre := in2 4000, post := (fun | [.d x, .d (.int i), .d (.int j)], n => fun r n' => n' = n ∧ ∃ b, r = bl b ∧ (b = true ↔ Sees (unR x) i j) | _, _ => fun _ _ => False) }
def sRidge : Spc := { ar := 3, pre := (fun | [.gen, .d (.int most), .d (.int far)], n => 2 ≤ most ∧ most ≤ 40 ∧ 0 ≤ far ∧ far ≤ 1000 ∧ n < 2 ^ 59 | _, _ => False), post := (fun | [.gen, .d (.int most), .d (.int far)], n => fun x n' => n ≤ n' ∧ n' ≤ n + 10000 ∧ ∃ r : List (Int × Int), x = ⟨.d (rD r), true⟩ ∧ Rok 10 r ∧ r.length ≤ most.toNat | _, _ => fun _ _ => False) }
theorem sub_b {k : Nat} {a b : Int} (ha : a.natAbs < 2 ^ k) (hb : b.natAbs < 2 ^ k) : (a - b).natAbs < 2 ^ (k + 1) := by
  rw [Nat.pow_succ]; omega
section
variable {Φ : Nat → TSp} {C : Nat → PyData}
theorem wAsc (M : MonoPh Φ) : Body sAsc bAsc nAsc Φ C := by
  intro ts n Q X hq hl hp hQ hX
  match ts, hp with
  | [.d x], hp =>
    obtain ⟨ns, rfl, l, a⟩ := hp
    have hq2 := hQ _ _ ⟨rfl, rfl⟩
    have hz : (sizeLine : Nat) = 16777216 := sizeLine_eq
    simp [bAsc, nAsc, biW, srcW, wipeE]
    refine ⟨by omega, ?_⟩
    refine lc_pure M (fun _ => false) id (by simp; omega) (fun x hx => ?_) ?_
    · obtain ⟨m, hm, rfl⟩ := List.mem_map.mp hx
      have hm : m < ns.length - 1 := List.mem_range.mp hm
      refine ⟨_, rfl, fun P hP => ?_, fun z => nomatch z⟩
      simp [cndW_eq, cAsc_0, stA]
      have h1 : m < ns.length := by omega
      have h2 : m + 1 < ns.length := by omega
      have e1 : L2.atI (ns.map PyData.int) (1 + (m : Int) - 1) = some (.int ns[m]) := by
        rw [show 1 + (m : Int) - 1 = (m : Nat) by omega]
        exact atI_nat (by rw [List.getElem?_map, List.getElem?_eq_getElem h1]; rfl)
      have e2 : L2.atI (ns.map PyData.int) (1 + (m : Int)) = some (.int ns[m + 1]) := by
        rw [show 1 + (m : Int) = ((m + 1 : Nat) : Int) by omega]
        exact atI_nat (by rw [List.getElem?_map, List.getElem?_eq_getElem h2]; rfl)
      refine ⟨_, e1, _, e2, ?_⟩
      simp
      refine ⟨ltOk_int, ?_⟩
      rw [PySem.W.dataLt_int, decide_eq_true (a m _ _ (List.getElem?_eq_getElem h1) (List.getElem?_eq_getElem h2))]
      simp
      exact hP
    · have e : ∀ l : List PyData, l.filter (fun _ => false) = [] := fun l => by simp
      rw [e]
      simp [datas]
      exact ⟨⟨rfl, rfl, by simp [PyData.depth, PyData.depthAll]⟩, by simpa [PyData.eqv, PyData.eqvAll, bl] using hq2⟩
theorem wIsRidge (M : MonoPh Φ) {f g : Nat} (h0 : Φ f = sWhole.sp) (h2 : Φ g = sAsc.sp) : Body sIsRidge (bIsRidge f g) nIsRidge Φ C := by
  intro ts n Q X hq hl hp hQ hX
  match ts, hp with
  | [.d x], hp =>
    obtain ⟨r, rfl, ok⟩ := hp
    have hq2 := hQ _ _ ⟨rfl, rfl⟩
    have hz : (sizeLine : Nat) = 16777216 := sizeLine_eq
    have hle := ok.le
    have htw := ok.two
    have t1 : ∀ x : PyData, x ∈ (r.map frD).map (fun _ => PyData.bool true) → x = .bool false ∨ x = .bool true := fun x hx => by
      obtain ⟨_, _, rfl⟩ := List.mem_map.mp hx
      exact .inr rfl
    have t2 : ∀ x : PyData, x ∈ (r.map frD).map (fun _ => PyData.bool true) → truD x = true := fun x hx => by
      obtain ⟨_, _, rfl⟩ := List.mem_map.mp hx
      rfl
    simp [bIsRidge, nIsRidge, rD, isTy, biW, srcW, wipeE]
    refine ⟨ltOk_int, ?_⟩
    rw [PySem.W.dataLt_int, decide_eq_false (by omega)]
    simp
    refine lc_pure M (fun _ => true) (fun _ => .bool true) (by simp; omega) (fun x hx => ?_) ?_
    · obtain ⟨p, hp, rfl⟩ := List.mem_map.mp hx
      refine ⟨_, rfl, fun P hP => by simpa [cndW_eq] using hP, fun _ P hP => ?_⟩
      simp [eltW_eq, eIsRidge_0, stA, isTy, frD, biW]
      exact ⟨eqOk_int, by rw [eqv_int]; exact hP _⟩
    · rw [List.filter_eq_self.mpr fun _ _ => rfl]
      refine ⟨t1, ?_⟩
      rw [if_pos t2]
      refine lc_pure M (fun _ => true) (fun _ => .bool true) (by simp; omega) (fun x hx => ?_) ?_
      · obtain ⟨p, hp, rfl⟩ := List.mem_map.mp hx
        refine ⟨_, rfl, fun P hP => by simpa [cndW_eq] using hP, fun _ P hP => ?_⟩
        simp [eltW_eq, eIsRidge_1, stA]
        rw [ix_f0, h0]
        refine ⟨rfl, trivial, fun r n' hr => ?_, fun _ _ h => h.elim⟩
        obtain ⟨rfl, rfl⟩ := hr
        simp [bl, wh]
        rw [ix_f1]
        refine ⟨rfl, trivial, fun r n' hr => ?_, fun _ _ h => h.elim⟩
        obtain ⟨rfl, rfl⟩ := hr
        exact hP _
      · rw [List.filter_eq_self.mpr fun _ _ => rfl]
        refine ⟨t1, ?_⟩
        rw [if_pos t2]
        refine lc_pure M (fun _ => true) (fun x => .int (unP x).1) (by simp; omega) (fun x hx => ?_) ?_
        · obtain ⟨p, hp, rfl⟩ := List.mem_map.mp hx
          refine ⟨_, rfl, fun P hP => by simpa [cndW_eq] using hP, fun _ P hP => ?_⟩
          simp [eltW_eq, eIsRidge_2, stA]
          rw [ix_f0]
          exact hP _
        · rw [List.filter_eq_self.mpr fun _ _ => rfl, h2]
          refine ⟨rfl, ⟨r.map (·.1), by simp [Function.comp_def], by simpa using hle, fun i a b e1 e2 => ?_⟩, fun r n' hr => ?_, fun _ _ h => h.elim⟩
          · rw [List.getElem?_map] at e1 e2
            obtain ⟨p, e0, rfl⟩ := Option.map_eq_some_iff.mp e1
            obtain ⟨q, e3, rfl⟩ := Option.map_eq_some_iff.mp e2
            have hi := (List.getElem?_eq_some_iff.mp e3).1
            have := ok.asc i ((i + 1 : Nat) : Int) (by omega) (by omega) (by omega)
            rwa [pt_nat e0, pt_nat e3] at this
          · obtain ⟨rfl, rfl⟩ := hr
            exact hq2
theorem wChkRidge {f : Nat} (h : Φ f = sIsRidge.sp) : Body sChkRidge (bChkRidge f) nChkRidge Φ C := by
  intro ts n Q X hq hl hp hQ hX
  match ts, hp with
  | [.d x], hp =>
    have hq2 := hQ _ _ ⟨rfl, rfl⟩
    simp [bChkRidge, nChkRidge]
    rw [h]
    refine ⟨rfl, hp, fun r n' hr => ?_, fun _ _ h => h.elim⟩
    obtain ⟨rfl, rfl⟩ := hr
    simp [bl]
    exact hq2
theorem wChkPoint {f : Nat} (h : Φ f = sCount.sp) : Body sChkPoint (bChkPoint f) nChkPoint Φ C := by
  intro ts n Q X hq hl hp hQ hX
  match ts, hp with
  | [.d x, .d (.int i)], hp =>
    obtain ⟨r, rfl, h0, h1⟩ := hp
    have hq2 := hQ _ _ ⟨rfl, rfl⟩
    simp [bChkPoint, nChkPoint]
    rw [h]
    refine ⟨rfl, trivial, fun r n' hr => ?_, fun _ _ h => h.elim⟩
    obtain ⟨rfl, rfl⟩ := hr
    simp [bl, isCnt, h0]
    rw [len_r]
    simp
    refine ⟨ltOk_int, ?_⟩
    rw [PySem.W.dataLt_int, decide_eq_true h1]
    simp
    exact hq2
theorem wChkPoints {f g : Nat} (h9 : Φ f = sChkRidge.sp) (h10 : Φ g = sChkPoint.sp) : Body sChkPoints (bChkPoints f g) nChkPoints Φ C := by
  intro ts n Q X hq hl hp hQ hX
  match ts, hp with
  | [.d x, .d (.int i), .d (.int j)], hp =>
    obtain ⟨r, rfl, ok, hi, hj⟩ := hp
    have hq2 := hQ _ _ ⟨rfl, rfl⟩
    simp [bChkPoints, nChkPoints]
    rw [h9]
    refine ⟨rfl, ⟨r, rfl, ok⟩, fun r' n' hr => ?_, fun _ _ h => h.elim⟩
    obtain ⟨rfl, rfl⟩ := hr
    rw [h10]
    refine ⟨rfl, ⟨r, rfl, hi⟩, fun r' n' hr => ?_, fun _ _ h => h.elim⟩
    obtain ⟨rfl, rfl⟩ := hr
    refine ⟨rfl, ⟨r, rfl, hj⟩, fun r' n' hr => ?_, fun _ _ h => h.elim⟩
    obtain ⟨rfl, rfl⟩ := hr
    exact hq2
theorem wOver : Body sOver bOver nOver Φ C := by
  intro ts n Q X hq hl hp hQ hX
  match ts, hp with
  | [.d (.tuple [.int a, .int b]), .d (.tuple [.int c, .int d]), .d (.tuple [.int e, .int f])], hp =>
    obtain ⟨⟨a1, a2⟩, ⟨b1, b2⟩, c1, c2⟩ := hp
    have hq2 := hQ _ _ ⟨rfl, rfl⟩
    simp [bOver, nOver, ixT0, ixT1]
    exact ⟨mul_b (sub_b c2 a2) (sub_b b1 a1) (by decide), mul_b (sub_b b2 a2) (sub_b c1 a1) (by decide), hq2⟩
theorem mem_slice {r : List (Int × Int)} {a b : Int} {x : PyData} (h0 : 0 ≤ a) (h1 : a ≤ r.length) (h2 : 0 ≤ b) (h3 : b ≤ r.length) : x ∈ TL.cutD (r.map frD) (some a) (some b) ↔ ∃ k : Int, a ≤ k ∧ k < b ∧ x = frD (pt r k) := by
  have ea : a = (a.toNat : Int) := (Int.toNat_of_nonneg h0).symm
  have eb : b = (b.toNat : Int) := (Int.toNat_of_nonneg h2).symm
  rw [ea, eb, cut_nat (by rw [List.length_map]; omega) (by rw [List.length_map]; omega), mem_cut]
  constructor
  · rintro ⟨k, c1, c2, e⟩
    rw [List.getElem?_map] at e
    obtain ⟨p, e0, rfl⟩ := Option.map_eq_some_iff.mp e
    exact ⟨k, by omega, by omega, by rw [pt_nat e0]⟩
  · rintro ⟨k, c1, c2, rfl⟩
    have hk : k.toNat < r.length := by omega
    refine ⟨k.toNat, by omega, by omega, ?_⟩
    unfold pt
    rw [List.getElem?_map, List.getD_eq_getElem?_getD, List.getElem?_eq_getElem hk]
    rfl
theorem over_call {f : Nat} {r : List (Int × Int)} {i j : Int} {p : Int × Int} {n : Nat} {Q : QE} {X : TL.XE} (h : Φ f = sOver.sp) (a : Bd 4000 (pt r i)) (b : Bd 4000 (pt r j)) (c : Bd 4000 p) (q : Q ⟨.d (.int (over (pt r i) (pt r j) p)), false⟩ n) :
    Φ f [.d (frD (pt r i)), .d (frD (pt r j)), .d (frD p)] n Q X := by
  rw [h]
  refine ⟨rfl, ⟨a, b, c⟩, fun x n' hr => ?_, fun _ _ h => h.elim⟩
  obtain ⟨rfl, rfl⟩ := hr
  exact q
theorem wSees (M : MonoPh Φ) {f : Nat} (h : Φ f = sOver.sp) : Body sSees (bSeesIn f) nSeesIn Φ C := by
  intro ts n Q X hq hl hp hQ hX
  match ts, hp with
  | [.d x, .d (.int i), .d (.int j)], hp =>
    obtain ⟨r, rfl, ok, hi, hj⟩ := hp
    have hz : (sizeLine : Nat) = 16777216 := sizeLine_eq
    have hle := ok.le
    have e1 : (if j < i then j else i) = min i j := by split <;> omega
    have e2 : (if j > i then j else i) = max i j := by split <;> omega
    simp [bSeesIn, nSeesIn, biW, datas, asgD, setAll, stA, srcW, wipeE, sl_r, bnd, isNoB]
    refine ⟨by omega, ?_⟩
    rw [show (if i < j then j else i) = max i j from e2, e1]
    generalize hlo : min i j = lo
    generalize hhi : max i j = hi'
    have ms : ∀ x, x ∈ TL.cutD (r.map frD) (some (lo + 1)) (some hi') ↔ ∃ k : Int, lo + 1 ≤ k ∧ k < hi' ∧ x = frD (pt r k) := fun x => mem_slice (by omega) (by omega) (by omega) (by omega)
    refine lc_pure M (fun _ => true) (fun x => .bool (decide (over (pt r lo) (pt r hi') (unP x) ≤ 0))) ?_ (fun x hx => ?_) ?_
    · unfold TL.cutD
      rw [List.length_take, List.length_drop, List.length_map]
      omega
    · obtain ⟨k, k1, k2, rfl⟩ := (ms x).mp hx
      refine ⟨_, rfl, fun P hP => by simpa [cndW_eq] using hP, fun _ P hP => ?_⟩
      simp [eltW_eq, eSeesIn_0, stA]
      rw [ix_r (by omega) (by omega), ix_r (by omega) (by omega)]
      refine over_call h ((ok.at_ (by omega) (by omega))) ((ok.at_ (by omega) (by omega))) ((ok.at_ (by omega) (by omega))) ?_
      simp
      refine ⟨ltOk_int, ?_⟩
      rw [PySem.W.dataLt_int]
      have e : (!decide (0 < over (pt r lo) (pt r hi') (pt r k))) = decide (over (pt r lo) (pt r hi') (pt r k) ≤ 0) := by
        rw [Bool.eq_iff_iff]; simp
      rw [e]
      exact hP false
    · rw [List.filter_eq_self.mpr fun _ _ => rfl]
      refine ⟨fun x hx => ?_, ?_⟩
      · obtain ⟨y, _, rfl⟩ := List.mem_map.mp hx
        cases decide (over (pt r lo) (pt r hi') (unP y) ≤ 0) <;> simp
      · have key : (∀ x : PyData, x ∈ (TL.cutD (r.map frD) (some (lo + 1)) (some hi')).map (fun x => PyData.bool (decide (over (pt r lo) (pt r hi') (unP x) ≤ 0))) → truD x = true) ↔ Sees r i j := by
          constructor
          · intro h k k1 k2
            rw [hlo] at k1 ⊢
            rw [hhi] at k2 ⊢
            have := h _ (List.mem_map.mpr ⟨_, (ms _).mpr ⟨k, by omega, k2, rfl⟩, rfl⟩)
            have this : decide (over (pt r lo) (pt r hi') (pt r k) ≤ 0) = true := this
            exact of_decide_eq_true this
          · intro h x hx
            obtain ⟨y, hy, rfl⟩ := List.mem_map.mp hx
            obtain ⟨k, k1, k2, rfl⟩ := (ms y).mp hy
            have := h k (by rw [hlo]; omega) (by rw [hhi]; exact k2)
            rw [hlo, hhi] at this
            exact decide_eq_true this
        refine hQ _ _ ⟨rfl, _, rfl, ?_⟩
        rw [List.all_eq_true, key, unR_rD]
theorem wDoesSee {f g : Nat} (h1 : Φ f = sChkPoints.sp) (h2 : Φ g = sSees.sp) : Body sSees (bDoesSee f g) nDoesSee Φ C := by
  intro ts n Q X hq hl hp hQ hX
  match ts, hp with
  | [.d x, .d (.int i), .d (.int j)], hp =>
    simp [bDoesSee, nDoesSee]
    rw [h1]
    refine ⟨rfl, hp, fun r' n' hr => ?_, fun _ _ h => h.elim⟩
    obtain ⟨rfl, rfl⟩ := hr
    rw [h2]
    exact ⟨rfl, hp, hQ, fun _ _ h => h.elim⟩
theorem pt_app {r : List (Int × Int)} {p : Int × Int} {i : Int} (h0 : 0 ≤ i) : (i < r.length → pt (r ++ [p]) i = pt r i) ∧ (i = r.length → pt (r ++ [p]) i = p) := by
  unfold pt
  constructor
  · intro h
    rw [List.getD_eq_getElem?_getD, List.getD_eq_getElem?_getD, List.getElem?_append_left (by omega)]
  · rintro rfl
    rw [List.getD_eq_getElem?_getD, Int.toNat_natCast, List.getElem?_append_right (Nat.le_refl _)]
    simp
/-- so far -/
structure Rg (far : Int) (r : List (Int × Int)) (h : Int) : Prop where
  asc : ∀ i j : Int, 0 ≤ i → i < j → j < r.length → (pt r i).1 < (pt r j).1
  bd : ∀ p ∈ r, -10 ≤ p.1 ∧ p.1 < h ∧ -far ≤ p.2 ∧ p.2 ≤ far
  lo : -10 ≤ h
  hi : h ≤ 10 + 10 * r.length
theorem Rg.step {far h y d : Int} {r : List (Int × Int)} (g : Rg far r h) (y1 : -far ≤ y) (y2 : y ≤ far) (d1 : 1 ≤ d) (d2 : d ≤ 10) : Rg far (r ++ [(h, y)]) (h + d) := by
  refine ⟨fun i j h0 hij hj => ?_, fun p hp => ?_, by have := g.lo; omega, by rw [List.length_append, List.length_singleton]; have := g.hi; omega⟩
  · rw [List.length_append, List.length_singleton] at hj
    obtain ⟨a1, a2⟩ := pt_app (r := r) (p := (h, y)) (i := j) (by omega)
    rw [(pt_app (r := r) (p := (h, y)) (i := i) h0).1 (by omega)]
    by_cases c : j < r.length
    · rw [a1 c]
      exact g.asc i j h0 hij c
    · rw [a2 (by omega)]
      exact (g.bd _ (pt_mem h0 (by omega))).2.1
  · rcases List.mem_append.mp hp with hp | hp
    · obtain ⟨b1, b2, b3, b4⟩ := g.bd p hp
      exact ⟨b1, by omega, b3, b4⟩
    · obtain rfl := List.mem_singleton.mp hp
      exact ⟨g.lo, by show h < h + d; omega, y1, y2⟩
theorem wRidge (M : MonoPh Φ) {f g : Nat} (hr : Φ f = sRand.sp) (hp' : Φ g = sPick.sp) : Body sRidge (bRidge f g) nRidge Φ C := by
  intro ts n Q X hq hl hp hQ hX
  match ts, hp with
  | [.gen, .d (.int most), .d (.int far)], hp =>
    obtain ⟨m1, m2, f1, f2, hn⟩ := hp
    have hz : (sizeLine : Nat) = 16777216 := sizeLine_eq
    simp [bRidge, nRidge, datas]
    rw [hr]
    refine ⟨rfl, ⟨by decide, by decide +kernel, by omega⟩, fun r n1 h => ?_, fun _ _ h => h.elim⟩
    obtain ⟨a1, a2, z, z1, z2, rfl⟩ := h
    simp [srcW]
    refine ⟨rfl, ⟨by omega, Int.lt_of_le_of_lt (show most - 1 ≤ 39 by omega) (by decide +kernel), by omega⟩, fun r n2 h => ?_, fun _ _ h => h.elim⟩
    obtain ⟨b1, b2, t, t1, t2, rfl⟩ := h
    simp
    refine ⟨by omega, by omega, ?_⟩
    have rg0 : Rg far [] (z - 10) := by
      refine ⟨fun i j h0 hij h => ?_, fun p h => ?_, by omega, ?_⟩
      · have h : j < 0 := h
        omega
      · cases h
      · show z - 10 ≤ 10 + 10 * ((0 : Nat) : Int)
        omega
    refine for_by M (fun i ρ m => ∃ (r : List (Int × Int)) (h : Int) (u : Option (Bool × T)), ρ = [some (false, .gen), some (false, .d (.int most)), some (false, .d (.int far)), some (true, .d (.list (r.map frD))), some (false, .d (.int h)), u] ∧ r.length = i ∧ Rg far r h ∧ n2 ≤ m ∧ m ≤ n2 + 200 * i) ⟨[], z - 10, none, rfl, rfl, rg0, Nat.le_refl _, Nat.le_refl _⟩ (fun i ρ m x e h => ?_) fun ρ m h => ?_
    · obtain ⟨r, h, u, rfl, hl, rg, q1, q2⟩ := h
      have hi : i < (2 + t).toNat := by
        have := (List.getElem?_eq_some_iff.mp e).1
        simpa using this
      refine ⟨_, rfl, ?_⟩
      simp [lRidge_0, stA, datas]
      refine ⟨mul_l (by decide) (by decide), ?_⟩
      rw [hr]
      refine ⟨rfl, ⟨by omega, Int.lt_of_le_of_lt (show 2 * far + 1 ≤ 2001 by omega) (by decide +kernel), by omega⟩, fun r' n3 h' => ?_, fun _ _ h => h.elim⟩
      obtain ⟨c1, c2, y, y1, y2, rfl⟩ := h'
      simp [datas]
      refine ⟨by omega, by omega, by omega, ?_⟩
      rw [hp']
      refine ⟨rfl, ⟨rfl, by decide, by decide, by omega⟩, fun r' n4 h' => ?_, fun _ _ h => h.elim⟩
      obtain ⟨d1, d2, x, hx, rfl⟩ := h'
      have hx : x ∈ [PyData.int 1, .int 3, .int 9] := hx
      have hx : ∃ b : Int, x = .int b ∧ 1 ≤ b ∧ b ≤ 9 := by
        simp at hx
        rcases hx with rfl | rfl | rfl
        · exact ⟨_, rfl, by decide, by decide⟩
        · exact ⟨_, rfl, by decide, by decide⟩
        · exact ⟨_, rfl, by decide, by decide⟩
      obtain ⟨b, rfl, b1', b2'⟩ := hx
      refine ⟨rfl, ⟨by omega, Int.lt_of_le_of_lt (show b ≤ 9 by omega) (by decide +kernel), by omega⟩, fun r' n5 h' => ?_, fun _ _ h => h.elim⟩
      obtain ⟨e1, e2, w, w1, w2, rfl⟩ := h'
      simp
      refine ⟨r ++ [(h, y - far)], h + 1 + w, by simp [frD], by simp [hl], ?_, by omega, by omega⟩
      have := rg.step (y := y - far) (d := 1 + w) (by omega) (by omega) (by omega) (by omega)
      rwa [show h + 1 + w = h + (1 + w) by omega]
    · obtain ⟨r, h, u, rfl, hl, rg, q1, q2⟩ := h
      simp at hl q2
      refine ⟨_, rfl, hQ _ _ ⟨by omega, by omega, r, rfl, ⟨by omega, by omega, rg.asc, fun p hp => ?_⟩, by omega⟩⟩
      obtain ⟨b1, b2, b3, b4⟩ := rg.bd p hp
      have := rg.hi
      constructor
      · show p.1.natAbs < 1024
        omega
      · show p.2.natAbs < 1024
        omega
theorem wSame2 (M : MonoPh Φ) (d : Nat) {f : Nat} (h10 : Φ f = (sSame d).sp) : Body (sSame (d + 1)) (bSame2 f) nSame2 Φ C := by
  intro ts n Q X hq hl hp hQ hX
  match ts, hp with
  | [.d x, .d y], hp =>
    obtain ⟨rfl, h1⟩ := hp
    have hq2 := hQ _ _ ⟨rfl, rfl⟩
    have h24 : (sizeLine : Nat) = 16777216 := sizeLine_eq
    have comp : ∀ (xs : List PyData) (ρ : Ev) (Q' : List PyData → Nat → Prop), ρ.length = 5 → (∀ x ∈ xs, okX d x) → xs.length ≤ 1000 → (∀ acc, (∀ x ∈ acc, x = .bool true) → Q' acc n) →
        lcGo (.tp [2, 3]) ρ (cndW Φ C (.c (.bool true))) (eltW Φ C (eSame2_0 f)) Q' (xs.map fun a => PyData.tuple [a, a]) [] n := fun xs ρ Q' hl hd hw h => by
      refine lc_pure M (fun _ => true) (fun _ => .bool true) (by rw [List.length_map]; omega) (fun y hy => ?_) (h _ fun y hy => ?_)
      · obtain ⟨x, hx, rfl⟩ := List.mem_map.mp hy
        match ρ, hl with
        | [a, b, c, e, o], _ =>
          refine ⟨_, rfl, fun P h => ?_, fun _ P h => ?_⟩
          · simpa [cndW_eq] using h
          · simp [eltW_eq, eSame2_0, stA]
            rw [h10]
            refine ⟨rfl, ⟨rfl, hd x hx⟩, fun r n' hr => ?_, fun _ _ h => h.elim⟩
            obtain ⟨rfl, rfl⟩ := hr
            exact h _
      · obtain ⟨z, _, rfl⟩ := List.mem_map.mp hy
        rfl
    have t1 : ∀ acc : List PyData, (∀ x ∈ acc, x = .bool true) → (∀ x ∈ acc, x = .bool false ∨ x = .bool true) := fun acc h x hx => .inr (h x hx)
    have t2 : ∀ acc : List PyData, (∀ x ∈ acc, x = .bool true) → (∀ x ∈ acc, truD x = true) := fun acc h x hx => by rw [h x hx]; rfl
    have hq3 : Q ⟨.d (.bool true), false⟩ n := hq2
    have ob : ∀ a b : Bool, eqOk (.bool a) (.bool b) := fun a b => ⟨rfl, rfl, by simp [PyData.depth]⟩
    have eb : ∀ a : Bool, PyData.eqv (.bool a) (.bool a) = true := fun a => by cases a <;> rfl
    simp [bSame2, nSame2]
    cases y with
    | none => simp [isTy, isiOk, tSame2_5, tSame2_4, tSame2_3, litIs, isD]; exact hq3
    | bool b =>
      simp [isTy, isiOk, tSame2_5, tSame2_4, tSame2_3, tSame2_2, litIs, isD, ob, eb]
      exact hq3
    | int i =>
      simp [isTy, isiOk, tSame2_5, tSame2_4, tSame2_3, tSame2_2, litIs, isD, ob, eb]
      rw [eqv_self _ rfl]
      exact ⟨⟨rfl, rfl, by simp [PyData.depth]⟩, hq3⟩
    | str z =>
      simp [isTy, isiOk, tSame2_5, tSame2_4, tSame2_3, tSame2_2, litIs, isD, ob, eb]
      rw [eqv_self _ rfl]
      exact ⟨⟨rfl, rfl, by simp [PyData.depth]⟩, hq3⟩
    | dict kvs => exact h1.elim
    | tuple xs =>
      simp [isTy, isiOk, ob, eb, biW, srcW]
      refine ⟨eqOk_int, ?_⟩
      rw [if_pos (by simp [PyData.eqv])]
      refine comp xs _ _ (by rw [wipeE_length]; rfl) h1.2 h1.1 fun acc ha => ?_
      refine ⟨t1 acc ha, ?_⟩
      first | (rw [if_pos (t2 acc ha)]; exact hq3) | (have e : acc.all truD = true := List.all_eq_true.mpr (t2 acc ha); rw [e]; exact hq3)
    | list xs =>
      simp [isTy, isiOk, ob, eb, biW, srcW]
      refine ⟨eqOk_int, ?_⟩
      rw [if_pos (by simp [PyData.eqv])]
      refine comp xs _ _ (by rw [wipeE_length]; rfl) h1.2 h1.1 fun acc ha => ?_
      refine ⟨t1 acc ha, ?_⟩
      first | (rw [if_pos (t2 acc ha)]; exact hq3) | (have e : acc.all truD = true := List.all_eq_true.mpr (t2 acc ha); rw [e]; exact hq3)
end
end HL

set_option Elab.async false
set_option linter.all false
set_option maxRecDepth 100000
set_option maxHeartbeats 4000000
namespace HL
open K3
/-! K45m: fractions as rational numbers; how high a tower must be. -/
/-- its value -/
def vl (p : Int × Int) : Rat := (p.1 : Rat) / (p.2 : Rat)
theorem ne0 {b : Int} (h : b ≠ 0) : (b : Rat) ≠ 0 := fun e => h (by exact_mod_cast e)
theorem pos0 {b : Int} (h : 0 < b) : (0 : Rat) < (b : Rat) := by exact_mod_cast h
theorem frac_eq {g a b : Rat} (h : g ≠ 0) (hb : b ≠ 0) : (g * a) / (g * b) = a / b := by grind
theorem vl_low {a b : Int} (h : b ≠ 0) : vl (K3.low a b) = (a : Rat) / (b : Rat) := by
  have pos : ∀ a b : Int, 0 < b → vl (K3.low a b) = (a : Rat) / (b : Rat) := fun a b h => by
    rw [low_pos h]
    have g := gcd_pos (a := a) (show b ≠ 0 by omega)
    obtain ⟨a', ea⟩ := Int.gcd_dvd_left (a := a) (b := b)
    obtain ⟨b', eb⟩ := Int.gcd_dvd_right (a := a) (b := b)
    have e1 : a / (Int.gcd a b : Int) = a' := by rw [Int.ediv_eq_of_eq_mul_right (by omega) ea]
    have e2 : b / (Int.gcd a b : Int) = b' := by rw [Int.ediv_eq_of_eq_mul_right (by omega) eb]
    have b0 : b' ≠ 0 := fun z => by rw [z, Int.mul_zero] at eb; omega
    show ((a / (Int.gcd a b : Int) : Int) : Rat) / ((b / (Int.gcd a b : Int) : Int) : Rat) = _
    rw [e1, e2]
    have ea' : (a : Rat) = ((Int.gcd a b : Int) : Rat) * (a' : Rat) := by rw [← Rat.intCast_mul, ← ea]
    have eb' : (b : Rat) = ((Int.gcd a b : Int) : Rat) * (b' : Rat) := by rw [← Rat.intCast_mul, ← eb]
    have hg : ((Int.gcd a b : Int) : Rat) ≠ 0 := ne0 (by omega)
    have hb : (b' : Rat) ≠ 0 := ne0 b0
    generalize ((Int.gcd a b : Int) : Rat) = g' at *
    rw [ea', eb', frac_eq hg hb]
  rcases Int.lt_trichotomy b 0 with c | c | c
  · rw [low_neg c, pos _ _ (by omega)]
    have hb : (b : Rat) ≠ 0 := ne0 h
    rw [Rat.intCast_sub, Rat.intCast_sub]
    grind
  · exact absurd c h
  · exact pos _ _ c
theorem vl_add {p q : Int × Int} (h1 : 1 ≤ p.2) (h2 : 1 ≤ q.2) : vl (addF p q) = vl p + vl q := by
  have a : (p.2 : Rat) ≠ 0 := ne0 (by omega)
  have b : (q.2 : Rat) ≠ 0 := ne0 (by omega)
  unfold addF
  rw [vl_low (Int.ne_of_gt (Int.mul_pos (by omega) (by omega)))]
  unfold vl
  rw [Rat.intCast_add, Rat.intCast_mul, Rat.intCast_mul, Rat.intCast_mul]
  grind
theorem vl_mul {p q : Int × Int} (h1 : 1 ≤ p.2) (h2 : 1 ≤ q.2) : vl (mulF p q) = vl p * vl q := by
  have a : (p.2 : Rat) ≠ 0 := ne0 (by omega)
  have b : (q.2 : Rat) ≠ 0 := ne0 (by omega)
  unfold mulF
  rw [vl_low (Int.ne_of_gt (Int.mul_pos (by omega) (by omega)))]
  unfold vl
  rw [Rat.intCast_mul, Rat.intCast_mul]
  grind
theorem vl_neg {q : Int × Int} : vl (0 - q.1, q.2) = - vl q := by
  unfold vl
  rw [Rat.intCast_sub]
  grind
theorem vl_sub {p q : Int × Int} (h1 : 1 ≤ p.2) (h2 : 1 ≤ q.2) : vl (subF p q) = vl p - vl q := by
  unfold subF
  rw [vl_add (q := (0 - q.1, q.2)) h1 h2, vl_neg]
  grind
theorem div_lt {a b c d : Rat} (hb : 0 < b) (hd : 0 < d) : a / b < c / d ↔ a * d < c * b := by
  have hd0 : d ≠ 0 := by grind
  rw [Rat.div_lt_iff hb, show c / d * b = c * b / d by grind, Rat.lt_div_iff hd]
theorem lessF_iff {p q : Int × Int} (h1 : 1 ≤ p.2) (h2 : 1 ≤ q.2) : lessF p q = true ↔ vl p < vl q := by
  unfold lessF vl
  rw [decide_eq_true_iff, div_lt (pos0 (by omega)) (pos0 (by omega)), ← Rat.intCast_mul, ← Rat.intCast_mul, Rat.intCast_lt_intCast]
theorem vl_int {a : Int} : vl (a, 1) = (a : Rat) := by
  unfold vl
  show (a : Rat) / ((1 : Int) : Rat) = _
  have : ((1 : Int) : Rat) = 1 := rfl
  rw [this]; grind
/-- the height that the point k asks for, seen from e -/
def wv (s e k : Int × Int) : Rat := ((k.2 - e.2 : Int) : Rat) * ((s.1 - e.1).natAbs : Int) / (((k.1 - e.1).natAbs : Int) : Rat) + ((e.2 - s.2 : Int) : Rat)
def Btw (s e k : Int × Int) : Prop := (s.1 < k.1 ∧ k.1 < e.1) ∨ (e.1 < k.1 ∧ k.1 < s.1)
theorem tri {D E ys ye yk h : Rat} (hD : 0 < D) (hE : 0 < E) : (ys + h) + (D - E) / D * (ye - (ys + h)) < yk ↔ h < (yk - ye) * D / E + (ye - ys) := by
  have d0 : D ≠ 0 := by grind
  have e0 : E ≠ 0 := by grind
  rw [← Rat.mul_lt_mul_right hD, ← Rat.mul_lt_mul_right (a := h) hE]
  rw [show (ys + h + (D - E) / D * (ye - (ys + h))) * D = (ys + h) * E + (D - E) * ye by grind, show ((yk - ye) * D / E + (ye - ys)) * E = (yk - ye) * D + (ye - ys) * E by grind]
  constructor
  · intro h; grind
  · intro h; grind
theorem low0 {D E ys ye yk : Rat} (hE : 0 < E) : 0 < (yk - ye) * D / E + (ye - ys) ↔ 0 < (yk - ye) * D + (ye - ys) * E := by
  have e0 : E ≠ 0 := by grind
  rw [← Rat.mul_lt_mul_right (a := 0) hE, show ((yk - ye) * D / E + (ye - ys)) * E = (yk - ye) * D + (ye - ys) * E by grind, Rat.zero_mul]
/-- the line's height at k is below k EXACTLY IF h is below what k asks for -/
theorem line_iff {s e k h : Int × Int} (b : Btw s e k) (hh : 1 ≤ h.2) : lessF (addF (addF (s.2, 1) h) (mulF (K3.low (k.1 - s.1) (e.1 - s.1)) (subF (e.2, 1) (addF (s.2, 1) h)))) (k.2, 1) = true ↔ vl h < wv s e k := by
  have d0 : e.1 - s.1 ≠ 0 := by rcases b with b | b <;> omega
  have t2 : 1 ≤ (addF (s.2, 1) h).2 := (low_isFr (Int.ne_of_gt (Int.mul_pos (show (0 : Int) < 1 by decide) (by omega)))).1
  have l2 := (low_isFr (a := k.1 - s.1) d0).1
  have u2 : 1 ≤ (subF (e.2, 1) (addF (s.2, 1) h)).2 := (low_isFr (Int.ne_of_gt (Int.mul_pos (show (0 : Int) < 1 by decide) (show 0 < (addF (s.2, 1) h).2 by omega)))).1
  have m2 : 1 ≤ (mulF (K3.low (k.1 - s.1) (e.1 - s.1)) (subF (e.2, 1) (addF (s.2, 1) h))).2 := (low_isFr (Int.ne_of_gt (Int.mul_pos (by omega) (by omega)))).1
  have a2 : 1 ≤ (addF (addF (s.2, 1) h) (mulF (K3.low (k.1 - s.1) (e.1 - s.1)) (subF (e.2, 1) (addF (s.2, 1) h)))).2 := (low_isFr (Int.ne_of_gt (Int.mul_pos (by omega) (by omega)))).1
  rw [lessF_iff a2 (Int.le_refl 1), vl_add t2 m2, vl_mul l2 u2, vl_low d0, vl_sub (Int.le_refl 1) t2, vl_add (Int.le_refl 1) hh, vl_int, vl_int, vl_int]
  unfold wv
  have key : ∀ D E : Int, 0 < D → 0 < E → ((k.1 - s.1 : Int) : Rat) / ((e.1 - s.1 : Int) : Rat) = ((D : Rat) - E) / D → (s.1 - e.1).natAbs = D → (k.1 - e.1).natAbs = E →
      (((s.2 : Rat) + vl h + ((k.1 - s.1 : Int) : Rat) / ((e.1 - s.1 : Int) : Rat) * ((e.2 : Rat) - ((s.2 : Rat) + vl h)) < (k.2 : Rat)) ↔ vl h < ((k.2 - e.2 : Int) : Rat) * ((s.1 - e.1).natAbs : Int) / (((k.1 - e.1).natAbs : Int) : Rat) + ((e.2 - s.2 : Int) : Rat)) := fun D E hD hE h1 h2 h3 => by
    rw [h1, h2, h3, tri (pos0 hD) (pos0 hE), Rat.intCast_sub, Rat.intCast_sub]
  rcases b with ⟨b1, b2⟩ | ⟨b1, b2⟩
  · refine key (e.1 - s.1) (e.1 - k.1) (by omega) (by omega) ?_ (by omega) (by omega)
    rw [← Rat.intCast_sub, show e.1 - s.1 - (e.1 - k.1) = k.1 - s.1 by omega]
  · refine key (s.1 - e.1) (k.1 - e.1) (by omega) (by omega) ?_ (by omega) (by omega)
    have h0 : ((s.1 - e.1 : Int) : Rat) ≠ 0 := ne0 (by omega)
    rw [← Rat.intCast_sub, show s.1 - e.1 - (k.1 - e.1) = -(k.1 - s.1) by omega, show e.1 - s.1 = -(s.1 - e.1) by omega, Rat.intCast_neg, Rat.intCast_neg]
    grind
/-- .. and over the straight line from s to e -/
theorem over_iff {s e k : Int × Int} (b : Btw s e k) : (s.1 < e.1 → (over s e k ≤ 0 ↔ ¬ 0 < wv s e k)) ∧ (e.1 < s.1 → (over e s k ≤ 0 ↔ ¬ 0 < wv s e k)) := by
  have key : ∀ (D E o : Int), 0 < D → 0 < E → o = (k.2 - e.2) * D + (e.2 - s.2) * E → (s.1 - e.1).natAbs = D → (k.1 - e.1).natAbs = E → (o ≤ 0 ↔ ¬ 0 < wv s e k) := fun D E o hD hE ho h2 h3 => by
    unfold wv
    rw [h2, h3, Rat.intCast_sub, Rat.intCast_sub, low0 (pos0 hE), ← Rat.intCast_sub, ← Rat.intCast_sub, ← Rat.intCast_mul, ← Rat.intCast_mul, ← Rat.intCast_add, ← ho]
    have : (0 : Rat) = ((0 : Int) : Rat) := rfl
    rw [this, Rat.intCast_lt_intCast]
    omega
  constructor
  · intro c
    have b : s.1 < k.1 ∧ k.1 < e.1 := by rcases b with b | b <;> omega
    refine key (e.1 - s.1) (e.1 - k.1) _ (by omega) (by omega) ?_ (by omega) (by omega)
    unfold over
    grind
  · intro c
    have b : e.1 < k.1 ∧ k.1 < s.1 := by rcases b with b | b <;> omega
    refine key (s.1 - e.1) (k.1 - e.1) _ (by omega) (by omega) ?_ (by omega) (by omega)
    unfold over
    grind
/-- what the program reckons -/
def want (s e k : Int × Int) : Int × Int := addF (K3.low ((k.2 - e.2) * ((s.1 - e.1).natAbs : Int)) ((k.1 - e.1).natAbs : Int)) (e.2 - s.2, 1)
theorem want_ok {s e k : Int × Int} {j : Nat} (b : Btw s e k) (hs : Bd j s) (he : Bd j e) (hk : Bd j k) : isFr (want s e k) ∧ Bd (3 * j + 5) (want s e k) ∧ vl (want s e k) = wv s e k := by
  have d0 : ((k.1 - e.1).natAbs : Int) ≠ 0 := by rcases b with b | b <;> omega
  have l := low_isFr (a := (k.2 - e.2) * ((s.1 - e.1).natAbs : Int)) d0
  have lb : Bd (2 * j + 2) (K3.low ((k.2 - e.2) * ((s.1 - e.1).natAbs : Int)) ((k.1 - e.1).natAbs : Int)) := by
    obtain ⟨q1, q2⟩ := low_le (a := (k.2 - e.2) * ((s.1 - e.1).natAbs : Int)) d0
    have m := mul_lt (sub_b hk.2 he.2) (show ((s.1 - e.1).natAbs : Int).natAbs < 2 ^ (j + 1) by rw [Int.natAbs_natCast]; exact sub_b hs.1 he.1)
    refine ⟨Nat.lt_of_le_of_lt q1 (by rwa [show 2 * j + 2 = j + 1 + (j + 1) by omega]), Nat.lt_of_le_of_lt q2 ?_⟩
    rw [Int.natAbs_natCast]
    exact Nat.lt_of_lt_of_le (sub_b hk.1 he.1) (Nat.pow_le_pow_right (by decide) (by omega))
  have rb : Bd (j + 1) (e.2 - s.2, 1) := ⟨sub_b he.2 hs.2, by show 1 < 2 ^ (j + 1); exact Nat.one_lt_two_pow (by omega)⟩
  obtain ⟨a1, a2⟩ := add_ok l.1 (Int.le_refl 1) lb rb
  refine ⟨a1, a2.up (by omega), ?_⟩
  unfold want wv
  rw [vl_add l.1 (Int.le_refl 1), vl_low d0, vl_int, Rat.intCast_mul]
end HL

set_option Elab.async false
set_option linter.all false
set_option maxRecDepth 100000
set_option maxHeartbeats 4000000
set_option exponentiation.threshold 10000
/-! HF3: showing ridges; two numbers sorted. -/
namespace HL
open PySem PySem.Spec PyProof.Rows L2 TL K3
theorem show_list {xs : List PyData} (h : ∀ x ∈ xs, x.leavesShort 64 = true ∧ x.showable = true ∧ x.weight ≤ 300 ∧ x.depth ≤ 1) (hl : xs.length ≤ 700) : showOk (.list xs) := by
  have hz : (sizeLine : Nat) = 16777216 := sizeLine_eq
  have key : PyData.leavesShortAll 64 xs = true ∧ PyData.showableAll xs = true ∧ PyData.weightAll xs ≤ 301 * xs.length ∧ PyData.depthAll xs ≤ 1 := by
    clear hl
    induction xs with
    | nil => exact ⟨rfl, rfl, Nat.le_refl _, Nat.zero_le _⟩
    | cons x xs ih =>
      obtain ⟨a1, a2, a3, a4⟩ := ih fun y hy => h y (List.mem_cons_of_mem _ hy)
      obtain ⟨b1, b2, b3, b4⟩ := h x (List.mem_cons_self ..)
      refine ⟨by rw [PyData.leavesShortAll, b1, a1]; rfl, by rw [PyData.showableAll, b2, a2]; rfl, ?_, by rw [PyData.depthAll]; omega⟩
      show x.weight + 1 + PyData.weightAll xs ≤ 301 * (xs.length + 1)
      omega
  obtain ⟨k1, k2, k3, k4⟩ := key
  refine ⟨k2, ?_, by show PyData.depthAll xs + 1 ≤ 60; omega⟩
  have := PyData.shown_le 64 (by decide) (.list xs) k1
  have e : (PyData.list xs).weight = PyData.weightAll xs := rfl
  rw [e] at this
  have : (64 + 2) * PyData.weightAll xs ≤ 66 * 210700 := Nat.mul_le_mul (by omega) (by omega)
  omega
theorem fr_small {p : Int × Int} (h : Bd 34 p) : (frD p).leavesShort 64 = true ∧ (frD p).showable = true ∧ (frD p).weight ≤ 300 ∧ (frD p).depth ≤ 1 := by
  have e : (2 : Nat) ^ 34 ≤ 10 ^ 30 := by decide
  obtain ⟨a1, a2, a3, a4, a5⟩ := goodA_all (xs := [.int p.1, .int p.2]) fun x hx => by
    have hx : x = .int p.1 ∨ x = .int p.2 := by simpa using hx
    rcases hx with rfl | rfl
    · exact goodA_int (Nat.lt_of_lt_of_le h.1 e)
    · exact goodA_int (Nat.lt_of_lt_of_le h.2 e)
  refine ⟨a1, a2, ?_, by show PyData.depthAll _ + 1 ≤ 1; omega⟩
  show PyData.weightAll _ ≤ 300
  simp at a3
  omega
theorem show_r {r : List (Int × Int)} (h : ∀ p ∈ r, Bd 34 p) (hl : r.length ≤ 700) : showOk (rD r) := show_list (fun x hx => by
  obtain ⟨p, hp, rfl⟩ := List.mem_map.mp hx
  exact fr_small (h p hp)) (by rw [List.length_map]; exact hl)
/-- two numbers sorted -/
theorem sort2 {i j : Int} : ([.int i, .int j] : List PyData).mergeSort (PySem.W.dataLe false id) = [.int (min i j), .int (max i j)] := by
  have le : ∀ a b : Int, PySem.W.dataLe false id (.int a) (.int b) = decide (a ≤ b) := fun a b => by
    show (!PySem.W.dataLt (.int b) (.int a)) = _
    rw [PySem.W.dataLt_int, Bool.eq_iff_iff]
    simp
  by_cases c : i ≤ j
  · rw [show min i j = i by omega, show max i j = j by omega]
    simp [List.mergeSort, List.MergeSort.Internal.splitInTwo, List.merge, le, c]
  · rw [show min i j = j by omega, show max i j = i by omega]
    simp [List.mergeSort, List.MergeSort.Internal.splitInTwo, List.merge, le, c]
theorem sortOk2 {i j : Int} : sortOk [.int i, .int j] := by
  have e : ∀ d ∈ ([.int i, .int j] : List PyData), ∃ k, d = .int k := fun d hd => by
    simp at hd
    rcases hd with rfl | rfl
    · exact ⟨_, rfl⟩
    · exact ⟨_, rfl⟩
  refine ⟨fun d hd d' hd' => ?_, .inr fun d hd => ?_, fun d hd => ?_, by rw [sizeLine_eq]; show 2 ≤ _; omega⟩
  · obtain ⟨k, rfl⟩ := e d hd
    obtain ⟨k', rfl⟩ := e d' hd'
    rfl
  · obtain ⟨k, rfl⟩ := e d hd
    exact ⟨by simp, by simp⟩
  · obtain ⟨k, rfl⟩ := e d hd
    simp [PyData.depth]
/-- the highest of some -/
def top (ws : List (Int × Int)) (z : Int × Int) : Int × Int := ws.foldl (fun f w => if lessF f w = true then w else f) z
theorem top_ok {K : Nat} : ∀ (ws : List (Int × Int)) (z : Int × Int), (∀ w ∈ ws, isFr w ∧ Bd K w) → isFr z → Bd K z →
    isFr (top ws z) ∧ Bd K (top ws z) ∧ ¬ vl (top ws z) < vl z ∧ (∀ w ∈ ws, ¬ vl (top ws z) < vl w) ∧ (top ws z = z ∨ ∃ w ∈ ws, top ws z = w ∧ vl z < vl w)
  | [], z, _, h1, h2 => ⟨h1, h2, (by show ¬ vl z < vl z; grind), fun w h => (List.not_mem_nil h).elim, .inl rfl⟩
  | w :: ws, z, h, h1, h2 => by
    obtain ⟨w1, w2⟩ := h w (List.mem_cons_self ..)
    have h' : ∀ w ∈ ws, isFr w ∧ Bd K w := fun x hx => h x (List.mem_cons_of_mem _ hx)
    have l := lessF_iff (p := z) (q := w) h1.1 w1.1
    have e : top (w :: ws) z = top ws (if lessF z w = true then w else z) := rfl
    rw [e]
    by_cases c : lessF z w = true
    · rw [if_pos c]
      have c' := l.mp c
      obtain ⟨r1, r2, r3, r4, r5⟩ := top_ok ws w h' w1 w2
      refine ⟨r1, r2, by grind, fun x hx => ?_, .inr ?_⟩
      · rcases List.mem_cons.mp hx with rfl | hx
        · exact r3
        · exact r4 x hx
      · rcases r5 with r5 | ⟨x, hx, r5, r6⟩
        · exact ⟨w, List.mem_cons_self .., r5, c'⟩
        · exact ⟨x, List.mem_cons_of_mem _ hx, r5, by grind⟩
    · rw [if_neg c]
      have c' : ¬ vl z < vl w := fun q => c (l.mpr q)
      obtain ⟨r1, r2, r3, r4, r5⟩ := top_ok ws z h' h1 h2
      refine ⟨r1, r2, r3, fun x hx => ?_, ?_⟩
      · rcases List.mem_cons.mp hx with rfl | hx
        · grind
        · exact r4 x hx
      · rcases r5 with r5 | ⟨x, hx, r5, r6⟩
        · exact .inl r5
        · exact .inr ⟨x, List.mem_cons_of_mem _ hx, r5, r6⟩
end HL

set_option Elab.async false
set_option linter.all false
set_option maxRecDepth 100000
set_option maxHeartbeats 4000000
/-! K44m: who sees whom; the highest bar; four points. -/
namespace HL
open PySem K3
def idx (n : Nat) : List Int := (List.range n).map fun (m : Nat) => (m : Int)
theorem mem_idx {n : Nat} {k : Int} : k ∈ idx n ↔ 0 ≤ k ∧ k < n := by
  unfold idx
  rw [List.mem_map]
  constructor
  · rintro ⟨m, hm, rfl⟩
    have := List.mem_range.mp hm
    omega
  · rintro ⟨h0, h1⟩
    exact ⟨k.toNat, List.mem_range.mpr (by omega), by omega⟩
def seesB (r : List (Int × Int)) (i j : Int) : Bool := (idx r.length).all fun k => !(decide (min i j < k) && decide (k < max i j)) || decide (over (pt r (min i j)) (pt r (max i j)) (pt r k) ≤ 0)
theorem seesB_iff {r : List (Int × Int)} {i j : Int} (hi : 0 ≤ i ∧ i < r.length) (hj : 0 ≤ j ∧ j < r.length) : seesB r i j = true ↔ Sees r i j := by
  unfold seesB
  rw [List.all_eq_true]
  constructor
  · intro h k h1 h2
    have := h k (mem_idx.mpr ⟨by omega, by omega⟩)
    simp only [h1, h2, decide_true, Bool.and_self, Bool.not_true, Bool.false_or, decide_eq_true_eq] at this
    exact this
  · intro h k _
    by_cases c : min i j < k ∧ k < max i j
    · have := h k c.1 c.2
      simp [c.1, c.2, this]
    · simp only [Bool.or_eq_true, Bool.not_eq_true', Bool.and_eq_false_iff, decide_eq_false_iff_not]
      left
      by_cases c1 : min i j < k
      · exact .inr fun z => c ⟨c1, z⟩
      · exact .inl c1
theorem seesB_comm {r : List (Int × Int)} {i j : Int} : seesB r i j = seesB r j i := by
  unfold seesB
  rw [Int.min_comm, Int.max_comm]
/-- the numbers between -/
def btwL (i j : Int) : List Int := (List.range (max i j - (min i j + 1)).toNat).map fun (m : Nat) => min i j + 1 + m
theorem mem_btwL {i j k : Int} : k ∈ btwL i j ↔ min i j < k ∧ k < max i j := by
  unfold btwL
  rw [List.mem_map]
  constructor
  · rintro ⟨m, hm, rfl⟩
    have := List.mem_range.mp hm
    omega
  · rintro ⟨h0, h1⟩
    exact ⟨(k - (min i j + 1)).toNat, List.mem_range.mpr (by omega), by omega⟩
def barS (g : Int → Int) (f : Option (Int × Int)) (k : Int) : Option (Int × Int) := if 0 < g k ∧ (∀ p, f = some p → p.2 < g k) then some (k, g k) else f
def gOver (r : List (Int × Int)) (i j k : Int) : Int := over (pt r (min i j)) (pt r (max i j)) (pt r k)
def bar (r : List (Int × Int)) (i j : Int) : Option (Int × Int) := (btwL i j).foldl (barS (gOver r i j)) none
def wid (r : List (Int × Int)) (i j : Int) : Int := (pt r (max i j)).1 - (pt r (min i j)).1
def barD (r : List (Int × Int)) (i j : Int) : Option (Int × Int) → PyData
  | none => .none
  | some p => .tuple [.int p.1, frD (K3.low p.2 (wid r i j))]
theorem bar_comm {r : List (Int × Int)} {i j : Int} : bar r i j = bar r j i ∧ wid r i j = wid r j i := by
  unfold bar wid gOver btwL
  rw [Int.min_comm, Int.max_comm]
  exact ⟨rfl, rfl⟩
theorem barS_none {g : Int → Int} : ∀ (ks : List Int) (f : Option (Int × Int)), ks.foldl (barS g) f = none ↔ f = none ∧ ∀ k ∈ ks, g k ≤ 0
  | [], f => by simp
  | k :: ks, f => by
    rw [List.foldl_cons, barS_none ks]
    unfold barS
    constructor
    · rintro ⟨h1, h2⟩
      split at h1
      · cases h1
      · rename_i c
        subst h1
        refine ⟨rfl, fun x hx => ?_⟩
        rcases List.mem_cons.mp hx with rfl | hx
        · by_cases z : 0 < g x
          · exact absurd ⟨z, fun p e => by cases e⟩ c
          · omega
        · exact h2 x hx
    · rintro ⟨rfl, h⟩
      have := h k (List.mem_cons_self ..)
      rw [if_neg fun z => by omega]
      exact ⟨rfl, fun x hx => h x (List.mem_cons_of_mem _ hx)⟩
theorem bar_none {r : List (Int × Int)} {i j : Int} : bar r i j = none ↔ Sees r i j := by
  unfold bar
  rw [barS_none]
  constructor
  · rintro ⟨_, h⟩ k h1 h2
    exact h k (mem_btwL.mpr ⟨h1, h2⟩)
  · intro h
    exact ⟨rfl, fun k hk => h k (mem_btwL.mp hk).1 (mem_btwL.mp hk).2⟩
theorem vl_lowlt {a b w : Int} (hw : 0 < w) : vl (K3.low a w) < vl (K3.low b w) ↔ a < b := by
  rw [vl_low (show w ≠ 0 by omega), vl_low (show w ≠ 0 by omega), div_lt (pos0 hw) (pos0 hw), ← Rat.intCast_mul, ← Rat.intCast_mul, Rat.intCast_lt_intCast]
  constructor
  · intro h; exact Int.lt_of_mul_lt_mul_right h (by omega)
  · intro h; exact Int.mul_lt_mul_of_pos_right h hw
theorem low_sign {a w : Int} (hw : 0 < w) : 0 < (K3.low a w).1 ↔ 0 < a := by
  have l := (low_isFr (a := a) (show w ≠ 0 by omega)).1
  have h : lessF (0, 1) (K3.low a w) = true ↔ vl (0, 1) < vl (K3.low a w) := lessF_iff (Int.le_refl 1) l
  have e : vl (0, 1) = vl (K3.low 0 w) := by
    rw [vl_low (show w ≠ 0 by omega), vl_int]
    have : ((0 : Int) : Rat) = 0 := rfl
    rw [this]; grind
  rw [e, vl_lowlt hw] at h
  rw [← h]
  unfold lessF
  rw [decide_eq_true_iff]
  show _ ↔ 0 * (K3.low a w).2 < (K3.low a w).1 * 1
  omega
theorem low_less {a b w : Int} (hw : 0 < w) : lessF (K3.low a w) (K3.low b w) = decide (a < b) := by
  rw [Bool.eq_iff_iff, lessF_iff (low_isFr (show w ≠ 0 by omega)).1 (low_isFr (show w ≠ 0 by omega)).1, vl_lowlt hw, decide_eq_true_iff]
/-! ### four points -/
theorem sign_of {x y : Int} (hy : 0 < y) (h : 0 ≤ x * y) : 0 ≤ x := by
  by_cases c : 0 ≤ x
  · exact c
  · have : x * y < 0 := Int.mul_neg_of_neg_of_pos (by omega) hy
    omega
theorem sign_of' {x y : Int} (hy : 0 < y) (h : x * y ≤ 0) : x ≤ 0 := by
  have := sign_of (x := -x) hy (by rw [Int.neg_mul]; omega)
  omega
theorem four {a b c d k : Int × Int} (h1 : a.1 < b.1) (h2 : b.1 < c.1) (h3 : c.1 < d.1) (ac : over a c b ≤ 0) (bd : over b d c ≤ 0) :
    over a d b ≤ 0 ∧ over a d c ≤ 0 ∧ (a.1 < k.1 → over a c k ≤ 0 → over a d k ≤ 0) ∧ (k.1 < d.1 → over b d k ≤ 0 → over a d k ≤ 0) := by
  have e1 : over a d b * (c.1 - b.1) = over a c b * (d.1 - b.1) + over b d c * (b.1 - a.1) := by unfold over; grind
  have e2 : over a d c * (c.1 - b.1) = over a c b * (d.1 - c.1) + over b d c * (c.1 - a.1) := by unfold over; grind
  have m : ∀ x y : Int, x ≤ 0 → 0 ≤ y → x * y ≤ 0 := fun x y hx hy => Int.mul_nonpos_of_nonpos_of_nonneg hx hy
  have r1 : over a d b ≤ 0 := sign_of' (y := c.1 - b.1) (by omega) (by
    rw [e1]
    have := m _ (d.1 - b.1) ac (by omega)
    have := m _ (b.1 - a.1) bd (by omega)
    omega)
  have r2 : over a d c ≤ 0 := sign_of' (y := c.1 - b.1) (by omega) (by
    rw [e2]
    have := m _ (d.1 - c.1) ac (by omega)
    have := m _ (c.1 - a.1) bd (by omega)
    omega)
  refine ⟨r1, r2, fun hk hc => ?_, fun hk hc => ?_⟩
  · have e : over a d k * (c.1 - a.1) = over a c k * (d.1 - a.1) + over a d c * (k.1 - a.1) := by unfold over; grind
    exact sign_of' (y := c.1 - a.1) (by omega) (by
      rw [e]
      have := m _ (d.1 - a.1) hc (by omega)
      have := m _ (k.1 - a.1) r2 (by omega)
      omega)
  · have e : over a d k * (d.1 - b.1) = over b d k * (d.1 - a.1) + over a d b * (d.1 - k.1) := by unfold over; grind
    exact sign_of' (y := d.1 - b.1) (by omega) (by
      rw [e]
      have := m _ (d.1 - a.1) hc (by omega)
      have := m _ (d.1 - k.1) r1 (by omega)
      omega)
theorem order4 {k : Nat} {r : List (Int × Int)} (ok : Rok k r) {a b c d : Int} (h0 : 0 ≤ a) (h1 : a < b) (h2 : b < c) (h3 : c < d) (h4 : d < r.length) (ac : Sees r a c) (bd : Sees r b d) : Sees r a d := by
  have x1 := ok.asc a b h0 h1 (by omega)
  have x2 := ok.asc b c (by omega) h2 (by omega)
  have x3 := ok.asc c d (by omega) h3 h4
  have q1 := ac b (by omega) (by omega)
  have q2 := bd c (by omega) (by omega)
  rw [show min a c = a by omega, show max a c = c by omega] at q1
  rw [show min b d = b by omega, show max b d = d by omega] at q2
  intro m m1 m2
  obtain ⟨_, _, f1, f2⟩ := four (k := pt r m) x1 x2 x3 q1 q2
  rw [show min a d = a by omega] at m1 ⊢
  rw [show max a d = d by omega] at m2 ⊢
  by_cases z : m < c
  · have := ac m (by omega) (by omega)
    rw [show min a c = a by omega, show max a c = c by omega] at this
    exact f1 (ok.asc a m h0 m1 (by omega)) this
  · have := bd m (by omega) (by omega)
    rw [show min b d = b by omega, show max b d = d by omega] at this
    exact f2 (ok.asc m d (by omega) m2 h4) this
/-! ### the same ridge told otherwise -/
def lateP (w h t s : Int) (p : Int × Int) : Int × Int := (p.1 * w + s, p.2 * h + t * p.1 - s)
theorem pt_map {f : Int × Int → Int × Int} {r : List (Int × Int)} {i : Int} (h0 : 0 ≤ i) (h1 : i < r.length) : pt (r.map f) i = f (pt r i) := by
  unfold pt
  rw [List.getD_eq_getElem?_getD, List.getD_eq_getElem?_getD, List.getElem?_map, List.getElem?_eq_getElem (by omega)]
  rfl
theorem over_late {w h t s : Int} {a b c : Int × Int} : over (lateP w h t s a) (lateP w h t s b) (lateP w h t s c) = over a b c * (w * h) := by
  unfold over lateP
  grind
theorem sees_late {r : List (Int × Int)} {w h t s i j : Int} (hw : 0 < w) (hh : 0 < h) (hi : 0 ≤ i ∧ i < r.length) (hj : 0 ≤ j ∧ j < r.length) : Sees (r.map (lateP w h t s)) i j ↔ Sees r i j := by
  have key : ∀ k : Int, min i j < k → k < max i j → (over (pt (r.map (lateP w h t s)) (min i j)) (pt (r.map (lateP w h t s)) (max i j)) (pt (r.map (lateP w h t s)) k) ≤ 0 ↔ over (pt r (min i j)) (pt r (max i j)) (pt r k) ≤ 0) := fun k h1 h2 => by
    rw [pt_map (by omega) (by omega), pt_map (by omega) (by omega), pt_map (by omega) (by omega), over_late]
    have p := Int.mul_pos hw hh
    exact ⟨fun z => sign_of' p z, fun z => Int.mul_nonpos_of_nonpos_of_nonneg z (by omega)⟩
  exact ⟨fun z k h1 h2 => (key k h1 h2).mp (z k h1 h2), fun z k h1 h2 => (key k h1 h2).mpr (z k h1 h2)⟩
def aboutP (p : Int × Int) : Int × Int := (0 - p.1, p.2)
theorem pt_rev {r : List (Int × Int)} {i : Int} (h0 : 0 ≤ i) (h1 : i < r.length) : pt r.reverse i = pt r (r.length - 1 - i) := by
  unfold pt
  rw [List.getD_eq_getElem?_getD, List.getD_eq_getElem?_getD, List.getElem?_reverse (by omega)]
  congr 2
  omega
theorem sees_about {r : List (Int × Int)} {i j : Int} (hi : 0 ≤ i ∧ i < r.length) (hj : 0 ≤ j ∧ j < r.length) : Sees (r.reverse.map aboutP) i j ↔ Sees r (r.length - 1 - i) (r.length - 1 - j) := by
  have e1 : min ((r.length : Int) - 1 - i) (r.length - 1 - j) = r.length - 1 - max i j := by omega
  have e2 : max ((r.length : Int) - 1 - i) (r.length - 1 - j) = r.length - 1 - min i j := by omega
  have at_ : ∀ k : Int, 0 ≤ k → k < r.length → pt (r.reverse.map aboutP) k = aboutP (pt r (r.length - 1 - k)) := fun k h0 h1 => by
    rw [pt_map h0 (by rw [List.length_reverse]; exact h1), pt_rev h0 h1]
  have ov : ∀ a b c : Int × Int, over (aboutP a) (aboutP b) (aboutP c) = over b a c := fun a b c => by unfold over aboutP; grind
  constructor
  · intro h k h1 h2
    rw [e1] at h1 ⊢
    rw [e2] at h2 ⊢
    have := h (r.length - 1 - k) (by omega) (by omega)
    rw [at_ _ (by omega) (by omega), at_ _ (by omega) (by omega), at_ _ (by omega) (by omega), ov, show (r.length : Int) - 1 - (r.length - 1 - k) = k by omega] at this
    exact this
  · intro h k h1 h2
    have := h (r.length - 1 - k) (by rw [e1]; omega) (by rw [e2]; omega)
    rw [e1, e2] at this
    rw [at_ _ (by omega) (by omega), at_ _ (by omega) (by omega), at_ _ (by omega) (by omega), ov]
    exact this
/-- who is seen -/
def seenL (r : List (Int × Int)) (i : Int) : List Int := (idx r.length).filter (seesB r i)
theorem idx_rev {n : Nat} : (idx n).reverse.map (fun k => (n : Int) - 1 - k) = idx n := by
  apply List.ext_getElem?
  intro i
  unfold idx
  by_cases h : i < n
  · rw [List.getElem?_map, List.getElem?_reverse (by simpa using h)]
    simp
    rw [List.getElem?_range (by omega), List.getElem?_range h]
    simp
    omega
  · rw [List.getElem?_eq_none (by simp; omega), List.getElem?_eq_none (by simp; omega)]
theorem seen_about {r : List (Int × Int)} (h : 0 < r.length) : seenL (r.reverse.map aboutP) 0 = (seenL r (r.length - 1)).reverse.map (fun k => (r.length : Int) - 1 - k) := by
  have hl : (r.reverse.map aboutP).length = r.length := by rw [List.length_map, List.length_reverse]
  unfold seenL
  rw [hl, ← List.filter_reverse]
  have key : ∀ l : List Int, (∀ k ∈ l, 0 ≤ k ∧ k < r.length) → (l.filter (seesB r (r.length - 1))).map (fun k => (r.length : Int) - 1 - k) = (l.map fun k => (r.length : Int) - 1 - k).filter (seesB (r.reverse.map aboutP) 0) := fun l => by
    induction l with
    | nil => intro _; rfl
    | cons x l ih =>
      intro hx
      have ih := ih fun k hk => hx k (List.mem_cons_of_mem _ hk)
      have hk := hx x (List.mem_cons_self ..)
      have e : seesB (r.reverse.map aboutP) 0 (r.length - 1 - x) = seesB r (r.length - 1) x := by
        rw [Bool.eq_iff_iff, seesB_iff (by rw [hl]; omega) (by rw [hl]; omega), seesB_iff (by omega) (by omega), sees_about (by omega) (by omega), show (r.length : Int) - 1 - (r.length - 1 - x) = x by omega, Int.sub_zero]
      rw [List.map_cons, List.filter_cons, List.filter_cons, e]
      split
      · rw [List.map_cons, ih]
      · exact ih
  rw [key _ fun k hk => mem_idx.mp (List.mem_reverse.mp hk), idx_rev]
end HL

set_option Elab.async false
set_option linter.all false
set_option maxRecDepth 100000
set_option maxHeartbeats 4000000
set_option exponentiation.threshold 10000
/-! HF4: who is seen. -/
namespace HL
open PySem PySem.Spec PyProof.Rows L2 TL K3
def intsD (l : List Int) : PyData := .list (l.map .int)
def sSeenIn : Spc := { ar := 2, pre := (fun | [.d x, .d (.int i)], _ => ∃ r, x = rD r ∧ Rok 4000 r ∧ 0 ≤ i ∧ i < r.length | _, _ => False), post := (fun | [.d x, .d (.int i)], n => fun r n' => n' = n ∧ r = ⟨.d (intsD (seenL (unR x) i)), true⟩ | _, _ => fun _ _ => False) }
def sAbove : Spc := { ar := 3, pre := (fun | [.d (.tuple [.int a, .int b]), .d (.tuple [.int c, .int d]), .d (.tuple [.int e, .int f])], _ => c - a ≠ 0 ∧ Bd 300 (a, b) ∧ Bd 300 (c, d) ∧ Bd 300 (e, f) | _, _ => False), post := (fun | [.d (.tuple [.int a, .int b]), .d (.tuple [.int c, .int d]), .d (.tuple [.int e, .int f])], n => fun r n' => n' = n ∧ r = ff (K3.low (over (a, b) (c, d) (e, f)) (c - a)) | _, _ => fun _ _ => False) }
def sLSees : Spc := { ar := 3, pre := in2 300, post := (fun | [.d x, .d (.int i), .d (.int j)], n => fun r n' => n' = n ∧ r = bl (seesB (unR x) i j) | _, _ => fun _ _ => False) }
def onI (p : Int → Bool) : PyData → Bool
  | .int k => p k
  | _ => false
theorem filter_ints {p : Int → Bool} (l : List Int) : (l.map PyData.int).filter (onI p) = (l.filter p).map PyData.int := by
  induction l with
  | nil => rfl
  | cons x l ih =>
    have e : onI p (.int x) = p x := rfl
    rw [List.map_cons, List.filter_cons, List.filter_cons, e]
    split
    · rw [List.map_cons, ih]
    · exact ih
theorem rng_idx {n : Nat} : ((List.range n).map fun (m : Nat) => PyData.int m) = (idx n).map PyData.int := by
  unfold idx
  rw [List.map_map]; rfl
theorem rng_btw {i j : Int} : ((List.range (max i j - (min i j + 1)).toNat).map fun (m : Nat) => PyData.int (min i j + 1 + m)) = (btwL i j).map PyData.int := by
  unfold btwL
  rw [List.map_map]; rfl
theorem idx_len {n : Nat} : (idx n).length = n := by unfold idx; rw [List.length_map, List.length_range]
theorem btwL_len {i j : Int} : (btwL i j).length = (max i j - (min i j + 1)).toNat := by unfold btwL; rw [List.length_map, List.length_range]
section
variable {Φ : Nat → TSp} {C : Nat → PyData}
theorem wSeenIn (M : MonoPh Φ) {f : Nat} (h : Φ f = sSees.sp) : Body sSeenIn (bSeenIn f) nSeenIn Φ C := by
  intro ts n Q X hq hl hp hQ hX
  match ts, hp with
  | [.d x, .d (.int i)], hp =>
    obtain ⟨r, rfl, ok, hi⟩ := hp
    have hq2 := hQ _ _ ⟨rfl, rfl⟩
    rw [unR_rD] at hq2
    have hz : (sizeLine : Nat) = 16777216 := sizeLine_eq
    have hle := ok.le
    simp [bSeenIn, nSeenIn, len_r, srcW, wipeE]
    refine ⟨by omega, ?_⟩
    rw [rng_idx]
    refine lc_pure M (onI (seesB r i)) id (by rw [List.length_map, idx_len]; omega) (fun x hx => ?_) ?_
    · obtain ⟨k, hk, rfl⟩ := List.mem_map.mp hx
      have hk := mem_idx.mp hk
      refine ⟨_, rfl, fun P hP => ?_, fun _ P hP => ?_⟩
      · simp [cndW_eq, cSeenIn_0, stA]
        rw [h]
        refine ⟨rfl, ⟨r, rfl, ok, hi, hk⟩, fun x n' hr => ?_, fun _ _ h => h.elim⟩
        obtain ⟨rfl, b, rfl, hb⟩ := hr
        rw [unR_rD] at hb
        have e : b = seesB r i k := by rw [Bool.eq_iff_iff, hb, seesB_iff hi hk]
        subst e
        simp [bl]
        exact hP
      · simp [eltW_eq, stA]
        exact hP _
    · rw [filter_ints, List.map_id]
      exact hq2
theorem wSeenFrom {f g k : Nat} (h1 : Φ f = sChkRidge.sp) (h2 : Φ g = sChkPoint.sp) (h3 : Φ k = sSeenIn.sp) : Body sSeenIn (bSeenFrom f g k) nSeenFrom Φ C := by
  intro ts n Q X hq hl hp hQ hX
  match ts, hp with
  | [.d x, .d (.int i)], hp =>
    obtain ⟨r, rfl, ok, hi⟩ := hp
    simp [bSeenFrom, nSeenFrom]
    rw [h1]
    refine ⟨rfl, ⟨r, rfl, ok⟩, fun x n' hr => ?_, fun _ _ h => h.elim⟩
    obtain ⟨rfl, rfl⟩ := hr
    rw [h2]
    refine ⟨rfl, ⟨r, rfl, hi⟩, fun x n' hr => ?_, fun _ _ h => h.elim⟩
    obtain ⟨rfl, rfl⟩ := hr
    rw [h3]
    exact ⟨rfl, ⟨r, rfl, ok, hi⟩, hQ, fun _ _ h => h.elim⟩
theorem wAbove {f : Nat} (h : Φ f = sLowest.sp) : Body sAbove (bAbove f) nAbove Φ C := by
  intro ts n Q X hq hl hp hQ hX
  match ts, hp with
  | [.d (.tuple [.int a, .int b]), .d (.tuple [.int c, .int d]), .d (.tuple [.int e, .int f'])], hp =>
    obtain ⟨w0, ⟨a1, a2⟩, ⟨b1, b2⟩, c1, c2⟩ := hp
    have hq2 := hQ _ _ ⟨rfl, rfl⟩
    simp [bAbove, nAbove, ixT0, ixT1]
    rw [h]
    refine ⟨mul_b (sub_b c2 a2) (sub_b b1 a1) (by decide), mul_b (sub_b b2 a2) (sub_b c1 a1) (by decide), rfl, ⟨w0, Nat.lt_trans (sub_b b1 a1) (Nat.pow_lt_pow_right (by decide) (by decide))⟩, fun r' n' hr => ?_, fun _ _ h => h.elim⟩
    obtain ⟨rfl, rfl⟩ := hr
    exact hq2
theorem above_call {f : Nat} {k : Nat} {r : List (Int × Int)} {i j m : Int} {n : Nat} {Q : QE} {X : TL.XE} (h : Φ f = sAbove.sp) (ok : Rok 300 r) (hi : 0 ≤ i ∧ i < r.length) (hj : 0 ≤ j ∧ j < r.length) (h1 : min i j < m) (h2 : m < max i j)
    (q : 0 < wid r i j → Q (ff (K3.low (gOver r i j m) (wid r i j))) n) : Φ f [.d (frD (pt r (min i j))), .d (frD (pt r (max i j))), .d (frD (pt r m))] n Q X := by
  have w0 : 0 < wid r i j := by
    unfold wid
    have := ok.asc (min i j) (max i j) (by omega) (by omega) (by omega)
    omega
  rw [h]
  refine ⟨rfl, ⟨Int.ne_of_gt w0, ok.at_ (by omega) (by omega), ok.at_ (by omega) (by omega), ok.at_ (by omega) (by omega)⟩, fun x n' hr => ?_, fun _ _ h => h.elim⟩
  obtain ⟨rfl, rfl⟩ := hr
  exact q w0
theorem wLSees (M : MonoPh Φ) {f : Nat} (h : Φ f = sAbove.sp) : Body sLSees (bLSees f) nLSees Φ C := by
  intro ts n Q X hq hl hp hQ hX
  match ts, hp with
  | [.d x, .d (.int i), .d (.int j)], hp =>
    obtain ⟨r, rfl, ok, hi, hj⟩ := hp
    have hq2 := hQ _ _ ⟨rfl, rfl⟩
    rw [unR_rD] at hq2
    have hz : (sizeLine : Nat) = 16777216 := sizeLine_eq
    have hle := ok.le
    simp [bLSees, nLSees, datas, biW, sort2, sortOk2, asgD, setAll, stA, srcW, wipeE]
    refine ⟨by omega, ⟨by omega, by omega⟩, ?_⟩
    rw [rng_btw]
    refine lc_pure M (onI fun k => decide (0 < gOver r i j k)) id (by rw [List.length_map, btwL_len]; omega) (fun x hx => ?_) ?_
    · obtain ⟨k, hk, rfl⟩ := List.mem_map.mp hx
      obtain ⟨k1, k2⟩ := mem_btwL.mp hk
      refine ⟨_, rfl, fun P hP => ?_, fun _ P hP => ?_⟩
      · simp [cndW_eq, cLSees_0, stA]
        rw [ix_r (by omega) (by omega), ix_r (by omega) (by omega), ix_r (by omega) (by omega)]
        refine above_call (k := 0) h ok hi hj k1 k2 fun w0 => ?_
        simp [ff, ix_f0]
        refine ⟨ltOk_int, ?_⟩
        rw [PySem.W.dataLt_int]
        have e : decide (0 < (K3.low (gOver r i j k) (wid r i j)).1) = decide (0 < gOver r i j k) := decide_eq_decide.mpr (low_sign w0)
        rw [e]
        exact hP
      · simp [eltW_eq, stA]
        exact hP _
    · rw [filter_ints, List.map_id]
      have pl : PyData.plainAll (((btwL i j).filter fun k => decide (0 < gOver r i j k)).map PyData.int) = true := plainAll_iff.mpr fun x hx => by
        obtain ⟨_, _, rfl⟩ := List.mem_map.mp hx
        rfl
      have dp : (PyData.list (((btwL i j).filter fun k => decide (0 < gOver r i j k)).map PyData.int)).depth ≤ 60 := by
        show PyData.depthAll _ + 1 ≤ 60
        have := depthAll_le (xs := ((btwL i j).filter fun k => decide (0 < gOver r i j k)).map PyData.int) (k := 0) |>.mpr fun x hx => by
          obtain ⟨_, _, rfl⟩ := List.mem_map.mp hx
          exact Nat.le_refl _
        omega
      refine ⟨eqOk_nil pl dp, ?_⟩
      have e : bl (seesB r i j) = ⟨.d (.bool (PyData.eqv (.list (((btwL i j).filter fun k => decide (0 < gOver r i j k)).map PyData.int)) (.list []))), false⟩ := by
        rw [eqv_nil]
        unfold bl
        congr 3
        rw [Bool.eq_iff_iff, seesB_iff hi hj, ← bar_none, List.isEmpty_iff, List.map_eq_nil_iff, List.filter_eq_nil_iff]
        unfold bar
        rw [barS_none]
        constructor
        · rintro ⟨_, z⟩ k hk
          have := z k hk
          simpa using this
        · intro z
          exact ⟨rfl, fun k hk => by have := z k hk; simpa using this⟩
      rw [← e]
      exact hq2
end
end HL

set_option Elab.async false
set_option linter.all false
set_option maxRecDepth 100000
set_option maxHeartbeats 2000000
namespace K44
open PySem PySem.Spec PyProof.Rows L2 TL HL
def top (i : Nat) : Stmt := PySem.Challenge.pw_heightbook_k44_whole_sights.main.body.getD i (.Pass ⟨0, 0, 0, 0⟩)
/-- is_whole -/
abbrev n0 : List Str := ["value"]
abbrev p0 : List Str := ["value"]
abbrev s0 : Stmt := top 5
def b0 : Ss := HL.bWhole 
/-- is_count -/
abbrev n1 : List Str := ["value"]
abbrev p1 : List Str := ["value"]
abbrev s1 : Stmt := top 6
def b1 : Ss := HL.bCount 0
/-- ascends -/
abbrev n2 : List Str := ["items", "at"]
abbrev p2 : List Str := ["items"]
abbrev s2 : Stmt := top 7
def b2 : Ss := HL.bAsc 
/-- common_of -/
abbrev n3 : List Str := ["one", "other"]
abbrev p3 : List Str := ["one", "other"]
abbrev s3 : Stmt := top 9
def b3 : Ss := HL.bCommon 
/-- lowest_of -/
abbrev n4 : List Str := ["above", "below", "part"]
abbrev p4 : List Str := ["above", "below"]
abbrev s4 : Stmt := top 10
def b4 : Ss := HL.bLowest 3
/-- fraction_of -/
abbrev n5 : List Str := ["above", "below"]
abbrev p5 : List Str := ["above", "below"]
abbrev s5 : Stmt := top 11
def b5 : Ss := HL.bFraction 0 4
/-- is_ridge -/
abbrev n6 : List Str := ["value", "point"]
abbrev p6 : List Str := ["value"]
abbrev s6 : Stmt := top 13
def b6 : Ss := HL.bIsRidge 0 2
/-- check_ridge -/
abbrev n7 : List Str := ["ridge"]
abbrev p7 : List Str := ["ridge"]
abbrev s7 : Stmt := top 14
def b7 : Ss := HL.bChkRidge 6
/-- check_point -/
abbrev n8 : List Str := ["ridge", "number"]
abbrev p8 : List Str := ["ridge", "number"]
abbrev s8 : Stmt := top 15
def b8 : Ss := HL.bChkPoint 1
/-- check_points -/
abbrev n9 : List Str := ["ridge", "one", "other"]
abbrev p9 : List Str := ["ridge", "one", "other"]
abbrev s9 : Stmt := top 16
def b9 : Ss := HL.bChkPoints 7 8
/-- over_line -/
abbrev n10 : List Str := ["one", "other", "point", "wide", "far"]
abbrev p10 : List Str := ["one", "other", "point"]
abbrev s10 : Stmt := top 17
def b10 : Ss := HL.bOver 
/-- sees_in -/
abbrev n11 : List Str := ["ridge", "one", "other", "low", "high", "point"]
abbrev p11 : List Str := ["ridge", "one", "other"]
abbrev s11 : Stmt := top 18
def b11 : Ss := HL.bSeesIn 10
/-- does_see -/
abbrev n12 : List Str := ["ridge", "one", "other"]
abbrev p12 : List Str := ["ridge", "one", "other"]
abbrev s12 : Stmt := top 19
def b12 : Ss := HL.bDoesSee 9 11
/-- seen_in -/
abbrev n13 : List Str := ["ridge", "one", "other"]
abbrev p13 : List Str := ["ridge", "one"]
abbrev s13 : Stmt := top 20
def b13 : Ss := HL.bSeenIn 11
/-- seen_from -/
abbrev n14 : List Str := ["ridge", "one"]
abbrev p14 : List Str := ["ridge", "one"]
abbrev s14 : Stmt := top 21
def b14 : Ss := HL.bSeenFrom 7 8 13
/-- barring_point -/
abbrev n15 : List Str := ["ridge", "one", "other", "low", "high", "found", "number", "above"]
abbrev p15 : List Str := ["ridge", "one", "other"]
abbrev s15 : Stmt := top 22
def l15_0 : Ss := (.cons [] (.set 7 (.call 10 (.cons (.ix (.v 0) (.v 3)) (.cons (.ix (.v 0) (.v 4)) (.cons (.ix (.v 0) (.v 6)) .nil)))))
  (.cons [] (.ite (.and (.cmp .gt (.w 7) (.c (.int 0))) (.or (.cmp .is_ (.v 5) (.c .none)) (.cmp .gt (.w 7) (.ix (.v 5) (.c (.int 1))))))
  (.cons [7] (.set 5 (.tup (.cons (.v 6) (.cons (.v 7) .nil))))
  .nil) .nil)
  .nil))
def t15_1 : Ss := (.cons [] (.ret (.ife (.cmp .is_ (.v 5) (.c .none)) (.c .none) (.tup (.cons (.ix (.v 5) (.c (.int 0))) (.cons (.call 5 (.cons (.ix (.v 5) (.c (.int 1))) (.cons (.bin .sub (.ix (.ix (.v 0) (.v 4)) (.c (.int 0))) (.ix (.ix (.v 0) (.v 3)) (.c (.int 0)))) .nil))) .nil)))))
  .nil)
def t15_2 : Ss := (.cons [] (.for_ (.nm 6) .rng2 (.cons (.bin .add (.v 3) (.c (.int 1))) (.cons (.v 4) .nil)) l15_0)
  t15_1)
def t15_3 : Ss := (.cons [] (.set 5 (.c .none))
  t15_2)
def t15_4 : Ss := (.cons [] (.par [3, 4] (.cons (.bi .min2 (.cons (.v 1) (.cons (.v 2) .nil))) (.cons (.bi .max2 (.cons (.v 1) (.cons (.v 2) .nil))) .nil)))
  t15_3)
def b15 : Ss := (.cons [] (.ex (.call 9 (.cons (.v 0) (.cons (.v 1) (.cons (.v 2) .nil)))))
  t15_4)
/-- _law_hash -/
abbrev n16 : List Str := ["seed", "index", "mixed"]
abbrev p16 : List Str := ["seed", "index"]
abbrev s16 : Stmt := top 24
def b16 : Ss := HL.bHash 
/-- _law_random -/
abbrev n17 : List Str := ["generator", "bound", "drawn", "turn"]
abbrev p17 : List Str := ["generator", "bound"]
abbrev s17 : Stmt := top 25
def b17 : Ss := HL.bRand 16
/-- _law_cell -/
abbrev n18 : List Str := ["script", "index"]
abbrev p18 : List Str := ["script", "index"]
abbrev s18 : Stmt := top 26
def b18 : Ss := HL.bCell 
/-- _law_generator -/
abbrev n19 : List Str := ["script", "index", "seed"]
abbrev p19 : List Str := ["script", "index"]
abbrev s19 : Stmt := top 27
def b19 : Ss := HL.bGen 18
/-- _law_pick -/
abbrev n20 : List Str := ["generator", "things"]
abbrev p20 : List Str := ["generator", "things"]
abbrev s20 : Stmt := top 28
def b20 : Ss := HL.bPick 17
/-- _law_same -/
abbrev n21 : List Str := ["found", "due", "one", "other", "key"]
abbrev p21 : List Str := ["found", "due"]
abbrev s21 : Stmt := top 29
def b21 : Ss := HL.bSame2 21
/-- _law_low -/
abbrev n22 : List Str := ["above", "below", "one", "other", "sign"]
abbrev p22 : List Str := ["above", "below"]
abbrev s22 : Stmt := top 30
def b22 : Ss := HL.bLow 
/-- _law_less -/
abbrev n23 : List Str := ["one", "other"]
abbrev p23 : List Str := ["one", "other"]
abbrev s23 : Stmt := top 31
def b23 : Ss := HL.bLLess 
/-- _law_drawn -/
abbrev n24 : List Str := ["generator", "things", "left", "found"]
abbrev p24 : List Str := ["generator", "things"]
abbrev s24 : Stmt := top 32
def c24_0 : E := (.cmp .ne (.w 2) (.lst .nil))
def l24_1 : Ss := (.cons [] (.papp 3 2 (.cons (.call 17 (.cons (.v 0) (.cons (.bi .len (.cons (.w 2) .nil)) .nil))) .nil))
  .nil)
def b24 : Ss := (.cons [] (.par [2, 3] (.cons (.bi .list (.cons (.v 1) .nil)) (.cons (.lst .nil) .nil)))
  (.cons [] (.whl c24_0 l24_1)
  (.cons [] (.retO 3)
  .nil)))
/-- _law_ridge -/
abbrev n25 : List Str := ["generator", "most", "far", "ridge", "here", "turn"]
abbrev p25 : List Str := ["generator", "most", "far"]
abbrev s25 : Stmt := top 33
def b25 : Ss := HL.bRidge 17 20
/-- _law_above -/
abbrev n26 : List Str := ["one", "other", "point"]
abbrev p26 : List Str := ["one", "other", "point"]
abbrev s26 : Stmt := top 34
def b26 : Ss := HL.bAbove 22
/-- _law_sees -/
abbrev n27 : List Str := ["ridge", "one", "other", "low", "high", "at"]
abbrev p27 : List Str := ["ridge", "one", "other"]
abbrev s27 : Stmt := top 35
def b27 : Ss := HL.bLSees 26
/-- _law_bar -/
abbrev n28 : List Str := ["ridge", "one", "other", "low", "high", "found", "best", "above", "at"]
abbrev p28 : List Str := ["ridge", "one", "other"]
abbrev s28 : Stmt := top 36
def e28_0 : E := (.tup (.cons (.call 26 (.cons (.ix (.v 0) (.v 3)) (.cons (.ix (.v 0) (.v 4)) (.cons (.ix (.v 0) (.v 8)) .nil)))) (.cons (.v 8) .nil)))
def l28_1 : Ss := (.cons [] (.ite (.and (.cmp .gt (.ix (.v 7) (.c (.int 0))) (.c (.int 0))) (.or (.cmp .is_ (.v 6) (.c .none)) (.call 23 (.cons (.ix (.v 6) (.c (.int 1))) (.cons (.v 7) .nil)))))
  (.cons [] (.set 6 (.tup (.cons (.v 8) (.cons (.v 7) .nil))))
  .nil) .nil)
  .nil)
def t28_2 : Ss := (.cons [] (.ret (.v 6))
  .nil)
def t28_3 : Ss := (.cons [5] (.for_ (.tp [7, 8]) .seq (.cons (.v 5) .nil) l28_1)
  t28_2)
def t28_4 : Ss := (.cons [] (.set 6 (.c .none))
  t28_3)
def t28_5 : Ss := (.cons [] (.set 5 (.lc [8] (.nm 8) .rng2 (.cons (.bin .add (.v 3) (.c (.int 1))) (.cons (.v 4) .nil)) (.c (.bool true)) e28_0))
  t28_4)
def b28 : Ss := (.cons [] (.upk [3, 4] (.bi .sorted (.cons (.lst (.cons (.v 1) (.cons (.v 2) .nil))) .nil)))
  t28_5)
/-- _law_right -/
abbrev n29 : List Str := ["generator", "ridge", "kept", "many", "sights", "one", "due", "told", "other", "bar", "turn", "row", "wide", "high", "tilt", "shift", "late", "about", "far", "height"]
abbrev p29 : List Str := ["generator", "ridge"]
abbrev s29 : Stmt := top 37
def e29_0 : E := (.call 27 (.cons (.v 1) (.cons (.v 5) (.cons (.v 8) .nil))))
def e29_1 : E := (.lc [8] (.nm 8) .rng1 (.cons (.v 3) .nil) (.c (.bool true)) e29_0)
def c29_2 : E := (.ix (.ix (.w 4) (.v 5)) (.v 8))
def l29_3 : Ss := (.cons [] (.set 9 (.call 28 (.cons (.v 1) (.cons (.v 5) (.cons (.v 8) .nil)))))
  (.cons [] (.ite (.or (.not (.call 21 (.cons (.lst (.cons (.call 12 (.cons (.v 1) (.cons (.v 5) (.cons (.v 8) .nil)))) (.cons (.callk 12 .nil [2, 1, 0] (.cons (.v 8) (.cons (.v 5) (.cons (.v 1) .nil)))) .nil))) (.cons (.bin .mul (.lst (.cons (.ix (.ix (.w 4) (.v 5)) (.v 8)) .nil)) (.c (.int 2))) .nil)))) (.cmp .ne (.cmp .is_ (.w 9) (.c .none)) (.ix (.ix (.w 4) (.v 5)) (.v 8))))
  (.cons [] (.ret (.c (.bool false)))
  .nil) .nil)
  (.cons [9] (.ite (.not (.call 21 (.cons (.lst (.cons (.call 15 (.cons (.v 1) (.cons (.v 5) (.cons (.v 8) .nil)))) (.cons (.callk 15 .nil [2, 1, 0] (.cons (.v 8) (.cons (.v 5) (.cons (.v 1) .nil)))) (.cons (.call 15 (.cons (.v 1) (.cons (.v 8) (.cons (.v 5) .nil)))) .nil)))) (.cons (.bin .mul (.lst (.cons (.v 9) .nil)) (.c (.int 3))) .nil))))
  (.cons [] (.ret (.c (.bool false)))
  .nil) .nil)
  .nil)))
def l29_4 : Ss := (.cons [] (.par [6, 7] (.cons (.lc [8] (.nm 8) .rng1 (.cons (.v 3) .nil) c29_2 (.v 8)) (.cons (.call 14 (.cons (.v 1) (.cons (.v 5) .nil))) .nil)))
  (.cons [6] (.ite (.not (.atm (.call 21 (.cons (.lst (.cons (.v 7) (.cons (.callk 14 .nil [1, 0] (.cons (.v 5) (.cons (.v 1) .nil))) .nil))) (.cons (.lst (.cons (.v 6) (.cons (.v 6) .nil))) .nil)))))
  (.cons [] (.ret (.c (.bool false)))
  .nil) .nil)
  (.cons [] (.app 7 (.c .none))
  (.cons [] (.for_ (.nm 8) .rng1 (.cons (.v 3) .nil) l29_3)
  .nil))))
def l29_5 : Ss := (.cons [] (.set 11 (.bi .sorted (.cons (.sl (.call 24 (.cons (.v 0) (.cons (.lrg (.v 3)) .nil))) (.c .none) (.c (.int 4))) .nil)))
  (.cons [] (.ite (.and (.cmp .eq (.bi .len (.cons (.w 11) .nil)) (.c (.int 4))) (.and (.ix (.ix (.w 4) (.ix (.w 11) (.c (.int 0)))) (.ix (.w 11) (.c (.int 2)))) (.and (.ix (.ix (.w 4) (.ix (.w 11) (.c (.int 1)))) (.ix (.w 11) (.c (.int 3)))) (.not (.ix (.ix (.w 4) (.ix (.w 11) (.c (.int 0)))) (.ix (.w 11) (.c (.int 3))))))))
  (.cons [] (.ret (.c (.bool false)))
  .nil) .nil)
  .nil))
def e29_6 : E := (.tup (.cons (.bin .add (.bin .mul (.v 18) (.v 12)) (.v 15)) (.cons (.bin .sub (.bin .add (.bin .mul (.v 19) (.v 13)) (.bin .mul (.v 14) (.v 18))) (.v 15)) .nil)))
def e29_7 : E := (.call 14 (.cons (.v 16) (.cons (.v 5) .nil)))
def e29_8 : E := (.call 14 (.cons (.v 1) (.cons (.v 5) .nil)))
def e29_9 : E := (.tup (.cons (.bin .sub (.c (.int 0)) (.v 18)) (.cons (.v 19) .nil)))
def e29_10 : E := (.bin .sub (.bin .sub (.v 3) (.c (.int 1))) (.v 5))
def t29_11 : Ss := (.cons [17] (.ret (.and (.cmp .eq (.call 14 (.cons (.v 17) (.cons (.c (.int 0)) .nil))) (.lc [5] (.nm 5) .seq (.cons (.rev (.call 14 (.cons (.v 1) (.cons (.bin .sub (.v 3) (.c (.int 1))) .nil)))) .nil) (.c (.bool true)) e29_10)) (.cmp .eq (.bi .repr (.cons (.v 1) .nil)) (.v 2))))
  .nil)
def t29_12 : Ss := (.cons [] (.set 17 (.lc [18, 19] (.tp [18, 19]) .seq (.cons (.rev (.v 1)) .nil) (.c (.bool true)) e29_9))
  t29_11)
def t29_13 : Ss := (.cons [16] (.ite (.cmp .ne (.lc [5] (.nm 5) .rng1 (.cons (.v 3) .nil) (.c (.bool true)) e29_7) (.lc [5] (.nm 5) .rng1 (.cons (.v 3) .nil) (.c (.bool true)) e29_8))
  (.cons [] (.ret (.c (.bool false)))
  .nil) .nil)
  t29_12)
def t29_14 : Ss := (.cons [] (.set 16 (.lc [18, 19] (.tp [18, 19]) .seq (.cons (.v 1) .nil) (.c (.bool true)) e29_6))
  t29_13)
def t29_15 : Ss := (.cons [] (.upk [12, 13, 14, 15] (.tup (.cons (.bin .add (.c (.int 1)) (.call 17 (.cons (.v 0) (.cons (.c (.int 5)) .nil)))) (.cons (.bin .add (.c (.int 1)) (.call 17 (.cons (.v 0) (.cons (.c (.int 5)) .nil)))) (.cons (.bin .sub (.call 17 (.cons (.v 0) (.cons (.c (.int 9)) .nil))) (.c (.int 4))) (.cons (.bin .sub (.call 17 (.cons (.v 0) (.cons (.c (.int 99)) .nil))) (.c (.int 50))) .nil))))))
  t29_14)
def t29_16 : Ss := (.cons [] (.for_ (.nm 10) .rng1 (.cons (.c (.int 20)) .nil) l29_5)
  t29_15)
def t29_17 : Ss := (.cons [] (.for_ (.nm 5) .rng1 (.cons (.v 3) .nil) l29_4)
  t29_16)
def t29_18 : Ss := (.cons [] (.set 4 (.lc [5] (.nm 5) .rng1 (.cons (.v 3) .nil) (.c (.bool true)) e29_1))
  t29_17)
def b29 : Ss := (.cons [] (.upk [2, 3] (.tup (.cons (.bi .repr (.cons (.v 1) .nil)) (.cons (.bi .len (.cons (.v 1) .nil)) .nil))))
  t29_18)
/-- law -/
abbrev n30 : List Str := ["script", "index", "generator", "far", "ridge"]
abbrev p30 : List Str := ["script"]
abbrev s30 : Stmt := top 38
def l30_0 : Ss := (.cons [2] (.ite (.not (.call 29 (.cons (.v 2) (.cons (.call 25 (.cons (.v 2) (.cons (.c (.int 11)) (.cons (.v 3) .nil)))) .nil))))
  (.cons [] (.ret (.c (.bool false)))
  .nil) .nil)
  .nil)
def l30_1 : Ss := (.cons [] (.set 2 (.call 19 (.cons (.v 0) (.cons (.v 1) .nil))))
  (.cons [] (.for_ (.nm 3) .seq (.cons (.lst (.cons (.c (.int 0)) (.cons (.c (.int 2)) (.cons (.c (.int 9)) (.cons (.c (.int 60)) .nil))))) .nil) l30_0)
  .nil))
def b30 : Ss := (.cons [] (.for_ (.nm 1) .rng1 (.cons (.c (.int 3)) .nil) l30_1)
  (.cons [] (.set 4 (.lst (.cons (.tup (.cons (.c (.int 0)) (.cons (.c (.int 4)) .nil))) (.cons (.tup (.cons (.c (.int 1)) (.cons (.c (.int 1)) .nil))) (.cons (.tup (.cons (.c (.int 3)) (.cons (.c (.int 5)) .nil))) (.cons (.tup (.cons (.c (.int 4)) (.cons (.c (.int 2)) .nil))) (.cons (.tup (.cons (.c (.int 6)) (.cons (.c (.int 3)) .nil))) (.cons (.tup (.cons (.c (.int 9)) (.cons (.c (.int 0)) .nil))) .nil))))))))
  (.cons [4] (.ret (.call 21 (.cons (.lst (.cons (.call 15 (.cons (.v 4) (.cons (.c (.int 0)) (.cons (.c (.int 4)) .nil)))) (.cons (.call 14 (.cons (.lst (.cons (.tup (.cons (.c (.int 0)) (.cons (.c (.int 0)) .nil))) (.cons (.tup (.cons (.c (.int 1)) (.cons (.c (.int 1)) .nil))) (.cons (.tup (.cons (.c (.int 2)) (.cons (.c (.int 2)) .nil))) (.cons (.tup (.cons (.c (.int 5)) (.cons (.c (.int 5)) .nil))) .nil))))) (.cons (.c (.int 0)) .nil))) .nil))) (.cons (.lst (.cons (.tup (.cons (.c (.int 2)) (.cons (.tup (.cons (.c (.int 3)) (.cons (.c (.int 2)) .nil))) .nil))) (.cons (.lst (.cons (.c (.int 0)) (.cons (.c (.int 1)) (.cons (.c (.int 2)) (.cons (.c (.int 3)) .nil))))) .nil))) .nil))))
  .nil)))
def tb (Φ : Nat → TSp) (k : Nat) : TCx where
  Φ := Φ
  C := fun i => ([] : List PyData).getD i .none
  nm := fun i => (["is_whole", "is_count", "ascends", "common_of", "lowest_of", "fraction_of", "is_ridge", "check_ridge", "check_point", "check_points", "over_line", "sees_in", "does_see", "seen_in", "seen_from", "barring_point", "_law_hash", "_law_random", "_law_cell", "_law_generator", "_law_pick", "_law_same", "_law_low", "_law_less", "_law_drawn", "_law_ridge", "_law_above", "_law_sees", "_law_bar", "_law_right", "law"] : List Str).getD i ""
  hf := fun i => decide (i < k)
  ar := fun i => ([1, 1, 1, 2, 2, 2, 1, 1, 2, 3, 3, 3, 3, 2, 2, 3, 2, 2, 2, 2, 2, 2, 2, 2, 2, 3, 3, 3, 3, 2, 1] : List Nat).getD i 0
  gm := fun i => ([] : List Str).getD i ""
  hc := fun i => decide (i < 0)
  cn := fun i => (["HeightError", "InvalidNumber", "InvalidRidge"] : List Str).getD i ""
  bl := ["abs", "all", "bool", "dict", "int", "isinstance", "len", "list", "max", "min", "range", "repr", "sorted", "str", "sum", "tuple", "zip"]
  kw := fun f pm n ks => decide (f < k) && decide ((f, pm, n, ks) ∈ ([(15, [2, 1, 0], 0, ["other", "one", "ridge"]), (12, [2, 1, 0], 0, ["other", "one", "ridge"]), (14, [1, 0], 0, ["one", "ridge"])] : List (Nat × List Nat × Nat × List Str)))
theorem sc0 : FnScope n0 p0 (defScope s0) := ⟨rfl, rfl, rfl, by decide +kernel, rfl, by decide +kernel, by decide +kernel⟩
theorem sc1 : FnScope n1 p1 (defScope s1) := ⟨rfl, rfl, rfl, by decide +kernel, rfl, by decide +kernel, by decide +kernel⟩
theorem sc2 : FnScope n2 p2 (defScope s2) := ⟨rfl, rfl, rfl, by decide +kernel, rfl, by decide +kernel, by decide +kernel⟩
theorem sc3 : FnScope n3 p3 (defScope s3) := ⟨rfl, rfl, rfl, by decide +kernel, rfl, by decide +kernel, by decide +kernel⟩
theorem sc4 : FnScope n4 p4 (defScope s4) := ⟨rfl, rfl, rfl, by decide +kernel, rfl, by decide +kernel, by decide +kernel⟩
theorem sc5 : FnScope n5 p5 (defScope s5) := ⟨rfl, rfl, rfl, by decide +kernel, rfl, by decide +kernel, by decide +kernel⟩
theorem sc6 : FnScope n6 p6 (defScope s6) := ⟨rfl, rfl, rfl, by decide +kernel, rfl, by decide +kernel, by decide +kernel⟩
theorem sc7 : FnScope n7 p7 (defScope s7) := ⟨rfl, rfl, rfl, by decide +kernel, rfl, by decide +kernel, by decide +kernel⟩
theorem sc8 : FnScope n8 p8 (defScope s8) := ⟨rfl, rfl, rfl, by decide +kernel, rfl, by decide +kernel, by decide +kernel⟩
theorem sc9 : FnScope n9 p9 (defScope s9) := ⟨rfl, rfl, rfl, by decide +kernel, rfl, by decide +kernel, by decide +kernel⟩
theorem sc10 : FnScope n10 p10 (defScope s10) := ⟨rfl, rfl, rfl, by decide +kernel, rfl, by decide +kernel, by decide +kernel⟩
theorem sc11 : FnScope n11 p11 (defScope s11) := ⟨rfl, rfl, rfl, by decide +kernel, rfl, by decide +kernel, by decide +kernel⟩
theorem sc12 : FnScope n12 p12 (defScope s12) := ⟨rfl, rfl, rfl, by decide +kernel, rfl, by decide +kernel, by decide +kernel⟩
theorem sc13 : FnScope n13 p13 (defScope s13) := ⟨rfl, rfl, rfl, by decide +kernel, rfl, by decide +kernel, by decide +kernel⟩
theorem sc14 : FnScope n14 p14 (defScope s14) := ⟨rfl, rfl, rfl, by decide +kernel, rfl, by decide +kernel, by decide +kernel⟩
theorem sc15 : FnScope n15 p15 (defScope s15) := ⟨rfl, rfl, rfl, by decide +kernel, rfl, by decide +kernel, by decide +kernel⟩
theorem sc16 : FnScope n16 p16 (defScope s16) := ⟨rfl, rfl, rfl, by decide +kernel, rfl, by decide +kernel, by decide +kernel⟩
theorem sc17 : FnScope n17 p17 (defScope s17) := ⟨rfl, rfl, rfl, by decide +kernel, rfl, by decide +kernel, by decide +kernel⟩
theorem sc18 : FnScope n18 p18 (defScope s18) := ⟨rfl, rfl, rfl, by decide +kernel, rfl, by decide +kernel, by decide +kernel⟩
theorem sc19 : FnScope n19 p19 (defScope s19) := ⟨rfl, rfl, rfl, by decide +kernel, rfl, by decide +kernel, by decide +kernel⟩
theorem sc20 : FnScope n20 p20 (defScope s20) := ⟨rfl, rfl, rfl, by decide +kernel, rfl, by decide +kernel, by decide +kernel⟩
theorem sc21 : FnScope n21 p21 (defScope s21) := ⟨rfl, rfl, rfl, by decide +kernel, rfl, by decide +kernel, by decide +kernel⟩
theorem sc22 : FnScope n22 p22 (defScope s22) := ⟨rfl, rfl, rfl, by decide +kernel, rfl, by decide +kernel, by decide +kernel⟩
theorem sc23 : FnScope n23 p23 (defScope s23) := ⟨rfl, rfl, rfl, by decide +kernel, rfl, by decide +kernel, by decide +kernel⟩
theorem sc24 : FnScope n24 p24 (defScope s24) := ⟨rfl, rfl, rfl, by decide +kernel, rfl, by decide +kernel, by decide +kernel⟩
theorem sc25 : FnScope n25 p25 (defScope s25) := ⟨rfl, rfl, rfl, by decide +kernel, rfl, by decide +kernel, by decide +kernel⟩
theorem sc26 : FnScope n26 p26 (defScope s26) := ⟨rfl, rfl, rfl, by decide +kernel, rfl, by decide +kernel, by decide +kernel⟩
theorem sc27 : FnScope n27 p27 (defScope s27) := ⟨rfl, rfl, rfl, by decide +kernel, rfl, by decide +kernel, by decide +kernel⟩
theorem sc28 : FnScope n28 p28 (defScope s28) := ⟨rfl, rfl, rfl, by decide +kernel, rfl, by decide +kernel, by decide +kernel⟩
theorem sc29 : FnScope n29 p29 (defScope s29) := ⟨rfl, rfl, rfl, by decide +kernel, rfl, by decide +kernel, by decide +kernel⟩
theorem sc30 : FnScope n30 p30 (defScope s30) := ⟨rfl, rfl, rfl, by decide +kernel, rfl, by decide +kernel, by decide +kernel⟩
theorem ch0 : ∀ Φ, chkSs (tb Φ 0) n0 (defScope s0) b0 (defBody s0) = true := fun _ => by kernel_rfl
theorem ch1 : ∀ Φ, chkSs (tb Φ 1) n1 (defScope s1) b1 (defBody s1) = true := fun _ => by kernel_rfl
theorem ch2 : ∀ Φ, chkSs (tb Φ 2) n2 (defScope s2) b2 (defBody s2) = true := fun _ => by kernel_rfl
theorem ch3 : ∀ Φ, chkSs (tb Φ 3) n3 (defScope s3) b3 (defBody s3) = true := fun _ => by kernel_rfl
theorem ch4 : ∀ Φ, chkSs (tb Φ 4) n4 (defScope s4) b4 (defBody s4) = true := fun _ => by kernel_rfl
theorem ch5 : ∀ Φ, chkSs (tb Φ 5) n5 (defScope s5) b5 (defBody s5) = true := fun _ => by kernel_rfl
theorem ch6 : ∀ Φ, chkSs (tb Φ 6) n6 (defScope s6) b6 (defBody s6) = true := fun _ => by kernel_rfl
theorem ch7 : ∀ Φ, chkSs (tb Φ 7) n7 (defScope s7) b7 (defBody s7) = true := fun _ => by kernel_rfl
theorem ch8 : ∀ Φ, chkSs (tb Φ 8) n8 (defScope s8) b8 (defBody s8) = true := fun _ => by kernel_rfl
theorem ch9 : ∀ Φ, chkSs (tb Φ 9) n9 (defScope s9) b9 (defBody s9) = true := fun _ => by kernel_rfl
theorem ch10 : ∀ Φ, chkSs (tb Φ 10) n10 (defScope s10) b10 (defBody s10) = true := fun _ => by kernel_rfl
theorem ch11 : ∀ Φ, chkSs (tb Φ 11) n11 (defScope s11) b11 (defBody s11) = true := fun _ => by kernel_rfl
theorem ch12 : ∀ Φ, chkSs (tb Φ 12) n12 (defScope s12) b12 (defBody s12) = true := fun _ => by kernel_rfl
theorem ch13 : ∀ Φ, chkSs (tb Φ 13) n13 (defScope s13) b13 (defBody s13) = true := fun _ => by kernel_rfl
theorem ch14 : ∀ Φ, chkSs (tb Φ 14) n14 (defScope s14) b14 (defBody s14) = true := fun _ => by kernel_rfl
theorem ch15 : ∀ Φ, chkSs (tb Φ 15) n15 (defScope s15) b15 (defBody s15) = true := fun _ => by kernel_rfl
theorem ch16 : ∀ Φ, chkSs (tb Φ 16) n16 (defScope s16) b16 (defBody s16) = true := fun _ => by kernel_rfl
theorem ch17 : ∀ Φ, chkSs (tb Φ 17) n17 (defScope s17) b17 (defBody s17) = true := fun _ => by kernel_rfl
theorem ch18 : ∀ Φ, chkSs (tb Φ 18) n18 (defScope s18) b18 (defBody s18) = true := fun _ => by kernel_rfl
theorem ch19 : ∀ Φ, chkSs (tb Φ 19) n19 (defScope s19) b19 (defBody s19) = true := fun _ => by kernel_rfl
theorem ch20 : ∀ Φ, chkSs (tb Φ 20) n20 (defScope s20) b20 (defBody s20) = true := fun _ => by kernel_rfl
theorem ch21 : ∀ Φ, chkSs (tb Φ 22) n21 (defScope s21) b21 (defBody s21) = true := fun _ => by kernel_rfl
theorem ch22 : ∀ Φ, chkSs (tb Φ 22) n22 (defScope s22) b22 (defBody s22) = true := fun _ => by kernel_rfl
theorem ch23 : ∀ Φ, chkSs (tb Φ 23) n23 (defScope s23) b23 (defBody s23) = true := fun _ => by kernel_rfl
theorem ch24 : ∀ Φ, chkSs (tb Φ 24) n24 (defScope s24) b24 (defBody s24) = true := fun _ => by kernel_rfl
theorem ch25 : ∀ Φ, chkSs (tb Φ 25) n25 (defScope s25) b25 (defBody s25) = true := fun _ => by kernel_rfl
theorem ch26 : ∀ Φ, chkSs (tb Φ 26) n26 (defScope s26) b26 (defBody s26) = true := fun _ => by kernel_rfl
theorem ch27 : ∀ Φ, chkSs (tb Φ 27) n27 (defScope s27) b27 (defBody s27) = true := fun _ => by kernel_rfl
theorem ch28 : ∀ Φ, chkSs (tb Φ 28) n28 (defScope s28) b28 (defBody s28) = true := fun _ => by kernel_rfl
theorem ch29 : ∀ Φ, chkSs (tb Φ 29) n29 (defScope s29) b29 (defBody s29) = true := fun _ => by kernel_rfl
theorem ch30 : ∀ Φ, chkSs (tb Φ 30) n30 (defScope s30) b30 (defBody s30) = true := fun _ => by kernel_rfl
end K44

set_option Elab.async false
set_option linter.all false
set_option maxRecDepth 100000
set_option maxHeartbeats 4000000
set_option exponentiation.threshold 10000
namespace K44
open PySem PySem.Spec PyProof.Rows L2 TL HL K3
def S15 : Spc := { ar := 3, pre := in2 300, post := (fun | [.d x, .d (.int i), .d (.int j)], n => fun r n' => n' = n ∧ r = ⟨.d (barD (unR x) i j (bar (unR x) i j)), false⟩ | _, _ => fun _ _ => False) }
def S24 : Spc := { ar := 2, pre := (fun | [.gen, .d x], n => ∃ ns : List Int, x = intsD ns ∧ ns.length ≤ 1000 ∧ n < 2 ^ 59 | _, _ => False), post := (fun | [.gen, .d x], n => fun r n' => n ≤ n' ∧ n' ≤ n + 64000 ∧ ∀ ns : List Int, x = intsD ns → ∃ ms, ms.Perm ns ∧ r = ⟨.d (intsD ms), true⟩ | _, _ => fun _ _ => False) }
theorem intsD_inj {a b : List Int} (h : intsD a = intsD b) : a = b := by
  have h : a.map PyData.int = b.map PyData.int := by injection h
  exact List.map_inj_right (fun x y e => by injection e) |>.mp h
def fD : Option (Int × Int) → PyData
  | none => .none
  | some p => .tuple [.int p.1, .int p.2]
theorem barS_some {g : Int → Int} {f : Option (Int × Int)} {k : Int} : barS g f k = if 0 < g k ∧ (f = none ∨ ∃ p, f = some p ∧ p.2 < g k) then some (k, g k) else f := by
  unfold barS
  congr 1
  apply propext
  constructor
  · rintro ⟨h1, h2⟩
    cases f with
    | none => exact ⟨h1, .inl rfl⟩
    | some p => exact ⟨h1, .inr ⟨p, rfl, h2 p rfl⟩⟩
  · rintro ⟨h1, h2⟩
    refine ⟨h1, fun p e => ?_⟩
    rcases h2 with h2 | ⟨q, e2, h2⟩
    · rw [h2] at e; cases e
    · rw [e2] at e; cases e; exact h2
theorem wid_pos {r : List (Int × Int)} (ok : Rok 300 r) {i j m : Int} (hi : 0 ≤ i ∧ i < r.length) (hj : 0 ≤ j ∧ j < r.length) (h1 : min i j < m) (h2 : m < max i j) : 0 < wid r i j := by
  unfold wid
  have := ok.asc (min i j) (max i j) (by omega) (by omega) (by omega)
  omega
theorem bar_mem {g : Int → Int} : ∀ (ks : List Int) (f : Option (Int × Int)) (p : Int × Int), ks.foldl (barS g) f = some p → f = some p ∨ ∃ k ∈ ks, p = (k, g k)
  | [], f, p, h => .inl h
  | k :: ks, f, p, h => by
    rw [List.foldl_cons] at h
    rcases bar_mem ks _ p h with h | ⟨x, hx, e⟩
    · unfold barS at h
      split at h
      · cases h
        exact .inr ⟨k, List.mem_cons_self .., rfl⟩
      · exact .inl h
    · exact .inr ⟨x, List.mem_cons_of_mem _ hx, e⟩
theorem erase_map {f : Int → PyData} : ∀ (l : List Int) (k : Nat), (l.map f).eraseIdx k = (l.eraseIdx k).map f
  | [], k => by simp
  | x :: l, 0 => rfl
  | x :: l, k + 1 => by
    rw [List.map_cons, List.eraseIdx_cons_succ, List.eraseIdx_cons_succ, List.map_cons, erase_map l k]
theorem erase_perm : ∀ (l : List Int) (k : Nat) (h : k < l.length), (l[k] :: l.eraseIdx k).Perm l
  | x :: l, 0, h => List.Perm.refl _
  | x :: l, k + 1, h => by
    have := erase_perm l k (by simpa using h)
    rw [List.eraseIdx_cons_succ, List.getElem_cons_succ]
    exact (List.Perm.swap x _ _).trans (this.cons x)
section
variable {Φ : Nat → TSp} {C : Nat → PyData}
theorem over_lt {r : List (Int × Int)} (ok : Rok 300 r) {i j k : Int} (hi : 0 ≤ i ∧ i < r.length) (hj : 0 ≤ j ∧ j < r.length) (h1 : min i j < k) (h2 : k < max i j) : True := trivial
theorem w15 (M : MonoPh Φ) (h5 : Φ 5 = sLowest.sp) (h9 : Φ 9 = sChkPoints.sp) (h10 : Φ 10 = sOver.sp) : Body S15 b15 n15 Φ C := by
  intro ts n Q X hq hl hp hQ hX
  match ts, hp with
  | [.d x, .d (.int i), .d (.int j)], hp =>
    obtain ⟨r, rfl, ok, hi, hj⟩ := hp
    have hq2 := hQ _ _ ⟨rfl, rfl⟩
    rw [unR_rD] at hq2
    have hz : (sizeLine : Nat) = 16777216 := sizeLine_eq
    have hle := ok.le
    have e1 : (if j < i then j else i) = min i j := by split <;> omega
    have e2 : (if i < j then j else i) = max i j := by split <;> omega
    simp [b15, n15]
    rw [h9]
    refine ⟨rfl, ⟨r, rfl, ok.up (by decide), hi, hj⟩, fun r' n' hr => ?_, fun _ _ h => h.elim⟩
    obtain ⟨rfl, rfl⟩ := hr
    simp [t15_4, biW]
    rw [e1, e2]
    simp [t15_3, t15_2, srcW]
    refine ⟨by omega, ?_⟩
    rw [rng_btw]
    refine for_by M (fun t ρ m => m = n' ∧ ∃ u v : Option (Bool × T), ρ = [some (false, .d (rD r)), some (false, .d (.int i)), some (false, .d (.int j)), some (false, .d (.int (min i j))), some (false, .d (.int (max i j))), some (false, .d (fD (((btwL i j).take t).foldl (barS (gOver r i j)) none))), u, v]) ⟨rfl, none, none, rfl⟩ (fun t ρ m x e h => ?_) fun ρ m h => ?_
    · obtain ⟨rfl, u, v, rfl⟩ := h
      rw [List.getElem?_map] at e
      obtain ⟨k, ek, rfl⟩ := Option.map_eq_some_iff.mp e
      obtain ⟨k1, k2⟩ := mem_btwL.mp (List.mem_of_getElem? ek)
      have tk : ((btwL i j).take (t + 1)).foldl (barS (gOver r i j)) none = barS (gOver r i j) (((btwL i j).take t).foldl (barS (gOver r i j)) none) k := by
        rw [List.take_add_one, ek, Option.toList_some, List.foldl_append, List.foldl_cons, List.foldl_nil]
      refine ⟨_, rfl, ?_⟩
      simp [l15_0, stA]
      rw [ix_r (by omega) (by omega), ix_r (by omega) (by omega), ix_r (by omega) (by omega)]
      refine over_call h10 ((ok.at_ (by omega) (by omega)).up (by decide)) ((ok.at_ (by omega) (by omega)).up (by decide)) ((ok.at_ (by omega) (by omega)).up (by decide)) ?_
      rw [tk, barS_some]
      generalize ((btwL i j).take t).foldl (barS (gOver r i j)) none = f
      have eg : over (pt r (min i j)) (pt r (max i j)) (pt r k) = gOver r i j k := rfl
      rw [eg]
      simp [ltOk_int, PySem.W.dataLt_int]
      by_cases c : 0 < gOver r i j k
      · cases f with
        | none => simp [c, fD, litIs, isD, datas, sizeLine_eq]
        | some p =>
          simp [c, fD, litIs, isD, ixT1, ltOk_int, PySem.W.dataLt_int]
          by_cases c2 : p.2 < gOver r i j k
          · simp [c2, datas, sizeLine_eq, fD]
          · simp [c2, fD]
      · simp [c]
    · obtain ⟨rfl, u, v, rfl⟩ := h
      have e : ((btwL i j).take ((btwL i j).map PyData.int).length).foldl (barS (gOver r i j)) none = bar r i j := by
        rw [List.length_map, List.take_length]; rfl
      rw [e]
      simp [t15_1]
      cases hb : bar r i j with
      | none =>
        rw [hb] at hq2
        simp [fD, litIs, isD]
        exact hq2
      | some p =>
        rw [hb] at hq2
        rcases bar_mem _ _ _ hb with z | ⟨k, hk, rfl⟩
        · cases z
        obtain ⟨k1, k2⟩ := mem_btwL.mp hk
        have w0 := wid_pos ok hi hj k1 k2
        simp [fD, litIs, isD, ixT0, ixT1]
        rw [ix_r (by omega) (by omega), ix_f0, ix_r (by omega) (by omega), ix_f0]
        simp
        rw [h5]
        have w0' : (pt r (max i j)).1 - (pt r (min i j)).1 ≠ 0 := Int.ne_of_gt w0
        refine ⟨rfl, ⟨w0', Nat.lt_trans (sub_b (ok.at_ (by omega) (by omega)).1 (ok.at_ (by omega) (by omega)).1) (Nat.pow_lt_pow_right (by decide) (by decide))⟩, fun x n2 hr => ?_, fun _ _ h => h.elim⟩
        obtain ⟨rfl, rfl⟩ := hr
        simp [ff, datas]
        exact ⟨by omega, hq2⟩
theorem w24 (M : MonoPh Φ) (h17 : Φ 17 = sRand.sp) : Body S24 b24 n24 Φ C := by
  intro ts n Q X hq hl hp hQ hX
  match ts, hp with
  | [.gen, .d x], hp =>
    obtain ⟨ns, rfl, l, hn⟩ := hp
    have hz : (sizeLine : Nat) = 16777216 := sizeLine_eq
    have pl : ∀ ms : List Int, PyData.plainAll (ms.map PyData.int) = true := fun ms => plainAll_iff.mpr fun x hx => by
      obtain ⟨_, _, rfl⟩ := List.mem_map.mp hx
      rfl
    have dp : ∀ ms : List Int, (PyData.list (ms.map PyData.int)).depth ≤ 60 := fun ms => by
      show PyData.depthAll _ + 1 ≤ 60
      have := depthAll_le (xs := ms.map PyData.int) (k := 0) |>.mpr fun x hx => by
        obtain ⟨_, _, rfl⟩ := List.mem_map.mp hx
        exact Nat.le_refl _
      omega
    simp [b24, n24, intsD, biW, datas]
    refine ⟨fun m ρ n' => ∃ ms fs : List Int, ρ = [some (false, .gen), some (false, .d (.list (ns.map PyData.int))), some (true, .d (.list (ms.map PyData.int))), some (true, .d (.list (fs.map PyData.int)))] ∧ (fs ++ ms).Perm ns ∧ m = ms.length ∧ n ≤ n' ∧ n' + 64 * ms.length ≤ n + 64 * ns.length, ⟨_, ns, [], rfl, List.Perm.refl _, rfl, Nat.le_refl _, Nat.le_refl _⟩, ?_⟩
    rintro m ρ n' ⟨ms, fs, rfl, pm, rfl, n1, n2⟩
    simp [c24_0, datas]
    refine ⟨eqOk_nil (pl ms) (dp ms), ?_⟩
    rw [eqv_nil]
    cases ms with
    | nil =>
      simp
      rw [List.append_nil] at pm
      refine hQ _ _ ⟨n1, by simp at n2; omega, fun ns' e => ?_⟩
      rw [← intsD_inj (show intsD ns = intsD ns' from e)]
      exact ⟨fs, pm, rfl⟩
    | cons z zs =>
      have pl2 := pm.length_eq
      rw [List.length_append] at pl2
      simp only [List.length_cons] at pl2 n2
      simp [l24_1, biW]
      refine ⟨by omega, ?_⟩
      rw [h17]
      refine ⟨rfl, ⟨by omega, Int.lt_of_le_of_lt (show (zs.length : Int) + 1 ≤ 1000 by omega) (by decide +kernel), by omega⟩, fun x n3 hr => ?_, fun _ _ h => h.elim⟩
      obtain ⟨a1, a2, k, k0, k1, rfl⟩ := hr
      have hk : k.toNat < (z :: zs).length := by rw [List.length_cons]; omega
      refine ⟨⟨by omega, by omega⟩, k.toNat, .int (z :: zs)[k.toNat], ?_, ?_, ?_⟩
      · unfold L2.ixN
        rw [if_pos k0]
        simp
        omega
      · rw [← List.map_cons, List.getElem?_map, List.getElem?_eq_getElem hk]; rfl
      · have le : ((z :: zs).eraseIdx k.toNat).length = zs.length := by rw [List.length_eraseIdx, if_pos hk]; simp
        refine ⟨((z :: zs).eraseIdx k.toNat).length, by rw [le]; exact Nat.lt_succ_self _, (z :: zs).eraseIdx k.toNat, fs ++ [(z :: zs)[k.toNat]], ⟨?_, by simp⟩, ?_, rfl, by omega, by rw [le]; omega⟩
        · rw [← List.map_cons, erase_map]
        · rw [List.append_assoc]
          exact ((erase_perm (z :: zs) k.toNat hk).append_left fs).trans pm
/-- what the law makes of the bars -/
def S28 : Spc := { ar := 3, pre := in2 300, post := (fun | [.d x, .d (.int i), .d (.int j)], n => fun r n' => n' = n ∧ r = ⟨.d (barD (unR x) i j (bar (unR x) i j)), false⟩ | _, _ => fun _ _ => False) }
theorem w28 (M : MonoPh Φ) (h23 : Φ 23 = sLess.sp) (h26 : Φ 26 = sAbove.sp) : Body S28 b28 n28 Φ C := by
  intro ts n Q X hq hl hp hQ hX
  match ts, hp with
  | [.d x, .d (.int i), .d (.int j)], hp =>
    obtain ⟨r, rfl, ok, hi, hj⟩ := hp
    have hq2 := hQ _ _ ⟨rfl, rfl⟩
    rw [unR_rD] at hq2
    have hz : (sizeLine : Nat) = 16777216 := sizeLine_eq
    have hle := ok.le
    simp [b28, n28, datas, biW, sort2, sortOk2, asgD, setAll, stA]
    refine ⟨by omega, ?_⟩
    simp [t28_5, srcW, wipeE]
    refine ⟨by omega, ?_⟩
    rw [rng_btw]
    let fo : PyData → PyData := fun x => match x with
      | .int k => .tuple [frD (K3.low (gOver r i j k) (wid r i j)), .int k]
      | _ => .none
    refine lc_pure M (fun _ => true) fo (by rw [List.length_map, btwL_len]; omega) (fun x hx => ?_) ?_
    · obtain ⟨k, hk, rfl⟩ := List.mem_map.mp hx
      obtain ⟨k1, k2⟩ := mem_btwL.mp hk
      refine ⟨_, rfl, fun P hP => by simpa [cndW_eq] using hP, fun _ P hP => ?_⟩
      simp [eltW_eq, e28_0, stA]
      rw [ix_r (by omega) (by omega), ix_r (by omega) (by omega), ix_r (by omega) (by omega)]
      refine above_call (k := 0) h26 ok hi hj k1 k2 fun w0 => ?_
      simp [ff, datas]
      exact ⟨by omega, hP false⟩
    · rw [List.filter_eq_self.mpr fun _ _ => rfl]
      simp [t28_4, t28_3, srcW]
      refine for_by M (fun t ρ m => m = n ∧ ∃ u v : Option (Bool × T), ρ = [some (false, .d (rD r)), some (false, .d (.int i)), some (false, .d (.int j)), some (false, .d (.int (min i j))), some (false, .d (.int (max i j))), some (false, .d (.list (((btwL i j).map PyData.int).map fo))), some (false, .d (barD r i j (((btwL i j).take t).foldl (barS (gOver r i j)) none))), u, v]) ⟨rfl, none, none, by simp [barD]⟩ (fun t ρ m x e h => ?_) fun ρ m h => ?_
      · obtain ⟨rfl, u, v, rfl⟩ := h
        have e : ((btwL i j).map fun k => fo (.int k))[t]? = some x := by simpa [Function.comp_def] using e
        rw [List.getElem?_map] at e
        obtain ⟨k, ek, rfl⟩ := Option.map_eq_some_iff.mp e
        obtain ⟨k1, k2⟩ := mem_btwL.mp (List.mem_of_getElem? ek)
        have w0 := wid_pos ok hi hj k1 k2
        have tk : ((btwL i j).take (t + 1)).foldl (barS (gOver r i j)) none = barS (gOver r i j) (((btwL i j).take t).foldl (barS (gOver r i j)) none) k := by
          rw [List.take_add_one, ek, Option.toList_some, List.foldl_append, List.foldl_cons, List.foldl_nil]
        have inv : ∀ p, ((btwL i j).take t).foldl (barS (gOver r i j)) none = some p → ∃ k', min i j < k' ∧ k' < max i j ∧ p = (k', gOver r i j k') := fun p hp => by
          rcases bar_mem _ _ _ hp with z | ⟨k', hk', e⟩
          · cases z
          · obtain ⟨a1, a2⟩ := mem_btwL.mp (List.mem_of_mem_take hk')
            exact ⟨k', a1, a2, e⟩
        have lw : ∀ k', min i j < k' → k' < max i j → (1 : Int) ≤ (K3.low (gOver r i j k') (wid r i j)).2 ∧ Bd 4400 (K3.low (gOver r i j k') (wid r i j)) := fun k' h1 h2 => by
          have w0' : wid r i j ≠ 0 := by omega
          obtain ⟨q1, q2⟩ := low_le (a := gOver r i j k') w0'
          have b1 := ok.at_ (show 0 ≤ min i j by omega) (show min i j < r.length by omega)
          have b2 := ok.at_ (show 0 ≤ max i j by omega) (show max i j < r.length by omega)
          have b3 := ok.at_ (show 0 ≤ k' by omega) (show k' < r.length by omega)
          have o1 : (gOver r i j k').natAbs < 2 ^ (301 + 301 + 1) := sub_b (mul_lt (sub_b b3.2 b1.2) (sub_b b2.1 b1.1)) (mul_lt (sub_b b2.2 b1.2) (sub_b b3.1 b1.1))
          have o2 : (wid r i j).natAbs < 2 ^ (300 + 1) := sub_b b2.1 b1.1
          exact ⟨(low_isFr w0').1, Nat.lt_of_le_of_lt q1 (Nat.lt_of_lt_of_le o1 (Nat.pow_le_pow_right (by decide) (by decide))), Nat.lt_of_le_of_lt q2 (Nat.lt_of_lt_of_le o2 (Nat.pow_le_pow_right (by decide) (by decide)))⟩
        refine ⟨_, rfl, ?_⟩
        rw [tk, barS_some]
        generalize ((btwL i j).take t).foldl (barS (gOver r i j)) none = f at inv
        have sg := low_sign (a := gOver r i j k) w0
        simp [l28_1, stA, ix_f0, ltOk_int, PySem.W.dataLt_int, sg]
        by_cases c : 0 < gOver r i j k
        · cases f with
          | none =>
            simp [c, barD, litIs, isD, datas, sizeLine_eq]
          | some p =>
            obtain ⟨k', a1, a2, rfl⟩ := inv p rfl
            obtain ⟨l1, l2⟩ := lw k' a1 a2
            obtain ⟨l3, l4⟩ := lw k k1 k2
            simp [c, barD, litIs, isD, ixT1]
            rw [h23]
            refine ⟨rfl, ⟨⟨l1, l3⟩, l2, l4⟩, fun x n2 hr => ?_, fun _ _ h => h.elim⟩
            obtain ⟨rfl, rfl⟩ := hr
            have ll := low_less (a := gOver r i j k') (b := gOver r i j k) w0
            have ll : lessF ((K3.low (gOver r i j k') (wid r i j)).1, (K3.low (gOver r i j k') (wid r i j)).2) ((K3.low (gOver r i j k) (wid r i j)).1, (K3.low (gOver r i j k) (wid r i j)).2) = _ := ll
            simp [bl, ll]
            by_cases c2 : gOver r i j k' < gOver r i j k
            · simp [c2, datas, sizeLine_eq, barD]
            · simp [c2, barD]
        · simp [c]
      · obtain ⟨rfl, u, v, rfl⟩ := h
        have e : ((btwL i j).take (((btwL i j).map PyData.int).map fo).length).foldl (barS (gOver r i j)) none = bar r i j := by
          rw [List.length_map, List.length_map, List.take_length]; rfl
        have e' : ((btwL i j).take ((btwL i j).map (fo ∘ PyData.int)).length).foldl (barS (gOver r i j)) none = bar r i j := by
          rw [List.length_map, List.take_length]; rfl
        simp [t28_2]
        exact hq2
end
end K44

set_option Elab.async false
set_option linter.all false
set_option maxRecDepth 100000
set_option maxHeartbeats 4000000
set_option exponentiation.threshold 10000
namespace K44
open PySem PySem.Spec PyProof.Rows L2 TL HL K3
def rowD (r : List (Int × Int)) (i : Int) : PyData := .list ((idx r.length).map fun j => .bool (seesB r i j))
def sigD (r : List (Int × Int)) : PyData := .list ((idx r.length).map fun i => rowD r i)
theorem idx_at {α : Type} {n : Nat} {f : Int → α} {i : Int} (h : 0 ≤ i ∧ i < n) : L2.atI ((idx n).map f) i = some (f i) := by
  have e : ((idx n).map f)[i.toNat]? = some (f i) := by
    unfold idx
    rw [List.map_map, List.getElem?_map, List.getElem?_range (by omega)]
    show some (f (i.toNat : Int)) = _
    rw [Int.toNat_of_nonneg h.1]
  have := atI_nat e
  rwa [Int.toNat_of_nonneg h.1] at this
theorem ix_sig {r : List (Int × Int)} {i : Int} {P : TL.T → Prop} (h : 0 ≤ i ∧ i < r.length) : ixW (.d (sigD r)) (.d (.int i)) P = P (.d (rowD r i)) :=
  propext ⟨fun ⟨x, e', h'⟩ => by rw [idx_at h] at e'; cases e'; exact h', fun h' => ⟨_, idx_at h, h'⟩⟩
theorem ix_row {r : List (Int × Int)} {i j : Int} {P : TL.T → Prop} (h : 0 ≤ j ∧ j < r.length) : ixW (.d (rowD r i)) (.d (.int j)) P = P (.d (.bool (seesB r i j))) :=
  propext ⟨fun ⟨x, e', h'⟩ => by rw [idx_at h] at e'; cases e'; exact h', fun h' => ⟨_, idx_at h, h'⟩⟩
theorem okX_ints {d : Nat} {l : List Int} (h : l.length ≤ 1000) : okX (d + 2) (intsD l) := ⟨by rw [List.length_map]; exact h, fun y hy => by
  obtain ⟨_, _, rfl⟩ := List.mem_map.mp hy
  trivial⟩
theorem okX_fr {d : Nat} {p : Int × Int} : okX (d + 2) (frD p) := ⟨by show 2 ≤ 1000; omega, fun y hy => by
  simp at hy
  rcases hy with rfl | rfl <;> trivial⟩
theorem okX_bar {r : List (Int × Int)} {i j : Int} {f : Option (Int × Int)} : okX 3 (barD r i j f) := by
  cases f with
  | none => trivial
  | some p => exact ⟨by show 2 ≤ 1000; omega, fun y hy => by
      simp at hy
      rcases hy with rfl | rfl
      · trivial
      · exact okX_fr⟩
theorem seen_len {r : List (Int × Int)} {i : Int} : (seenL r i).length ≤ r.length := by
  have := List.length_filter_le (seesB r i) (idx r.length)
  rw [idx_len] at this
  exact this
theorem eqOk_b {a b : Bool} : eqOk (.bool a) (.bool b) := ⟨rfl, rfl, by simp [PyData.depth]⟩
theorem eqv_b {a b : Bool} : PyData.eqv (.bool a) (.bool b) = (a == b) := rfl
theorem isD_bar {r : List (Int × Int)} {i j : Int} (hi : 0 ≤ i ∧ i < r.length) (hj : 0 ≤ j ∧ j < r.length) : isD (barD r i j (bar r i j)) .none = seesB r i j := by
  rw [Bool.eq_iff_iff, seesB_iff hi hj, ← bar_none]
  cases bar r i j with
  | none => simp [barD, isD]
  | some p => simp [barD, isD]
section
variable {Φ : Nat → TSp} {C : Nat → PyData}
/-- each other one -/
theorem turn3 (h12 : Φ 12 = sSees.sp) (h15 : Φ 15 = S15.sp) (h21 : Φ 21 = (sSame 4).sp) (h28 : Φ 28 = S28.sp) {X : TL.XE} {r : List (Int × Int)} {i j : Int} {D : EndT} {n : Nat} {o0 o2 o3 o6 o7 o9 o10 o11 o12 o13 o14 o15 o16 o17 o18 o19 : Option (Bool × T)} (ok : Rok 10 r) (hi : 0 ≤ i ∧ i < r.length) (hj : 0 ≤ j ∧ j < r.length)
    (hN : ∀ a, D.nx [o0, some (false, .d (rD r)), o2, o3, some (true, .d (sigD r)), some (false, .d (.int i)), o6, o7, some (false, .d (.int j)), a, o10, o11, o12, o13, o14, o15, o16, o17, o18, o19] n) :
    wpSs Φ C X l29_3 D [o0, some (false, .d (rD r)), o2, o3, some (true, .d (sigD r)), some (false, .d (.int i)), o6, o7, some (false, .d (.int j)), o9, o10, o11, o12, o13, o14, o15, o16, o17, o18, o19] n := by
  have hz : (sizeLine : Nat) = 16777216 := sizeLine_eq
  simp [l29_3]
  rw [h28]
  refine ⟨rfl, ⟨r, rfl, ok.up (by decide), hi, hj⟩, fun x n' hr => ?_, fun _ _ h => h.elim⟩
  obtain ⟨rfl, rfl⟩ := hr
  rw [unR_rD]
  simp
  rw [h12]
  refine ⟨rfl, ⟨r, rfl, ok.up (by decide), hi, hj⟩, fun x n' hr => ?_, fun _ _ h => h.elim⟩
  obtain ⟨rfl, b, rfl, hb⟩ := hr
  rw [unR_rD] at hb
  have e : b = seesB r i j := by rw [Bool.eq_iff_iff, hb, seesB_iff hi hj]
  subst e
  refine ⟨rfl, ⟨r, rfl, ok.up (by decide), hi, hj⟩, fun x n' hr => ?_, fun _ _ h => h.elim⟩
  obtain ⟨rfl, b, rfl, hb2⟩ := hr
  rw [unR_rD] at hb2
  have e : b = seesB r i j := by rw [Bool.eq_iff_iff, hb2, seesB_iff hi hj]
  subst e
  simp [bl, datas, ix_sig hi, ix_row hj, List.replicate]
  refine ⟨by omega, by omega, by omega, ?_⟩
  rw [h21]
  refine ⟨rfl, ⟨rfl, by show 2 ≤ 1000; omega, fun y hy => ?_⟩, fun x n' hr => ?_, fun _ _ h => h.elim⟩
  · simp at hy
    subst hy
    trivial
  obtain ⟨rfl, rfl⟩ := hr
  simp [bl, litIs, isD_bar hi hj, ix_sig hi, ix_row hj, eqOk_b, eqv_b]
  rw [h15]
  refine ⟨rfl, ⟨r, rfl, ok.up (by decide), hi, hj⟩, fun x n' hr => ?_, fun _ _ h => h.elim⟩
  obtain ⟨rfl, rfl⟩ := hr
  refine ⟨rfl, ⟨r, rfl, ok.up (by decide), hi, hj⟩, fun x n' hr => ?_, fun _ _ h => h.elim⟩
  obtain ⟨rfl, rfl⟩ := hr
  refine ⟨rfl, ⟨r, rfl, ok.up (by decide), hj, hi⟩, fun x n' hr => ?_, fun _ _ h => h.elim⟩
  obtain ⟨rfl, rfl⟩ := hr
  rw [unR_rD]
  have ec : barD r j i (bar r j i) = barD r i j (bar r i j) := by
    rw [bar_comm.1]
    cases bar r i j with
    | none => rfl
    | some p => unfold barD; rw [bar_comm.2]
  rw [ec]
  simp [datas, List.replicate]
  refine ⟨by omega, by omega, by omega, ?_⟩
  refine ⟨rfl, ⟨rfl, by show 3 ≤ 1000; omega, fun y hy => ?_⟩, fun x n' hr => ?_, fun _ _ h => h.elim⟩
  · simp at hy
    subst hy
    exact okX_bar
  obtain ⟨rfl, rfl⟩ := hr
  simp [bl]
  exact hN _
/-- each one -/
theorem turn4 (M : MonoPh Φ) (h12 : Φ 12 = sSees.sp) (h14 : Φ 14 = sSeenIn.sp) (h15 : Φ 15 = S15.sp) (h21 : Φ 21 = (sSame 4).sp) (h28 : Φ 28 = S28.sp) {X : TL.XE} {r : List (Int × Int)} {i : Int} {D : EndT} {n : Nat} {o0 o2 o6 o7 o8 o9 o10 o11 o12 o13 o14 o15 o16 o17 o18 o19 : Option (Bool × T)} (ok : Rok 10 r) (hi : 0 ≤ i ∧ i < r.length)
    (hN : ∀ a b c d, D.nx [o0, some (false, .d (rD r)), o2, some (false, .d (.int r.length)), some (true, .d (sigD r)), some (false, .d (.int i)), a, b, c, d, o10, o11, o12, o13, o14, o15, o16, o17, o18, o19] n) :
    wpSs Φ C X l29_4 D [o0, some (false, .d (rD r)), o2, some (false, .d (.int r.length)), some (true, .d (sigD r)), some (false, .d (.int i)), o6, o7, o8, o9, o10, o11, o12, o13, o14, o15, o16, o17, o18, o19] n := by
  have hz : (sizeLine : Nat) = 16777216 := sizeLine_eq
  have hle := ok.le
  have sl := seen_len (r := r) (i := i)
  simp [l29_4, srcW, wipeE]
  refine ⟨by omega, ?_⟩
  rw [rng_idx]
  refine lc_pure M (onI (seesB r i)) id (by rw [List.length_map, idx_len]; omega) (fun x hx => ?_) ?_
  · obtain ⟨k, hk, rfl⟩ := List.mem_map.mp hx
    have hk := mem_idx.mp hk
    refine ⟨_, rfl, fun P hP => ?_, fun _ P hP => ?_⟩
    · simp [cndW_eq, c29_2, stA, ix_sig hi, ix_row hk]
      exact hP
    · simp [eltW_eq, stA]
      exact hP _
  · rw [filter_ints, List.map_id, h14]
    refine ⟨rfl, ⟨r, rfl, ok.up (by decide), hi⟩, fun x n' hr => ?_, fun _ _ h => h.elim⟩
    obtain ⟨rfl, rfl⟩ := hr
    rw [unR_rD]
    have e : PyData.list (((idx r.length).filter (seesB r i)).map PyData.int) = intsD (seenL r i) := rfl
    rw [e]
    simp [unown, unown1, datas]
    refine ⟨.d (intsD (seenL r i)), rfl, rfl, ⟨r, rfl, ok.up (by decide), hi⟩, fun x n' hr => ?_, fun _ _ h => h.elim⟩
    obtain ⟨rfl, rfl⟩ := hr
    rw [unR_rD]
    simp [datas]
    refine ⟨by omega, ?_⟩
    rw [h21]
    refine ⟨rfl, ⟨rfl, by show 2 ≤ 1000; omega, fun y hy => ?_⟩, fun x n' hr => ?_, fun _ _ h => h.elim⟩
    · simp at hy
      subst hy
      exact okX_ints (by omega)
    obtain ⟨rfl, rfl⟩ := hr
    simp [bl, atom, atomD, intsD]
    refine ⟨by omega, by omega, ?_⟩
    refine for_by M (fun t ρ m => m = n' ∧ ∃ c d : Option (Bool × T), ρ = [o0, some (false, .d (rD r)), o2, some (false, .d (.int r.length)), some (true, .d (sigD r)), some (false, .d (.int i)), some (false, .d (intsD (seenL r i))), some (true, .d (.list ((seenL r i).map PyData.int ++ [PyData.none]))), c, d, o10, o11, o12, o13, o14, o15, o16, o17, o18, o19]) ⟨rfl, o8, o9, rfl⟩ (fun t ρ m x e h => ?_) fun ρ m h => ?_
    · obtain ⟨rfl, c, d, rfl⟩ := h
      rw [List.getElem?_map] at e
      obtain ⟨k, ek, rfl⟩ := Option.map_eq_some_iff.mp e
      have hk := mem_idx.mp (List.mem_of_getElem? ek)
      exact ⟨_, rfl, turn3 h12 h15 h21 h28 ok hi hk fun a => ⟨rfl, _, _, rfl⟩⟩
    · obtain ⟨rfl, c, d, rfl⟩ := h
      exact hN _ _ _ _
theorem take_none4 {l : List Int} : TL.cutD (l.map PyData.int) none (some 4) = (l.take 4).map PyData.int := by
  unfold TL.cutD
  rw [HT.sIx_none, show (4 : Int) = ((4 : Nat) : Int) by rfl, HT.sIx_nat, List.drop_zero, Nat.sub_zero, List.length_map, List.map_take]
  by_cases h : 4 ≤ l.length
  · rw [Nat.min_eq_left h]
  · rw [Nat.min_eq_right (by omega), List.take_of_length_le (by rw [List.length_map]; exact Nat.le_refl _), List.take_of_length_le (by rw [List.length_map]; omega)]
def srt (l : List Int) : List Int := l.mergeSort fun a b => decide (a ≤ b)
theorem sort_ints {l : List Int} : (l.map PyData.int).mergeSort (PySem.W.dataLe false id) = (srt l).map PyData.int := by
  unfold srt
  rw [List.map_mergeSort]
  intro a _ b _
  show _ = !PySem.W.dataLt (.int b) (.int a)
  rw [PySem.W.dataLt_int, Bool.eq_iff_iff]
  simp
theorem sortOk_ints {l : List Int} (h : l.length ≤ 1000) : sortOk (l.map PyData.int) := by
  have e : ∀ d ∈ l.map PyData.int, ∃ k, d = .int k := fun d hd => by
    obtain ⟨k, _, rfl⟩ := List.mem_map.mp hd
    exact ⟨k, rfl⟩
  refine ⟨fun d hd d' hd' => ?_, .inr fun d hd => ?_, fun d hd => ?_, by rw [sizeLine_eq, List.length_map]; omega⟩
  · obtain ⟨k, rfl⟩ := e d hd
    obtain ⟨k', rfl⟩ := e d' hd'
    rfl
  · obtain ⟨k, rfl⟩ := e d hd
    exact ⟨by simp, by simp⟩
  · obtain ⟨k, rfl⟩ := e d hd
    simp [PyData.depth]
/-- four of them, sorted, all unlike -/
theorem four_of {n : Nat} {ms : List Int} (h : ms.Perm (idx n)) {a b c d : Int} (e : srt (ms.take 4) = [a, b, c, d]) : 0 ≤ a ∧ a < b ∧ b < c ∧ c < d ∧ d < n := by
  have nd : (idx n).Nodup := by
    unfold idx
    exact List.pairwise_map.mpr (List.nodup_range.imp fun h e => h (by exact_mod_cast e))
  have pm : (srt (ms.take 4)).Perm (ms.take 4) := List.mergeSort_perm _ _
  have nd2 : (srt (ms.take 4)).Nodup := (pm.nodup_iff).mpr ((List.take_sublist 4 ms).nodup ((h.nodup_iff).mpr nd))
  have so : (srt (ms.take 4)).Pairwise fun a b => a ≤ b := by
    have := List.pairwise_mergeSort (le := fun a b : Int => decide (a ≤ b)) (fun a b c h1 h2 => by simp at h1 h2 ⊢; omega) (fun a b => by simp; omega) (ms.take 4)
    exact this.imp fun h => by simpa using h
  have mem : ∀ x ∈ srt (ms.take 4), 0 ≤ x ∧ x < n := fun x hx => mem_idx.mp ((h.mem_iff).mp (List.mem_of_mem_take ((pm.mem_iff).mp hx)))
  rw [e] at nd2 so mem
  have ma := mem a (by simp)
  have md := mem d (by simp)
  simp only [List.pairwise_cons, List.nodup_cons, List.mem_cons] at so nd2
  have s1 := so.1 b (by simp)
  have s2 := so.2.1 c (by simp)
  have s3 := so.2.2.1 d (by simp)
  have n1 : a ≠ b := fun z => nd2.1 (.inl z)
  have n2 : b ≠ c := fun z => nd2.2.1 (.inl z)
  have n3 : c ≠ d := fun z => nd2.2.2.1 (.inl z)
  omega
/-- four points drawn -/
theorem turn5 (M : MonoPh Φ) (h24 : Φ 24 = S24.sp) {X : TL.XE} {r : List (Int × Int)} {D : EndT} {n : Nat} {o2 o5 o6 o7 o8 o9 o10 o11 o12 o13 o14 o15 o16 o17 o18 o19 : Option (Bool × T)} (ok : Rok 10 r) (hn : n < 2 ^ 59)
    (hN : ∀ a n', n ≤ n' → n' ≤ n + 64000 → D.nx [some (false, .gen), some (false, .d (rD r)), o2, some (false, .d (.int r.length)), some (true, .d (sigD r)), o5, o6, o7, o8, o9, o10, a, o12, o13, o14, o15, o16, o17, o18, o19] n') :
    wpSs Φ C X l29_5 D [some (false, .gen), some (false, .d (rD r)), o2, some (false, .d (.int r.length)), some (true, .d (sigD r)), o5, o6, o7, o8, o9, o10, o11, o12, o13, o14, o15, o16, o17, o18, o19] n := by
  have hz : (sizeLine : Nat) = 16777216 := sizeLine_eq
  have hle := ok.le
  simp [l29_5]
  refine ⟨by omega, ?_⟩
  rw [rng_idx, h24]
  refine ⟨rfl, ⟨idx r.length, rfl, by rw [idx_len]; omega, hn⟩, fun x n' hr => ?_, fun _ _ h => h.elim⟩
  obtain ⟨a1, a2, hr⟩ := hr
  obtain ⟨ms, pm, rfl⟩ := hr _ rfl
  have ml : ms.length = r.length := by rw [pm.length_eq, idx_len]
  simp [bnd, isNoB, slW, intsD, take_none4, biW]
  simp only [← List.map_take, sort_ints]
  refine ⟨sortOk_ints (by rw [List.length_take]; omega), eqOk_int, ?_⟩
  rw [eqv_int]
  have sl : (srt (ms.take 4)).length = min 4 ms.length := by
    unfold srt
    rw [List.length_mergeSort, List.length_take]
  have fin := hN (some (true, .d (.list ((srt (ms.take 4)).map PyData.int)))) n' a1 a2
  by_cases c : ((min 4 ms.length : Nat) : Int) = 4
  · obtain ⟨a, b, c', d, e⟩ : ∃ a b c d, srt (ms.take 4) = [a, b, c, d] := by
      have c4 : (srt (ms.take 4)).length = 4 := by omega
      match hs : srt (ms.take 4), c4 with
      | [a, b, c, d], _ => exact ⟨a, b, c, d, rfl⟩
    obtain ⟨f0, f1, f2, f3, f4⟩ := four_of pm e
    rw [e] at fin ⊢
    have x0 : ∀ P : TL.T → Prop, ixW (.d (.list ([a, b, c', d].map PyData.int))) (.d (.int 0)) P = P (.d (.int a)) := fun P => propext ⟨fun ⟨x, e, h⟩ => by have e2 : L2.atI ([a, b, c', d].map PyData.int) 0 = some (.int a) := L2.atI_nat (j := 0) rfl; rw [e2] at e; cases e; exact h, fun h => ⟨_, L2.atI_nat (j := 0) rfl, h⟩⟩
    have x1 : ∀ P : TL.T → Prop, ixW (.d (.list ([a, b, c', d].map PyData.int))) (.d (.int 1)) P = P (.d (.int b)) := fun P => propext ⟨fun ⟨x, e, h⟩ => by have e2 : L2.atI ([a, b, c', d].map PyData.int) 1 = some (.int b) := L2.atI_nat (j := 1) rfl; rw [e2] at e; cases e; exact h, fun h => ⟨_, L2.atI_nat (j := 1) rfl, h⟩⟩
    have x2 : ∀ P : TL.T → Prop, ixW (.d (.list ([a, b, c', d].map PyData.int))) (.d (.int 2)) P = P (.d (.int c')) := fun P => propext ⟨fun ⟨x, e, h⟩ => by have e2 : L2.atI ([a, b, c', d].map PyData.int) 2 = some (.int c') := L2.atI_nat (j := 2) rfl; rw [e2] at e; cases e; exact h, fun h => ⟨_, L2.atI_nat (j := 2) rfl, h⟩⟩
    have x3 : ∀ P : TL.T → Prop, ixW (.d (.list ([a, b, c', d].map PyData.int))) (.d (.int 3)) P = P (.d (.int d)) := fun P => propext ⟨fun ⟨x, e, h⟩ => by have e2 : L2.atI ([a, b, c', d].map PyData.int) 3 = some (.int d) := L2.atI_nat (j := 3) rfl; rw [e2] at e; cases e; exact h, fun h => ⟨_, L2.atI_nat (j := 3) rfl, h⟩⟩
    have i0 : 0 ≤ a ∧ a < r.length := by omega
    have i1 : 0 ≤ b ∧ b < r.length := by omega
    have i2 : 0 ≤ c' ∧ c' < r.length := by omega
    have i3 : 0 ≤ d ∧ d < r.length := by omega
    rw [decide_eq_true (by first | exact c | (simpa using c) | omega), if_pos rfl]
    simp only [x0, x1, x2, x3, ix_sig i0, ix_sig i1, ix_row i2, ix_row i3, truW_bool]
    cases s1 : seesB r a c' with
    | false => simp; exact fin
    | true =>
      cases s2 : seesB r b d with
      | false => simp; exact fin
      | true =>
        have := (seesB_iff i0 i3).mpr (order4 ok f0 f1 f2 f3 f4 ((seesB_iff i0 i2).mp s1) ((seesB_iff i1 i3).mp s2))
        simp [this]
        exact fin
  · rw [decide_eq_false c]
    simp
    exact fin
end
end K44

set_option Elab.async false
set_option linter.all false
set_option maxRecDepth 100000
set_option maxHeartbeats 4000000
set_option exponentiation.threshold 10000
namespace K44
open PySem PySem.Spec PyProof.Rows L2 TL HL K3
theorem step_le {c a b d t : Nat} (h1 : a ≤ b + c * t) (h2 : d ≤ a + c) : d ≤ b + c * (t + 1) := by
  rw [Nat.mul_succ]; omega
theorem plain_ints (l : List Int) : (intsD l).plain = true := plainAll_iff.mpr fun x hx => by
  obtain ⟨_, _, rfl⟩ := List.mem_map.mp hx
  rfl
theorem depth_ints (l : List Int) : (intsD l).depth ≤ 1 := by
  show PyData.depthAll _ + 1 ≤ 1
  have := depthAll_le (xs := l.map PyData.int) (k := 0) |>.mpr fun x hx => by
    obtain ⟨_, _, rfl⟩ := List.mem_map.mp hx
    exact Nat.le_refl _
  omega
theorem eqOk_ints {a b : List Int} : eqOk (intsD a) (intsD b) := ⟨plain_ints a, plain_ints b, Nat.le_trans (depth_ints a) (by decide)⟩
theorem plain_ints2 (l : List (List Int)) : (PyData.list (l.map intsD)).plain = true := plainAll_iff.mpr fun x hx => by
  obtain ⟨y, _, rfl⟩ := List.mem_map.mp hx
  exact plain_ints y
theorem eqOk_ints2 {a b : List (List Int)} : eqOk (.list (a.map intsD)) (.list (b.map intsD)) := ⟨plain_ints2 a, plain_ints2 b, by
  show PyData.depthAll _ + 1 ≤ 60
  have := depthAll_le (xs := a.map intsD) (k := 1) |>.mpr fun x hx => by
    obtain ⟨y, _, rfl⟩ := List.mem_map.mp hx
    exact depth_ints y
  omega⟩
theorem seen_late {r : List (Int × Int)} {w h t s i : Int} (hw : 0 < w) (hh : 0 < h) (hi : 0 ≤ i ∧ i < r.length) : seenL (r.map (lateP w h t s)) i = seenL r i := by
  unfold seenL
  rw [List.length_map]
  refine List.filter_congr fun k hk => ?_
  have hk := mem_idx.mp hk
  rw [Bool.eq_iff_iff, seesB_iff (by rw [List.length_map]; exact hi) (by rw [List.length_map]; exact hk), seesB_iff hi hk, sees_late hw hh hi hk]
theorem late_ok {r : List (Int × Int)} {w h t s : Int} (ok : Rok 10 r) (hw : 1 ≤ w) (hw' : w ≤ 5) (hh : 1 ≤ h) (hh' : h ≤ 5) (ht : -4 ≤ t) (ht' : t ≤ 4) (hs : -50 ≤ s) (hs' : s ≤ 50) : Rok 20 (r.map (lateP w h t s)) := by
  refine ⟨by rw [List.length_map]; exact ok.two, by rw [List.length_map]; exact ok.le, fun i j h0 hij hj => ?_, fun p hp => ?_⟩
  · rw [List.length_map] at hj
    rw [pt_map h0 (by omega), pt_map (by omega) hj]
    have := ok.asc i j h0 hij hj
    show (pt r i).1 * w + s < (pt r j).1 * w + s
    have := Int.mul_lt_mul_of_pos_right this (show 0 < w by omega)
    omega
  · obtain ⟨q, hq, rfl⟩ := List.mem_map.mp hp
    obtain ⟨b1, b2⟩ := ok.bd q hq
    have key : ∀ a b : Int, a.natAbs < 2 ^ 10 → b.natAbs ≤ 5 → (a * b).natAbs ≤ 1024 * 5 := fun a b h1 h2 => by
      rw [Int.natAbs_mul]
      exact Nat.mul_le_mul (by omega) h2
    have k1 := key q.1 w b1 (by omega)
    have k2 := key q.2 h b2 (by omega)
    have k3 := key q.1 t b1 (by omega)
    rw [Int.mul_comm q.1 t] at k3
    have e : (2 : Nat) ^ 20 = 1048576 := by decide
    refine ⟨?_, ?_⟩
    · show (q.1 * w + s).natAbs < 2 ^ 20
      rw [e]; omega
    · show (q.2 * h + t * q.1 - s).natAbs < 2 ^ 20
      rw [e]; omega
theorem about_ok {r : List (Int × Int)} (ok : Rok 10 r) : Rok 20 (r.reverse.map aboutP) := by
  have hl : (r.reverse.map aboutP).length = r.length := by rw [List.length_map, List.length_reverse]
  refine ⟨by rw [hl]; exact ok.two, by rw [hl]; exact ok.le, fun i j h0 hij hj => ?_, fun p hp => ?_⟩
  · rw [hl] at hj
    rw [pt_map h0 (by rw [List.length_reverse]; omega), pt_map (by omega) (by rw [List.length_reverse]; omega), pt_rev h0 (by omega), pt_rev (by omega) hj]
    have := ok.asc (r.length - 1 - j) (r.length - 1 - i) (by omega) (by omega) (by omega)
    show 0 - (pt r _).1 < 0 - (pt r _).1
    omega
  · obtain ⟨q, hq, rfl⟩ := List.mem_map.mp hp
    obtain ⟨b1, b2⟩ := ok.bd q (List.mem_reverse.mp hq)
    have e : (2 : Nat) ^ 10 ≤ 2 ^ 20 := by decide
    exact ⟨by show (0 - q.1).natAbs < _; omega, by show q.2.natAbs < _; omega⟩
section
variable {Φ : Nat → TSp} {C : Nat → PyData}
/-- each place's list of who is seen -/
theorem seen_all (M : MonoPh Φ) (h14 : Φ 14 = sSeenIn.sp) {e : E} {r : List (Int × Int)} {ρ : Ev} {n m : Nat} {Q : List PyData → Nat → Prop} (ok : Rok 20 r) (hm : m = r.length)
    (he : ∀ i : Int, ∀ P : QE, (∀ n Q X, Q ⟨.d (intsD (seenL r i)), true⟩ n → 0 ≤ i → i < r.length → Φ 14 [.d (rD r), .d (.int i)] n Q X) → P ⟨.d (intsD (seenL r i)), true⟩ n → 0 ≤ i → i < r.length → eltW Φ C e (stA false (.d (.int i)) 5 ρ) n P)
    (q : Q (((idx r.length).map (seenL r)).map intsD) n) : lcGo (.nm 5) ρ (cndW Φ C (.c (.bool true))) (eltW Φ C e) Q ((idx m).map PyData.int) [] n := by
  subst hm
  have hz : (sizeLine : Nat) = 16777216 := sizeLine_eq
  have hle := ok.le
  have key : ∀ i : Int, 0 ≤ i → i < r.length → ∀ n Q X, Q ⟨.d (intsD (seenL r i)), true⟩ n → Φ 14 [.d (rD r), .d (.int i)] n Q X := fun i h0 h1 n Q X hQ => by
    rw [h14]
    refine ⟨rfl, ⟨r, rfl, ok.up (by decide), h0, h1⟩, fun x n' hr => ?_, fun _ _ h => h.elim⟩
    obtain ⟨rfl, rfl⟩ := hr
    rw [unR_rD]
    exact hQ
  let g : PyData → PyData := fun x => match x with
    | .int k => intsD (seenL r k)
    | _ => .none
  refine lc_by M (fun i acc k => k = n ∧ acc = (((idx r.length).map (seenL r)).map intsD).take i) ⟨rfl, rfl⟩ (fun i acc k x e h => ?_) fun acc k h => ?_
  · obtain ⟨rfl, rfl⟩ := h
    rw [List.getElem?_map] at e
    obtain ⟨z, ez, rfl⟩ := Option.map_eq_some_iff.mp e
    have hz' := mem_idx.mp (List.mem_of_getElem? ez)
    refine ⟨_, rfl, ?_⟩
    have hi : i < (idx r.length).length := (List.getElem?_eq_some_iff.mp ez).1
    rw [idx_len] at hi
    simp [cndW_eq]
    refine he z _ (fun n Q X hQ h0 h1 => key z h0 h1 n Q X hQ) ?_ hz'.1 hz'.2
    refine ⟨_, rfl, by simp [idx_len]; omega, rfl, ?_⟩
    simp [List.take_add_one, ez]
  · obtain ⟨rfl, rfl⟩ := h
    rw [List.length_map, List.take_of_length_le (by simp)]
    exact q
def S29 : Spc := { ar := 2, pre := (fun | [.gen, .d x], n => ∃ r, x = rD r ∧ Rok 10 r ∧ r.length ≤ 40 ∧ n < 2 ^ 58 | _, _ => False), post := (fun _ n => fun r n' => n ≤ n' ∧ n' ≤ n + 2000000 ∧ r = bl true) }
theorem w29 (M : MonoPh Φ) (h12 : Φ 12 = sSees.sp) (h14 : Φ 14 = sSeenIn.sp) (h15 : Φ 15 = S15.sp) (h17 : Φ 17 = sRand.sp) (h21 : Φ 21 = (sSame 4).sp) (h24 : Φ 24 = S24.sp) (h27 : Φ 27 = sLSees.sp) (h28 : Φ 28 = S28.sp) : Body S29 b29 n29 Φ C := by
  intro ts n Q X hq hl hp hQ hX
  match ts, hp with
  | [.gen, .d x], hp =>
    obtain ⟨r, rfl, ok, l40, hn⟩ := hp
    have hz : (sizeLine : Nat) = 16777216 := sizeLine_eq
    have hle := ok.le
    have h2 := ok.two
    have so : showOk (rD r) := show_r (fun p hp => (ok.bd p hp).up (by decide)) (by omega)
    have lr : ∀ Q, biW .repr [.d (rD r)] Q = (showOk (rD r) ∧ Q ⟨.d (.str (rD r).shown), false⟩) := fun _ => rfl
    simp [b29, n29, lr, so, len_r, datas, asgD, setAll, stA]
    refine ⟨by omega, ?_⟩
    simp [t29_18, srcW, wipeE]
    refine ⟨by omega, ?_⟩
    rw [rng_idx]
    let f1 : PyData → PyData := fun x => match x with
      | .int k => rowD r k
      | _ => .none
    refine lc_pure M (fun _ => true) f1 (by rw [List.length_map, idx_len]; omega) (fun x hx => ?_) ?_
    · obtain ⟨i, hi, rfl⟩ := List.mem_map.mp hx
      have hi := mem_idx.mp hi
      refine ⟨_, rfl, fun P hP => by simpa [cndW_eq] using hP, fun _ P hP => ?_⟩
      simp [eltW_eq, e29_1, stA, srcW, wipeE]
      refine ⟨by omega, ?_⟩
      rw [rng_idx]
      let f2 : PyData → PyData := fun x => match x with
        | .int k => .bool (seesB r i k)
        | _ => .none
      refine lc_pure M (fun _ => true) f2 (by rw [List.length_map, idx_len]; omega) (fun x hx => ?_) ?_
      · obtain ⟨j, hj, rfl⟩ := List.mem_map.mp hx
        have hj := mem_idx.mp hj
        refine ⟨_, rfl, fun P hP => by simpa [cndW_eq] using hP, fun _ P hP => ?_⟩
        simp [eltW_eq, e29_0, stA]
        rw [h27]
        refine ⟨rfl, ⟨r, rfl, ok.up (by decide), hi, hj⟩, fun x n' hr => ?_, fun _ _ h => h.elim⟩
        obtain ⟨rfl, rfl⟩ := hr
        rw [unR_rD]
        exact hP false
      · rw [List.filter_eq_self.mpr fun _ _ => rfl, List.map_map]
        exact hP true
    · rw [List.filter_eq_self.mpr fun _ _ => rfl, List.map_map]
      have eS : PyData.list ((idx r.length).map (f1 ∘ PyData.int)) = sigD r := rfl
      rw [eS]
      simp [t29_17, srcW]
      refine ⟨by omega, ?_⟩
      rw [rng_idx]
      refine for_by M (fun t ρ m => m = n ∧ ∃ a b c d e : Option (Bool × T), ρ = [some (false, .gen), some (false, .d (rD r)), some (false, .d (.str (rD r).shown)), some (false, .d (.int r.length)), some (true, .d (sigD r)), e, a, b, c, d, none, none, none, none, none, none, none, none, none, none]) ⟨rfl, none, none, none, none, none, rfl⟩ (fun t ρ m x e h => ?_) fun ρ m h => ?_
      · obtain ⟨rfl, a, b, c, d, e', rfl⟩ := h
        rw [List.getElem?_map] at e
        obtain ⟨k, ek, rfl⟩ := Option.map_eq_some_iff.mp e
        have hk := mem_idx.mp (List.mem_of_getElem? ek)
        exact ⟨_, rfl, turn4 M h12 h14 h15 h21 h28 ok hk fun a b c d => ⟨rfl, a, b, c, d, _, rfl⟩⟩
      · obtain ⟨rfl, a, b, c, d, e', rfl⟩ := h
        simp [t29_16, srcW]
        refine for_by M (fun t ρ m' => m ≤ m' ∧ m' ≤ m + 64000 * t ∧ ∃ a' b' : Option (Bool × T), ρ = [some (false, .gen), some (false, .d (rD r)), some (false, .d (.str (rD r).shown)), some (false, .d (.int r.length)), some (true, .d (sigD r)), e', a, b, c, d, a', b', none, none, none, none, none, none, none, none]) ⟨Nat.le_refl _, by omega, none, none, rfl⟩ (fun t ρ m' x e h => ?_) fun ρ m' h => ?_
        · obtain ⟨c1, c2, a', b', rfl⟩ := h
          have ht : t < 20 := by
            have := (List.getElem?_eq_some_iff.mp e).1
            simpa using this
          have cb : m' < 2 ^ 59 := by
            have := Nat.mul_le_mul_left 64000 (Nat.le_of_lt ht)
            omega
          refine ⟨_, rfl, turn5 M h24 ok cb fun a2 n' d1 d2 => ?_⟩
          exact ⟨Nat.le_trans c1 d1, step_le c2 d2, _, _, rfl⟩
        · obtain ⟨c1, c2, a', b', rfl⟩ := h
          have c2 : m' ≤ m + 64000 * 20 := c2
          simp [t29_15]
          rw [h17]
          refine ⟨rfl, ⟨by decide, by decide, by omega⟩, fun x n1 hr => ?_, fun _ _ h => h.elim⟩
          obtain ⟨d1, d2, w, w0, w1, rfl⟩ := hr
          refine ⟨rfl, ⟨by decide, by decide, by omega⟩, fun x n2 hr => ?_, fun _ _ h => h.elim⟩
          obtain ⟨d3, d4, h, h0, h1, rfl⟩ := hr
          refine ⟨rfl, ⟨by decide, by decide, by omega⟩, fun x n3 hr => ?_, fun _ _ h => h.elim⟩
          obtain ⟨d5, d6, t, t0, t1, rfl⟩ := hr
          refine ⟨rfl, ⟨by decide, by decide, by omega⟩, fun x n4 hr => ?_, fun _ _ h => h.elim⟩
          obtain ⟨d7, d8, s, s0, s1, rfl⟩ := hr
          simp [datas, asgD, setAll, stA]
          refine ⟨by omega, ?_⟩
          simp [t29_14, srcW, rD, wipeE]
          have lo := late_ok (w := 1 + w) (h := 1 + h) (t := t - 4) (s := s - 50) ok (by omega) (by omega) (by omega) (by omega) (by omega) (by omega) (by omega) (by omega)
          let f3 : PyData → PyData := fun x => match x with
            | .tuple [.int a, .int b] => frD (lateP (1 + w) (1 + h) (t - 4) (s - 50) (a, b))
            | _ => .none
          refine lc_pure M (fun _ => true) f3 (by rw [List.length_map]; omega) (fun x hx => ?_) ?_
          · obtain ⟨p, hp, rfl⟩ := List.mem_map.mp hx
            obtain ⟨b1, b2⟩ := ok.bd p hp
            have mb : ∀ a b : Int, a.natAbs < 2 ^ 10 → mulOk a b := fun a b h1 => by
              have : (2 : Nat) ^ 10 = 1024 := by decide
              exact mul_l (by omega) (by omega)
            have mb' : ∀ a b : Int, b.natAbs < 2 ^ 10 → mulOk a b := fun a b h1 => by
              have : (2 : Nat) ^ 10 = 1024 := by decide
              exact mul_r (by omega) (by omega)
            refine ⟨_, rfl, fun P hP => by simpa [cndW_eq] using hP, fun _ P hP => ?_⟩
            simp [eltW_eq, e29_6, stA, mb _ _ b1, mb _ _ b2, mb' _ _ b1, datas]
            exact ⟨by omega, hP false⟩
          · rw [List.filter_eq_self.mpr fun _ _ => rfl, List.map_map]
            have eL : PyData.list (r.map (f3 ∘ frD)) = rD (r.map (lateP (1 + w) (1 + h) (t - 4) (s - 50))) := by
              unfold rD
              rw [List.map_map]
              rfl
            rw [eL]
            generalize hlate : r.map (lateP (1 + w) (1 + h) (t - 4) (s - 50)) = late at lo
            have ll : late.length = r.length := by rw [← hlate, List.length_map]
            have eR : PyData.list (r.map frD) = rD r := rfl
            rw [eR]
            simp [t29_13, srcW, wipeE]
            refine ⟨by omega, ?_⟩
            rw [rng_idx]
            refine seen_all M h14 lo ll.symm (fun i P hc hP i0 i1 => ?_) ?_
            · simp [eltW_eq, e29_7, stA]
              exact hc _ _ _ hP i0 i1
            refine ⟨by omega, ?_⟩
            refine seen_all M h14 (ok.up (by decide)) rfl (fun i P hc hP i0 i1 => ?_) ?_
            · simp [eltW_eq, e29_8, stA]
              exact hc _ _ _ hP i0 i1
            have eE : (idx late.length).map (seenL late) = (idx r.length).map (seenL r) := by
              rw [ll]
              refine List.map_congr_left fun i hi => ?_
              have hi := mem_idx.mp hi
              rw [← hlate]
              exact seen_late (by omega) (by omega) hi
            rw [eE]
            refine ⟨eqOk_ints2, ?_⟩
            rw [eqv_self _ (plain_ints2 _)]
            simp [t29_12, srcW, wipeE]
            have eV : ∀ Q : List PyData → Prop, (∃ xs, rD r = PyData.list xs ∧ Q xs) ↔ Q (r.map frD) := fun Q => ⟨fun ⟨xs, e, h⟩ => by cases e; exact h, fun h => ⟨_, rfl, h⟩⟩
            rw [eV]
            have ab := about_ok ok
            let f4 : PyData → PyData := fun x => match x with
              | .tuple [.int a, .int b] => frD (aboutP (a, b))
              | _ => .none
            rw [← List.map_reverse]
            refine lc_pure M (fun _ => true) f4 (by rw [List.length_map, List.length_reverse]; omega) (fun x hx => ?_) ?_
            · obtain ⟨p, hp, rfl⟩ := List.mem_map.mp hx
              refine ⟨_, rfl, fun P hP => by simpa [cndW_eq] using hP, fun _ P hP => ?_⟩
              have e0 : f4 (frD p) = .tuple [.int (-p.1), .int p.2] := by
                show PyData.tuple [.int (0 - p.1), .int p.2] = _
                rw [Int.zero_sub]
              simp [eltW_eq, e29_9, stA, datas]
              rw [← e0]
              exact ⟨by omega, hP false⟩
            · rw [List.filter_eq_self.mpr fun _ _ => rfl, List.map_map]
              have eA : PyData.list (r.reverse.map (f4 ∘ frD)) = rD (r.reverse.map aboutP) := by
                unfold rD
                rw [List.map_map]
                rfl
              rw [eA]
              simp [t29_11]
              rw [h14]
              have al : (r.reverse.map aboutP).length = r.length := by rw [List.length_map, List.length_reverse]
              refine ⟨rfl, ⟨r.reverse.map aboutP, by rw [List.map_reverse], ab.up (by decide), Int.le_refl _, by omega⟩, fun x n5 hr => ?_, fun _ _ h => h.elim⟩
              obtain ⟨rfl, rfl⟩ := hr
              refine ⟨rfl, ⟨r, rfl, ok.up (by decide), by omega, by omega⟩, fun x n5 hr => ?_, fun _ _ h => h.elim⟩
              obtain ⟨rfl, rfl⟩ := hr
              simp only [unR_rD]
              have eV2 : ∀ (l : List Int) (Q : List PyData → Prop), (∃ xs, T.d (intsD l) = T.d (PyData.list xs) ∧ Q xs) ↔ Q (l.map PyData.int) := fun l Q => ⟨fun ⟨xs, e, h⟩ => by cases e; exact h, fun h => ⟨_, rfl, h⟩⟩
              rw [eV2]
              have hq2 := hQ (bl true) n5 ⟨by omega, by omega, rfl⟩
              have sl := seen_len (r := r) (i := r.length - 1)
              simp [srcW, wipeE]
              rw [show (List.map PyData.int (seenL r (↑r.length - 1))).reverse = (seenL r (↑r.length - 1)).reverse.map PyData.int by rw [List.map_reverse]]
              let f5 : PyData → PyData := fun x => match x with
                | .int k => .int (r.length - 1 - k)
                | _ => .none
              refine lc_pure M (fun _ => true) f5 (by rw [List.length_map, List.length_reverse]; omega) (fun x hx => ?_) ?_
              · obtain ⟨k, hk, rfl⟩ := List.mem_map.mp hx
                refine ⟨_, rfl, fun P hP => by simpa [cndW_eq] using hP, fun _ P hP => ?_⟩
                simp [eltW_eq, e29_10, stA]
                exact hP false
              · rw [List.filter_eq_self.mpr fun _ _ => rfl, List.map_map]
                have eF : PyData.list ((seenL r (r.length - 1)).reverse.map (f5 ∘ PyData.int)) = intsD (seenL (r.reverse.map aboutP) 0) := by
                  rw [seen_about (by omega)]
                  unfold intsD
                  rw [List.map_map]
                  rfl
                rw [eF, ← List.map_reverse]
                refine ⟨eqOk_ints, ?_⟩
                rw [eqv_self _ (plain_ints _), if_pos rfl, lr]
                refine ⟨so, ?_⟩
                simp only [cw_eq]
                refine ⟨⟨rfl, rfl, by simp [PyData.depth]⟩, ?_⟩
                rw [eqv_self _ rfl]
                exact hq2
end
end K44

set_option Elab.async false
set_option linter.all false
set_option maxRecDepth 100000
set_option maxHeartbeats 4000000
set_option exponentiation.threshold 10000
namespace K44
open PySem PySem.Spec PyProof.Rows L2 TL HL K3
def S30 : Spc := { ar := 1, pre := (fun | [.scr ns], n => ns.length ≤ 63 ∧ n = 0 | _, _ => False), post := (fun _ _ => fun r _ => r = bl true) }
def rA : List (Int × Int) := [(0, 4), (1, 1), (3, 5), (4, 2), (6, 3), (9, 0)]
def rB : List (Int × Int) := [(0, 0), (1, 1), (2, 2), (5, 5)]
theorem rok_dec {r : List (Int × Int)} (h2 : 2 ≤ r.length) (hl : r.length ≤ 1000) (ha : ∀ j < r.length, ∀ i < j, (r.getD i (0, 0)).1 < (r.getD j (0, 0)).1) (hb : ∀ p ∈ r, p.1.natAbs < 1024 ∧ p.2.natAbs < 1024) : Rok 10 r :=
  ⟨h2, hl, fun i j h0 hij hj => ha j.toNat (by omega) i.toNat (by omega), hb⟩
section
variable {Φ : Nat → TSp} {C : Nat → PyData}
theorem w30 (M : MonoPh Φ) (h14 : Φ 14 = sSeenIn.sp) (h15 : Φ 15 = S15.sp) (h19 : Φ 19 = sGen.sp) (h21 : Φ 21 = (sSame 4).sp) (h25 : Φ 25 = sRidge.sp) (h29 : Φ 29 = S29.sp) : Body S30 b30 n30 Φ C := by
  intro ts n Q X hq hl hp hQ hX
  match ts, hp with
  | [.scr ns], hp =>
    obtain ⟨l63, n0⟩ := hp
    have hq2 : ∀ m, Q (bl true) m := fun m => hQ _ m rfl
    have hz : (sizeLine : Nat) = 16777216 := sizeLine_eq
    simp [b30, n30, srcW]
    refine for_by M (fun t ρ m => m ≤ 0 + 12000000 * t ∧ ∃ a b c d : Option (Bool × T), ρ = [some (false, .scr ns), a, b, c, d]) ⟨by omega, none, none, none, none, rfl⟩ (fun t ρ m x e h => ?_) fun ρ m h => ?_
    · obtain ⟨hm, a, b, c, d, rfl⟩ := h
      have ht : t < 3 := by
        have := (List.getElem?_eq_some_iff.mp e).1
        simpa using this
      have ex : x = .int t := by
        rw [List.getElem?_map, List.getElem?_range (by omega)] at e
        exact (Option.some.inj e).symm
      subst ex
      refine ⟨_, rfl, ?_⟩
      simp [l30_1, stA]
      rw [h19]
      refine ⟨rfl, ⟨by omega, by omega, l63⟩, fun r n' hr => ?_, fun _ _ h => h.elim⟩
      obtain ⟨rfl, rfl⟩ := hr
      simp [datas, srcW]
      refine ⟨by omega, ?_⟩
      refine for_by M (fun u ρ m' => m' ≤ n' + 2500000 * u ∧ ∃ b d : Option (Bool × T), ρ = [some (false, .scr ns), some (false, .d (.int t)), some (false, .gen), b, d]) ⟨by omega, _, _, rfl⟩ (fun u ρ m' x e h => ?_) fun ρ m' h => ?_
      · obtain ⟨hm', b, d, rfl⟩ := h
        have hu : u < 4 := (List.getElem?_eq_some_iff.mp e).1
        have ex : ∃ far : Int, x = .int far ∧ 0 ≤ far ∧ far ≤ 1000 := by
          have := List.mem_of_getElem? e
          simp at this
          rcases this with rfl | rfl | rfl | rfl
          · exact ⟨_, rfl, by decide, by decide⟩
          · exact ⟨_, rfl, by decide, by decide⟩
          · exact ⟨_, rfl, by decide, by decide⟩
          · exact ⟨_, rfl, by decide, by decide⟩
        obtain ⟨far, rfl, f0, f1⟩ := ex
        refine ⟨_, rfl, ?_⟩
        simp [l30_0, stA]
        rw [h25]
        refine ⟨rfl, ⟨by decide, by decide, f0, f1, by omega⟩, fun r n2 hr => ?_, fun _ _ h => h.elim⟩
        obtain ⟨e1, e2, r, rfl, ok, lr⟩ := hr
        rw [h29]
        refine ⟨rfl, ⟨r, rfl, ok, Nat.le_trans lr (by decide), by omega⟩, fun r n3 hr => ?_, fun _ _ h => h.elim⟩
        obtain ⟨e3, e4, rfl⟩ := hr
        have g1 : n3 ≤ n' + 2500000 * (u + 1) := step_le hm' (by omega)
        simp [bl]
        exact g1
      · obtain ⟨hm', b, d, rfl⟩ := h
        have hm' : m' ≤ n' + 2500000 * 4 := by simpa using hm'
        have g1 : m' ≤ 0 + 12000000 * (t + 1) := step_le hm (by omega)
        refine ⟨?_, _, _, _, _, rfl⟩
        simp only [Nat.zero_add] at g1 ⊢
        exact g1
    · obtain ⟨hm, a, b, c, d, rfl⟩ := h
      simp [datas]
      refine ⟨by omega, by omega, ?_⟩
      have oA : Rok 300 rA := (rok_dec (by decide) (by decide) (by decide +kernel) (by decide +kernel)).up (by decide)
      have oB : Rok 4000 rB := (rok_dec (by decide) (by decide) (by decide +kernel) (by decide +kernel)).up (by decide)
      rw [h15]
      refine ⟨rfl, ⟨rA, rfl, oA, by decide, by decide⟩, fun x n1 hr => ?_, fun _ _ h => h.elim⟩
      obtain ⟨rfl, rfl⟩ := hr
      refine ⟨by omega, by omega, ?_⟩
      rw [h14]
      refine ⟨rfl, ⟨rB, rfl, oB, by decide, by decide⟩, fun x n1 hr => ?_, fun _ _ h => h.elim⟩
      obtain ⟨rfl, rfl⟩ := hr
      have e1 : barD (unR (rD rA)) 0 4 (bar (unR (rD rA)) 0 4) = .tuple [.int 2, .tuple [.int 3, .int 2]] := by
        rw [unR_rD, show bar rA 0 4 = some (2, 9) by decide +kernel]
        show PyData.tuple [.int 2, frD (K3.low 9 (wid rA 0 4))] = _
        rw [show K3.low 9 (wid rA 0 4) = (3, 2) by decide +kernel]
        rfl
      have e2 : intsD (seenL (unR (rD rB)) 0) = .list [.int 0, .int 1, .int 2, .int 3] := by
        rw [unR_rD, show seenL rB 0 = [0, 1, 2, 3] by decide +kernel]; rfl
      refine ⟨[barD (unR (rD rA)) 0 4 (bar (unR (rD rA)) 0 4), intsD (seenL (unR (rD rB)) 0)], rfl, by show 2 ≤ _; omega, by omega, by omega, by omega, ?_⟩
      rw [e1, e2, h21]
      refine ⟨rfl, ⟨rfl, by show 2 ≤ 1000; omega, fun y hy => ?_⟩, fun x n1 hr => ?_, fun _ _ h => h.elim⟩
      · simp at hy
        rcases hy with rfl | rfl
        · refine ⟨by show 2 ≤ 1000; omega, fun y hy => ?_⟩
          simp at hy
          rcases hy with rfl | rfl
          · trivial
          · refine ⟨by show 2 ≤ 1000; omega, fun y hy => ?_⟩
            simp at hy
            rcases hy with rfl | rfl <;> trivial
        · refine ⟨by show 4 ≤ 1000; omega, fun y hy => ?_⟩
          simp at hy
          rcases hy with rfl | rfl | rfl | rfl <;> trivial
      · obtain ⟨rfl, rfl⟩ := hr
        exact hq2 _
end
end K44

set_option Elab.async false
set_option linter.all false
set_option maxRecDepth 100000
set_option maxHeartbeats 4000000
namespace K44
open PySem PySem.Spec PyProof.Rows L2 TL HL
def S : Nat → Spc
  | 0 => sWhole
  | 1 => sCount
  | 2 => sAsc
  | 3 => sCommon
  | 4 => sLowest
  | 5 => sLowest
  | 6 => sIsRidge
  | 7 => sChkRidge
  | 8 => sChkPoint
  | 9 => sChkPoints
  | 10 => sOver
  | 11 => sSees
  | 12 => sSees
  | 13 => sSeenIn
  | 14 => sSeenIn
  | 15 => S15
  | 16 => sHash
  | 17 => sRand
  | 18 => sCell
  | 19 => sGen
  | 20 => sPick
  | 21 => sSame 4
  | 22 => sLowest
  | 23 => sLess
  | 24 => S24
  | 25 => sRidge
  | 26 => sAbove
  | 27 => sLSees
  | 28 => S28
  | 29 => S29
  | 30 => S30
  | _ => Spc.no 0
def put (i : Nat) (s : Spc) (T : Nat → Spc) : Nat → Spc := fun j => if j = i then s else T j
def kws : Nat → List (List Nat × Nat × List Str)
  | 12 => [([2, 1, 0], 0, ["other", "one", "ridge"])]
  | 14 => [([1, 0], 0, ["one", "ridge"])]
  | 15 => [([2, 1, 0], 0, ["other", "one", "ridge"])]
  | _ => []
section
variable {P : Program} {w : World} {K : PySem.W.Frag} {mg : Str → Option Value} {base : Heap}
abbrev At (P : Program) (w : World) (K : PySem.W.Frag) (mg : Str → Option Value) (base : Heap) (i L : Nat) (s : Spc) : Prop := Has P w K mg base (tb (fun _ => spNo) 0).cn ((tb (fun _ => spNo) 0).nm i) ((tb (fun _ => spNo) 0).ar i) (kws i) L s.sp
/-- what the module gives -/
structure Md (K : PySem.W.Frag) (mg : Str → Option Value) : Prop where
  dg : PySem.W.nsIn K cStatics "sys.int_max_str_digits" = some none
  bl : ∀ x, (tb (fun _ => spNo) 0).bl.contains x = true → mg x = none
  gc : ∀ k, (tb (fun _ => spNo) 0).hc k = true → ∃ u v, mg ((tb (fun _ => spNo) 0).gm k) = some u ∧ RelV v u ∧ ∀ H, Rp K H v ((tb (fun _ => spNo) 0).C k)
theorem fz {T : Nat → Spc} {k L : Nat} (m : Md K mg) (ha : ∀ i, (T i).ar = (tb (fun _ => spNo) 0).ar i) (h : ∀ i, i < k → At P w K mg base i L (T i)) : Fz (tb (fun i => (T i).sp) k) P w K mg base L := by
  refine ⟨m.dg, mono_sp T, fun f ts n Q Xt hf => hf.1.trans (ha f), m.bl, m.gc, fun f hf => ?_, fun f pm n ks hf => ?_⟩
  · have hf : f < k := of_decide_eq_true hf
    obtain ⟨a, fd, ps, F, r1, r2, r3, r4, _⟩ := h f hf
    exact ⟨a, fd, ps, F, r1, r2, r3, r4⟩
  · have hf : (decide (f < k) && decide ((f, pm, n, ks) ∈ ([(15, [2, 1, 0], 0, ["other", "one", "ridge"]), (12, [2, 1, 0], 0, ["other", "one", "ridge"]), (14, [1, 0], 0, ["one", "ridge"])] : List (Nat × List Nat × Nat × List Str)))) = true := hf
    simp only [Bool.and_eq_true, decide_eq_true_eq] at hf
    obtain ⟨h1, h2⟩ := hf
    obtain ⟨a, fd, ps, F, r1, r2, r3, _, r5⟩ := h f h1
    refine ⟨a, fd, ps, F, r1, r2, r3, ?_⟩
    have : (pm, n, ks) ∈ kws f := by
      simp only [List.mem_cons, List.not_mem_nil, or_false, Prod.mk.injEq] at h2
      rcases h2 with ⟨rfl, rfl, rfl, rfl⟩ | ⟨rfl, rfl, rfl, rfl⟩ | ⟨rfl, rfl, rfl, rfl⟩ <;> simp [kws]
    exact r5 _ this
/-- a def of the text as the module holds it -/
def Df (K : PySem.W.Frag) (mg : Str → Option Value) (i : Nat) (x : Str) (st : Stmt) (ps : List Str) : Prop := ∃ f fd, Fun K x x st f fd ∧ mg x = some (.ref f) ∧ Binds K fd ps [] ∧ ∀ q ∈ kws i, KBinds K fd ps q.2.2 (kwG q.2.1 q.2.2.length q.1) (kwG q.2.1 q.2.2.length q.1)
theorem step {T : Nat → Spc} {k i L : Nat} {x : Str} {st : Stmt} {N ps : List Str} {s : Spc} {b : Ss} (hx : (tb (fun _ => spNo) 0).nm i = x) (hp : ps.length = (tb (fun _ => spNo) 0).ar i) (D : Df K mg i x st ps) (Z : Fz (tb (fun i => (T i).sp) k) P w K mg base L)
    (S : FnScope N ps (defScope st)) (hc : chkSs (tb (fun i => (T i).sp) k) N (defScope st) b (defBody st) = true) (B : Body s b N (fun i => (T i).sp) (tb (fun _ => spNo) 0).C) : At P w K mg base i (L + 1) s := by
  obtain ⟨f, fd, F, e, bd, kb⟩ := D
  refine ⟨f, fd, ps, def_sp (Γ := tb (fun i => (T i).sp) k) b Z F S hc fun ts n Q X hq hl hp hQ hX => B ts n Q X hq hl hp hQ hX, hp, by rw [hx]; exact e, F.kp, bd, kb⟩
/-- a spec that is never asked -/
theorem never {i L : Nat} {x : Str} {st : Stmt} {ps : List Str} {s : Spc} (hx : (tb (fun _ => spNo) 0).nm i = x) (hp : ps.length = (tb (fun _ => spNo) 0).ar i) (D : Df K mg i x st ps) (h : ∀ ts n, ¬ s.pre ts n) : At P w K mg base i L s := by
  obtain ⟨f, fd, F, e, bd, kb⟩ := D
  exact ⟨f, fd, ps, fn_false h, hp, by rw [hx]; exact e, F.kp, bd, kb⟩
theorem arS : ∀ i, (S i).ar = (tb (fun _ => spNo) 0).ar i
  | 0 => rfl | 1 => rfl | 2 => rfl | 3 => rfl | 4 => rfl | 5 => rfl | 6 => rfl | 7 => rfl | 8 => rfl | 9 => rfl | 10 => rfl | 11 => rfl | 12 => rfl | 13 => rfl | 14 => rfl | 15 => rfl | 16 => rfl | 17 => rfl | 18 => rfl | 19 => rfl | 20 => rfl | 21 => rfl | 22 => rfl | 23 => rfl | 24 => rfl | 25 => rfl | 26 => rfl | 27 => rfl | 28 => rfl | 29 => rfl | 30 => rfl
  | _ + 31 => rfl
theorem ar_put {j : Nat} {s : Spc} (h : s.ar = (tb (fun _ => spNo) 0).ar j) : ∀ i, (put j s S i).ar = (tb (fun _ => spNo) 0).ar i := fun i => by
  unfold put
  by_cases e : i = j
  · rw [if_pos e, e]; exact h
  · rw [if_neg e]; exact arS i
theorem more {T : Nat → Spc} {k L L' : Nat} (h : ∀ i, i < k → At P w K mg base i L (T i)) (hk : At P w K mg base k L' (T k)) (hl : L ≤ L') : ∀ i, i < k + 1 → At P w K mg base i L' (T i) := fun i hi => by
  by_cases e : i = k
  · rw [e]; exact hk
  · exact (h i (by omega)).up hl
theorem with_ {j L : Nat} {s : Spc} (h : ∀ i, i < j → At P w K mg base i L (S i)) (hj : At P w K mg base j L s) : ∀ i, i < j + 1 → At P w K mg base i L (put j s S i) := fun i hi => by
  unfold put
  by_cases e : i = j
  · rw [if_pos e, e]; exact hj
  · rw [if_neg e]; exact h i (by omega)
theorem all_at (m : Md K mg) (d0 : Df K mg 0 "is_whole" s0 p0) (d1 : Df K mg 1 "is_count" s1 p1) (d2 : Df K mg 2 "ascends" s2 p2) (d3 : Df K mg 3 "common_of" s3 p3) (d4 : Df K mg 4 "lowest_of" s4 p4) (d5 : Df K mg 5 "fraction_of" s5 p5) (d6 : Df K mg 6 "is_ridge" s6 p6) (d7 : Df K mg 7 "check_ridge" s7 p7) (d8 : Df K mg 8 "check_point" s8 p8) (d9 : Df K mg 9 "check_points" s9 p9) (d10 : Df K mg 10 "over_line" s10 p10) (d11 : Df K mg 11 "sees_in" s11 p11) (d12 : Df K mg 12 "does_see" s12 p12) (d13 : Df K mg 13 "seen_in" s13 p13) (d14 : Df K mg 14 "seen_from" s14 p14) (d15 : Df K mg 15 "barring_point" s15 p15) (d16 : Df K mg 16 "_law_hash" s16 p16) (d17 : Df K mg 17 "_law_random" s17 p17) (d18 : Df K mg 18 "_law_cell" s18 p18) (d19 : Df K mg 19 "_law_generator" s19 p19) (d20 : Df K mg 20 "_law_pick" s20 p20) (d21 : Df K mg 21 "_law_same" s21 p21) (d22 : Df K mg 22 "_law_low" s22 p22) (d23 : Df K mg 23 "_law_less" s23 p23) (d24 : Df K mg 24 "_law_drawn" s24 p24) (d25 : Df K mg 25 "_law_ridge" s25 p25) (d26 : Df K mg 26 "_law_above" s26 p26) (d27 : Df K mg 27 "_law_sees" s27 p27) (d28 : Df K mg 28 "_law_bar" s28 p28) (d29 : Df K mg 29 "_law_right" s29 p29) : ∀ i, i < 30 → At P w K mg base i 33 (S i) := by
  have M : MonoPh (fun i => (S i).sp) := mono_sp S
  have H0 : ∀ i, i < 0 → At P w K mg base i 0 (S i) := fun i h => absurd h (Nat.not_lt_zero i)
  have h0 : At P w K mg base 0 1 (S 0) := step rfl rfl d0 (fz m arS H0) sc0 (ch0 _) (wWhole)
  have H1 := more H0 h0 (by decide)
  have h1 : At P w K mg base 1 2 (S 1) := step rfl rfl d1 (fz m arS H1) sc1 (ch1 _) (wCount rfl)
  have H2 := more H1 h1 (by decide)
  have h2 : At P w K mg base 2 3 (S 2) := step rfl rfl d2 (fz m arS H2) sc2 (ch2 _) (wAsc M)
  have H3 := more H2 h2 (by decide)
  have h3 : At P w K mg base 3 4 (S 3) := step rfl rfl d3 (fz m arS H3) sc3 (ch3 _) (wCommon M)
  have H4 := more H3 h3 (by decide)
  have h4 : At P w K mg base 4 5 (S 4) := step rfl rfl d4 (fz m arS H4) sc4 (ch4 _) (wLowest rfl)
  have H5 := more H4 h4 (by decide)
  have h5 : At P w K mg base 5 6 (S 5) := step rfl rfl d5 (fz m arS H5) sc5 (ch5 _) (wFraction rfl rfl)
  have H6 := more H5 h5 (by decide)
  have h6 : At P w K mg base 6 7 (S 6) := step rfl rfl d6 (fz m arS H6) sc6 (ch6 _) (wIsRidge M rfl rfl)
  have H7 := more H6 h6 (by decide)
  have h7 : At P w K mg base 7 8 (S 7) := step rfl rfl d7 (fz m arS H7) sc7 (ch7 _) (wChkRidge rfl)
  have H8 := more H7 h7 (by decide)
  have h8 : At P w K mg base 8 9 (S 8) := step rfl rfl d8 (fz m arS H8) sc8 (ch8 _) (wChkPoint rfl)
  have H9 := more H8 h8 (by decide)
  have h9 : At P w K mg base 9 10 (S 9) := step rfl rfl d9 (fz m arS H9) sc9 (ch9 _) (wChkPoints rfl rfl)
  have H10 := more H9 h9 (by decide)
  have h10 : At P w K mg base 10 11 (S 10) := step rfl rfl d10 (fz m arS H10) sc10 (ch10 _) (wOver)
  have H11 := more H10 h10 (by decide)
  have h11 : At P w K mg base 11 12 (S 11) := step rfl rfl d11 (fz m arS H11) sc11 (ch11 _) (wSees M rfl)
  have H12 := more H11 h11 (by decide)
  have h12 : At P w K mg base 12 13 (S 12) := step rfl rfl d12 (fz m arS H12) sc12 (ch12 _) (wDoesSee rfl rfl)
  have H13 := more H12 h12 (by decide)
  have h13 : At P w K mg base 13 14 (S 13) := step rfl rfl d13 (fz m arS H13) sc13 (ch13 _) (wSeenIn M rfl)
  have H14 := more H13 h13 (by decide)
  have h14 : At P w K mg base 14 15 (S 14) := step rfl rfl d14 (fz m arS H14) sc14 (ch14 _) (wSeenFrom rfl rfl rfl)
  have H15 := more H14 h14 (by decide)
  have h15 : At P w K mg base 15 16 (S 15) := step rfl rfl d15 (fz m arS H15) sc15 (ch15 _) (w15 M rfl rfl rfl)
  have H16 := more H15 h15 (by decide)
  have h16 : At P w K mg base 16 17 (S 16) := step rfl rfl d16 (fz m arS H16) sc16 (ch16 _) (wHash)
  have H17 := more H16 h16 (by decide)
  have h17 : At P w K mg base 17 18 (S 17) := step rfl rfl d17 (fz m arS H17) sc17 (ch17 _) (wRand M rfl)
  have H18 := more H17 h17 (by decide)
  have h18 : At P w K mg base 18 19 (S 18) := step rfl rfl d18 (fz m arS H18) sc18 (ch18 _) (wCell)
  have H19 := more H18 h18 (by decide)
  have g19 : At P w K mg base 19 20 sGenL := step rfl rfl d19 (fz m arS H19) sc19 (ch19 _) (wGen rfl)
  have h19 : At P w K mg base 19 20 (S 19) := by
    obtain ⟨a, fd, ps, F, r⟩ := g19
    exact ⟨a, fd, ps, F.imp (gen_of rfl (fun ts n h => by
      match ts, h with
      | [.scr ns, .d (.int i)], h => exact h) (fun ts n r n' h => h) (fun ts n => ⟨rfl, rfl⟩) fun _ _ _ _ h => h), r⟩
  have H20 := more H19 h19 (by decide)
  have h20 : At P w K mg base 20 21 (S 20) := step rfl rfl d20 (fz m arS H20) sc20 (ch20 _) (wPick rfl)
  have H21 := more H20 h20 (by decide)
  have r21 : ∀ d, At P w K mg base 21 (21 + d) (sSame d) := fun d => by
    induction d with
    | zero => exact never rfl rfl d21 noSame
    | succ d ih => exact step (T := put 21 (sSame d) S) (k := 22) rfl rfl d21 (fz m (ar_put rfl) (with_ (fun i hi => (H21 i hi).up (Nat.le_add_right _ _)) ih)) sc21 (ch21 _) (wSame2 (mono_sp _) d rfl)
  have h21 : At P w K mg base 21 25 (S 21) := r21 4
  have H22 := more H21 h21 (by decide)
  have h22 : At P w K mg base 22 26 (S 22) := step rfl rfl d22 (fz m arS H22) sc22 (ch22 _) (wLow M)
  have H23 := more H22 h22 (by decide)
  have h23 : At P w K mg base 23 27 (S 23) := step rfl rfl d23 (fz m arS H23) sc23 (ch23 _) (wLLess)
  have H24 := more H23 h23 (by decide)
  have h24 : At P w K mg base 24 28 (S 24) := step rfl rfl d24 (fz m arS H24) sc24 (ch24 _) (w24 M rfl)
  have H25 := more H24 h24 (by decide)
  have h25 : At P w K mg base 25 29 (S 25) := step rfl rfl d25 (fz m arS H25) sc25 (ch25 _) (wRidge M rfl rfl)
  have H26 := more H25 h25 (by decide)
  have h26 : At P w K mg base 26 30 (S 26) := step rfl rfl d26 (fz m arS H26) sc26 (ch26 _) (wAbove rfl)
  have H27 := more H26 h26 (by decide)
  have h27 : At P w K mg base 27 31 (S 27) := step rfl rfl d27 (fz m arS H27) sc27 (ch27 _) (wLSees M rfl)
  have H28 := more H27 h27 (by decide)
  have h28 : At P w K mg base 28 32 (S 28) := step rfl rfl d28 (fz m arS H28) sc28 (ch28 _) (w28 M rfl rfl)
  have H29 := more H28 h28 (by decide)
  have h29 : At P w K mg base 29 33 (S 29) := step rfl rfl d29 (fz m arS H29) sc29 (ch29 _) (w29 M rfl rfl rfl rfl rfl rfl rfl rfl)
  have H30 := more H29 h29 (by decide)
  exact fun i hi => (H30 i hi).up (by decide)
end
end K44

set_option Elab.async false
set_option linter.all false
set_option maxRecDepth 100000
set_option maxHeartbeats 4000000
set_option pp.maxSteps 300
set_option pp.deepTerms false
namespace K44
open PySem PySem.Spec PyProof.Rows L2 TL HL
theorem kw_15_0 {K : PySem.W.Frag} {fd : FuncData} (h : ∀ v0 v1 v2 : Value, bindArgs fd ⟨[], [(("other" : Str), v0), (("one" : Str), v1), (("ridge" : Str), v2)]⟩ = (pure [(("ridge" : Str), v2), (("one" : Str), v1), (("other" : Str), v0)] : Sem (List (Str × Value)))) : KBinds K fd ["ridge", "one", "other"] ["other", "one", "ridge"] (kwG 0 3 [2, 1, 0]) (kwG 0 3 [2, 1, 0]) := by
  refine ⟨fun s us ws _ hl => ?_, fun {vs us zs ws} r1 r2 => ?_⟩
  · unfold kwG at hl ⊢
    by_cases c : us.length = 0 ∧ ws.length = 3
    · rw [if_pos c] at hl ⊢
      match us, ws, c with
      | [], [v0, v1, v2], _ => exact .of_eq (h v0 v1 v2)
    · rw [if_neg c] at hl
      cases hl
  · have e1 := r1.length
    have e2 := r2.length
    unfold kwG
    by_cases c : us.length = 0 ∧ ws.length = 3
    · rw [if_pos c, if_pos ⟨e1.trans c.1, e2.trans c.2⟩]
      exact kwF_rel r1 r2 _
    · rw [if_neg c, if_neg fun z => c ⟨e1.symm.trans z.1, e2.symm.trans z.2⟩]
      exact .nil
theorem kw_12_0 {K : PySem.W.Frag} {fd : FuncData} (h : ∀ v0 v1 v2 : Value, bindArgs fd ⟨[], [(("other" : Str), v0), (("one" : Str), v1), (("ridge" : Str), v2)]⟩ = (pure [(("ridge" : Str), v2), (("one" : Str), v1), (("other" : Str), v0)] : Sem (List (Str × Value)))) : KBinds K fd ["ridge", "one", "other"] ["other", "one", "ridge"] (kwG 0 3 [2, 1, 0]) (kwG 0 3 [2, 1, 0]) := by
  refine ⟨fun s us ws _ hl => ?_, fun {vs us zs ws} r1 r2 => ?_⟩
  · unfold kwG at hl ⊢
    by_cases c : us.length = 0 ∧ ws.length = 3
    · rw [if_pos c] at hl ⊢
      match us, ws, c with
      | [], [v0, v1, v2], _ => exact .of_eq (h v0 v1 v2)
    · rw [if_neg c] at hl
      cases hl
  · have e1 := r1.length
    have e2 := r2.length
    unfold kwG
    by_cases c : us.length = 0 ∧ ws.length = 3
    · rw [if_pos c, if_pos ⟨e1.trans c.1, e2.trans c.2⟩]
      exact kwF_rel r1 r2 _
    · rw [if_neg c, if_neg fun z => c ⟨e1.symm.trans z.1, e2.symm.trans z.2⟩]
      exact .nil
theorem kw_14_0 {K : PySem.W.Frag} {fd : FuncData} (h : ∀ v0 v1 : Value, bindArgs fd ⟨[], [(("one" : Str), v0), (("ridge" : Str), v1)]⟩ = (pure [(("ridge" : Str), v1), (("one" : Str), v0)] : Sem (List (Str × Value)))) : KBinds K fd ["ridge", "one"] ["one", "ridge"] (kwG 0 2 [1, 0]) (kwG 0 2 [1, 0]) := by
  refine ⟨fun s us ws _ hl => ?_, fun {vs us zs ws} r1 r2 => ?_⟩
  · unfold kwG at hl ⊢
    by_cases c : us.length = 0 ∧ ws.length = 2
    · rw [if_pos c] at hl ⊢
      match us, ws, c with
      | [], [v0, v1], _ => exact .of_eq (h v0 v1)
    · rw [if_neg c] at hl
      cases hl
  · have e1 := r1.length
    have e2 := r2.length
    unfold kwG
    by_cases c : us.length = 0 ∧ ws.length = 2
    · rw [if_pos c, if_pos ⟨e1.trans c.1, e2.trans c.2⟩]
      exact kwF_rel r1 r2 _
    · rw [if_neg c, if_neg fun z => c ⟨e1.symm.trans z.1, e2.symm.trans z.2⟩]
      exact .nil
theorem mk {l : PySem.W.OpenLaw} {w : World} {K : PySem.W.Frag} {h : Heap} {mg : Str → Option Value} {fa f0 f1 f2 f3 f4 f5 f6 f7 f8 f9 f10 f11 f12 f13 f14 f15 f16 f17 f18 f19 f20 f21 f22 f23 f24 f25 f26 f27 f28 f29 f30 : Addr} {od0 an0 od1 an1 od2 an2 od3 an3 od4 an4 od5 an5 od6 an6 od7 an7 od8 an8 od9 an9 od10 an10 od11 an11 od12 an12 od13 an13 od14 an14 od15 an15 od16 an16 od17 an17 od18 an18 od19 an19 od20 an20 od21 an21 od22 an22 od23 an23 od24 an24 od25 an25 od26 an26 od27 an27 od28 an28 od29 an29 od30 an30 : Option Addr} {sl0 sl1 sl2 sl3 sl4 sl5 sl6 sl7 sl8 sl9 sl10 sl11 sl12 sl13 sl14 sl15 sl16 sl17 sl18 sl19 sl20 sl21 sl22 sl23 sl24 sl25 sl26 sl27 sl28 sl29 sl30 : Array (Option Value)} {oc0 kV0 dc0 pm0 cd0 ct0 oc1 kV1 dc1 pm1 cd1 ct1 oc2 kV2 dc2 pm2 cd2 ct2 oc3 kV3 dc3 pm3 cd3 ct3 oc4 kV4 dc4 pm4 cd4 ct4 oc5 kV5 dc5 pm5 cd5 ct5 oc6 kV6 dc6 pm6 cd6 ct6 oc7 kV7 dc7 pm7 cd7 ct7 oc8 kV8 dc8 pm8 cd8 ct8 oc9 kV9 dc9 pm9 cd9 ct9 oc10 kV10 dc10 pm10 cd10 ct10 oc11 kV11 dc11 pm11 cd11 ct11 oc12 kV12 dc12 pm12 cd12 ct12 oc13 kV13 dc13 pm13 cd13 ct13 oc14 kV14 dc14 pm14 cd14 ct14 oc15 kV15 dc15 pm15 cd15 ct15 oc16 kV16 dc16 pm16 cd16 ct16 oc17 kV17 dc17 pm17 cd17 ct17 oc18 kV18 dc18 pm18 cd18 ct18 oc19 kV19 dc19 pm19 cd19 ct19 oc20 kV20 dc20 pm20 cd20 ct20 oc21 kV21 dc21 pm21 cd21 ct21 oc22 kV22 dc22 pm22 cd22 ct22 oc23 kV23 dc23 pm23 cd23 ct23 oc24 kV24 dc24 pm24 cd24 ct24 oc25 kV25 dc25 pm25 cd25 ct25 oc26 kV26 dc26 pm26 cd26 ct26 oc27 kV27 dc27 pm27 cd27 ct27 oc28 kV28 dc28 pm28 cd28 ct28 oc29 kV29 dc29 pm29 cd29 ct29 oc30 kV30 dc30 pm30 cd30 ct30 : Value} (X : K.In h) (G : h.Ns mainGlobals mg) (hfa : mg "law" = some (.ref fa))
    (a0 : PySem.W.nsIn K mainGlobals "is_whole" = some (some (.ref f0)))
    (l0 : K.lookup f0 = some ⟨oc0, od0, .func (PySem.W.fnOf "is_whole" "is_whole" (defArgs s0) (defBody s0) (defScope s0) .none kV0 dc0 pm0 an0 cd0 ct0), sl0⟩)
    (c0 : PySem.W.codeIn K cd0 "is_whole" = true)
    (k0 : PySem.W.keepIn K (.ref f0) = true)
    (a1 : PySem.W.nsIn K mainGlobals "is_count" = some (some (.ref f1)))
    (l1 : K.lookup f1 = some ⟨oc1, od1, .func (PySem.W.fnOf "is_count" "is_count" (defArgs s1) (defBody s1) (defScope s1) .none kV1 dc1 pm1 an1 cd1 ct1), sl1⟩)
    (c1 : PySem.W.codeIn K cd1 "is_count" = true)
    (k1 : PySem.W.keepIn K (.ref f1) = true)
    (a2 : PySem.W.nsIn K mainGlobals "ascends" = some (some (.ref f2)))
    (l2 : K.lookup f2 = some ⟨oc2, od2, .func (PySem.W.fnOf "ascends" "ascends" (defArgs s2) (defBody s2) (defScope s2) .none kV2 dc2 pm2 an2 cd2 ct2), sl2⟩)
    (c2 : PySem.W.codeIn K cd2 "ascends" = true)
    (k2 : PySem.W.keepIn K (.ref f2) = true)
    (a3 : PySem.W.nsIn K mainGlobals "common_of" = some (some (.ref f3)))
    (l3 : K.lookup f3 = some ⟨oc3, od3, .func (PySem.W.fnOf "common_of" "common_of" (defArgs s3) (defBody s3) (defScope s3) .none kV3 dc3 pm3 an3 cd3 ct3), sl3⟩)
    (c3 : PySem.W.codeIn K cd3 "common_of" = true)
    (k3 : PySem.W.keepIn K (.ref f3) = true)
    (a4 : PySem.W.nsIn K mainGlobals "lowest_of" = some (some (.ref f4)))
    (l4 : K.lookup f4 = some ⟨oc4, od4, .func (PySem.W.fnOf "lowest_of" "lowest_of" (defArgs s4) (defBody s4) (defScope s4) .none kV4 dc4 pm4 an4 cd4 ct4), sl4⟩)
    (c4 : PySem.W.codeIn K cd4 "lowest_of" = true)
    (k4 : PySem.W.keepIn K (.ref f4) = true)
    (a5 : PySem.W.nsIn K mainGlobals "fraction_of" = some (some (.ref f5)))
    (l5 : K.lookup f5 = some ⟨oc5, od5, .func (PySem.W.fnOf "fraction_of" "fraction_of" (defArgs s5) (defBody s5) (defScope s5) .none kV5 dc5 pm5 an5 cd5 ct5), sl5⟩)
    (c5 : PySem.W.codeIn K cd5 "fraction_of" = true)
    (k5 : PySem.W.keepIn K (.ref f5) = true)
    (a6 : PySem.W.nsIn K mainGlobals "is_ridge" = some (some (.ref f6)))
    (l6 : K.lookup f6 = some ⟨oc6, od6, .func (PySem.W.fnOf "is_ridge" "is_ridge" (defArgs s6) (defBody s6) (defScope s6) .none kV6 dc6 pm6 an6 cd6 ct6), sl6⟩)
    (c6 : PySem.W.codeIn K cd6 "is_ridge" = true)
    (k6 : PySem.W.keepIn K (.ref f6) = true)
    (a7 : PySem.W.nsIn K mainGlobals "check_ridge" = some (some (.ref f7)))
    (l7 : K.lookup f7 = some ⟨oc7, od7, .func (PySem.W.fnOf "check_ridge" "check_ridge" (defArgs s7) (defBody s7) (defScope s7) .none kV7 dc7 pm7 an7 cd7 ct7), sl7⟩)
    (c7 : PySem.W.codeIn K cd7 "check_ridge" = true)
    (k7 : PySem.W.keepIn K (.ref f7) = true)
    (a8 : PySem.W.nsIn K mainGlobals "check_point" = some (some (.ref f8)))
    (l8 : K.lookup f8 = some ⟨oc8, od8, .func (PySem.W.fnOf "check_point" "check_point" (defArgs s8) (defBody s8) (defScope s8) .none kV8 dc8 pm8 an8 cd8 ct8), sl8⟩)
    (c8 : PySem.W.codeIn K cd8 "check_point" = true)
    (k8 : PySem.W.keepIn K (.ref f8) = true)
    (a9 : PySem.W.nsIn K mainGlobals "check_points" = some (some (.ref f9)))
    (l9 : K.lookup f9 = some ⟨oc9, od9, .func (PySem.W.fnOf "check_points" "check_points" (defArgs s9) (defBody s9) (defScope s9) .none kV9 dc9 pm9 an9 cd9 ct9), sl9⟩)
    (c9 : PySem.W.codeIn K cd9 "check_points" = true)
    (k9 : PySem.W.keepIn K (.ref f9) = true)
    (a10 : PySem.W.nsIn K mainGlobals "over_line" = some (some (.ref f10)))
    (l10 : K.lookup f10 = some ⟨oc10, od10, .func (PySem.W.fnOf "over_line" "over_line" (defArgs s10) (defBody s10) (defScope s10) .none kV10 dc10 pm10 an10 cd10 ct10), sl10⟩)
    (c10 : PySem.W.codeIn K cd10 "over_line" = true)
    (k10 : PySem.W.keepIn K (.ref f10) = true)
    (a11 : PySem.W.nsIn K mainGlobals "sees_in" = some (some (.ref f11)))
    (l11 : K.lookup f11 = some ⟨oc11, od11, .func (PySem.W.fnOf "sees_in" "sees_in" (defArgs s11) (defBody s11) (defScope s11) .none kV11 dc11 pm11 an11 cd11 ct11), sl11⟩)
    (c11 : PySem.W.codeIn K cd11 "sees_in" = true)
    (k11 : PySem.W.keepIn K (.ref f11) = true)
    (a12 : PySem.W.nsIn K mainGlobals "does_see" = some (some (.ref f12)))
    (l12 : K.lookup f12 = some ⟨oc12, od12, .func (PySem.W.fnOf "does_see" "does_see" (defArgs s12) (defBody s12) (defScope s12) .none kV12 dc12 pm12 an12 cd12 ct12), sl12⟩)
    (c12 : PySem.W.codeIn K cd12 "does_see" = true)
    (k12 : PySem.W.keepIn K (.ref f12) = true)
    (a13 : PySem.W.nsIn K mainGlobals "seen_in" = some (some (.ref f13)))
    (l13 : K.lookup f13 = some ⟨oc13, od13, .func (PySem.W.fnOf "seen_in" "seen_in" (defArgs s13) (defBody s13) (defScope s13) .none kV13 dc13 pm13 an13 cd13 ct13), sl13⟩)
    (c13 : PySem.W.codeIn K cd13 "seen_in" = true)
    (k13 : PySem.W.keepIn K (.ref f13) = true)
    (a14 : PySem.W.nsIn K mainGlobals "seen_from" = some (some (.ref f14)))
    (l14 : K.lookup f14 = some ⟨oc14, od14, .func (PySem.W.fnOf "seen_from" "seen_from" (defArgs s14) (defBody s14) (defScope s14) .none kV14 dc14 pm14 an14 cd14 ct14), sl14⟩)
    (c14 : PySem.W.codeIn K cd14 "seen_from" = true)
    (k14 : PySem.W.keepIn K (.ref f14) = true)
    (a15 : PySem.W.nsIn K mainGlobals "barring_point" = some (some (.ref f15)))
    (l15 : K.lookup f15 = some ⟨oc15, od15, .func (PySem.W.fnOf "barring_point" "barring_point" (defArgs s15) (defBody s15) (defScope s15) .none kV15 dc15 pm15 an15 cd15 ct15), sl15⟩)
    (c15 : PySem.W.codeIn K cd15 "barring_point" = true)
    (k15 : PySem.W.keepIn K (.ref f15) = true)
    (a16 : PySem.W.nsIn K mainGlobals "_law_hash" = some (some (.ref f16)))
    (l16 : K.lookup f16 = some ⟨oc16, od16, .func (PySem.W.fnOf "_law_hash" "_law_hash" (defArgs s16) (defBody s16) (defScope s16) .none kV16 dc16 pm16 an16 cd16 ct16), sl16⟩)
    (c16 : PySem.W.codeIn K cd16 "_law_hash" = true)
    (k16 : PySem.W.keepIn K (.ref f16) = true)
    (a17 : PySem.W.nsIn K mainGlobals "_law_random" = some (some (.ref f17)))
    (l17 : K.lookup f17 = some ⟨oc17, od17, .func (PySem.W.fnOf "_law_random" "_law_random" (defArgs s17) (defBody s17) (defScope s17) .none kV17 dc17 pm17 an17 cd17 ct17), sl17⟩)
    (c17 : PySem.W.codeIn K cd17 "_law_random" = true)
    (k17 : PySem.W.keepIn K (.ref f17) = true)
    (a18 : PySem.W.nsIn K mainGlobals "_law_cell" = some (some (.ref f18)))
    (l18 : K.lookup f18 = some ⟨oc18, od18, .func (PySem.W.fnOf "_law_cell" "_law_cell" (defArgs s18) (defBody s18) (defScope s18) .none kV18 dc18 pm18 an18 cd18 ct18), sl18⟩)
    (c18 : PySem.W.codeIn K cd18 "_law_cell" = true)
    (k18 : PySem.W.keepIn K (.ref f18) = true)
    (a19 : PySem.W.nsIn K mainGlobals "_law_generator" = some (some (.ref f19)))
    (l19 : K.lookup f19 = some ⟨oc19, od19, .func (PySem.W.fnOf "_law_generator" "_law_generator" (defArgs s19) (defBody s19) (defScope s19) .none kV19 dc19 pm19 an19 cd19 ct19), sl19⟩)
    (c19 : PySem.W.codeIn K cd19 "_law_generator" = true)
    (k19 : PySem.W.keepIn K (.ref f19) = true)
    (a20 : PySem.W.nsIn K mainGlobals "_law_pick" = some (some (.ref f20)))
    (l20 : K.lookup f20 = some ⟨oc20, od20, .func (PySem.W.fnOf "_law_pick" "_law_pick" (defArgs s20) (defBody s20) (defScope s20) .none kV20 dc20 pm20 an20 cd20 ct20), sl20⟩)
    (c20 : PySem.W.codeIn K cd20 "_law_pick" = true)
    (k20 : PySem.W.keepIn K (.ref f20) = true)
    (a21 : PySem.W.nsIn K mainGlobals "_law_same" = some (some (.ref f21)))
    (l21 : K.lookup f21 = some ⟨oc21, od21, .func (PySem.W.fnOf "_law_same" "_law_same" (defArgs s21) (defBody s21) (defScope s21) .none kV21 dc21 pm21 an21 cd21 ct21), sl21⟩)
    (c21 : PySem.W.codeIn K cd21 "_law_same" = true)
    (k21 : PySem.W.keepIn K (.ref f21) = true)
    (a22 : PySem.W.nsIn K mainGlobals "_law_low" = some (some (.ref f22)))
    (l22 : K.lookup f22 = some ⟨oc22, od22, .func (PySem.W.fnOf "_law_low" "_law_low" (defArgs s22) (defBody s22) (defScope s22) .none kV22 dc22 pm22 an22 cd22 ct22), sl22⟩)
    (c22 : PySem.W.codeIn K cd22 "_law_low" = true)
    (k22 : PySem.W.keepIn K (.ref f22) = true)
    (a23 : PySem.W.nsIn K mainGlobals "_law_less" = some (some (.ref f23)))
    (l23 : K.lookup f23 = some ⟨oc23, od23, .func (PySem.W.fnOf "_law_less" "_law_less" (defArgs s23) (defBody s23) (defScope s23) .none kV23 dc23 pm23 an23 cd23 ct23), sl23⟩)
    (c23 : PySem.W.codeIn K cd23 "_law_less" = true)
    (k23 : PySem.W.keepIn K (.ref f23) = true)
    (a24 : PySem.W.nsIn K mainGlobals "_law_drawn" = some (some (.ref f24)))
    (l24 : K.lookup f24 = some ⟨oc24, od24, .func (PySem.W.fnOf "_law_drawn" "_law_drawn" (defArgs s24) (defBody s24) (defScope s24) .none kV24 dc24 pm24 an24 cd24 ct24), sl24⟩)
    (c24 : PySem.W.codeIn K cd24 "_law_drawn" = true)
    (k24 : PySem.W.keepIn K (.ref f24) = true)
    (a25 : PySem.W.nsIn K mainGlobals "_law_ridge" = some (some (.ref f25)))
    (l25 : K.lookup f25 = some ⟨oc25, od25, .func (PySem.W.fnOf "_law_ridge" "_law_ridge" (defArgs s25) (defBody s25) (defScope s25) .none kV25 dc25 pm25 an25 cd25 ct25), sl25⟩)
    (c25 : PySem.W.codeIn K cd25 "_law_ridge" = true)
    (k25 : PySem.W.keepIn K (.ref f25) = true)
    (a26 : PySem.W.nsIn K mainGlobals "_law_above" = some (some (.ref f26)))
    (l26 : K.lookup f26 = some ⟨oc26, od26, .func (PySem.W.fnOf "_law_above" "_law_above" (defArgs s26) (defBody s26) (defScope s26) .none kV26 dc26 pm26 an26 cd26 ct26), sl26⟩)
    (c26 : PySem.W.codeIn K cd26 "_law_above" = true)
    (k26 : PySem.W.keepIn K (.ref f26) = true)
    (a27 : PySem.W.nsIn K mainGlobals "_law_sees" = some (some (.ref f27)))
    (l27 : K.lookup f27 = some ⟨oc27, od27, .func (PySem.W.fnOf "_law_sees" "_law_sees" (defArgs s27) (defBody s27) (defScope s27) .none kV27 dc27 pm27 an27 cd27 ct27), sl27⟩)
    (c27 : PySem.W.codeIn K cd27 "_law_sees" = true)
    (k27 : PySem.W.keepIn K (.ref f27) = true)
    (a28 : PySem.W.nsIn K mainGlobals "_law_bar" = some (some (.ref f28)))
    (l28 : K.lookup f28 = some ⟨oc28, od28, .func (PySem.W.fnOf "_law_bar" "_law_bar" (defArgs s28) (defBody s28) (defScope s28) .none kV28 dc28 pm28 an28 cd28 ct28), sl28⟩)
    (c28 : PySem.W.codeIn K cd28 "_law_bar" = true)
    (k28 : PySem.W.keepIn K (.ref f28) = true)
    (a29 : PySem.W.nsIn K mainGlobals "_law_right" = some (some (.ref f29)))
    (l29 : K.lookup f29 = some ⟨oc29, od29, .func (PySem.W.fnOf "_law_right" "_law_right" (defArgs s29) (defBody s29) (defScope s29) .none kV29 dc29 pm29 an29 cd29 ct29), sl29⟩)
    (c29 : PySem.W.codeIn K cd29 "_law_right" = true)
    (k29 : PySem.W.keepIn K (.ref f29) = true)
    (a30 : PySem.W.nsIn K mainGlobals "law" = some (some (.ref f30)))
    (l30 : K.lookup f30 = some ⟨oc30, od30, .func (PySem.W.fnOf "law" "law" (defArgs s30) (defBody s30) (defScope s30) .none kV30 dc30 pm30 an30 cd30 ct30), sl30⟩)
    (c30 : PySem.W.codeIn K cd30 "law" = true)
    (k30 : PySem.W.keepIn K (.ref f30) = true)
    (z_abs : PySem.W.nsIn K mainGlobals "abs" = some none)
    (z_all : PySem.W.nsIn K mainGlobals "all" = some none)
    (z_bool : PySem.W.nsIn K mainGlobals "bool" = some none)
    (z_dict : PySem.W.nsIn K mainGlobals "dict" = some none)
    (z_int : PySem.W.nsIn K mainGlobals "int" = some none)
    (z_isinstance : PySem.W.nsIn K mainGlobals "isinstance" = some none)
    (z_len : PySem.W.nsIn K mainGlobals "len" = some none)
    (z_list : PySem.W.nsIn K mainGlobals "list" = some none)
    (z_max : PySem.W.nsIn K mainGlobals "max" = some none)
    (z_min : PySem.W.nsIn K mainGlobals "min" = some none)
    (z_range : PySem.W.nsIn K mainGlobals "range" = some none)
    (z_repr : PySem.W.nsIn K mainGlobals "repr" = some none)
    (z_sorted : PySem.W.nsIn K mainGlobals "sorted" = some none)
    (z_str : PySem.W.nsIn K mainGlobals "str" = some none)
    (z_sum : PySem.W.nsIn K mainGlobals "sum" = some none)
    (z_tuple : PySem.W.nsIn K mainGlobals "tuple" = some none)
    (z_zip : PySem.W.nsIn K mainGlobals "zip" = some none)
    (dg : PySem.W.nsIn K cStatics "sys.int_max_str_digits" = some none) :
    ∃ (fd : FuncData) (sp : Sp), (∀ (t : Shared) (u : Value), BindsTo t fd ⟨[u], []⟩ [("script", u)]) ∧ (∀ base : Heap, K.In base → base.Ns mainGlobals mg → FnG l.prog w K mg base (L2.CX l.prog w) 34 fa fd ["script"] sp) ∧
      ∀ (H : Hp) (a : Addr) (ns : List Int), ns.length ≤ 63 → SqF K H a (ns.map V.int) → sp [.ref a] H (fun v _ => v = .bl true) fun _ _ _ => False := by
  have F0 := fun_mk (st := s0) l0 c0 k0
  have d0 : Df K mg 0 "is_whole" s0 p0 := ⟨f0, _, F0, PySem.W.mg_of X G a0, F0.binds (ps := p0) fun _ _ _ _ _ _ us hl => (match us, hl with | [_], _ => rfl), fun q h => (nomatch h)⟩
  have F1 := fun_mk (st := s1) l1 c1 k1
  have d1 : Df K mg 1 "is_count" s1 p1 := ⟨f1, _, F1, PySem.W.mg_of X G a1, F1.binds (ps := p1) fun _ _ _ _ _ _ us hl => (match us, hl with | [_], _ => rfl), fun q h => (nomatch h)⟩
  have F2 := fun_mk (st := s2) l2 c2 k2
  have d2 : Df K mg 2 "ascends" s2 p2 := ⟨f2, _, F2, PySem.W.mg_of X G a2, F2.binds (ps := p2) fun _ _ _ _ _ _ us hl => (match us, hl with | [_], _ => rfl), fun q h => (nomatch h)⟩
  have F3 := fun_mk (st := s3) l3 c3 k3
  have d3 : Df K mg 3 "common_of" s3 p3 := ⟨f3, _, F3, PySem.W.mg_of X G a3, F3.binds (ps := p3) fun _ _ _ _ _ _ us hl => (match us, hl with | [_, _], _ => rfl), fun q h => (nomatch h)⟩
  have F4 := fun_mk (st := s4) l4 c4 k4
  have d4 : Df K mg 4 "lowest_of" s4 p4 := ⟨f4, _, F4, PySem.W.mg_of X G a4, F4.binds (ps := p4) fun _ _ _ _ _ _ us hl => (match us, hl with | [_, _], _ => rfl), fun q h => (nomatch h)⟩
  have F5 := fun_mk (st := s5) l5 c5 k5
  have d5 : Df K mg 5 "fraction_of" s5 p5 := ⟨f5, _, F5, PySem.W.mg_of X G a5, F5.binds (ps := p5) fun _ _ _ _ _ _ us hl => (match us, hl with | [_, _], _ => rfl), fun q h => (nomatch h)⟩
  have F6 := fun_mk (st := s6) l6 c6 k6
  have d6 : Df K mg 6 "is_ridge" s6 p6 := ⟨f6, _, F6, PySem.W.mg_of X G a6, F6.binds (ps := p6) fun _ _ _ _ _ _ us hl => (match us, hl with | [_], _ => rfl), fun q h => (nomatch h)⟩
  have F7 := fun_mk (st := s7) l7 c7 k7
  have d7 : Df K mg 7 "check_ridge" s7 p7 := ⟨f7, _, F7, PySem.W.mg_of X G a7, F7.binds (ps := p7) fun _ _ _ _ _ _ us hl => (match us, hl with | [_], _ => rfl), fun q h => (nomatch h)⟩
  have F8 := fun_mk (st := s8) l8 c8 k8
  have d8 : Df K mg 8 "check_point" s8 p8 := ⟨f8, _, F8, PySem.W.mg_of X G a8, F8.binds (ps := p8) fun _ _ _ _ _ _ us hl => (match us, hl with | [_, _], _ => rfl), fun q h => (nomatch h)⟩
  have F9 := fun_mk (st := s9) l9 c9 k9
  have d9 : Df K mg 9 "check_points" s9 p9 := ⟨f9, _, F9, PySem.W.mg_of X G a9, F9.binds (ps := p9) fun _ _ _ _ _ _ us hl => (match us, hl with | [_, _, _], _ => rfl), fun q h => (nomatch h)⟩
  have F10 := fun_mk (st := s10) l10 c10 k10
  have d10 : Df K mg 10 "over_line" s10 p10 := ⟨f10, _, F10, PySem.W.mg_of X G a10, F10.binds (ps := p10) fun _ _ _ _ _ _ us hl => (match us, hl with | [_, _, _], _ => rfl), fun q h => (nomatch h)⟩
  have F11 := fun_mk (st := s11) l11 c11 k11
  have d11 : Df K mg 11 "sees_in" s11 p11 := ⟨f11, _, F11, PySem.W.mg_of X G a11, F11.binds (ps := p11) fun _ _ _ _ _ _ us hl => (match us, hl with | [_, _, _], _ => rfl), fun q h => (nomatch h)⟩
  have F12 := fun_mk (st := s12) l12 c12 k12
  have d12 : Df K mg 12 "does_see" s12 p12 := ⟨f12, _, F12, PySem.W.mg_of X G a12, F12.binds (ps := p12) fun _ _ _ _ _ _ us hl => (match us, hl with | [_, _, _], _ => rfl), by
    intro q h
    simp only [kws, List.mem_cons, List.not_mem_nil, or_false] at h
    rcases h with rfl
    · exact kw_12_0 fun _ _ _ => rfl⟩
  have F13 := fun_mk (st := s13) l13 c13 k13
  have d13 : Df K mg 13 "seen_in" s13 p13 := ⟨f13, _, F13, PySem.W.mg_of X G a13, F13.binds (ps := p13) fun _ _ _ _ _ _ us hl => (match us, hl with | [_, _], _ => rfl), fun q h => (nomatch h)⟩
  have F14 := fun_mk (st := s14) l14 c14 k14
  have d14 : Df K mg 14 "seen_from" s14 p14 := ⟨f14, _, F14, PySem.W.mg_of X G a14, F14.binds (ps := p14) fun _ _ _ _ _ _ us hl => (match us, hl with | [_, _], _ => rfl), by
    intro q h
    simp only [kws, List.mem_cons, List.not_mem_nil, or_false] at h
    rcases h with rfl
    · exact kw_14_0 fun _ _ => rfl⟩
  have F15 := fun_mk (st := s15) l15 c15 k15
  have d15 : Df K mg 15 "barring_point" s15 p15 := ⟨f15, _, F15, PySem.W.mg_of X G a15, F15.binds (ps := p15) fun _ _ _ _ _ _ us hl => (match us, hl with | [_, _, _], _ => rfl), by
    intro q h
    simp only [kws, List.mem_cons, List.not_mem_nil, or_false] at h
    rcases h with rfl
    · exact kw_15_0 fun _ _ _ => rfl⟩
  have F16 := fun_mk (st := s16) l16 c16 k16
  have d16 : Df K mg 16 "_law_hash" s16 p16 := ⟨f16, _, F16, PySem.W.mg_of X G a16, F16.binds (ps := p16) fun _ _ _ _ _ _ us hl => (match us, hl with | [_, _], _ => rfl), fun q h => (nomatch h)⟩
  have F17 := fun_mk (st := s17) l17 c17 k17
  have d17 : Df K mg 17 "_law_random" s17 p17 := ⟨f17, _, F17, PySem.W.mg_of X G a17, F17.binds (ps := p17) fun _ _ _ _ _ _ us hl => (match us, hl with | [_, _], _ => rfl), fun q h => (nomatch h)⟩
  have F18 := fun_mk (st := s18) l18 c18 k18
  have d18 : Df K mg 18 "_law_cell" s18 p18 := ⟨f18, _, F18, PySem.W.mg_of X G a18, F18.binds (ps := p18) fun _ _ _ _ _ _ us hl => (match us, hl with | [_, _], _ => rfl), fun q h => (nomatch h)⟩
  have F19 := fun_mk (st := s19) l19 c19 k19
  have d19 : Df K mg 19 "_law_generator" s19 p19 := ⟨f19, _, F19, PySem.W.mg_of X G a19, F19.binds (ps := p19) fun _ _ _ _ _ _ us hl => (match us, hl with | [_, _], _ => rfl), fun q h => (nomatch h)⟩
  have F20 := fun_mk (st := s20) l20 c20 k20
  have d20 : Df K mg 20 "_law_pick" s20 p20 := ⟨f20, _, F20, PySem.W.mg_of X G a20, F20.binds (ps := p20) fun _ _ _ _ _ _ us hl => (match us, hl with | [_, _], _ => rfl), fun q h => (nomatch h)⟩
  have F21 := fun_mk (st := s21) l21 c21 k21
  have d21 : Df K mg 21 "_law_same" s21 p21 := ⟨f21, _, F21, PySem.W.mg_of X G a21, F21.binds (ps := p21) fun _ _ _ _ _ _ us hl => (match us, hl with | [_, _], _ => rfl), fun q h => (nomatch h)⟩
  have F22 := fun_mk (st := s22) l22 c22 k22
  have d22 : Df K mg 22 "_law_low" s22 p22 := ⟨f22, _, F22, PySem.W.mg_of X G a22, F22.binds (ps := p22) fun _ _ _ _ _ _ us hl => (match us, hl with | [_, _], _ => rfl), fun q h => (nomatch h)⟩
  have F23 := fun_mk (st := s23) l23 c23 k23
  have d23 : Df K mg 23 "_law_less" s23 p23 := ⟨f23, _, F23, PySem.W.mg_of X G a23, F23.binds (ps := p23) fun _ _ _ _ _ _ us hl => (match us, hl with | [_, _], _ => rfl), fun q h => (nomatch h)⟩
  have F24 := fun_mk (st := s24) l24 c24 k24
  have d24 : Df K mg 24 "_law_drawn" s24 p24 := ⟨f24, _, F24, PySem.W.mg_of X G a24, F24.binds (ps := p24) fun _ _ _ _ _ _ us hl => (match us, hl with | [_, _], _ => rfl), fun q h => (nomatch h)⟩
  have F25 := fun_mk (st := s25) l25 c25 k25
  have d25 : Df K mg 25 "_law_ridge" s25 p25 := ⟨f25, _, F25, PySem.W.mg_of X G a25, F25.binds (ps := p25) fun _ _ _ _ _ _ us hl => (match us, hl with | [_, _, _], _ => rfl), fun q h => (nomatch h)⟩
  have F26 := fun_mk (st := s26) l26 c26 k26
  have d26 : Df K mg 26 "_law_above" s26 p26 := ⟨f26, _, F26, PySem.W.mg_of X G a26, F26.binds (ps := p26) fun _ _ _ _ _ _ us hl => (match us, hl with | [_, _, _], _ => rfl), fun q h => (nomatch h)⟩
  have F27 := fun_mk (st := s27) l27 c27 k27
  have d27 : Df K mg 27 "_law_sees" s27 p27 := ⟨f27, _, F27, PySem.W.mg_of X G a27, F27.binds (ps := p27) fun _ _ _ _ _ _ us hl => (match us, hl with | [_, _, _], _ => rfl), fun q h => (nomatch h)⟩
  have F28 := fun_mk (st := s28) l28 c28 k28
  have d28 : Df K mg 28 "_law_bar" s28 p28 := ⟨f28, _, F28, PySem.W.mg_of X G a28, F28.binds (ps := p28) fun _ _ _ _ _ _ us hl => (match us, hl with | [_, _, _], _ => rfl), fun q h => (nomatch h)⟩
  have F29 := fun_mk (st := s29) l29 c29 k29
  have d29 : Df K mg 29 "_law_right" s29 p29 := ⟨f29, _, F29, PySem.W.mg_of X G a29, F29.binds (ps := p29) fun _ _ _ _ _ _ us hl => (match us, hl with | [_, _], _ => rfl), fun q h => (nomatch h)⟩
  have F30 := fun_mk (st := s30) l30 c30 k30
  have d30 : Df K mg 30 "law" s30 p30 := ⟨f30, _, F30, PySem.W.mg_of X G a30, F30.binds (ps := p30) fun _ _ _ _ _ _ us hl => (match us, hl with | [_], _ => rfl), fun q h => (nomatch h)⟩
  have m : Md K mg := by
    refine ⟨dg, fun x hx => ?_, fun k hk => ?_⟩
    · have hx : x ∈ (["abs", "all", "bool", "dict", "int", "isinstance", "len", "list", "max", "min", "range", "repr", "sorted", "str", "sum", "tuple", "zip"] : List Str) := List.contains_iff_mem.mp hx
      simp only [List.mem_cons, List.not_mem_nil, or_false] at hx
      rcases hx with rfl | rfl | rfl | rfl | rfl | rfl | rfl | rfl | rfl | rfl | rfl | rfl | rfl | rfl | rfl | rfl | rfl
      · exact PySem.W.mg_none_of X G z_abs
      · exact PySem.W.mg_none_of X G z_all
      · exact PySem.W.mg_none_of X G z_bool
      · exact PySem.W.mg_none_of X G z_dict
      · exact PySem.W.mg_none_of X G z_int
      · exact PySem.W.mg_none_of X G z_isinstance
      · exact PySem.W.mg_none_of X G z_len
      · exact PySem.W.mg_none_of X G z_list
      · exact PySem.W.mg_none_of X G z_max
      · exact PySem.W.mg_none_of X G z_min
      · exact PySem.W.mg_none_of X G z_range
      · exact PySem.W.mg_none_of X G z_repr
      · exact PySem.W.mg_none_of X G z_sorted
      · exact PySem.W.mg_none_of X G z_str
      · exact PySem.W.mg_none_of X G z_sum
      · exact PySem.W.mg_none_of X G z_tuple
      · exact PySem.W.mg_none_of X G z_zip
    · have hk : k < 0 := of_decide_eq_true hk
      exact absurd hk (Nat.not_lt_zero _)
  have e := hfa.symm.trans (PySem.W.mg_of X G a30)
  cases e
  refine ⟨PySem.W.fnOf "law" "law" (defArgs s30) (defBody s30) (defScope s30) .none kV30 dc30 pm30 an30 cd30 ct30, _, fun t u => .of_eq (show bindArgs (PySem.W.fnOf "law" "law" (defArgs s30) (defBody s30) (defScope s30) .none kV30 dc30 pm30 an30 cd30 ct30) ⟨[u], []⟩ = (pure [(("script" : Str), u)] : Sem (List (Str × Value))) from rfl), fun base kb nb => ?_, fun H a ns hl sq => low_true (mg := mg) (cn := (tb (fun _ => spNo) 0).cn) (s := S30) rfl ⟨hl, rfl⟩ (fun r n' h => h) (fun _ _ h => h) sq⟩
  exact def_sp (Γ := tb (fun i => (S i).sp) 30) b30 (fz m arS (all_at (P := l.prog) (w := w) (base := base) m d0 d1 d2 d3 d4 d5 d6 d7 d8 d9 d10 d11 d12 d13 d14 d15 d16 d17 d18 d19 d20 d21 d22 d23 d24 d25 d26 d27 d28 d29)) F30 sc30 (ch30 _) (w30 (mono_sp S) rfl rfl rfl rfl rfl rfl)
end K44
open PySem PySem.W PyProof.Rows
set_option pp.maxSteps 300
set_option pp.deepTerms false
set_option maxHeartbeats 0 in
theorem PySem.Challenge.cw_heightbook_k44_whole_sights_holds : PySem.Challenge.rw_heightbook_k44_whole_sights.Holds := by
  w_on; o_law; k_head; (case hw => w_witness2)
  k_fill
  refine TL.walk_run (l := PySem.Challenge.rw_heightbook_k44_whole_sights) (most := 63) (k := 34) (x := "script") rfl (by decide) rfl ⟨rfl, by decide, by decide⟩ (fun w h Y => PySem.W.kIn_of Y) ?F
  case F =>
    intro w mg fa h KX G hmg
    refine' K44.mk KX G hmg ?a0 ?l0 ?c0 ?k0 ?a1 ?l1 ?c1 ?k1 ?a2 ?l2 ?c2 ?k2 ?a3 ?l3 ?c3 ?k3 ?a4 ?l4 ?c4 ?k4 ?a5 ?l5 ?c5 ?k5 ?a6 ?l6 ?c6 ?k6 ?a7 ?l7 ?c7 ?k7 ?a8 ?l8 ?c8 ?k8 ?a9 ?l9 ?c9 ?k9 ?a10 ?l10 ?c10 ?k10 ?a11 ?l11 ?c11 ?k11 ?a12 ?l12 ?c12 ?k12 ?a13 ?l13 ?c13 ?k13 ?a14 ?l14 ?c14 ?k14 ?a15 ?l15 ?c15 ?k15 ?a16 ?l16 ?c16 ?k16 ?a17 ?l17 ?c17 ?k17 ?a18 ?l18 ?c18 ?k18 ?a19 ?l19 ?c19 ?k19 ?a20 ?l20 ?c20 ?k20 ?a21 ?l21 ?c21 ?k21 ?a22 ?l22 ?c22 ?k22 ?a23 ?l23 ?c23 ?k23 ?a24 ?l24 ?c24 ?k24 ?a25 ?l25 ?c25 ?k25 ?a26 ?l26 ?c26 ?k26 ?a27 ?l27 ?c27 ?k27 ?a28 ?l28 ?c28 ?k28 ?a29 ?l29 ?c29 ?k29 ?a30 ?l30 ?c30 ?k30 ?z_abs ?z_all ?z_bool ?z_dict ?z_int ?z_isinstance ?z_len ?z_list ?z_max ?z_min ?z_range ?z_repr ?z_sorted ?z_str ?z_sum ?z_tuple ?z_zip ?dg
    (case a0 => k_is); (case l0 => k_is); (case c0 => k_is); (case k0 => k_is); (case a1 => k_is); (case l1 => k_is); (case c1 => k_is); (case k1 => k_is); (case a2 => k_is); (case l2 => k_is); (case c2 => k_is); (case k2 => k_is); (case a3 => k_is); (case l3 => k_is); (case c3 => k_is); (case k3 => k_is); (case a4 => k_is); (case l4 => k_is); (case c4 => k_is); (case k4 => k_is); (case a5 => k_is); (case l5 => k_is); (case c5 => k_is); (case k5 => k_is); (case a6 => k_is); (case l6 => k_is); (case c6 => k_is); (case k6 => k_is); (case a7 => k_is); (case l7 => k_is); (case c7 => k_is); (case k7 => k_is); (case a8 => k_is); (case l8 => k_is); (case c8 => k_is); (case k8 => k_is); (case a9 => k_is); (case l9 => k_is); (case c9 => k_is); (case k9 => k_is); (case a10 => k_is); (case l10 => k_is); (case c10 => k_is); (case k10 => k_is); (case a11 => k_is); (case l11 => k_is); (case c11 => k_is); (case k11 => k_is); (case a12 => k_is); (case l12 => k_is); (case c12 => k_is); (case k12 => k_is); (case a13 => k_is); (case l13 => k_is); (case c13 => k_is); (case k13 => k_is); (case a14 => k_is); (case l14 => k_is); (case c14 => k_is); (case k14 => k_is); (case a15 => k_is); (case l15 => k_is); (case c15 => k_is); (case k15 => k_is); (case a16 => k_is); (case l16 => k_is); (case c16 => k_is); (case k16 => k_is); (case a17 => k_is); (case l17 => k_is); (case c17 => k_is); (case k17 => k_is); (case a18 => k_is); (case l18 => k_is); (case c18 => k_is); (case k18 => k_is); (case a19 => k_is); (case l19 => k_is); (case c19 => k_is); (case k19 => k_is); (case a20 => k_is); (case l20 => k_is); (case c20 => k_is); (case k20 => k_is); (case a21 => k_is); (case l21 => k_is); (case c21 => k_is); (case k21 => k_is); (case a22 => k_is); (case l22 => k_is); (case c22 => k_is); (case k22 => k_is); (case a23 => k_is); (case l23 => k_is); (case c23 => k_is); (case k23 => k_is); (case a24 => k_is); (case l24 => k_is); (case c24 => k_is); (case k24 => k_is); (case a25 => k_is); (case l25 => k_is); (case c25 => k_is); (case k25 => k_is); (case a26 => k_is); (case l26 => k_is); (case c26 => k_is); (case k26 => k_is); (case a27 => k_is); (case l27 => k_is); (case c27 => k_is); (case k27 => k_is); (case a28 => k_is); (case l28 => k_is); (case c28 => k_is); (case k28 => k_is); (case a29 => k_is); (case l29 => k_is); (case c29 => k_is); (case k29 => k_is); (case a30 => k_is); (case l30 => k_is); (case c30 => k_is); (case k30 => k_is); (case z_abs => k_is); (case z_all => k_is); (case z_bool => k_is); (case z_dict => k_is); (case z_int => k_is); (case z_isinstance => k_is); (case z_len => k_is); (case z_list => k_is); (case z_max => k_is); (case z_min => k_is); (case z_range => k_is); (case z_repr => k_is); (case z_sorted => k_is); (case z_str => k_is); (case z_sum => k_is); (case z_tuple => k_is); (case z_zip => k_is); (case dg => k_is)

