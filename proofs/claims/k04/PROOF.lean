import PyProof.Rows.All
import Wide.All
import OpenK.AllK
import Wide.FinOn
import PyProof.EqAt
import PyProof.EqKinds
import PyProof.TupleCall
import HandS.Base
import HandS.Call
import HandS.List
import HandS.Comp
import HandS.Ends
import HandS.Dict
import HandS.Iter
import HandS.Text
import HandS.Words
import HandS.WordsList
import HandS.WordsDict
import HandS.Exc
import HandS.ExcOwn
import HandS.WordsExc
import HandS.EndBits
import HandS.Lambda
import HandS.EndTab
import HandS.TupAny
import HandS.IsInst
import HandS.Wide
import HandS.Deep
import HandS.TupMul
import KE.GoesMore
import HandS.Style
import HandS.Small
import HandS.DictComp
import HandS.ExcInit
import HandS.ExcValue
import HandS.ExcIs
import HandS.ExcField
import KE.KExcIs
import HandS.Star
import HandS.Defaults
import HandS.Head0
import HandS.Head1
import HandS.Head2
import HandS.HeadHook1
import HandS.HeadHook2
import KE.KStateDown
import HandS.Strs
import HandS.TryOnly
import HandS.HeadHook4
import PyProof.AutoSeq1
import PyProof.ReprLen
import PyProof.StrLawsRepr
import PySem.Challenge.RW_windowundos_k04_contents_and_sights
set_option Elab.async false
set_option linter.all false
set_option maxRecDepth 100000
set_option maxHeartbeats 4000000
namespace Wu
open PySem PySem.Spec PyProof.Rows L2

/-- what a def promises to callers that stand under no repr; it may raise -/
structure FnG (P : Program) (w : World) (K : PySem.W.Frag) (mg : Str → Option Value) (base : Heap) (k : Nat) (f : Addr)
    (fd : FuncData) (ps : List Str) (sp : Sp) : Prop where
  len : ∀ vs H Q E, sp vs H Q E → vs.length = ps.length
  run : ∀ (A : Around) (outer : List Env) (s : Shared) (H : Hp) (args : Args) (us : List Value) (vs : List V) (Q : VK) (E : XK),
    A.guards = some [] → Room k A → Env0 P w K mg base A outer s H → BindsTo s fd args (ps.zip us) → Vals vs us → sp vs H Q E →
      codeAny (model P w) A (.call (.ref f) args) (CR (L2.CX P w) outer P w H s Q E) s

section
variable {P : Program} {w : World} {K : PySem.W.Frag} {mg : Str → Option Value} {base : Heap}

theorem FnG.mono {i k : Nat} {f : Addr} {fd : FuncData} {ps : List Str} {sp : Sp} (F : FnG P w K mg base i f fd ps sp) (h : i ≤ k) :
    FnG P w K mg base k f fd ps sp :=
  ⟨F.len, fun A o s H ar us vs Q E g r => F.run A o s H ar us vs Q E g (r.mono h)⟩

theorem FnG.imp {k : Nat} {f : Addr} {fd : FuncData} {ps : List Str} {sp sp' : Sp} (F : FnG P w K mg base k f fd ps sp)
    (h : ∀ vs H Q E, sp' vs H Q E → sp vs H Q E) : FnG P w K mg base k f fd ps sp' :=
  ⟨fun vs H Q E q => F.len vs H Q E (h _ _ _ _ q), fun A o s H ar us vs Q E g r e b v q => F.run A o s H ar us vs Q E g r e b v (h _ _ _ _ q)⟩

/-- a promise by the def's body -/
theorem fn_body {k : Nat} {x qual : Str} {st : Stmt} {f : Addr} {fd : FuncData} {N ps : List Str} {sp : Sp} (F : Fun K x qual st f fd)
    (S : FnScope N ps (defScope st)) (len : ∀ vs H Q E, sp vs H Q E → vs.length = ps.length)
    (hbody : ∀ (cdv : Value) (A : Around) (outer : List Env) (s : Shared) (H : Hp) (vs : List V) (Q : VK) (E : XK), fd.code = cdv →
      (A.deeper (envOfC qual (defScope st) s.heap.objs.size f cdv)).guards = some [] →
      Room k (A.deeper (envOfC qual (defScope st) s.heap.objs.size f cdv)) → sp vs H Q E →
      ∃ t, PSs (cxOf (L2.CX P w) P w K mg base N qual (defScope st) f cdv A outer s H E) (defBody st) t ∧
        t { nx := fun _ H' => Q .non H', rt := Q } (start N vs) H) :
    FnG P w K mg base (k + 1) f fd ps sp := by
  obtain ⟨oc, od, kV, doc, pm, an, cdv, ct, osl, hfd, lk, hcd⟩ := F.ex
  subst hfd
  constructor
  · exact len
  intro A outer s H args us vs Q E hG hr e0 hb hv hsp
  have kin : K.In s.heap := e0.mod.kin.keeps fun b o z => (e0.bs b o z).1
  have nlm : s.heap.NoLimit := e0.mod.nolimit.keeps fun b o z => (e0.bs b o z).1
  have kinds : ∀ y ∈ ps.zip us, (defScope st).names.lookup y.1 = some .local ∨
      ((defScope st).names.lookup y.1 = some .cell ∧ ((cellsFrom (s.heap.objs.size + 1) (defScope st).names []).lookup y.1).isSome = true) := by
    rintro ⟨n, v⟩ hy
    have hn : n ∈ ps := (List.of_mem_zip hy).1
    rcases S.par n hn with q | q
    · exact Or.inl q
    · exact Or.inr ⟨q, PySem.W.cellsFrom_some _ _ _ (Or.inl q)⟩
  refine codeAny_call_function hr.depth (kin _ _ lk) rfl S.co S.gen rfl (PySem.W.codeRec_of kin hcd) (hb _ _ _ _ ?_)
  refine wpAny_newFunctionEnv_cells S.kind kinds ?_
  intro env he s1 ic
  subst he
  refine ⟨nlm.keeps ic.toInCall.keep, codeAny_func ?_⟩
  obtain ⟨t, ht, hq⟩ := hbody cdv A outer s H vs Q E rfl hG (hr.deeper _) hsp
  have I := inv_start (CX := L2.CX P w) (mg := mg) (base := base) (E := E) S hr.hd e0 (len _ _ _ _ hsp) hv ic
  refine wpAny_mono (ht.run [] s1 (start N vs) H _ I hq) ?_ fun e s' z => z
  intro fl s' hs
  cases fl with
  | ret u => obtain ⟨v, σ', H', J, rv, q⟩ := hs; exact ⟨v, H', J.os, J.bare, J.base, J.hok, rv, q⟩
  | next => obtain ⟨σ', H', J, q⟩ := hs; exact ⟨V.non, H', J.os, J.bare, J.base, J.hok, rfl, q⟩
  | brk => obtain ⟨_, _, _, q⟩ := hs; exact q.elim
  | cont => obtain ⟨_, _, _, q⟩ := hs; exact q.elim
end

section
variable {X : Cx} {k : Nat} {f C : Addr} {fd : FuncData} {ps : List Str} {sp : Sp} {dvs : List V} {ds : List Value} {W : WX} {x m : Str}
  {p pos apos : Pos} {e o : Expr} {es : List Expr} {ta : TE} {t : TA}

/-- what a callee raises goes to the wish at the slots as they are -/
abbrev atS (W : WX) (σ : L2.St) : XK := fun c d H => W c d σ H

theorem run_g {pins : List (Addr × Obj)} {σ : L2.St} {H : Hp} {s : Shared} {Q : VK} {us : List Value} {vs : List V}
    (F : FnG X.prog X.w X.K X.mg X.base k f fd ps sp) (hG : X.A.guards = some []) (hr : Room k X.A) (hb : Binds X.K fd ps ds) (hd : Vals dvs ds)
    (tk : Takes X W) (I : Inv X pins σ H s) (r : Vals vs us) (h : sp (vs ++ dvs) H Q (atS W σ)) :
    wpAny (model X.prog X.w) X.A (call (.ref f) us) (EP X pins σ Q) X.xe s := by
  have rr := r.append hd
  have hl : (us ++ ds).length = ps.length := rr.length.symm.trans (F.len _ _ _ _ h)
  have go := F.run X.A X.stack s H ⟨us, []⟩ _ _ Q (atS W σ) hG hr I.env0 (hb s us I.kIn hl) rr h
  refine wpAny_call (codeAny_mono go ?_)
  intro res s' hq
  match res, hq with
  | .error e, hq => exact passAt tk σ pins H s e s' I hq
  | .ok (.ret u), hq => exact I.after hq
  | .ok .next, hq => exact False.elim hq
  | .ok .brk, hq => exact False.elim hq
  | .ok .cont, hq => exact False.elim hq

/-- f(e, ..) -/
def tFn (sp : Sp) (dvs : List V) (W : WX) (t : TA) : TE := fun σ H Q => t σ H fun vs H1 => sp (vs ++ dvs) H1 Q (atS W σ)
theorem pe_fn (F : FnG X.prog X.w X.K X.mg X.base k f fd ps sp) (hG : X.A.guards = some []) (hr : Room k X.A) (hg : Gl X x)
    (hm : X.mg x = some (.ref f)) (hk : PySem.W.keepIn X.K (.ref f) = true) (hb : Binds X.K fd ps ds) (hd : Vals dvs ds) (tk : Takes X W)
    (ha : PA X (e :: es) t) (hdb : (x == ("__debug__" : Str)) = false := by decide)
    (he : starEach (e :: es) X.env = (false, eval e X.env) :: starEach es X.env := by rfl)
    (hpl : (backTo pos (starEach es X.env)).any (·.1) = false := by rfl) : PE X (.Call (.Name x p) (e :: es) [] pos) (tFn sp dvs W t) := by
  constructor
  intro pins s σ H Q I h
  refine wpAny_Call_Name_kw (ld_glob I hg hm ?_ hdb)
  refine PySem.W.callWith_K (h₀ := X.base) I.ok.mod.kin hk (thn (ha.run pos pins s σ H _ I h) ?_) he hpl
  rintro us s1 ⟨vs, H1, I1, r, q⟩
  exact ⟨I1.kIn, run_g F hG hr hb hd tk I1 r q⟩
theorem pe_fn0 (F : FnG X.prog X.w X.K X.mg X.base k f fd ps sp) (hG : X.A.guards = some []) (hr : Room k X.A) (hg : Gl X x)
    (hm : X.mg x = some (.ref f)) (hk : PySem.W.keepIn X.K (.ref f) = true) (hb : Binds X.K fd ps ds) (hd : Vals dvs ds) (tk : Takes X W)
    (hdb : (x == ("__debug__" : Str)) = false := by decide) : PE X (.Call (.Name x p) [] [] pos) (tFn sp dvs W tNil) := by
  constructor
  intro pins s σ H Q I h
  refine wpAny_Call_Name_kw (ld_glob I hg hm ?_ hdb)
  exact PySem.W.callWith_K0 I.kIn hk (run_g (us := []) F hG hr hb hd tk I .nil h)
end
end Wu

/-! Data, owned things, slots; what the heap bears of them; what an expression, a statement, a def means over them. -/
namespace Wu
open PySem PySem.Spec PyProof.Rows L2

/-- what holds further data -/
inductive Kd where
  | tup | lst | scr | pr
  | dct (ks : List Key)
  | dtt (ks : List (List Key))
  | ob (c : Str) (fs : List Str)
  | exn (c : Str) (fs : List Str)

/-- data, seen as never changing -/
inductive D where
  | non | bl (b : Bool) | int (i : Int) | str (x : Str)
  | nd (k : Kd) (l : List D)

abbrev D.tup (l : List D) : D := .nd .tup l
abbrev D.lst (l : List D) : D := .nd .lst l
abbrev D.scr (l : List D) : D := .nd .scr l

/-- the draws' state -/
structure Dr where
  mixed : Int
  great : List Int
  turn : Int

/-- an owned thing: it is reached by its one name alone -/
inductive Ow where
  | nd (k : Kd) (l : List D)
  | dr (s : Dr)

inductive Sl where
  | und
  | fn
  | val (d : D)
  | own (ix : Option Nat) (c : Ow)

abbrev Env' := List Sl

/-- an argument -/
inductive Ag where
  | v (d : D)
  | o (c : Ow)

structure Exn where
  cls : Str
  fs : List Str
  vs : List D

/-- where the classes stand; tb: the tables of code objects, nm: the name of those in a table; md: how tuples are borne (1: all as they are made; else those of texts alone plainly); bp: what is known of the data all the while; fv: the lambda that was got -/
structure Ct where
  f : Str → Addr
  md : Nat
  tb : Addr → Prop
  nm : Addr → Str
  fv : Addr
  bp : Hp → Prop
  bm : ∀ {B B' : Hp}, Same B B' → bp B → bp B'
instance : CoeFun Ct (fun _ => Str → Addr) := ⟨Ct.f⟩
def strT (xs : List V) : Bool := xs.all fun v => match v with
  | .str _ => true
  | _ => false
def exT (m : Nat) (xs : List V) : Bool := m == 1 || !strT xs

/-! ### the heap bears data -/
section
variable (K : PySem.W.Frag) (ct : Ct)

/-- the object at a is known to have no dict -/
def NoD (B : Hp) (a : Addr) : Prop := (∃ o u, o.dict = none ∧ B a = some (.frz o u)) ∨ ∃ o, K.lookup a = some o ∧ o.dict = none
/-- a tuple as data -/
structure SqX (m : Nat) (B : Hp) (a : Addr) (xs : List V) : Prop where
  t : SqT K B a xs
  x : exT m xs = true → NoD K B a
  p : exT m xs = false → B a = some (.tup xs) ∨ (xs = [] ∧ NoD K B a)

/-- a caught exception -/
def exHO (a C : Addr) (dx : Option Addr) : HO := .ext fun h => ∃ (o : Obj) (vs : Array Value), h.get? a = some o ∧ o.cls = .ref C ∧ o.dict = dx ∧ o.data = .fields vs

/-- a thing of kind k with the values xs stands at a -/
def Sq (B : Hp) (a : Addr) : Kd → List V → Prop
  | .tup, xs => SqX K ct.md B a xs
  | .pr, xs => SqT K B a xs
  | .lst, xs => B a = some (.lst xs)
  | .scr, xs => SqL K B a xs
  | .dct ks, xs => ks.length = xs.length ∧ Rd B a (.dK (ks.zip xs))
  | .dtt ks, xs => ks.length = xs.length ∧ Rd B a (.dT (ks.zip xs))
  | .ob c fs, xs => fs.length = xs.length ∧ ∃ dx, B a = some (.ins (ct c) dx (fs.zip xs))
  | .exn c fs, xs => fs.length = xs.length ∧ ((∃ dx, B a = some (exHO a (ct c) (some dx)) ∧ Rd B dx (.xd (fs.zip xs))) ∨ (xs = [] ∧ B a = some (exHO a (ct c) none)))

mutual
inductive Rp (B : Hp) : V → D → Prop
  | non : Rp B .non .non
  | bl (b : Bool) : Rp B (.bl b) (.bl b)
  | int (i : Int) : Rp B (.int i) (.int i)
  | str (x : Str) : Rp B (.str x) (.str x)
  | nd {a : Addr} {k : Kd} {xs : List V} {ds : List D} : Sq K ct B a k xs → RpL B xs ds → Rp B (.ref a) (.nd k ds)
inductive RpL (B : Hp) : List V → List D → Prop
  | nil : RpL B [] []
  | cons {v : V} {vs : List V} {d : D} {ds : List D} : Rp B v d → RpL B vs ds → RpL B (v :: vs) (d :: ds)
end
end

section
variable {K : PySem.W.Frag} {ct : Ct} {B B' : Hp}

theorem rd_mono {a : Addr} {u : HO} (s : Same B B') (h : Rd B a u) : Rd B' a u := by
  rcases h with h | ⟨o, h⟩
  · exact Or.inl (s _ _ h)
  · exact Or.inr ⟨o, s _ _ h⟩
theorem sqT_mono {a : Addr} {xs : List V} (s : Same B B') (h : SqT K B a xs) : SqT K B' a xs := by
  rcases h with h | h
  · exact Or.inl (rd_mono s h)
  · exact Or.inr h
theorem NoD.mono {a : Addr} (s : Same B B') (h : NoD K B a) : NoD K B' a := by
  rcases h with ⟨o, u, h1, h2⟩ | h
  · exact .inl ⟨o, u, h1, s _ _ h2⟩
  · exact .inr h
theorem SqX.mono {m : Nat} {a : Addr} {xs : List V} (s : Same B B') (h : SqX K m B a xs) : SqX K m B' a xs :=
  ⟨sqT_mono s h.t, fun e => (h.x e).mono s, fun e => (h.p e).imp (fun z => s _ _ z) fun z => ⟨z.1, z.2.mono s⟩⟩
theorem Sq.mono (s : Same B B') {a : Addr} : ∀ {k : Kd} {xs : List V}, Sq K ct B a k xs → Sq K ct B' a k xs
  | .tup, _, h => SqX.mono s h
  | .pr, _, h => sqT_mono s h
  | .lst, _, h => s _ _ h
  | .scr, _, h => s.seq h
  | .dct _, _, ⟨l, h⟩ => ⟨l, rd_mono s h⟩
  | .dtt _, _, ⟨l, h⟩ => ⟨l, rd_mono s h⟩
  | .ob _ _, _, ⟨l, dx, h⟩ => ⟨l, dx, s _ _ h⟩
  | .exn _ _, _, ⟨l, .inl ⟨dx, h, h2⟩⟩ => ⟨l, .inl ⟨dx, s _ _ h, rd_mono s h2⟩⟩
  | .exn _ _, _, ⟨l, .inr ⟨e, h⟩⟩ => ⟨l, .inr ⟨e, s _ _ h⟩⟩
mutual
theorem Rp.mono (s : Same B B') : ∀ {v : V} {d : D}, Rp K ct B v d → Rp K ct B' v d
  | _, _, .non => .non
  | _, _, .bl b => .bl b
  | _, _, .int i => .int i
  | _, _, .str x => .str x
  | _, _, .nd h r => .nd (h.mono s) (RpL.mono s r)
theorem RpL.mono (s : Same B B') : ∀ {vs : List V} {ds : List D}, RpL K ct B vs ds → RpL K ct B' vs ds
  | _, _, .nil => .nil
  | _, _, .cons h r => .cons (Rp.mono s h) (RpL.mono s r)
end
theorem RpL.len : ∀ {vs : List V} {ds : List D}, RpL K ct B vs ds → vs.length = ds.length
  | _, _, .nil => rfl
  | _, _, .cons _ r => congrArg (· + 1) r.len
theorem RpL.get : ∀ {vs : List V} {ds : List D} {i : Nat} {d : D}, RpL K ct B vs ds → ds[i]? = some d → ∃ v, vs[i]? = some v ∧ Rp K ct B v d
  | _, _, _, _, .nil, e => by simp at e
  | _, _, 0, _, .cons h _, e => by simp at e; subst e; exact ⟨_, rfl, h⟩
  | _, _, i + 1, d, .cons _ r, e => by
    obtain ⟨v, h1, h2⟩ := RpL.get (i := i) (d := d) r (by simpa using e)
    exact ⟨v, by simpa using h1, h2⟩
theorem RpL.getV : ∀ {vs : List V} {ds : List D} {i : Nat} {v : V}, RpL K ct B vs ds → vs[i]? = some v → ∃ d, ds[i]? = some d ∧ Rp K ct B v d
  | _, _, _, _, .nil, e => by simp at e
  | _, _, 0, _, .cons h _, e => by simp at e; subst e; exact ⟨_, rfl, h⟩
  | _, _, i + 1, v, .cons _ r, e => by
    obtain ⟨d, h1, h2⟩ := RpL.getV (i := i) (v := v) r (by simpa using e)
    exact ⟨d, by simpa using h1, h2⟩
theorem RpL.app : ∀ {vs us : List V} {ds es : List D}, RpL K ct B vs ds → RpL K ct B us es → RpL K ct B (vs ++ us) (ds ++ es)
  | _, _, _, _, .nil, r => r
  | _, _, _, _, .cons h t, r => .cons h (t.app r)
theorem RpL.take : ∀ {vs : List V} {ds : List D} (n : Nat), RpL K ct B vs ds → RpL K ct B (vs.take n) (ds.take n)
  | _, _, 0, _ => by simpa using RpL.nil
  | _, _, _ + 1, .nil => by simpa using RpL.nil
  | _, _, n + 1, .cons h t => by simpa using RpL.cons h (t.take n)
theorem RpL.drop : ∀ {vs : List V} {ds : List D} (n : Nat), RpL K ct B vs ds → RpL K ct B (vs.drop n) (ds.drop n)
  | _, _, 0, h => by simpa using h
  | _, _, _ + 1, .nil => by simpa using RpL.nil
  | _, _, n + 1, .cons _ t => by simpa using t.drop n
theorem RpL.rev : ∀ {vs : List V} {ds : List D}, RpL K ct B vs ds → RpL K ct B vs.reverse ds.reverse
  | _, _, .nil => by simpa using RpL.nil
  | _, _, .cons h t => by simpa using t.rev.app (.cons h .nil)
theorem RpL.set {v : V} {d : D} (h : Rp K ct B v d) : ∀ {vs : List V} {ds : List D} (i : Nat), RpL K ct B vs ds → RpL K ct B (vs.set i v) (ds.set i d)
  | _, _, _, .nil => .nil
  | _, _, 0, .cons _ t => .cons h t
  | _, _, i + 1, .cons q t => .cons q (RpL.set h i t)
theorem Rp.tupI {a : Addr} {ds : List D} (h : Rp K ct B (.ref a) (.tup ds)) : ∃ xs, SqT K B a xs ∧ RpL K ct B xs ds := by
  cases h with
  | nd q r => exact ⟨_, q.t, r⟩
theorem Rp.lstI {a : Addr} {ds : List D} (h : Rp K ct B (.ref a) (.lst ds)) : ∃ xs, B a = some (.lst xs) ∧ RpL K ct B xs ds := by
  cases h with
  | nd q r => exact ⟨_, q, r⟩
theorem Rp.ndI {v : V} {k : Kd} {ds : List D} (h : Rp K ct B v (.nd k ds)) : ∃ a xs, v = .ref a ∧ Sq K ct B a k xs ∧ RpL K ct B xs ds := by
  cases h with
  | nd q r => exact ⟨_, _, rfl, q, r⟩
theorem Rp.intI {v : V} {i : Int} (h : Rp K ct B v (.int i)) : v = .int i := by cases h; rfl
theorem Rp.strI {v : V} {x : Str} (h : Rp K ct B v (.str x)) : v = .str x := by cases h; rfl
theorem Rp.blI {v : V} {b : Bool} (h : Rp K ct B v (.bl b)) : v = .bl b := by cases h; rfl
theorem Rp.nonI {v : V} (h : Rp K ct B v .non) : v = .non := by cases h; rfl
end

/-! ### owned things -/
/-- bounds that draws keep -/
structure Dr.Ok (s : Dr) : Prop where
  m0 : 0 ≤ s.mixed
  m1 : s.mixed < 2305843009213693951
  t0 : 0 ≤ s.turn
  len : s.great.length ≤ 1000
  bits : ∀ z ∈ s.great, z.natAbs < 2 ^ 1048577

section
variable (K : PySem.W.Frag) (ct : Ct)
/-- the thing c, owned, stands at a, upon the addresses fp -/
def OwAt (B H : Hp) (a : Addr) (fp : List Addr) : Ow → Prop
  | .nd .lst ds => fp = [a] ∧ ∃ xs, H a = some (.lst xs) ∧ RpL K ct B xs ds
  | .nd (.dct ks) ds => fp = [a] ∧ ∃ xs, ks.length = xs.length ∧ H a = some (.dK (ks.zip xs)) ∧ RpL K ct B xs ds
  | .nd (.dtt ks) ds => fp = [a] ∧ ∃ xs, ks.length = xs.length ∧ H a = some (.dT (ks.zip xs)) ∧ RpL K ct B xs ds
  | .nd (.ob c fs) ds => ∃ dx xs, fp = [a, dx] ∧ fs.length = xs.length ∧ H a = some (.ins (ct c) dx (fs.zip xs)) ∧ H dx = some (.own a) ∧ RpL K ct B xs ds
  | .nd _ _ => False
  | .dr s => ∃ g, fp = [a, g] ∧ s.Ok ∧ H g = some (.lst (s.great.map V.int)) ∧
      H a = some (.dK [(Sum.inr ("mixed" : Str), V.int s.mixed), (Sum.inr ("great" : Str), V.ref g), (Sum.inr ("turn" : Str), V.int s.turn)])

/-- what stands still around: the frame G, the data B0 at the entry, what was there at the entry, where the owned arguments stand -/
structure Fm where
  G : Hp
  B0 : Hp
  Dm : Addr → Prop
  ar : List Addr

def IxOk (F : Fm) (a : Addr) : Option Nat → Prop
  | some i => F.ar[i]? = some a
  | none => ¬ F.Dm a

def SlR (F : Fm) (B H : Hp) (o : Option V) (fp : List Addr) : Sl → Prop
  | .und => fp = []
  | .fn => fp = [] ∧ o = some (.ref ct.fv)
  | .val d => fp = [] ∧ ∃ v, o = some v ∧ Rp K ct B v d
  | .own ix c => ∃ a, o = some (.ref a) ∧ IxOk F a ix ∧ OwAt K ct B H a fp c

/-- of the frame's o at a, what stands there now: a table may have grown, and each code object that it tells is known -/
def TabOr (B : Hp) (a : Addr) (o : HO) (x : Option HO) : Prop :=
  (x = some o ∧ ∀ ps, o ≠ .tbl ps) ∨ ∃ ps0 ps, o = .tbl ps0 ∧ ct.tb a ∧ x = some (.tbl ps) ∧ TriplesOk ps.toList ∧ ∀ (pos : Pos) (cv : Value), codeAmong pos ps.toList = some cv → ∃ c, cv = .ref c ∧ B c = some (LamX.CodeO c (ct.nm a))
structure SameT (F : Fm) (B H : Hp) : Prop where
  go : ∀ a o, F.G a = some o → TabOr ct B a o (H a)
  tf : ∀ a, ct.tb a → ∃ ps, F.G a = some (.tbl ps)
  td : ∀ a, ct.tb a → F.Dm a ∧ F.B0 a = none
  bp : ct.bp B
/-- the slots E stand for σ; fps: upon which addresses an owned thing of a slot stands -/
structure Rl (F : Fm) (B H : Hp) (σ : L2.St) (E : Env') (fps : Nat → List Addr) : Prop where
  gs : SameT ct F B H
  bs : Same B H
  b0 : Same F.B0 B
  nb : ∀ a, F.Dm a → B a = F.B0 a
  dm : ∀ a, F.Dm a → ∃ o, H a = some o
  ln : σ.length = E.length
  en : ∀ i s, E[i]? = some s → ∃ o, σ[i]? = some o ∧ SlR K ct F B H o (fps i) s
  e0 : ∀ i, E[i]? = none → fps i = []
  dj : ∀ i j a, a ∈ fps i → a ∈ fps j → i = j
  fr : ∀ i a, a ∈ fps i → B a = none ∧ F.G a = none
end

section
variable {K : PySem.W.Frag} {ct : Ct} {F : Fm} {B B' H H' : Hp}
theorem TabOr.mono {a : Addr} {o : HO} {x : Option HO} (s : Same B B') (h : TabOr ct B a o x) : TabOr ct B' a o x := by
  rcases h with h | ⟨ps0, ps, h1, h2, h3, h4, h5⟩
  · exact .inl h
  · refine .inr ⟨ps0, ps, h1, h2, h3, h4, fun pos cv e => ?_⟩
    obtain ⟨c, e1, e2⟩ := h5 pos cv e
    exact ⟨c, e1, s _ _ e2⟩
theorem TabOr.sm {a : Addr} {o : HO} {x : Option HO} (h : TabOr ct B a o x) : ∃ u, x = some u := by
  rcases h with h | ⟨ps0, ps, _, _, h3, _⟩
  · exact ⟨_, h.1⟩
  · exact ⟨_, h3⟩
theorem TabOr.eq {a : Addr} {o : HO} {x : Option HO} (h : TabOr ct B a o x) (n : ∀ ps, o ≠ .tbl ps) : x = some o := by
  rcases h with h | ⟨ps0, ps, h1, _⟩
  · exact h.1
  · exact absurd h1 (n ps0)
section
theorem SameT.free (s : SameT ct F B H) {a : Addr} (n : H a = none) : F.G a = none := by
  cases e : F.G a with
  | none => rfl
  | some o =>
    obtain ⟨u, hu⟩ := (s.go a o e).sm
    rw [n] at hu; cases hu
theorem SameT.eq (s : SameT ct F B H) {a : Addr} {o : HO} (e : F.G a = some o) (n : ∀ ps, o ≠ .tbl ps) : H a = some o := (s.go a o e).eq n
theorem SameT.mono (s : SameT ct F B H) (b : Same B B') : SameT ct F B' H := ⟨fun a o e => (s.go a o e).mono b, s.tf, s.td, ct.bm b s.bp⟩
end
theorem OwAt.mem {a : Addr} {fp : List Addr} : ∀ {c : Ow}, OwAt K ct B H a fp c → ∀ b ∈ fp, ∃ o, H b = some o
  | .nd .lst _, ⟨e, _, h, _⟩, b, hb => by subst e; simp at hb; subst hb; exact ⟨_, h⟩
  | .nd (.dct _) _, ⟨e, _, _, h, _⟩, b, hb => by subst e; simp at hb; subst hb; exact ⟨_, h⟩
  | .nd (.dtt _) _, ⟨e, _, _, h, _⟩, b, hb => by subst e; simp at hb; subst hb; exact ⟨_, h⟩
  | .nd (.ob _ _) _, ⟨_, _, e, _, h, h2, _⟩, b, hb => by
    subst e; simp at hb
    rcases hb with rfl | rfl
    · exact ⟨_, h⟩
    · exact ⟨_, h2⟩
  | .nd .tup _, h, _, _ => h.elim
  | .nd .scr _, h, _, _ => h.elim
  | .nd .pr _, h, _, _ => h.elim
  | .nd (.exn _ _) _, h, _, _ => h.elim
  | .dr _, ⟨_, e, _, h, h2⟩, b, hb => by
    subst e; simp at hb
    rcases hb with rfl | rfl
    · exact ⟨_, h2⟩
    · exact ⟨_, h⟩
theorem OwAt.mono (s : Same B B') {a : Addr} {fp : List Addr} : ∀ {c : Ow}, OwAt K ct B H a fp c → (∀ b ∈ fp, H' b = H b) → OwAt K ct B' H' a fp c
  | .nd .lst _, ⟨e, xs, h, r⟩, k => ⟨e, xs, by rw [k a (by simp [e])]; exact h, r.mono s⟩
  | .nd (.dct _) _, ⟨e, xs, l, h, r⟩, k => ⟨e, xs, l, by rw [k a (by simp [e])]; exact h, r.mono s⟩
  | .nd (.dtt _) _, ⟨e, xs, l, h, r⟩, k => ⟨e, xs, l, by rw [k a (by simp [e])]; exact h, r.mono s⟩
  | .nd (.ob _ _) _, ⟨dx, xs, e, l, h, h2, r⟩, k => ⟨dx, xs, e, l, by rw [k a (by simp [e])]; exact h, by rw [k dx (by simp [e])]; exact h2, r.mono s⟩
  | .nd .tup _, h, _ => h.elim
  | .nd .scr _, h, _ => h.elim
  | .nd .pr _, h, _ => h.elim
  | .nd (.exn _ _) _, h, _ => h.elim
  | .dr _, ⟨g, e, ok, h, h2⟩, k => ⟨g, e, ok, by rw [k g (by simp [e])]; exact h, by rw [k a (by simp [e])]; exact h2⟩
theorem SlR.mono (s : Same B B') {o : Option V} {fp : List Addr} : ∀ {sl : Sl}, SlR K ct F B H o fp sl → (∀ b ∈ fp, H' b = H b) → SlR K ct F B' H' o fp sl
  | .und, h, _ => h
  | .fn, h, _ => h
  | .val _, ⟨e, v, h, r⟩, _ => ⟨e, v, h, r.mono s⟩
  | .own _ _, ⟨a, e, i, h⟩, k => ⟨a, e, i, h.mono s k⟩
theorem SlR.mem {o : Option V} {fp : List Addr} : ∀ {sl : Sl}, SlR K ct F B H o fp sl → ∀ b ∈ fp, ∃ u, H b = some u
  | .und, h, b, hb => by have e : fp = [] := h; rw [e] at hb; cases hb
  | .fn, h, b, hb => by rw [h.1] at hb; cases hb
  | .val _, h, b, hb => by rw [h.1] at hb; cases hb
  | .own _ _, ⟨_, _, _, h⟩, b, hb => h.mem b hb
theorem Rl.mem {σ : L2.St} {E : Env'} {fps : Nat → List Addr} (r : Rl K ct F B H σ E fps) {i : Nat} {b : Addr} (hb : b ∈ fps i) : ∃ u, H b = some u := by
  cases e : E[i]? with
  | none => rw [r.e0 i e] at hb; cases hb
  | some s => obtain ⟨o, _, h⟩ := r.en i s e; exact h.mem b hb
theorem OwAt.nt {a : Addr} {fp : List Addr} : ∀ {c : Ow}, OwAt K ct B H a fp c → ∀ b ∈ fp, ∀ ps, H b ≠ some (.tbl ps)
  | .nd .lst _, ⟨e, _, h, _⟩, b, hb, ps => by subst e; simp at hb; subst hb; rw [h]; intro z; cases z
  | .nd (.dct _) _, ⟨e, _, _, h, _⟩, b, hb, ps => by subst e; simp at hb; subst hb; rw [h]; intro z; cases z
  | .nd (.dtt _) _, ⟨e, _, _, h, _⟩, b, hb, ps => by subst e; simp at hb; subst hb; rw [h]; intro z; cases z
  | .nd (.ob _ _) _, ⟨_, _, e, _, h, h2, _⟩, b, hb, ps => by
    subst e; simp at hb
    rcases hb with rfl | rfl
    · rw [h]; intro z; cases z
    · rw [h2]; intro z; cases z
  | .nd .tup _, h, _, _, _ => h.elim
  | .nd .scr _, h, _, _, _ => h.elim
  | .nd .pr _, h, _, _, _ => h.elim
  | .nd (.exn _ _) _, h, _, _, _ => h.elim
  | .dr _, ⟨_, e, _, h, h2⟩, b, hb, ps => by
    subst e; simp at hb
    rcases hb with rfl | rfl
    · rw [h2]; intro z; cases z
    · rw [h]; intro z; cases z
/-- what an owned thing stands upon is no table -/
theorem Rl.nt {σ : L2.St} {E : Env'} {fps : Nat → List Addr} (r : Rl K ct F B H σ E fps) {i : Nat} {b : Addr} (hb : b ∈ fps i) (ps : Array Value) : H b ≠ some (.tbl ps) := by
  cases e : E[i]? with
  | none => rw [r.e0 i e] at hb; cases hb
  | some s =>
    obtain ⟨o, _, h⟩ := r.en i s e
    match s, h with
    | .und, h => have e : fps i = [] := h; rw [e] at hb; cases hb
    | .fn, h => rw [h.1] at hb; cases hb
    | .val _, h => rw [h.1] at hb; cases hb
    | .own _ _, ⟨_, _, _, h⟩ => exact h.nt b hb ps
theorem OwAt.nx {a : Addr} {fp : List Addr} : ∀ {c : Ow}, OwAt K ct B H a fp c → ∀ b ∈ fp, ∀ ps, H b ≠ some (.ext ps)
  | .nd .lst _, ⟨e, _, h, _⟩, b, hb, ps => by subst e; simp at hb; subst hb; rw [h]; intro z; cases z
  | .nd (.dct _) _, ⟨e, _, _, h, _⟩, b, hb, ps => by subst e; simp at hb; subst hb; rw [h]; intro z; cases z
  | .nd (.dtt _) _, ⟨e, _, _, h, _⟩, b, hb, ps => by subst e; simp at hb; subst hb; rw [h]; intro z; cases z
  | .nd (.ob _ _) _, ⟨_, _, e, _, h, h2, _⟩, b, hb, ps => by
    subst e; simp at hb
    rcases hb with rfl | rfl
    · rw [h]; intro z; cases z
    · rw [h2]; intro z; cases z
  | .nd .tup _, h, _, _, _ => h.elim
  | .nd .scr _, h, _, _, _ => h.elim
  | .nd .pr _, h, _, _, _ => h.elim
  | .nd (.exn _ _) _, h, _, _, _ => h.elim
  | .dr _, ⟨_, e, _, h, h2⟩, b, hb, ps => by
    subst e; simp at hb
    rcases hb with rfl | rfl
    · rw [h2]; intro z; cases z
    · rw [h]; intro z; cases z
/-- what an owned thing stands upon is nothing told otherwise -/
theorem Rl.nx {σ : L2.St} {E : Env'} {fps : Nat → List Addr} (r : Rl K ct F B H σ E fps) {i : Nat} {b : Addr} (hb : b ∈ fps i) (ps : Heap → Prop) : H b ≠ some (.ext ps) := by
  cases e : E[i]? with
  | none => rw [r.e0 i e] at hb; cases hb
  | some s =>
    obtain ⟨o, _, h⟩ := r.en i s e
    match s, h with
    | .und, h => have e : fps i = [] := h; rw [e] at hb; cases hb
    | .fn, h => rw [h.1] at hb; cases hb
    | .val _, h => rw [h.1] at hb; cases hb
    | .own _ _, ⟨_, _, _, h⟩ => exact h.nx b hb ps
/-- a table is no data -/
theorem Rl.tB {σ : L2.St} {E : Env'} {fps : Nat → List Addr} (r : Rl K ct F B H σ E fps) {a : Addr} (h : ct.tb a) : B a = none := (r.nb a (r.gs.td a h).1).trans (r.gs.td a h).2
/-- a slot that holds data -/
theorem Rl.val {σ : L2.St} {E : Env'} {fps : Nat → List Addr} {i : Nat} {d : D} (r : Rl K ct F B H σ E fps) (e : E[i]? = some (.val d)) : ∃ v, σ[i]? = some (some v) ∧ Rp K ct B v d := by
  obtain ⟨o, h1, _, v, h4, h5⟩ := r.en i _ e
  exact ⟨v, by rw [h1, h4], h5⟩
/-- other data, another heap, owned things as they were -/
theorem Rl.move {σ : L2.St} {E : Env'} {fps : Nat → List Addr} (r : Rl K ct F B H σ E fps) (s : Same B B') (g : ∀ a o, F.G a = some o → TabOr ct B a o (H' a)) (b : Same B' H') (n : ∀ a, F.Dm a → B' a = B a) (d : ∀ a, F.Dm a → ∃ o, H' a = some o)
    (k : ∀ i b, b ∈ fps i → H' b = H b) (f : ∀ i a, a ∈ fps i → B' a = none) : Rl K ct F B' H' σ E fps :=
  ⟨⟨fun a o e => (g a o e).mono s, r.gs.tf, r.gs.td, ct.bm s r.gs.bp⟩, b, r.b0.trans s, fun a h => (n a h).trans (r.nb a h), d, r.ln, fun i sl e => by
    obtain ⟨o, h1, h2⟩ := r.en i sl e
    exact ⟨o, h1, h2.mono s (k i)⟩, r.e0, r.dj, fun i a h => ⟨f i a h, (r.fr i a h).2⟩⟩
/-- a new thing laid and taken as data -/
theorem Rl.laid {σ : L2.St} {E : Env'} {fps : Nat → List Addr} {a : Addr} {o : HO} (r : Rl K ct F B H σ E fps) (n : H a = none) :
    Rl K ct F (upd B a o) (upd H a o) σ E fps ∧ Same B (upd B a o) := by
  have sb : Same B (upd B a o) := fun b u e => by
    rw [upd_ne (ne_of_none (r.bs b u e) n)]; exact e
  have nf : ∀ i b, b ∈ fps i → b ≠ a := fun i b hb => by
    obtain ⟨u, hu⟩ := r.mem hb
    exact ne_of_none hu n
  refine ⟨r.move sb (fun b u e => ?_) (fun b u e => ?_) (fun b hb => ?_) (fun b hb => ?_) (fun i b hb => upd_ne (nf i b hb)) (fun i b hb => ?_), sb⟩
  · obtain ⟨x, hx⟩ := (r.gs.go b u e).sm
    rw [upd_ne (ne_of_none hx n)]; exact r.gs.go b u e
  · unfold upd at e ⊢
    split at e
    · rw [if_pos (by assumption)]; exact e
    · rw [if_neg (by assumption)]; exact r.bs b u e
  · obtain ⟨u, hu⟩ := r.dm b hb
    rw [upd_ne (ne_of_none hu n)]
  · obtain ⟨u, hu⟩ := r.dm b hb
    exact ⟨u, by rw [upd_ne (ne_of_none hu n)]; exact hu⟩
  · rw [upd_ne (nf i b hb)]; exact (r.fr i b hb).1
/-- a name is stored: data -/
theorem Rl.setV {σ : L2.St} {E : Env'} {fps : Nat → List Addr} {i : Nat} {v : V} {d : D} (r : Rl K ct F B H σ E fps) (h : Rp K ct B v d) :
    Rl K ct F B H (σ.set i (some v)) (E.set i (.val d)) (fun j => if j = i then [] else fps j) := by
  refine ⟨r.gs, r.bs, r.b0, r.nb, r.dm, by simpa using r.ln, fun j s e => ?_, fun j e => ?_, fun j k a hj hk => ?_, fun j a hj => ?_⟩
  · by_cases hj : j = i
    · subst hj
      have hl : j < E.length := by
        have := (List.getElem?_eq_some_iff.mp e).1
        simpa using this
      rw [List.getElem?_set_self hl] at e
      cases e
      refine ⟨some v, List.getElem?_set_self (by rw [r.ln]; exact hl), ?_⟩
      rw [if_pos rfl]
      exact ⟨rfl, v, rfl, h⟩
    · rw [List.getElem?_set_ne (Ne.symm hj)] at e
      obtain ⟨o, h1, h2⟩ := r.en j s e
      refine ⟨o, by rw [List.getElem?_set_ne (Ne.symm hj)]; exact h1, ?_⟩
      rw [if_neg hj]
      exact h2
  · by_cases hj : j = i
    · rw [if_pos hj]
    · rw [if_neg hj]
      rw [List.getElem?_set_ne (Ne.symm hj)] at e
      exact r.e0 j e
  · by_cases h1 : j = i
    · rw [if_pos h1] at hj; cases hj
    · by_cases h2 : k = i
      · rw [if_pos h2] at hk; cases hk
      · rw [if_neg h1] at hj; rw [if_neg h2] at hk
        exact r.dj j k a hj hk
  · by_cases h1 : j = i
    · rw [if_pos h1] at hj; cases hj
    · rw [if_neg h1] at hj
      exact r.fr j a hj
/-- a name is forgotten -/
theorem Rl.forget {σ σ' : L2.St} {E E' : Env'} {fps : Nat → List Addr} (r : Rl K ct F B H σ E fps) (l : σ'.length = E'.length) (h : ∀ (i : Nat) (s : Sl), E'[i]? = some s → s = Sl.und ∧ (∃ o, σ'[i]? = some o) ∨ (E[i]? = some s ∧ σ'[i]? = σ[i]?)) :
    ∃ fps', Rl K ct F B H σ' E' fps' ∧ ∀ i a, a ∈ fps' i → a ∈ fps i := by
  classical
  refine ⟨fun i => if (∃ s, E'[i]? = some s ∧ E[i]? = some s ∧ σ'[i]? = σ[i]?) then fps i else [], ⟨r.gs, r.bs, r.b0, r.nb, r.dm, l, fun i s e => ?_, fun i e => ?_, fun i j a hi hj => ?_, fun i a hi => ?_⟩, fun i a hi => ?_⟩
  · rcases h i s e with ⟨rfl, o, ho⟩ | ⟨h1, h2⟩
    · by_cases c : ∃ s, E'[i]? = some s ∧ E[i]? = some s ∧ σ'[i]? = σ[i]?
      · obtain ⟨s', c1, c2, c3⟩ := id c
        rw [e] at c1; cases c1
        obtain ⟨o', h3, h4⟩ := r.en i _ c2
        exact ⟨o', by rw [c3]; exact h3, by rw [if_pos c]; exact h4⟩
      · exact ⟨o, ho, by rw [if_neg c]; rfl⟩
    · obtain ⟨o', h3, h4⟩ := r.en i _ h1
      exact ⟨o', by rw [h2]; exact h3, by rw [if_pos ⟨s, e, h1, h2⟩]; exact h4⟩
  · rw [if_neg]
    rintro ⟨s, c1, _⟩
    rw [e] at c1; cases c1
  · split at hi
    · split at hj
      · exact r.dj i j a hi hj
      · cases hj
    · cases hi
  · split at hi
    · exact r.fr i a hi
    · cases hi
  · dsimp only at hi
    split at hi
    · exact hi
    · cases hi
end

/-! ### meanings -/
inductive R (α : Type) where
  | ok (a : α) (E : Env')
  | ex (x : Exn) (E : Env')
  | bad
abbrev M (α : Type) := Env' → R α
/-- how a statement ends -/
inductive Fl where
  | nx | rt (d : D) | bk | ct
abbrev SM := M Fl

section
variable (K : PySem.W.Frag) (ct : Ct)
/-- the exception that is in the air: its class, its dict -/
def XR (B : Hp) (c : Value) (dx : Option Addr) (x : Exn) : Prop :=
  c = .ref (ct x.cls) ∧ x.fs.length = x.vs.length ∧ ((x.fs = [] ∧ dx = none) ∨ ∃ a xs, dx = some a ∧ Rd B a (.xd (x.fs.zip xs)) ∧ RpL K ct B xs x.vs)

/-- behind what means r: Rr relates results -/
def Pst {α υ : Type} (Rr : Hp → υ → α → Prop) (W : WX) (F : Fm) (B : Hp) (σ : L2.St) (r : R α) (Q : υ → Hp → Prop) : Prop :=
  match r with
  | .ok d E' => ∀ v B' H' fps, Rl K ct F B' H' σ E' fps → Same B B' → Rr B' v d → Q v H'
  | .ex x E' => ∀ c dx B' H' fps, Rl K ct F B' H' σ E' fps → Same B B' → XR K ct B' c dx x → W c dx σ H'
  | .bad => False
/-- the reading of what means m; W: what is wanted of an exception -/
def tG {α υ : Type} (Rr : Hp → υ → α → Prop) (W : WX) (m : M α) : L2.St → Hp → (υ → Hp → Prop) → Prop := fun σ H Q =>
  ∃ F B E fps, Rl K ct F B H σ E fps ∧ Pst K ct Rr W F B σ (m E) Q
abbrev RpB : Hp → Bool → Bool → Prop := fun _ b c => b = c
abbrev tM (W : WX) (m : M D) : TE := tG K ct (Rp K ct) W m
abbrev tMT (W : WX) (m : M Bool) : TT := tG K ct RpB W m
abbrev tML (W : WX) (m : M (List D)) : TA := tG K ct (RpL K ct) W m
def tMS (W : WX) (m : SM) : TS := fun N σ H => ∃ F B E fps, Rl K ct F B H σ E fps ∧
  match m E with
  | .ok .nx E' => ∀ σ' B' H' fps', Rl K ct F B' H' σ' E' fps' → Same B B' → N.nx σ' H'
  | .ok (.rt d) E' => ∀ v σ' B' H' fps', Rl K ct F B' H' σ' E' fps' → Same B B' → Rp K ct B' v d → N.rt v H'
  | .ok .bk E' => ∀ σ' B' H' fps', Rl K ct F B' H' σ' E' fps' → Same B B' → N.bk σ' H'
  | .ok .ct E' => ∀ σ' B' H' fps', Rl K ct F B' H' σ' E' fps' → Same B B' → N.ct σ' H'
  | .ex x E' => ∀ c dx σ' B' H' fps', Rl K ct F B' H' σ' E' fps' → Same B B' → XR K ct B' c dx x → W c dx σ' H'
  | .bad => False
end


def R.bind {α β : Type} (r : R α) (k : α → M β) : R β :=
  match r with
  | .ok a E => k a E
  | .ex x E => .ex x E
  | .bad => .bad
def M.ret {α : Type} (a : α) : M α := fun E => .ok a E
def M.bnd {α β : Type} (m : M α) (k : α → M β) : M β := fun E => (m E).bind k
def M.bad {α : Type} : M α := fun _ => .bad
def M.opt {α : Type} : Option α → M α
  | some a => .ret a
  | none => .bad

section
variable {K : PySem.W.Frag} {ct : Ct} {W : WX} {F : Fm} {B B' H : Hp} {σ : L2.St} {fps : Nat → List Addr}
theorem Pst.mono {α υ : Type} {Rr : Hp → υ → α → Prop} {r : R α} {Q : υ → Hp → Prop} (s : Same B B') (h : Pst K ct Rr W F B σ r Q) : Pst K ct Rr W F B' σ r Q := by
  cases r with
  | ok d E => exact fun v B2 H2 fp r s2 q => h v B2 H2 fp r (s.trans s2) q
  | ex x E => exact fun c dx B2 H2 fp r s2 q => h c dx B2 H2 fp r (s.trans s2) q
  | bad => exact h
/-- one thing behind another -/
theorem Pst.bind {α β υ ν : Type} {Rr : Hp → υ → α → Prop} {Sr : Hp → ν → β → Prop} {r : R α} {k : α → M β} {Q : ν → Hp → Prop} (h : Pst K ct Sr W F B σ (r.bind k) Q) :
    Pst K ct Rr W F B σ r (fun v H1 => ∃ d E1 B1 fps, Rl K ct F B1 H1 σ E1 fps ∧ Same B B1 ∧ Rr B1 v d ∧ Pst K ct Sr W F B1 σ (k d E1) Q) := by
  cases r with
  | ok d E => exact fun v B1 H1 fp rl s q => ⟨d, E, B1, fp, rl, s, q, Pst.mono s h⟩
  | ex x E => exact h
  | bad => exact h
theorem Pst.imp {α υ : Type} {Rr : Hp → υ → α → Prop} {r : R α} {Q Q' : υ → Hp → Prop} (h : Pst K ct Rr W F B σ r Q) (k : ∀ v H, Q v H → Q' v H) : Pst K ct Rr W F B σ r Q' := by
  cases r with
  | ok d E => exact fun v B2 H2 fp r s2 q => k _ _ (h v B2 H2 fp r s2 q)
  | ex x E => exact h
  | bad => exact h
theorem tG.ret {α υ : Type} {Rr : Hp → υ → α → Prop} {E : Env'} {d : α} {v : υ} {Q : υ → Hp → Prop} (rl : Rl K ct F B H σ E fps) (q : Rr B v d) (h : Pst K ct Rr W F B σ (M.ret d E) Q) : Q v H :=
  h v B H _ rl (Same.refl B) q
end
theorem PE.imp {X : Cx} {e : Expr} {t u : TE} (h : PE X e t) (k : ∀ σ H Q, u σ H Q → t σ H Q) : PE X e u := ⟨fun pins s σ H Q I q => h.run pins s σ H Q I (k σ H Q q)⟩
theorem PT.imp {X : Cx} {e : Expr} {t u : TT} (h : PT X e t) (k : ∀ σ H Q, u σ H Q → t σ H Q) : PT X e u := ⟨fun pins s σ H Q I q => h.run pins s σ H Q I (k σ H Q q)⟩
theorem PA.imp {X : Cx} {es : List Expr} {t u : TA} (h : PA X es t) (k : ∀ σ H Q, u σ H Q → t σ H Q) : PA X es u := ⟨fun pos pins s σ H Q I q => h.run pos pins s σ H Q I (k σ H Q q)⟩
theorem PS.imp {X : Cx} {st : Stmt} {t u : TS} (h : PS X st t) (k : ∀ N σ H, u N σ H → t N σ H) : PS X st u := ⟨fun pins s σ H N I q => h.run pins s σ H N I (k N σ H q)⟩
theorem PSs.imp {X : Cx} {st : List Stmt} {t u : TS} (h : PSs X st t) (k : ∀ N σ H, u N σ H → t N σ H) : PSs X st u := ⟨fun pins s σ H N I q => h.run pins s σ H N I (k N σ H q)⟩
end Wu

/-! Rules for expressions. -/
namespace Wu
open PySem PySem.Spec PyProof.Rows L2

/-! ### meanings -/
def mVar (i : Nat) : M D := fun E => match E[i]? with
  | some (.val d) => .ok d E
  | _ => .bad
def mC (d : D) : M D := .ret d
def mNil : M (List D) := .ret []
def mCons (m : M D) (ms : M (List D)) : M (List D) := m.bnd fun d => ms.bnd fun ds => .ret (d :: ds)
def mFn (g : List D → Option D) (ms : M (List D)) : M D := ms.bnd fun ds => .opt (g ds)
def mOp (g : D → D → Option D) (a b : M D) : M D := a.bnd fun x => b.bnd fun y => .opt (g x y)
def mTest (m : M D) : M Bool := m.bnd fun d => match d with
  | .bl b => .ret b
  | _ => .bad
def mAnd (a b : M Bool) : M Bool := a.bnd fun c => if c then b else .ret false
def mOr (a b : M Bool) : M Bool := a.bnd fun c => if c then .ret true else b
def mNot (a : M Bool) : M Bool := a.bnd fun c => .ret (!c)
def mIf (c : M Bool) (a b : M D) : M D := c.bnd fun k => if k then a else b
/-- and, or, not as values: all but the last are True or False -/
def mAndV (a b : M D) : M D := a.bnd fun d => match d with
  | .bl c => if c then b else .ret (.bl false)
  | _ => .bad
def mOrV (a b : M D) : M D := a.bnd fun d => match d with
  | .bl c => if c then .ret (.bl true) else b
  | _ => .bad
def mNotV (a : M D) : M D := a.bnd fun d => match d with
  | .bl c => .ret (.bl (!c))
  | _ => .bad
def mB (m : M Bool) : M D := m.bnd fun b => .ret (.bl b)
def pTup (ds : List D) : Option D := if ds.length ≤ sizeLine then some (.tup ds) else none
def pLst (ds : List D) : Option D := if ds.length ≤ sizeLine then some (.lst ds) else none

section
variable {K : PySem.W.Frag} {ct : Ct}
/-- the value d may be handed on: as it stands, or newly laid -/
def Out (K : PySem.W.Frag) (ct : Ct) (B H : Hp) (d : D) (Q : VK) : Prop :=
  (∀ z, Rp K ct B z d → Q z H) ∧ ∀ p o, H p = none → Rp K ct (upd B p o) (.ref p) d → Q (.ref p) (upd H p o)
variable {W : WX} {F : Fm} {B H : Hp} {σ : L2.St} {fps : Nat → List Addr} {E : Env'}
theorem out_of {d : D} {Q : VK} (rl : Rl K ct F B H σ E fps) (h : Pst K ct (Rp K ct) W F B σ (M.ret d E) Q) : Out K ct B H d Q := by
  refine ⟨fun z r => h z B H _ rl (Same.refl B) r, fun p o n r => ?_⟩
  obtain ⟨rl', s'⟩ := rl.laid (o := o) n
  exact h _ _ _ _ rl' s' r
theorem opt_of {α υ : Type} {Rr : Hp → υ → α → Prop} {o : Option α} {Q : υ → Hp → Prop} (h : Pst K ct Rr W F B σ (M.opt o E) Q) : ∃ d, o = some d ∧ Pst K ct Rr W F B σ (M.ret d E) Q := by
  cases o with
  | none => exact h.elim
  | some d => exact ⟨d, rfl, h⟩
end

/-! ### tuples newly laid -/
/-- a new tuple of xs may be handed on, borne plainly or as it is made -/
def Lay (H : Hp) (xs : List V) (Q : VK) : Prop := (∀ p, H p = none → Q (.ref p) (upd H p (.tup xs))) ∨ ∀ (p : Addr) (o : Obj), H p = none → o.dict = none → Q (.ref p) (upd H p (.frz o (.tup xs)))
theorem Lay.pick {H : Hp} {xs : List V} {Q : VK} {p : Addr} {ob : Obj} (h : Lay H xs Q) (n : H p = none) (hd : ob.dict = none) : ∃ u, (u = .tup xs ∨ u = .frz ob (.tup xs)) ∧ Q (.ref p) (upd H p u) := by
  rcases h with h | h
  · exact ⟨_, .inl rfl, h p n⟩
  · exact ⟨_, .inr rfl, h p ob n hd⟩
theorem lay_ok {P : Program} {w : World} {H : Hp} {h : Heap} {p : Addr} {ob : Obj} {u : HO} {xs : List V} (e : h.get? p = some ob) (k : ObjOk P w H h p (.tup xs)) (hu : u = .tup xs ∨ u = .frz ob (.tup xs)) : ObjOk P w H h p u := by
  rcases hu with rfl | rfl
  · exact k
  · exact ⟨e, k⟩
theorem same_new {B H : Hp} {p : Addr} {o : HO} (s : Same B H) (n : H p = none) : Same B (upd B p o) := fun b u e => by
  rw [upd_ne (ne_of_none (s b u e) n)]; exact e
theorem lay_of {K : PySem.W.Frag} {ct : Ct} {B H : Hp} {xs : List V} {ds : List D} {Q : VK} (o : Out K ct B H (.tup ds) Q) (s : Same B H) (r : RpL K ct B xs ds) : Lay H xs Q := by
  cases hx : exT ct.md xs with
  | true => exact .inr fun p ob n hd => o.2 p _ n (.nd ⟨.inl (.inr ⟨ob, upd_same⟩), fun _ => .inl ⟨ob, _, hd, upd_same⟩, fun z => (by rw [hx] at z; cases z)⟩ (r.mono (same_new s n)))
  | false => exact .inl fun p n => o.2 p _ n (.nd ⟨SqT.of upd_same, fun z => (by rw [hx] at z; cases z), fun _ => .inl upd_same⟩ (r.mono (same_new s n)))
section
variable {X : Cx}
/-- new at the heap's end -/
theorem laid_tup {pins : List (Addr × Obj)} {σ : L2.St} {H : Hp} {s : Shared} {xs : List V} {Q : VK} {its : Array Value} (I : Inv X pins σ H s) (h : Lay H xs Q) (hz : xs.length ≤ sizeLine) (r : Vals xs its.toList) :
    EP X pins σ Q (.ref s.heap.objs.size) { s with heap := s.heap.push { cls := .type "tuple", data := .seq its } } := by
  obtain ⟨u, hu, q⟩ := h.pick (ob := { cls := .type "tuple", data := .seq its }) (I.hok.fresh (Nat.le_refl s.heap.objs.size)) rfl
  have e : (s.heap.push { cls := .type "tuple", data := .seq its }).get? s.heap.objs.size = some { cls := .type "tuple", data := .seq its } := Heap.get?_push_size _ rfl
  refine ⟨.ref s.heap.objs.size, _, I.laid (t' := s.toks) (o := u) (fun b ob q => Heap.get?_push_of_some _ q) (Nat.le_refl _) (lay_ok e ⟨hz, its.toList, r, ?_⟩ hu), rfl, q⟩
  exact ⟨_, e, rfl, 0, rfl⟩
def tTupL (t : TA) : TE := fun σ H Q => t σ H fun xs H1 => xs.length ≤ sizeLine ∧ Lay H1 xs Q
theorem pe_tupL {es : List Expr} {t : TA} {pos : Pos} {x1} (h : PA X es t) : PE X (.Tuple es x1 pos) (tTupL t) := by
  refine ⟨fun pins s σ H Q I hq => ?_⟩
  refine wpAny_Tuple_spliced (thn (h.run pos pins s σ H _ I hq) fun us s1 ⟨xs, H1, I1, r, z, q⟩ => ⟨by rw [← r.length]; exact z, ?_⟩)
  exact laid_tup I1 q z (by simpa using r)
end
section
variable {X : Cx} {ct : Ct} {W : WX}
abbrev Ed (X : Cx) (ct : Ct) (W : WX) (e : Expr) (m : M D) : Prop := PE X e (tM X.K ct W m)
abbrev Td (X : Cx) (ct : Ct) (W : WX) (e : Expr) (m : M Bool) : Prop := PT X e (tMT X.K ct W m)
abbrev Ad (X : Cx) (ct : Ct) (W : WX) (es : List Expr) (m : M (List D)) : Prop := PA X es (tML X.K ct W m)

/-! ### names, constants -/
theorem d_v (i : Nat) {x : Str} {pos : Pos} (hN : X.N[i]? = some x := by rfl)
    (hv : Vis X.env.scope x := by first | exact Or.inl rfl | exact Or.inr (Or.inl rfl) | exact Or.inr (Or.inr rfl))
    (hd : (x == ("__debug__" : Str)) = false := by decide) (hcd : (x == ("__classdict__" : Str)) = false := by decide) : Ed X ct W (.Name x pos) (mVar i) := by
  refine PE.imp (pe_var hN hv hd hcd) fun σ H Q h => ?_
  obtain ⟨F, B, E, fps, rl, h⟩ := h
  unfold mVar at h
  split at h
  · rename_i d e
    obtain ⟨v, hv, rp⟩ := rl.val e
    exact ⟨v, hv, h v B H _ rl (Same.refl B) rp⟩
  · exact h.elim
theorem d_const {e : Expr} {v : V} {d : D} (h : PE X e (tC v)) (r : ∀ B, Rp X.K ct B v d) : Ed X ct W e (mC d) := by
  refine PE.imp h fun σ H Q h => ?_
  obtain ⟨F, B, E, fps, rl, h⟩ := h
  exact h v B H _ rl (Same.refl B) (r B)
theorem d_int {i : Int} {j pos} : Ed X ct W (.Constant (.int i) j pos) (mC (.int i)) := d_const pe_int fun _ => .int i
theorem d_bl {b : Bool} {j pos} : Ed X ct W (.Constant (.bool b) j pos) (mC (.bl b)) := d_const pe_bl fun _ => .bl b
theorem d_non {j pos} : Ed X ct W (.Constant .none j pos) (mC .non) := d_const pe_non fun _ => .non
theorem d_str {x : Str} {j pos} : Ed X ct W (.Constant (.str x) j pos) (mC (.str x)) := d_const pe_str fun _ => .str x
theorem d_gint {x : Str} {i : Int} {t : Tok} {pos : Pos} (hg : Gl X x) (hm : X.mg x = some (.int i t)) (hd : (x == ("__debug__" : Str)) = false := by decide) : Ed X ct W (.Name x pos) (mC (.int i)) :=
  d_const (pe_glob (v := .int i) hg hm ⟨_, rfl⟩ hd) fun _ => .int i
theorem d_gstr {x z : Str} {t : Tok} {pos : Pos} (hg : Gl X x) (hm : X.mg x = some (.str z t)) (hd : (x == ("__debug__" : Str)) = false := by decide) : Ed X ct W (.Name x pos) (mC (.str z)) :=
  d_const (pe_glob (v := .str z) hg hm ⟨_, rfl⟩ hd) fun _ => .str z

/-! ### arguments -/
theorem d_nil : Ad X ct W [] mNil := by
  refine PA.imp pa_nil fun σ H Q h => ?_
  obtain ⟨F, B, E, fps, rl, h⟩ := h
  exact h [] B H _ rl (Same.refl B) .nil
theorem d_cons {e : Expr} {es : List Expr} {m : M D} {ms : M (List D)} (ha : Ed X ct W e m) (hr : Ad X ct W es ms)
    (hs : starEach (e :: es) X.env = (false, eval e X.env) :: starEach es X.env := by rfl) : Ad X ct W (e :: es) (mCons m ms) := by
  refine PA.imp (pa_cons ha hr hs) fun σ H Q h => ?_
  obtain ⟨F, B, E, fps, rl, h⟩ := h
  refine ⟨F, B, E, fps, rl, (Pst.bind h).imp ?_⟩
  rintro v H1 ⟨d, E1, B1, fps1, rl1, s1, r1, h1⟩
  refine ⟨F, B1, E1, fps1, rl1, (Pst.bind h1).imp ?_⟩
  rintro vs H2 ⟨ds, E2, B2, fps2, rl2, s2, r2, h2⟩
  exact h2 _ B2 H2 _ rl2 (Same.refl B2) (.cons (r1.mono s2) r2)
/-! ### displays -/
theorem d_tup {es : List Expr} {x1} {pos : Pos} {ms : M (List D)} (ha : Ad X ct W es ms) : Ed X ct W (.Tuple es x1 pos) (mFn pTup ms) := by
  refine PE.imp (pe_tupL ha) fun σ H Q h => ?_
  obtain ⟨F, B, E, fps, rl, h⟩ := h
  refine ⟨F, B, E, fps, rl, (Pst.bind h).imp ?_⟩
  rintro vs H1 ⟨ds, E1, B1, fps1, rl1, s1, r1, h1⟩
  obtain ⟨d, e, h2⟩ := opt_of h1
  unfold pTup at e
  split at e
  · rename_i hl
    cases e
    exact ⟨by rw [r1.len]; exact hl, lay_of (out_of rl1 h2) rl1.bs r1⟩
  · cases e
theorem d_lst {es : List Expr} {pos : Pos} {ms : M (List D)} (ha : Ad X ct W es ms) : Ed X ct W (.List es pos) (mFn pLst ms) := by
  refine PE.imp (pe_lst ha) fun σ H Q h => ?_
  obtain ⟨F, B, E, fps, rl, h⟩ := h
  refine ⟨F, B, E, fps, rl, (Pst.bind h).imp ?_⟩
  rintro vs H1 ⟨ds, E1, B1, fps1, rl1, s1, r1, h1⟩
  obtain ⟨d, e, h2⟩ := opt_of h1
  unfold pLst at e
  split at e
  · rename_i hl
    cases e
    exact ⟨by rw [r1.len]; exact hl, fun p hp => (out_of rl1 h2).2 p _ hp (.nd (show Sq X.K ct _ p .lst vs from upd_same) (r1.mono (rl1.laid hp).2))⟩
  · cases e

/-! ### operators by values -/
/-- r serves g -/
def OpOk (K : PySem.W.Frag) (ct : Ct) (r : R2) (g : D → D → Option D) : Prop :=
  ∀ (B H : Hp) (x y : V) (a b d : D) (Q : VK), Same B H → Rp K ct B x a → Rp K ct B y b → g a b = some d → Out K ct B H d Q → r x y H Q
theorem OpOk.imp {r : R2} {g : D → D → Option D} {ta tb : M D} (h : OpOk X.K ct r g) : ∀ σ H Q, tM X.K ct W (mOp g ta tb) σ H Q → tOp r (tM X.K ct W ta) (tM X.K ct W tb) σ H Q := by
  intro σ H Q hq
  obtain ⟨F, B, E, fps, rl, hq⟩ := hq
  refine ⟨F, B, E, fps, rl, (Pst.bind hq).imp ?_⟩
  rintro x H1 ⟨a, E1, B1, fps1, rl1, s1, r1, h1⟩
  refine ⟨F, B1, E1, fps1, rl1, (Pst.bind h1).imp ?_⟩
  rintro y H2 ⟨b, E2, B2, fps2, rl2, s2, r2, h2⟩
  obtain ⟨d, e, h3⟩ := opt_of h2
  exact h B2 H2 x y a b d Q rl2.bs (r1.mono s2) r2 e (out_of rl2 h3)
theorem d_op {op : Operator} {r : R2} {g : D → D → Option D} {a b : Expr} {pos : Pos} {ma mb : M D} (ho : OpR X (binaryOp op) r) (hg : OpOk X.K ct r g) (ha : Ed X ct W a ma) (hb : Ed X ct W b mb) :
    Ed X ct W (.BinOp a op b pos) (mOp g ma mb) := PE.imp (pe_op ho ha hb) hg.imp
theorem d_cmp {op : CmpOp} {r : R2} {g : D → D → Option D} {a b : Expr} {pos : Pos} {ma mb : M D} (ho : OpR X (compareOp op) r) (hg : OpOk X.K ct r g) (ha : Ed X ct W a ma) (hb : Ed X ct W b mb)
    (hm : behindInMarks op b = false := by rfl) : Ed X ct W (.Compare a [op] [b] pos) (mOp g ma mb) := PE.imp (pe_cmpR ho ha hb hm) hg.imp
/-- what is True or False, as a test -/
theorem test_imp {t : TE} {m : M D} (k : ∀ σ H Q, tM X.K ct W m σ H Q → t σ H Q) : ∀ σ H Q, tMT X.K ct W (mTest m) σ H Q → tTest t σ H Q := by
  intro σ H Q h
  obtain ⟨F, B, E, fps, rl, h⟩ := h
  refine k σ H _ ⟨F, B, E, fps, rl, (Pst.bind h).imp ?_⟩
  rintro v H1 ⟨d, E1, B1, fps1, rl1, s1, r1, h1⟩
  cases d with
  | bl b => cases r1; exact ⟨b, rfl, h1 b B1 H1 _ rl1 (Same.refl B1) rfl⟩
  | non => exact h1.elim
  | int i => exact h1.elim
  | str x => exact h1.elim
  | nd q l => exact h1.elim
theorem t_cmp {op : CmpOp} {r : R2} {g : D → D → Option D} {a b : Expr} {pos : Pos} {ma mb : M D} (ho : OpR X (compareOp op) r) (hg : OpOk X.K ct r g) (ha : Ed X ct W a ma) (hb : Ed X ct W b mb)
    (hm : behindInMarks op b = false := by rfl) : Td X ct W (.Compare a [op] [b] pos) (mTest (mOp g ma mb)) := PT.imp (pt_cmpR ho ha hb hm) (test_imp hg.imp)
/-- an expression that gives True or False -/
theorem t_val {e : Expr} {m : M D} (h : Ed X ct W e m) (he : ∀ whole, isTrue e X.env whole = (do let v ← whole; standAt e.pos; holding [v] (truthy v)) := by intro _; rfl) : Td X ct W e (mTest m) :=
  PT.imp (pt_val h he) (test_imp (t := tM X.K ct W m) fun _ _ _ z => z)

/-! ### and, or, not, if -/
theorem t_and1 {a : Expr} {pos : Pos} {m : M Bool} (h : Td X ct W a m) : PW X (.BoolOp .And [a] pos) (tMT X.K ct W m) := pw_and1 h
theorem t_or1 {a : Expr} {pos : Pos} {m : M Bool} (h : Td X ct W a m) : PW X (.BoolOp .Or [a] pos) (tMT X.K ct W m) := pw_or1 h
theorem PW.imp {e : Expr} {t u : TT} (h : PW X e t) (k : ∀ σ H Q, u σ H Q → t σ H Q) : PW X e u := ⟨fun wh pins s σ H Q I q => h.run wh pins s σ H Q I (k σ H Q q)⟩
theorem t_and {a b : Expr} {rest : List Expr} {pos : Pos} {m n : M Bool} (h : Td X ct W a m) (h2 : PW X (.BoolOp .And (b :: rest) pos) (tMT X.K ct W n)) :
    PW X (.BoolOp .And (a :: b :: rest) pos) (tMT X.K ct W (mAnd m n)) := by
  refine PW.imp (pw_and h h2) fun σ H Q h => ?_
  obtain ⟨F, B, E, fps, rl, h⟩ := h
  refine ⟨F, B, E, fps, rl, (Pst.bind h).imp ?_⟩
  rintro v H1 ⟨d, E1, B1, fps1, rl1, s1, r1, h1⟩
  cases r1
  cases v with
  | true => exact ⟨F, B1, E1, fps1, rl1, h1⟩
  | false => exact h1 false B1 H1 _ rl1 (Same.refl B1) rfl
theorem t_or {a b : Expr} {rest : List Expr} {pos : Pos} {m n : M Bool} (h : Td X ct W a m) (h2 : PW X (.BoolOp .Or (b :: rest) pos) (tMT X.K ct W n)) :
    PW X (.BoolOp .Or (a :: b :: rest) pos) (tMT X.K ct W (mOr m n)) := by
  refine PW.imp (pw_or h h2) fun σ H Q h => ?_
  obtain ⟨F, B, E, fps, rl, h⟩ := h
  refine ⟨F, B, E, fps, rl, (Pst.bind h).imp ?_⟩
  rintro v H1 ⟨d, E1, B1, fps1, rl1, s1, r1, h1⟩
  cases r1
  cases v with
  | true => exact h1 true B1 H1 _ rl1 (Same.refl B1) rfl
  | false => exact ⟨F, B1, E1, fps1, rl1, h1⟩
theorem t_not {a : Expr} {pos : Pos} {m : M Bool} (h : Td X ct W a m) : Td X ct W (.UnaryOp .Not a pos) (mNot m) := by
  refine PT.imp (pt_not h) fun σ H Q h => ?_
  obtain ⟨F, B, E, fps, rl, h⟩ := h
  refine ⟨F, B, E, fps, rl, (Pst.bind h).imp ?_⟩
  rintro v H1 ⟨d, E1, B1, fps1, rl1, s1, r1, h1⟩
  cases r1
  exact h1 (!v) B1 H1 _ rl1 (Same.refl B1) rfl
theorem d_if {c a b : Expr} {pos : Pos} {mc : M Bool} {ma mb : M D} (hc : Td X ct W c mc) (ha : Ed X ct W a ma) (hb : Ed X ct W b mb) : Ed X ct W (.IfExp c a b pos) (mIf mc ma mb) := by
  refine PE.imp (pe_ifExp hc ha hb) fun σ H Q h => ?_
  obtain ⟨F, B, E, fps, rl, h⟩ := h
  refine ⟨F, B, E, fps, rl, (Pst.bind h).imp ?_⟩
  rintro v H1 ⟨d, E1, B1, fps1, rl1, s1, r1, h1⟩
  cases r1
  cases v with
  | true => exact ⟨F, B1, E1, fps1, rl1, h1⟩
  | false => exact ⟨F, B1, E1, fps1, rl1, h1⟩
theorem d_one {op} {a : Expr} {pos : Pos} {m : M D} (h : Ed X ct W a m) : Ed X ct W (.BoolOp op [a] pos) m := pe_one h
theorem d_and {a b : Expr} {rest : List Expr} {pos : Pos} {m n : M D} (h : Ed X ct W a m) (h2 : Ed X ct W (.BoolOp .And (b :: rest) pos) n) : Ed X ct W (.BoolOp .And (a :: b :: rest) pos) (mAndV m n) := by
  refine PE.imp (pe_and h h2) fun σ H Q h => ?_
  obtain ⟨F, B, E, fps, rl, h⟩ := h
  refine ⟨F, B, E, fps, rl, (Pst.bind h).imp ?_⟩
  rintro v H1 ⟨d, E1, B1, fps1, rl1, s1, r1, h1⟩
  cases d with
  | bl b =>
    cases r1
    refine ⟨b, rfl, ?_⟩
    cases b with
    | true => exact ⟨F, B1, E1, fps1, rl1, h1⟩
    | false => exact h1 _ B1 H1 _ rl1 (Same.refl B1) (.bl false)
  | non => exact h1.elim
  | int i => exact h1.elim
  | str x => exact h1.elim
  | nd q l => exact h1.elim
theorem d_or {a b : Expr} {rest : List Expr} {pos : Pos} {m n : M D} (h : Ed X ct W a m) (h2 : Ed X ct W (.BoolOp .Or (b :: rest) pos) n) : Ed X ct W (.BoolOp .Or (a :: b :: rest) pos) (mOrV m n) := by
  refine PE.imp (pe_or h h2) fun σ H Q h => ?_
  obtain ⟨F, B, E, fps, rl, h⟩ := h
  refine ⟨F, B, E, fps, rl, (Pst.bind h).imp ?_⟩
  rintro v H1 ⟨d, E1, B1, fps1, rl1, s1, r1, h1⟩
  cases d with
  | bl b =>
    cases r1
    refine ⟨b, rfl, ?_⟩
    cases b with
    | true => exact h1 _ B1 H1 _ rl1 (Same.refl B1) (.bl true)
    | false => exact ⟨F, B1, E1, fps1, rl1, h1⟩
  | non => exact h1.elim
  | int i => exact h1.elim
  | str x => exact h1.elim
  | nd q l => exact h1.elim
theorem d_not {a : Expr} {pos : Pos} {m : M D} (h : Ed X ct W a m) : Ed X ct W (.UnaryOp .Not a pos) (mNotV m) := by
  refine PE.imp (pe_not h) fun σ H Q h => ?_
  obtain ⟨F, B, E, fps, rl, h⟩ := h
  refine ⟨F, B, E, fps, rl, (Pst.bind h).imp ?_⟩
  rintro v H1 ⟨d, E1, B1, fps1, rl1, s1, r1, h1⟩
  cases d with
  | bl b =>
    cases r1
    exact ⟨b, rfl, h1 _ B1 H1 _ rl1 (Same.refl B1) (.bl (!b))⟩
  | non => exact h1.elim
  | int i => exact h1.elim
  | str x => exact h1.elim
  | nd q l => exact h1.elim

/-! ### calls of built-ins -/
def CallOk (K : PySem.W.Frag) (ct : Ct) (r : List V → Hp → VK → Prop) (g : List D → Option D) : Prop :=
  ∀ (B H : Hp) (xs : List V) (ds : List D) (d : D) (Q : VK), Same B H → RpL K ct B xs ds → g ds = some d → Out K ct B H d Q → r xs H Q
theorem CallOk.imp {r : List V → Hp → VK → Prop} {g : List D → Option D} {ms : M (List D)} (h : CallOk X.K ct r g) : ∀ σ H Q, tM X.K ct W (mFn g ms) σ H Q → tCB r (tML X.K ct W ms) σ H Q := by
  intro σ H Q hq
  obtain ⟨F, B, E, fps, rl, hq⟩ := hq
  refine ⟨F, B, E, fps, rl, (Pst.bind hq).imp ?_⟩
  rintro xs H1 ⟨ds, E1, B1, fps1, rl1, s1, r1, h1⟩
  obtain ⟨d, e, h3⟩ := opt_of h1
  exact h B1 H1 xs ds d Q rl1.bs r1 e (out_of rl1 h3)
theorem d_callB {id : String} {x : Str} {r : List V → Hp → VK → Prop} {g : List D → Option D} {e : Expr} {es : List Expr} {p pos : Pos} {ms : M (List D)} (hc : CallR X (.builtin id) r) (hk : CallOk X.K ct r g)
    (hg : Gl X x) (hm : X.mg x = none) (hv : bootBuiltins x = some (.builtin id)) (ha : Ad X ct W (e :: es) ms) (hn : x ≠ "__name__" := by decide) (hdb : (x == ("__debug__" : Str)) = false := by decide)
    (he : starEach (e :: es) X.env = (false, eval e X.env) :: starEach es X.env := by rfl) (hpl : (backTo pos (starEach es X.env)).any (·.1) = false := by rfl) : Ed X ct W (.Call (.Name x p) (e :: es) [] pos) (mFn g ms) :=
  PE.imp (pe_callB hc hg hm hv ha hn hdb he hpl) hk.imp
theorem d_callTy {T : String} {x : Str} {r : List V → Hp → VK → Prop} {g : List D → Option D} {e : Expr} {es : List Expr} {p pos : Pos} {ms : M (List D)} (hc : CallR X (.type T) r) (hk : CallOk X.K ct r g)
    (hg : Gl X x) (hm : X.mg x = none) (hv : bootBuiltins x = some (.type T)) (ha : Ad X ct W (e :: es) ms) (hn : x ≠ "__name__" := by decide) (hdb : (x == ("__debug__" : Str)) = false := by decide)
    (he : starEach (e :: es) X.env = (false, eval e X.env) :: starEach es X.env := by rfl) (hpl : (backTo pos (starEach es X.env)).any (·.1) = false := by rfl) : Ed X ct W (.Call (.Name x p) (e :: es) [] pos) (mFn g ms) :=
  PE.imp (pe_callTy hc hg hm hv ha hn hdb he hpl) hk.imp
end
end Wu

/-! What operators and built-ins are worth on data. -/
namespace Wu
open PySem PySem.Spec PyProof.Rows L2

/-! ### arithmetic -/
def pAdd : D → D → Option D
  | .int i, .int j => some (.int (i + j))
  | .str x, .str y => if x.length + y.length ≤ sizeLine then some (.str (x ++ y)) else none
  | .nd .tup a, .nd .tup b => if a.length + b.length ≤ sizeLine then some (.tup (a ++ b)) else none
  | .nd .lst a, .nd .lst b => if a.length + b.length ≤ sizeLine then some (.lst (a ++ b)) else none
  | _, _ => none
def pSub : D → D → Option D
  | .int i, .int j => some (.int (i - j))
  | _, _ => none
instance (i j : Int) : Decidable (CMul i j) := inferInstanceAs (Decidable (_ ∨ _))
def reps (l : List D) (n : Nat) : List D := (List.replicate n l).flatten
def pMul : D → D → Option D
  | .int i, .int j => if CMul i j then some (.int (i * j)) else none
  | .nd .lst l, .int k => if -(2 ^ 63) ≤ k ∧ k < 2 ^ 63 ∧ l.length * k.toNat ≤ sizeLine then some (.lst (reps l k.toNat)) else none
  | .nd .tup l, .int k => if l ≠ [] ∧ 2 ≤ k ∧ k ≤ 1000 ∧ l.length ≤ 1000 then some (.tup (reps l k.toNat)) else none
  | _, _ => none
def pMod : D → D → Option D
  | .int i, .int j => if 0 < j then some (.int (i % j)) else none
  | _, _ => none
instance (i j : Int) : Decidable (CDivW i j) := inferInstanceAs (Decidable (_ ∧ _))
def pDiv : D → D → Option D
  | .int i, .int j => if CDivW i j then some (.int (i / j)) else none
  | _, _ => none
instance (i j : Int) : Decidable (CPow i j) := inferInstanceAs (Decidable (_ ∧ _))
def pPow : D → D → Option D
  | .int i, .int j => if CPow i j then some (.int (i ^ j.toNat)) else none
  | _, _ => none
def pCmpI (p : Int → Int → Bool) : D → D → Option D
  | .int i, .int j => some (.bl (p i j))
  | _, _ => none

section
variable {K : PySem.W.Frag} {ct : Ct}
theorem RpL.flatRep {B : Hp} {vs : List V} {ds : List D} (h : RpL K ct B vs ds) : ∀ n : Nat, RpL K ct B (List.replicate n vs).flatten (List.replicate n ds).flatten
  | 0 => by simpa using RpL.nil
  | n + 1 => by simpa [List.replicate_succ] using h.app (h.flatRep n)
theorem ok_int {C : Int → Int → Prop} {g : Int → Int → V} {f : D → D → Option D} (h : ∀ a b d, f a b = some d → ∃ i j, a = .int i ∧ b = .int j ∧ C i j ∧ ∀ B, Rp K ct B (g i j) d) : OpOk K ct (rI C g) f := by
  intro B H x y a b d Q s ra rb e o
  obtain ⟨i, j, rfl, rfl, c, r⟩ := h a b d e
  exact ⟨i, j, ra.intI, rb.intI, c, o.1 _ (r B)⟩
theorem ok_int0 {g : Int → Int → V} {f : D → D → Option D} (h : ∀ a b d, f a b = some d → ∃ i j, a = .int i ∧ b = .int j ∧ ∀ B, Rp K ct B (g i j) d) : OpOk K ct (rI0 g) f := by
  intro B H x y a b d Q s ra rb e o
  obtain ⟨i, j, rfl, rfl, r⟩ := h a b d e
  exact ⟨i, j, ra.intI, rb.intI, o.1 _ (r B)⟩
theorem ok_sub : OpOk K ct (rI0 fun i j => .int (i - j)) pSub := ok_int0 fun a b d e => by
  unfold pSub at e
  split at e
  · rename_i i j; cases e; exact ⟨i, j, rfl, rfl, fun B => .int _⟩
  · cases e
theorem ok_mod : OpOk K ct (rI (fun _ j => 0 < j) fun i j => .int (i % j)) pMod := ok_int fun a b d e => by
  unfold pMod at e
  split at e
  · rename_i i j
    split at e
    · cases e; exact ⟨i, j, rfl, rfl, by assumption, fun B => .int _⟩
    · cases e
  · cases e
theorem ok_div : OpOk K ct (rI CDivW fun i j => .int (i / j)) pDiv := ok_int fun a b d e => by
  unfold pDiv at e
  split at e
  · rename_i i j
    split at e
    · cases e; exact ⟨i, j, rfl, rfl, by assumption, fun B => .int _⟩
    · cases e
  · cases e
theorem ok_pow : OpOk K ct (rI CPow fun i j => .int (i ^ j.toNat)) pPow := ok_int fun a b d e => by
  unfold pPow at e
  split at e
  · rename_i i j
    split at e
    · cases e; exact ⟨i, j, rfl, rfl, by assumption, fun B => .int _⟩
    · cases e
  · cases e
theorem ok_cmpI {p : Int → Int → Bool} : OpOk K ct (rI0 fun i j => .bl (p i j)) (pCmpI p) := ok_int0 fun a b d e => by
  unfold pCmpI at e
  split at e
  · rename_i i j; cases e; exact ⟨i, j, rfl, rfl, fun B => .bl _⟩
  · cases e
abbrev rStr2 : R2 := fun x y H Q => ∃ i j, x = .str i ∧ y = .str j ∧ i.length + j.length ≤ sizeLine ∧ Q (.str (i ++ j)) H
/-- t + u -/
def rCatL (K : PySem.W.Frag) : R2 := fun x y H Q => ∃ a b xs ys, x = .ref a ∧ y = .ref b ∧ SqT K H a xs ∧ SqT K H b ys ∧ xs.length + ys.length ≤ sizeLine ∧
  (xs = [] → Q (.ref b) H) ∧ (xs ≠ [] → ys = [] → Q (.ref a) H) ∧ (xs ≠ [] → ys ≠ [] → Lay H (xs ++ ys) Q)
theorem op_catL {X : Cx} : OpR X (binaryOp .Add) (rCatL X.K) := by
  intro pins s σ H x y v u Q I rx ry h
  obtain ⟨a, b, xs, ys, rfl, rfl, ha, hb, hz, q0, q1, q2⟩ := h
  by_cases hx : xs = []
  · exact op_catA pins s σ H _ _ v u Q I rx ry ⟨a, b, xs, ys, rfl, rfl, ha, hb, hz, q0, q1, fun z => absurd hx z⟩
  · cases rx
    cases ry
    obtain ⟨its, r1, p1, _⟩ := I.tuple ha
    obtain ⟨its2, r2, p2, _⟩ := I.tuple hb
    refine HT.cat_tup p1 p2 (fun z => hx (r1.nil_iff.mp z)) (fun z => ⟨.ref a, H, I, rfl, q1 hx (r2.nil_iff.mp z)⟩) (fun z => ?_) (by rw [← r1.length, ← r2.length]; exact hz)
    exact laid_tup I (q2 hx fun w => z (r2.nil_iff.mpr w)) (by rw [List.length_append]; exact hz) (r1.append r2)
abbrev rAddAll (K : PySem.W.Frag) : R2 := fun x y H Q => (rI0 (fun i j => .int (i + j)) x y H Q ∨ rStr2 x y H Q) ∨ (rCatL K x y H Q ∨ rCat x y H Q)
theorem same_lst {B H : Hp} {a : Addr} {xs : List V} (s : Same B H) (h : B a = some (.lst xs)) : H a = some (.lst xs) := s _ _ h
theorem new_pr {B : Hp} {p : Addr} {xs : List V} {ds : List D} (s : Same B (upd B p (.tup xs))) (r : RpL K ct B xs ds) : Rp K ct (upd B p (.tup xs)) (.ref p) (.nd .pr ds) := .nd (show Sq K ct _ p .pr xs from SqT.of upd_same) (r.mono s)
theorem new_lst {B : Hp} {p : Addr} {xs : List V} {ds : List D} (s : Same B (upd B p (.lst xs))) (r : RpL K ct B xs ds) : Rp K ct (upd B p (.lst xs)) (.ref p) (.lst ds) := .nd (show Sq K ct _ p .lst xs from upd_same) (r.mono s)
theorem ok_add : OpOk K ct (rAddAll K) pAdd := by
  intro B H x y a b d Q s ra rb e o
  unfold pAdd at e
  split at e
  · cases e; exact .inl (.inl ⟨_, _, ra.intI, rb.intI, o.1 _ (.int _)⟩)
  · split at e
    · cases e; exact .inl (.inr ⟨_, _, ra.strI, rb.strI, by assumption, o.1 _ (.str _)⟩)
    · cases e
  · rename_i l m
    split at e
    · rename_i hl
      cases e
      obtain ⟨p, xs, rfl, hx, rx⟩ := ra.ndI
      obtain ⟨q, ys, rfl, hy, ry⟩ := rb.ndI
      have hx' := hx
      have hy' := hy
      refine .inr (.inl ⟨p, q, xs, ys, rfl, rfl, sqT_mono s hx.t, sqT_mono s hy.t, by rw [rx.len, ry.len]; exact hl, fun z => ?_, fun z1 z2 => ?_, fun z1 z2 => ?_⟩)
      · subst z; cases rx; exact o.1 _ (.nd hy' ry)
      · subst z2; cases ry; rw [List.append_nil] at o; exact o.1 _ (.nd hx' rx)
      · exact lay_of o s (rx.app ry)
    · cases e
  · rename_i l m
    split at e
    · rename_i hl
      cases e
      obtain ⟨p, xs, rfl, hx, rx⟩ := ra.ndI
      obtain ⟨q, ys, rfl, hy, ry⟩ := rb.ndI
      exact .inr (.inr ⟨p, q, xs, ys, rfl, rfl, s _ _ hx, s _ _ hy, by rw [rx.len, ry.len]; exact hl, fun t ht => o.2 t _ ht (new_lst (same_new s ht) (rx.app ry))⟩)
    · cases e
  · cases e
/-- t * k -/
def rRepL (K : PySem.W.Frag) : R2 := fun x y H Q => ∃ l k xs, x = .ref l ∧ y = .int k ∧ SqT K H l xs ∧ xs ≠ [] ∧ 2 ≤ k ∧ k ≤ 1000 ∧ xs.length ≤ 1000 ∧ Lay H (List.replicate k.toNat xs).flatten Q
theorem op_repL {X : Cx} : OpR X (binaryOp .Mult) (rRepL X.K) := by
  intro pins s σ H x y v u Q I rx ry h
  obtain ⟨l, k, xs, rfl, rfl, hT, hne, h1, h2, hz, q⟩ := h
  cases rx
  obtain ⟨t, rfl⟩ := ry
  obtain ⟨its, r, ⟨⟨cls, dd, data, sl⟩, ho, hc, n, hd⟩, hs⟩ := I.tuple hT
  simp only at hc hd
  subst hc hd
  have hle : its.length = xs.length := r.length.symm
  have hn : its ≠ [] := fun e => hne (by
    rw [e] at hle
    exact List.eq_nil_of_length_eq_zero hle.symm)
  have hi : its.toArray.isEmpty = false := by
    cases its with
    | nil => exact absurd rfl hn
    | cons a b => rfl
  have hsz0 : its.toArray.size = xs.length := by rw [List.size_toArray, hle]
  have hm : ((its.toArray.size : Nat) : Int) * k ≤ 1000000 := by
    rw [hsz0]
    have a1 : ((xs.length : Nat) : Int) * k ≤ 1000 * k := Int.mul_le_mul_of_nonneg_right (by omega) (by omega)
    omega
  have flen : (List.replicate k.toNat its).flatten.length ≤ sizeLine := by
    rw [PyProof.Rows.lm_len_rep_flat, hle, sizeLine_eq]
    have a1 : k.toNat * xs.length ≤ 1000 * 1000 := Nat.mul_le_mul (by omega) hz
    omega
  have c0 : (decide (k < -(2 ^ 63)) || decide (k ≥ 2 ^ 63)) = false := by
    rw [decide_eq_false (by omega), decide_eq_false (by omega)] <;> rfl
  have c1 : (its.toArray.isEmpty || k == 1) = false := by
    rw [hi, Bool.false_or]
    exact beq_eq_false_iff_ne.mpr (by omega)
  have c2 : (decide (k ≤ 0) || its.toArray.isEmpty) = false := by
    rw [hi, Bool.or_false]
    exact decide_eq_false (by omega)
  have c4 : Builtin.Tuple.tupleTooMany (((its.toArray.size : Nat) : Int) * k) = false := by
    unfold Builtin.Tuple.tupleTooMany
    rw [sizeLine_eq]
    exact decide_eq_false (by omega)
  refine wpAny_binaryOp_repeat_ref (T := "tuple") (U := "int") (by decide) ⟨_, ho, rfl⟩ (fun s' => typeIs_int s' k t) noFill_tuple_mul F.fills_int_mul F.slot_int_rmul repeat_tuple F.slot_int_index.lookup
    (call_meets F.slot_int_rmul (typeIs_int s k t) F.entry_int_rmul (F.args_int_rmul_2 _ _) (int_rmul_tuple k t l its.toArray n dd sl)
      ⟨ho, rfl, ⟨_, ho, rfl⟩, call_meets F.slot_tuple_mul ⟨_, ho, rfl⟩ F.entry_tuple_mul (F.args_tuple_mul_2 _ _) (tuple_mulW l its.toArray n dd sl k t c0 c1 c2 (by omega) c4 (by rw [size_rep, List.size_toArray]; exact flen)) ⟨ho, ?_⟩⟩)
  rw [size_rep]
  refine laid_tup I q ?_ (r.rep k.toNat)
  rw [PyProof.Rows.lm_len_rep_flat, sizeLine_eq]
  have a1 : k.toNat * xs.length ≤ 1000 * 1000 := Nat.mul_le_mul (by omega) hz
  omega
abbrev rMulAll (K : PySem.W.Frag) : R2 := fun x y H Q => rI CMul (fun i j => .int (i * j)) x y H Q ∨ (rRep x y H Q ∨ rRepL K x y H Q)
theorem ok_mul : OpOk K ct (rMulAll K) pMul := by
  intro B H x y a b d Q s ra rb e o
  unfold pMul at e
  split at e
  · split at e
    · cases e; exact .inl ⟨_, _, ra.intI, rb.intI, by assumption, o.1 _ (.int _)⟩
    · cases e
  · split at e
    · rename_i l k hk
      cases e
      obtain ⟨p, xs, rfl, hx, rx⟩ := ra.ndI
      exact .inr (.inl ⟨p, _, xs, rfl, rb.intI, s _ _ hx, hk.1, hk.2.1, by rw [rx.len]; exact hk.2.2, fun t ht => o.2 t _ ht (new_lst (same_new s ht) (rx.flatRep _))⟩)
    · cases e
  · split at e
    · rename_i l k hk
      cases e
      obtain ⟨p, xs, rfl, hx, rx⟩ := ra.ndI
      exact .inr (.inr ⟨p, _, xs, rfl, rb.intI, sqT_mono s hx.t, fun z => hk.1 (List.length_eq_zero_iff.mp (by rw [← rx.len, z]; rfl)), hk.2.1, hk.2.2.1, by rw [rx.len]; exact hk.2.2.2, lay_of o s (rx.flatRep _)⟩)
    · cases e
  · cases e
end

section
variable {X : Cx} {ct : Ct} {W : WX} {a b c : Expr} {pos : Pos} {ma mb mc : M D}
theorem op_addAll : OpR X (binaryOp .Add) (rAddAll X.K) := (op_add.or op_add_str).or (op_catL.or op_cat)
theorem op_mulAll : OpR X (binaryOp .Mult) (rMulAll X.K) := op_mul.or (op_rep.or op_repL)
theorem d_add (ha : Ed X ct W a ma) (hb : Ed X ct W b mb) : Ed X ct W (.BinOp a .Add b pos) (mOp pAdd ma mb) := d_op op_addAll ok_add ha hb
theorem d_sub (ha : Ed X ct W a ma) (hb : Ed X ct W b mb) : Ed X ct W (.BinOp a .Sub b pos) (mOp pSub ma mb) := d_op op_sub ok_sub ha hb
theorem d_mul (ha : Ed X ct W a ma) (hb : Ed X ct W b mb) : Ed X ct W (.BinOp a .Mult b pos) (mOp pMul ma mb) := d_op op_mulAll ok_mul ha hb
theorem d_mod (ha : Ed X ct W a ma) (hb : Ed X ct W b mb) : Ed X ct W (.BinOp a .Mod b pos) (mOp pMod ma mb) := d_op op_mod ok_mod ha hb
theorem d_div (ha : Ed X ct W a ma) (hb : Ed X ct W b mb) : Ed X ct W (.BinOp a .FloorDiv b pos) (mOp pDiv ma mb) := d_op op_fdivW ok_div ha hb
theorem d_pow (ha : Ed X ct W a ma) (hb : Ed X ct W b mb) : Ed X ct W (.BinOp a .Pow b pos) (mOp pPow ma mb) := d_op op_pow ok_pow ha hb
abbrev pLt : D → D → Option D := pCmpI fun i j => decide (i < j)
abbrev pLe : D → D → Option D := pCmpI fun i j => decide (i ≤ j)
abbrev pGt : D → D → Option D := pCmpI fun i j => decide (j < i)
abbrev pGe : D → D → Option D := pCmpI fun i j => decide (j ≤ i)
theorem d_lt (ha : Ed X ct W a ma) (hb : Ed X ct W b mb) (hm : behindInMarks .Lt b = false := by rfl) : Ed X ct W (.Compare a [.Lt] [b] pos) (mOp pLt ma mb) := d_cmp op_lt ok_cmpI ha hb hm
theorem d_le (ha : Ed X ct W a ma) (hb : Ed X ct W b mb) (hm : behindInMarks .LtE b = false := by rfl) : Ed X ct W (.Compare a [.LtE] [b] pos) (mOp pLe ma mb) := d_cmp op_le ok_cmpI ha hb hm
theorem d_gt (ha : Ed X ct W a ma) (hb : Ed X ct W b mb) (hm : behindInMarks .Gt b = false := by rfl) : Ed X ct W (.Compare a [.Gt] [b] pos) (mOp pGt ma mb) := d_cmp op_gt ok_cmpI ha hb hm
theorem d_ge (ha : Ed X ct W a ma) (hb : Ed X ct W b mb) (hm : behindInMarks .GtE b = false := by rfl) : Ed X ct W (.Compare a [.GtE] [b] pos) (mOp pGe ma mb) := d_cmp op_ge ok_cmpI ha hb hm
/-- a < b <= c: b once -/
def mChain (g g' : D → D → Option D) (a b c : M D) : M D := a.bnd fun x => b.bnd fun y => (M.opt (g x y)).bnd fun z => match z with
  | .bl k => if k then c.bnd fun w => .opt (g' y w) else .ret (.bl false)
  | _ => .bad
theorem chain_imp {r r' : R2} {g g' : D → D → Option D} (h : OpOk X.K ct r g) (h' : OpOk X.K ct r' g') (hb : ∀ a b d, g a b = some d → ∃ k, d = .bl k) : ∀ σ H Q, tM X.K ct W (mChain g g' ma mb mc) σ H Q → tChain r r' (tM X.K ct W ma) (tM X.K ct W mb) (tM X.K ct W mc) σ H Q := by
  intro σ H Q hq
  obtain ⟨F, B, E, fps, rl, hq⟩ := hq
  refine ⟨F, B, E, fps, rl, (Pst.bind hq).imp ?_⟩
  rintro x H1 ⟨a, E1, B1, fps1, rl1, s1, r1, h1⟩
  refine ⟨F, B1, E1, fps1, rl1, (Pst.bind h1).imp ?_⟩
  rintro y H2 ⟨b, E2, B2, fps2, rl2, s2, r2, h2⟩
  cases e : g a b with
  | none => rw [e] at h2; exact h2.elim
  | some d =>
    rw [e] at h2
    obtain ⟨k, rfl⟩ := hb a b d e
    refine h B2 H2 x y a b _ _ rl2.bs (r1.mono s2) r2 e ⟨fun z rz => ?_, fun p o _ rz => by cases rz⟩
    cases rz
    refine ⟨k, rfl, ?_⟩
    cases k with
    | false => exact h2 _ B2 H2 _ rl2 (Same.refl B2) (.bl false)
    | true =>
      refine ⟨F, B2, E2, fps2, rl2, (Pst.bind (show Pst X.K ct (Rp X.K ct) W F B2 σ ((mc E2).bind fun w => M.opt (g' b w)) Q from h2)).imp ?_⟩
      rintro w H3 ⟨w', E3, B3, fps3, rl3, s3, r3, h3⟩
      obtain ⟨d', e', h4⟩ := opt_of h3
      exact h' B3 H3 y w b w' d' Q rl3.bs (r2.mono s3) r3 e' (out_of rl3 h4)
theorem cmpI_bl {p : Int → Int → Bool} (a b d : D) (h : pCmpI p a b = some d) : ∃ k, d = .bl k := by
  unfold pCmpI at h
  split at h
  · cases h; exact ⟨_, rfl⟩
  · cases h
theorem d_lele (ha : Ed X ct W a ma) (hb : Ed X ct W b mb) (hc : Ed X ct W c mc) (hm : lastMarks [CmpOp.LtE, CmpOp.LtE] [b, c] = false := by with_unfolding_all rfl) :
    Ed X ct W (.Compare a [.LtE, .LtE] [b, c] pos) (mChain pLe pLe ma mb mc) := PE.imp (pe_chain op_le op_le ha hb hc hm) (chain_imp ok_cmpI ok_cmpI cmpI_bl)
theorem t_lele (ha : Ed X ct W a ma) (hb : Ed X ct W b mb) (hc : Ed X ct W c mc) (hm : lastMarks [CmpOp.LtE, CmpOp.LtE] [b, c] = false := by with_unfolding_all rfl) :
    Td X ct W (.Compare a [.LtE, .LtE] [b, c] pos) (mTest (mChain pLe pLe ma mb mc)) := PT.imp (pt_chain op_le op_le ha hb hc hm) (test_imp (chain_imp ok_cmpI ok_cmpI cmpI_bl))
end
end Wu

/-! Equality, membership, lengths, kinds, conversions. -/
namespace Wu
open PySem PySem.Spec PyProof.Rows L2

/-! ### data as the library's plain data -/
mutual
def D.py : D → PyData
  | .non => .none
  | .bl b => .bool b
  | .int i => .int i
  | .str x => .str x
  | .nd .tup l => .tuple (pyL l)
  | .nd .lst l => .list (pyL l)
  | .nd .scr _ => .none
  | .nd .pr _ => .none
  | .nd (.dct _) _ => .none
  | .nd (.dtt _) _ => .none
  | .nd (.ob _ _) _ => .none
  | .nd (.exn _ _) _ => .none
def pyL : List D → List PyData
  | [] => []
  | d :: l => d.py :: pyL l
end
mutual
/-- tuples and lists alone -/
def D.isPy : D → Bool
  | .non => true
  | .bl _ => true
  | .int _ => true
  | .str _ => true
  | .nd .tup l => isPyL l
  | .nd .lst l => isPyL l
  | .nd .scr _ => false
  | .nd .pr _ => false
  | .nd (.dct _) _ => false
  | .nd (.dtt _) _ => false
  | .nd (.ob _ _) _ => false
  | .nd (.exn _ _) _ => false
def isPyL : List D → Bool
  | [] => true
  | d :: l => d.isPy && isPyL l
end
section
variable {K : PySem.W.Frag} {ct : Ct} {B H : Hp}
mutual
theorem Rp.dp (s : Same B H) : ∀ (d : D) (v : V), Rp K ct B v d → d.isPy = true → Dp K H v d.py
  | .non, _, h, _ => by cases h; exact .non
  | .bl b, _, h, _ => by cases h; exact .bl b
  | .int i, _, h, _ => by cases h; exact .int i
  | .str x, _, h, _ => by cases h; exact .str x
  | .nd k l, v, h, q => by
    cases h with
    | nd h r =>
      cases k with
      | tup => exact .tup (sqT_mono s h.t) (RpL.dp s l _ r q)
      | pr => cases q
      | lst => exact .lst (SqL.of (s _ _ h)) (RpL.dp s l _ r q)
      | scr => cases q
      | dct ks => cases q
      | dtt ks => cases q
      | ob c fs => cases q
      | exn c fs => cases q
theorem RpL.dp (s : Same B H) : ∀ (ds : List D) (vs : List V), RpL K ct B vs ds → isPyL ds = true → DpAll K H vs (pyL ds)
  | [], _, h, _ => by cases h; exact .nil
  | d :: ds, _, h, q => by
    cases h with
    | cons h r =>
      have q' := Bool.and_eq_true_iff.mp (show (d.isPy && isPyL ds) = true from q)
      exact .cons (Rp.dp s d _ h q'.1) (RpL.dp s ds _ r q'.2)
end
end
def D.shp (d : D) : Bool := d.isPy && SeqAt.shaped d.py
def D.eqb (a b : D) : Bool := PyData.eqv a.py b.py
/-- two texts: are they one; one of two alike sequences is empty: are both -/
def emp2 : D → D → Option Bool
  | .str x, .str y => some (decide (x = y))
  | .nd .tup l, .nd .tup r => if l.isEmpty || r.isEmpty then some (l.isEmpty && r.isEmpty) else none
  | .nd .lst l, .nd .lst r => if l.isEmpty || r.isEmpty then some (l.isEmpty && r.isEmpty) else none
  | _, _ => none
def pEq (a b : D) : Option D := match emp2 a b with
  | some k => some (.bl k)
  | none => if a.shp && b.shp then some (.bl (a.eqb b)) else none
def pNe (a b : D) : Option D := match emp2 a b with
  | some k => some (.bl (!k))
  | none => if a.shp && b.shp then some (.bl (!a.eqb b)) else none
section
variable {K : PySem.W.Frag} {ct : Ct}
def rEmp (neg : Bool) (K : PySem.W.Frag) : R2 := fun x y H Q => (∃ i j, x = .str i ∧ y = .str j ∧ Q (.bl (if neg then !decide (i = j) else decide (i = j))) H) ∨ ∃ a b xs ys, x = .ref a ∧ y = .ref b ∧ ((SqT K H a xs ∧ SqT K H b ys) ∨ (SqL K H a xs ∧ SqL K H b ys)) ∧ (xs = [] ∨ ys = []) ∧ Q (.bl (if neg then !(xs.isEmpty && ys.isEmpty) else xs.isEmpty && ys.isEmpty)) H
theorem vals_emp {xs : List V} {us : List Value} (r : Vals xs us) : us.isEmpty = xs.isEmpty := by cases r <;> rfl
theorem emp_size {xs ys : List V} {us vs : List Value} (r : Vals xs us) (q : Vals ys vs) (h : xs = [] ∨ ys = []) : (us.toArray.size == vs.toArray.size) = (xs.isEmpty && ys.isEmpty) := by
  rcases h with rfl | rfl
  · cases r; cases q <;> simp
  · cases q; cases r <;> simp
theorem op_eqEmp {X : Cx} (hu : X.A.units < cLine) : OpR X (compareOp .Eq) (rEmp false X.K) := by
  intro pins s σ H x y v u Q I rx ry h
  rcases h with ⟨i, j, rfl, rfl, q⟩ | h
  · refine op_eq pins s σ H _ _ v u Q I rx ry ⟨rfl, ?_⟩
    have e : decide (V.str i = V.str j) = decide (i = j) := by
      by_cases h : i = j
      · subst h; simp
      · rw [decide_eq_false h, decide_eq_false (fun z => h (V.str.inj z))]
    rw [e]
    exact q
  obtain ⟨a, b, xs, ys, rfl, rfl, hs, he, q⟩ := h
  cases rx
  cases ry
  rcases hs with ⟨h1, h2⟩ | ⟨h1, h2⟩
  · obtain ⟨us, r1, p1, _⟩ := I.tuple h1
    obtain ⟨vs, r2, p2, _⟩ := I.tuple h2
    have e := emp_size r1 r2 he
    have e0 : min us.toArray.size vs.toArray.size = 0 := by
      rcases he with rfl | rfl
      · cases r1; simp
      · cases r2; simp
    refine SeqAt.eq_tupleAt (e := fun _ => true) p1 p2 hu (fun j k1 k2 => absurd (Nat.lt_min.mpr ⟨k1, k2⟩) (by rw [e0]; exact Nat.not_lt_zero j)) ?_
    rw [e0]
    show EP X pins σ Q (.bool ([].all _ && us.toArray.size == vs.toArray.size)) s
    rw [e]
    exact ⟨.bl (xs.isEmpty && ys.isEmpty), H, I, rfl, q⟩
  · obtain ⟨us, r1, p1, _⟩ := I.list h1
    obtain ⟨vs, r2, p2, _⟩ := I.list h2
    have e := emp_size r1 r2 he
    cases ee : (xs.isEmpty && ys.isEmpty) with
    | true =>
      rw [ee] at e q
      have e0 : us.toArray.size = 0 := by
        obtain ⟨k1, _⟩ := Bool.and_eq_true_iff.mp ee
        have := vals_emp r1
        rw [k1] at this
        simpa using this
      refine SeqAt.eq_listAt (e := fun _ => true) p1.isList p2.isList (eq_of_beq e) hu (fun j k1 k2 => absurd k1 (by rw [e0]; exact Nat.not_lt_zero j)) ?_
      rw [e0]
      exact ⟨.bl true, H, I, rfl, q⟩
    | false =>
      rw [ee] at e q
      exact SeqAt.eq_list_lengthsAt p1.isList p2.isList (by unfold bne; rw [e]; rfl) hu ⟨.bl false, H, I, rfl, q⟩
theorem op_neEmp {X : Cx} (hu : X.A.units < cLine) : OpR X (compareOp .NotEq) (rEmp true X.K) := by
  intro pins s σ H x y v u Q I rx ry h
  rcases h with ⟨i, j, rfl, rfl, q⟩ | h
  · refine op_ne pins s σ H _ _ v u Q I rx ry ⟨rfl, ?_⟩
    have e : decide (V.str i = V.str j) = decide (i = j) := by
      by_cases h : i = j
      · subst h; simp
      · rw [decide_eq_false h, decide_eq_false (fun z => h (V.str.inj z))]
    rw [e]
    exact q
  obtain ⟨a, b, xs, ys, rfl, rfl, hs, he, q⟩ := h
  cases rx
  cases ry
  rcases hs with ⟨h1, h2⟩ | ⟨h1, h2⟩
  · obtain ⟨us, r1, p1, _⟩ := I.tuple h1
    obtain ⟨vs, r2, p2, _⟩ := I.tuple h2
    have e := emp_size r1 r2 he
    have e0 : min us.toArray.size vs.toArray.size = 0 := by
      rcases he with rfl | rfl
      · cases r1; simp
      · cases r2; simp
    refine SeqAt.RcNeAt.tuples (e := fun _ => true) p1 p2 hu (fun j k1 k2 => absurd (Nat.lt_min.mpr ⟨k1, k2⟩) (by rw [e0]; exact Nat.not_lt_zero j)) X.prog X.w X.xe _ ?_
    rw [e0]
    show EP X pins σ Q (.bool (!([].all _ && us.toArray.size == vs.toArray.size))) s
    rw [e]
    exact ⟨.bl (!(xs.isEmpty && ys.isEmpty)), H, I, rfl, q⟩
  · obtain ⟨us, r1, p1, _⟩ := I.list h1
    obtain ⟨vs, r2, p2, _⟩ := I.list h2
    have e := emp_size r1 r2 he
    cases ee : (xs.isEmpty && ys.isEmpty) with
    | true =>
      rw [ee] at e q
      have e0 : us.toArray.size = 0 := by
        obtain ⟨k1, _⟩ := Bool.and_eq_true_iff.mp ee
        have := vals_emp r1
        rw [k1] at this
        simpa using this
      refine SeqAt.RcNeAt.lists (e := fun _ => true) p1.isList p2.isList (eq_of_beq e) hu (fun j k1 k2 => absurd k1 (by rw [e0]; exact Nat.not_lt_zero j)) X.prog X.w X.xe _ ?_
      rw [e0]
      exact ⟨.bl false, H, I, rfl, q⟩
    | false =>
      rw [ee] at e q
      exact SeqAt.RcNeAt.lists_lengths p1.isList p2.isList (by unfold bne; rw [e]; rfl) hu X.prog X.w X.xe _ ⟨.bl true, H, I, rfl, q⟩
theorem RpL.emp {B : Hp} {xs : List V} {ds : List D} (r : RpL K ct B xs ds) : ds.isEmpty = xs.isEmpty := by cases r <;> rfl
theorem emp_ok {neg : Bool} {B H : Hp} {x y : V} {a b : D} {k : Bool} {Q : VK} (s : Same B H) (ra : Rp K ct B x a) (rb : Rp K ct B y b) (e : emp2 a b = some k) (q : Q (.bl (if neg then !k else k)) H) : rEmp neg K x y H Q := by
  unfold emp2 at e
  split at e
  · cases e
    exact .inl ⟨_, _, ra.strI, rb.strI, q⟩
  · split at e
    · rename_i l r h
      cases e
      obtain ⟨p, xs, rfl, hx, rx⟩ := ra.ndI
      obtain ⟨p', ys, rfl, hy, ry⟩ := rb.ndI
      rw [rx.emp, ry.emp] at q h
      refine .inr ⟨p, p', xs, ys, rfl, rfl, .inl ⟨sqT_mono s hx.t, sqT_mono s hy.t⟩, ?_, q⟩
      rcases Bool.or_eq_true_iff.mp h with h | h
      · exact .inl (List.isEmpty_iff.mp h)
      · exact .inr (List.isEmpty_iff.mp h)
    · cases e
  · split at e
    · rename_i l r h
      cases e
      obtain ⟨p, xs, rfl, hx, rx⟩ := ra.ndI
      obtain ⟨p', ys, rfl, hy, ry⟩ := rb.ndI
      rw [rx.emp, ry.emp] at q h
      refine .inr ⟨p, p', xs, ys, rfl, rfl, .inr ⟨SqL.of (s _ _ hx), SqL.of (s _ _ hy)⟩, ?_, q⟩
      rcases Bool.or_eq_true_iff.mp h with h | h
      · exact .inl (List.isEmpty_iff.mp h)
      · exact .inr (List.isEmpty_iff.mp h)
    · cases e
  · cases e
abbrev rEqA (K : PySem.W.Frag) : R2 := fun x y H Q => rEmp false K x y H Q ∨ rEqD K x y H Q
abbrev rNeA (K : PySem.W.Frag) : R2 := fun x y H Q => rEmp true K x y H Q ∨ rNeD K x y H Q
theorem op_eqA {X : Cx} (hu : X.A.units + 64 < cLine) : OpR X (compareOp .Eq) (rEqA X.K) := (op_eqEmp (by omega)).or (op_eqD hu)
theorem op_neA {X : Cx} (hu : X.A.units + 64 < cLine) : OpR X (compareOp .NotEq) (rNeA X.K) := (op_neEmp (by omega)).or (op_neD hu)
theorem ok_eq : OpOk K ct (rEqA K) pEq := by
  intro B H x y a b d Q s ra rb e o
  unfold pEq at e
  split at e
  · rename_i k ek
    cases e
    exact .inl (emp_ok s ra rb ek (o.1 _ (.bl _)))
  · split at e
    · rename_i h
      cases e
      obtain ⟨h1, h2⟩ := Bool.and_eq_true_iff.mp h
      obtain ⟨h1, h3⟩ := Bool.and_eq_true_iff.mp h1
      obtain ⟨h2, h4⟩ := Bool.and_eq_true_iff.mp h2
      exact .inr ⟨_, _, Rp.dp s _ _ ra h1, Rp.dp s _ _ rb h2, h3, h4, o.1 _ (.bl _)⟩
    · cases e
theorem ok_ne : OpOk K ct (rNeA K) pNe := by
  intro B H x y a b d Q s ra rb e o
  unfold pNe at e
  split at e
  · rename_i k ek
    cases e
    exact .inl (emp_ok s ra rb ek (o.1 _ (.bl _)))
  · split at e
    · rename_i h
      cases e
      obtain ⟨h1, h2⟩ := Bool.and_eq_true_iff.mp h
      obtain ⟨h1, h3⟩ := Bool.and_eq_true_iff.mp h1
      obtain ⟨h2, h4⟩ := Bool.and_eq_true_iff.mp h2
      exact .inr ⟨_, _, Rp.dp s _ _ ra h1, Rp.dp s _ _ rb h2, h3, h4, o.1 _ (.bl _)⟩
    · cases e
end

/-! ### membership among flat things; a sign in a text -/
def D.fv : D → Option V
  | .non => some .non
  | .bl b => some (.bl b)
  | .int i => some (.int i)
  | .str x => some (.str x)
  | .nd _ _ => none
def fvL (l : List D) : Option (List V) := l.mapM D.fv
def pInS (neg : Bool) (x y : D) : Option D :=
  match y with
  | .nd .tup l => (x.fv).bind fun v => (fvL l).bind fun vs => some (.bl (if neg then !inV v vs else inV v vs))
  | .nd .lst l => (x.fv).bind fun v => (fvL l).bind fun vs => some (.bl (if neg then !inV v vs else inV v vs))
  | .str z => match x with
    | .str s => if s.cps.size = 1 then some (.bl (if neg then !decide (s.cps.getD 0 0 ∈ z.cps.toList) else decide (s.cps.getD 0 0 ∈ z.cps.toList))) else none
    | _ => none
  | _ => none
abbrev rSign (neg : Bool) : R2 := fun x y H Q => ∃ (c : Nat) (z : Str), x = .str ⟨#[c]⟩ ∧ y = .str z ∧ Q (.bl (if neg then !decide (c ∈ z.cps.toList) else decide (c ∈ z.cps.toList))) H
abbrev rInAll (K : PySem.W.Frag) (neg : Bool) : R2 := fun x y H Q => rIn K neg x y H Q ∨ rSign neg x y H Q
section
variable {K : PySem.W.Frag} {ct : Ct} {B H : Hp}
theorem Rp.fv {v w : V} {d : D} (h : Rp K ct B v d) (e : d.fv = some w) : v = w ∧ flatV w = true := by
  cases h with
  | non => cases e; exact ⟨rfl, rfl⟩
  | bl b => cases e; exact ⟨rfl, rfl⟩
  | int i => cases e; exact ⟨rfl, rfl⟩
  | str x => cases e; exact ⟨rfl, rfl⟩
  | nd _ _ => cases e
theorem RpL.fv : ∀ {vs ws : List V} {ds : List D}, RpL K ct B vs ds → fvL ds = some ws → vs = ws ∧ ws.all flatV = true
  | _, ws, _, .nil, e => by
    have : ws = [] := by simpa [fvL] using e.symm
    subst this; exact ⟨rfl, rfl⟩
  | v :: vs, ws, d :: ds, .cons h r, e => by
    unfold fvL at e
    rw [List.mapM_cons] at e
    cases e1 : d.fv with
    | none => rw [e1] at e; cases e
    | some w =>
      cases e2 : ds.mapM D.fv with
      | none => rw [e1, e2] at e; cases e
      | some us =>
        rw [e1, e2] at e
        have e3 : w :: us = ws := Option.some.inj e
        obtain ⟨rfl, f⟩ := h.fv e1
        obtain ⟨rfl, g⟩ := r.fv e2
        subst e3
        exact ⟨rfl, by simp [f, g]⟩
theorem ok_in {neg : Bool} : OpOk K ct (rInAll K neg) (pInS neg) := by
  intro B H x y a b d Q s ra rb e o
  unfold pInS at e
  split at e
  · rename_i l
    obtain ⟨v, e1, e⟩ := Option.bind_eq_some_iff.mp e
    obtain ⟨vs, e2, e⟩ := Option.bind_eq_some_iff.mp e
    cases e
    obtain ⟨p, xs, rfl, hx, rx⟩ := rb.ndI
    obtain ⟨rfl, f⟩ := ra.fv e1
    obtain ⟨rfl, g⟩ := rx.fv e2
    exact .inl ⟨p, xs, rfl, .inr (sqT_mono s hx.t), f, g, o.1 _ (.bl _)⟩
  · rename_i l
    obtain ⟨v, e1, e⟩ := Option.bind_eq_some_iff.mp e
    obtain ⟨vs, e2, e⟩ := Option.bind_eq_some_iff.mp e
    cases e
    obtain ⟨p, xs, rfl, hx, rx⟩ := rb.ndI
    obtain ⟨rfl, f⟩ := ra.fv e1
    obtain ⟨rfl, g⟩ := rx.fv e2
    exact .inl ⟨p, xs, rfl, .inl (SqL.of (s _ _ hx)), f, g, o.1 _ (.bl _)⟩
  · rename_i z
    split at e
    · rename_i t
      split at e
      · rename_i h1
        cases e
        obtain ⟨cs⟩ := t
        obtain ⟨l⟩ := cs
        match l, h1 with
        | [c], _ => exact .inr ⟨c, z, ra.strI, rb.strI, o.1 _ (.bl _)⟩
      · cases e
    · cases e
  · cases e
end

/-! ### kinds -/
inductive Tn where
  | non | bool | int | str | tuple | list | dict
def Tn.s : Tn → String
  | .non => "NoneType" | .bool => "bool" | .int => "int" | .str => "str" | .tuple => "tuple" | .list => "list" | .dict => "dict"
def Tn.sub : Tn → Tn → Bool
  | .non, .non => true | .bool, .bool => true | .bool, .int => true | .int, .int => true | .str, .str => true
  | .tuple, .tuple => true | .list, .list => true | .dict, .dict => true
  | _, _ => false
theorem kit_sub (a b : Tn) : kitB a.s b.s = some (a.sub b) := by
  cases a <;> cases b <;> decide +kernel
def D.tn : D → Option Tn
  | .non => some .non | .bl _ => some .bool | .int _ => some .int | .str _ => some .str
  | .nd .tup _ => some .tuple | .nd .lst _ => some .list | .nd (.dct _) _ => some .dict
  | .nd _ _ => none
def pIsi (T : Tn) (d : D) : Option D := d.tn.map fun a => .bl (a.sub T)
def mIsi (T : Tn) (m : M D) : M D := m.bnd fun d => .opt (pIsi T d)
section
variable {K : PySem.W.Frag} {ct : Ct} {B H : Hp}
theorem Rp.tyX (s : Same B H) {v : V} {d : D} {a : Tn} (h : Rp K ct B v d) (e : d.tn = some a) : TyX K H v (.type a.s) := by
  cases h with
  | non => cases e; exact .base .non
  | bl b => cases e; exact .base (.bl b)
  | int i => cases e; exact .base (.int i)
  | str x => cases e; exact .base (.str x)
  | @nd p k xs ds h r =>
    cases k with
    | tup =>
      cases e
      rcases h.t with (h | ⟨o, h⟩) | ⟨o, its, n, h, hc, _⟩
      · exact .base (.tup (s _ _ h))
      · exact .fTuple (s _ _ h)
      · exact .kTuple h hc
    | lst => cases e; exact .base (.lst (s _ _ h))
    | dct ks =>
      cases e
      rcases h with ⟨_, h | ⟨o, h⟩⟩
      · exact .base (.dK (s _ _ h))
      · exact .fDict (s _ _ h)
    | scr => cases e
    | pr => cases e
    | dtt ks => cases e
    | ob c fs => cases e
    | exn c fs => cases e
end

/-! ### built-ins -/
def pLen : List D → Option D
  | [.str x] => if x.length ≤ sizeLine then some (.int x.length) else none
  | [.nd .tup l] => some (.int l.length)
  | [.nd .lst l] => some (.int l.length)
  | [.nd .scr l] => some (.int l.length)
  | _ => none
def pTuple : List D → Option D
  | [.nd .lst l] => some (.tup l)
  | [.nd .tup l] => some (.tup l)
  | _ => none
def pList : List D → Option D
  | [.nd .lst l] => some (.lst l)
  | [.nd .tup l] => some (.lst l)
  | _ => none
def bools : List D → Option (List Bool)
  | [] => some []
  | .bl b :: l => (bools l).map (b :: ·)
  | _ :: _ => none
def intsD : List D → Option (List Int)
  | [] => some []
  | .int b :: l => (intsD l).map (b :: ·)
  | _ :: _ => none
def pAll : List D → Option D
  | [.nd .lst l] => (bools l).map fun bs => .bl (bs.all id)
  | _ => none
def pAny : List D → Option D
  | [.nd .lst l] => (bools l).map fun bs => .bl (bs.any id)
  | _ => none
def pSum : List D → Option D
  | [.nd .lst l] => (intsD l).map fun ns => .int ns.sum
  | _ => none
def pMax2 : List D → Option D
  | [.int i, .int j] => some (.int (if j > i then j else i))
  | _ => none
def pMin2 : List D → Option D
  | [.int i, .int j] => some (.int (if j < i then j else i))
  | _ => none
def pInt : List D → Option D
  | [.int i] => some (.int i)
  | _ => none
def pStrI : List D → Option D
  | [.int i] => if i.natAbs.log2 < 1920 then some (.str (toString i)) else none
  | _ => none
section
variable {K : PySem.W.Frag} {ct : Ct}
theorem RpL.one {B : Hp} {xs : List V} {d : D} (h : RpL K ct B xs [d]) : ∃ v, xs = [v] ∧ Rp K ct B v d := by
  cases h with
  | cons h r => cases r; exact ⟨_, rfl, h⟩
theorem RpL.two {B : Hp} {xs : List V} {d e : D} (h : RpL K ct B xs [d, e]) : ∃ v w, xs = [v, w] ∧ Rp K ct B v d ∧ Rp K ct B w e := by
  cases h with
  | cons h r => obtain ⟨w, rfl, h2⟩ := r.one; exact ⟨_, _, rfl, h, h2⟩
theorem RpL.bools {B : Hp} : ∀ {xs : List V} {ds : List D} {bs : List Bool}, RpL K ct B xs ds → bools ds = some bs → xs = bs.map V.bl
  | _, _, _, .nil, e => by cases e; rfl
  | _, _, bs, @RpL.cons _ _ _ v vs d ds h r, e => by
    cases d with
    | bl b =>
      cases h
      obtain ⟨cs, e1, e2⟩ := Option.map_eq_some_iff.mp (show (Wu.bools ds).map (b :: ·) = some bs from e)
      subst e2
      rw [r.bools e1]; rfl
    | non => cases e
    | int i => cases e
    | str x => cases e
    | nd k l => cases e
theorem RpL.intsD {B : Hp} : ∀ {xs : List V} {ds : List D} {bs : List Int}, RpL K ct B xs ds → intsD ds = some bs → xs = bs.map V.int
  | _, _, _, .nil, e => by cases e; rfl
  | _, _, bs, @RpL.cons _ _ _ v vs d ds h r, e => by
    cases d with
    | int b =>
      cases h
      obtain ⟨cs, e1, e2⟩ := Option.map_eq_some_iff.mp (show (Wu.intsD ds).map (b :: ·) = some bs from e)
      subst e2
      rw [r.intsD e1]; rfl
    | non => cases e
    | bl i => cases e
    | str x => cases e
    | nd k l => cases e
abbrev rLen (K : PySem.W.Frag) : List V → Hp → VK → Prop := fun xs H Q => ∃ x n, xs = [x] ∧ LenV K x H n ∧ Q (.int n) H
theorem ok_len : CallOk K ct (rLen K) pLen := by
  intro B H xs ds d Q s r e o
  unfold pLen at e
  split at e
  · obtain ⟨v, rfl, h⟩ := r.one
    split at e
    · cases e; exact ⟨_, _, rfl, by rw [h.strI]; exact ⟨by assumption, rfl⟩, o.1 _ (.int _)⟩
    · cases e
  · obtain ⟨v, rfl, h⟩ := r.one
    cases e
    obtain ⟨p, ys, rfl, hy, ry⟩ := h.ndI
    exact ⟨_, _, rfl, .inr ⟨ys, sqT_mono s hy.t, ry.len.symm⟩, o.1 _ (.int _)⟩
  · obtain ⟨v, rfl, h⟩ := r.one
    cases e
    obtain ⟨p, ys, rfl, hy, ry⟩ := h.ndI
    exact ⟨_, _, rfl, .inl ⟨ys, SqL.of (s _ _ hy), ry.len.symm⟩, o.1 _ (.int _)⟩
  · obtain ⟨v, rfl, h⟩ := r.one
    cases e
    obtain ⟨p, ys, rfl, hy, ry⟩ := h.ndI
    exact ⟨_, _, rfl, .inl ⟨ys, s.seq hy, ry.len.symm⟩, o.1 _ (.int _)⟩
  · cases e
abbrev rTupOf (K : PySem.W.Frag) : List V → Hp → VK → Prop := fun xs H Q => ∃ p ys, xs = [.ref p] ∧ ((SqL K H p ys ∧ Lay H ys Q) ∨ (SqT K H p ys ∧ Q (.ref p) H))
theorem ok_tuple : CallOk K ct (rTupOf K) pTuple := by
  intro B H xs ds d Q s r e o
  unfold pTuple at e
  split at e
  · obtain ⟨v, rfl, h⟩ := r.one
    cases e
    obtain ⟨p, ys, rfl, hy, ry⟩ := h.ndI
    exact ⟨p, ys, rfl, .inl ⟨SqL.of (s _ _ hy), lay_of o s ry⟩⟩
  · obtain ⟨v, rfl, h⟩ := r.one
    cases e
    have h' := h
    obtain ⟨p, ys, rfl, hy, ry⟩ := h.ndI
    exact ⟨p, ys, rfl, .inr ⟨sqT_mono s hy.t, o.1 _ h'⟩⟩
  · cases e
abbrev rLstOf (K : PySem.W.Frag) : List V → Hp → VK → Prop := fun xs H Q => ∃ p ys, xs = [.ref p] ∧ (SqL K H p ys ∨ SqT K H p ys) ∧ ∀ l, H l = none → Q (.ref l) (upd H l (.lst ys))
theorem ok_list : CallOk K ct (rLstOf K) pList := by
  intro B H xs ds d Q s r e o
  unfold pList at e
  split at e
  · obtain ⟨v, rfl, h⟩ := r.one
    cases e
    obtain ⟨p, ys, rfl, hy, ry⟩ := h.ndI
    exact ⟨p, ys, rfl, .inl (SqL.of (s _ _ hy)), fun l hl => o.2 l _ hl (new_lst (same_new s hl) ry)⟩
  · obtain ⟨v, rfl, h⟩ := r.one
    cases e
    obtain ⟨p, ys, rfl, hy, ry⟩ := h.ndI
    exact ⟨p, ys, rfl, .inr (sqT_mono s hy.t), fun l hl => o.2 l _ hl (new_lst (same_new s hl) ry)⟩
  · cases e
theorem ok_all : CallOk K ct (rAll K) pAll := by
  intro B H xs ds d Q s r e o
  unfold pAll at e
  split at e
  · obtain ⟨v, rfl, h⟩ := r.one
    obtain ⟨bs, e1, e2⟩ := Option.map_eq_some_iff.mp e
    subst e2
    obtain ⟨p, ys, rfl, hy, ry⟩ := h.ndI
    exact ⟨p, bs, rfl, by rw [← ry.bools e1]; exact SqL.of (s _ _ hy), o.1 _ (.bl _)⟩
  · cases e
theorem ok_any : CallOk K ct (rAny K) pAny := by
  intro B H xs ds d Q s r e o
  unfold pAny at e
  split at e
  · obtain ⟨v, rfl, h⟩ := r.one
    obtain ⟨bs, e1, e2⟩ := Option.map_eq_some_iff.mp e
    subst e2
    obtain ⟨p, ys, rfl, hy, ry⟩ := h.ndI
    exact ⟨p, bs, rfl, by rw [← ry.bools e1]; exact SqL.of (s _ _ hy), o.1 _ (.bl _)⟩
  · cases e
theorem ok_sum : CallOk K ct (rSum K) pSum := by
  intro B H xs ds d Q s r e o
  unfold pSum at e
  split at e
  · obtain ⟨v, rfl, h⟩ := r.one
    obtain ⟨bs, e1, e2⟩ := Option.map_eq_some_iff.mp e
    subst e2
    obtain ⟨p, ys, rfl, hy, ry⟩ := h.ndI
    exact ⟨p, bs, rfl, by rw [← ry.intsD e1]; exact SqL.of (s _ _ hy), o.1 _ (.int _)⟩
  · cases e
theorem ok_max2 : CallOk K ct (fun xs H Q => ∃ i j, xs = [.int i, .int j] ∧ Q (.int (if j > i then j else i)) H) pMax2 := by
  intro B H xs ds d Q s r e o
  unfold pMax2 at e
  split at e
  · obtain ⟨v, w, rfl, h, h2⟩ := r.two
    cases e
    exact ⟨_, _, by rw [h.intI, h2.intI], o.1 _ (.int _)⟩
  · cases e
theorem ok_min2 : CallOk K ct (fun xs H Q => ∃ i j, xs = [.int i, .int j] ∧ Q (.int (if j < i then j else i)) H) pMin2 := by
  intro B H xs ds d Q s r e o
  unfold pMin2 at e
  split at e
  · obtain ⟨v, w, rfl, h, h2⟩ := r.two
    cases e
    exact ⟨_, _, by rw [h.intI, h2.intI], o.1 _ (.int _)⟩
  · cases e
theorem ok_pint : CallOk K ct (fun xs H Q => (∃ i, xs = [.int i] ∧ Q (.int i) H) ∨ ∃ k, xs = [.bl k] ∧ Q (.int (if k then 1 else 0)) H) pInt := by
  intro B H xs ds d Q s r e o
  unfold pInt at e
  split at e
  · obtain ⟨v, rfl, h⟩ := r.one
    cases e
    exact .inl ⟨_, by rw [h.intI], o.1 _ (.int _)⟩
  · cases e
theorem ok_strI : CallOk K ct (fun xs H Q => ∃ i, xs = [.int i] ∧ i.natAbs.log2 < 1920 ∧ Q (.str (toString i)) H) pStrI := by
  intro B H xs ds d Q s r e o
  unfold pStrI at e
  split at e
  · obtain ⟨v, rfl, h⟩ := r.one
    split at e
    · cases e; exact ⟨_, by rw [h.intI], by assumption, o.1 _ (.str _)⟩
    · cases e
  · cases e
end

/-! ### the rules -/
section
variable {X : Cx} {ct : Ct} {W : WX} {a b c : Expr} {es : List Expr} {p pos : Pos} {ma mb mc : M D} {ms : M (List D)}
theorem d_eq (hu : X.A.units + 64 < cLine) (ha : Ed X ct W a ma) (hb : Ed X ct W b mb) (hm : behindInMarks .Eq b = false := by first | exact nobehind _ (by decide) (by decide) | rfl) : Ed X ct W (.Compare a [.Eq] [b] pos) (mOp pEq ma mb) := d_cmp (op_eqA hu) ok_eq ha hb hm
theorem d_ne (hu : X.A.units + 64 < cLine) (ha : Ed X ct W a ma) (hb : Ed X ct W b mb) (hm : behindInMarks .NotEq b = false := by first | exact nobehind _ (by decide) (by decide) | rfl) : Ed X ct W (.Compare a [.NotEq] [b] pos) (mOp pNe ma mb) := d_cmp (op_neA hu) ok_ne ha hb hm
theorem op_inAll : OpR X (compareOp .In) (rInAll X.K false) := op_in_seq.or op_in_sign
theorem op_notInAll : OpR X (compareOp .NotIn) (rInAll X.K true) := op_notIn_seq.or op_notIn_sign
theorem d_in (ha : Ed X ct W a ma) (hb : Ed X ct W b mb) (hm : behindInMarks .In b = false := by rfl) : Ed X ct W (.Compare a [.In] [b] pos) (mOp (pInS false) ma mb) := d_cmp op_inAll ok_in ha hb hm
theorem d_notin (ha : Ed X ct W a ma) (hb : Ed X ct W b mb) (hm : behindInMarks .NotIn b = false := by rfl) : Ed X ct W (.Compare a [.NotIn] [b] pos) (mOp (pInS true) ma mb) := d_cmp op_notInAll ok_in ha hb hm
def D.isNon : D → Bool
  | .non => true
  | _ => false
def mIsN (m : M D) : M D := m.bnd fun d => .ret (.bl d.isNon)
def mNotN (m : M D) : M D := m.bnd fun d => .ret (.bl (!d.isNon))
theorem Rp.isN {K : PySem.W.Frag} {B : Hp} {v : V} {d : D} (h : Rp K ct B v d) : decide (v = .non) = d.isNon := by
  cases h <;> rfl
theorem d_isN {j pos'} (ha : Ed X ct W a ma) : Ed X ct W (.Compare a [.Is] [.Constant .none j pos'] pos) (mIsN ma) := by
  refine PE.imp (pe_cmp (pc_isN ha)) fun σ H Q h => ?_
  obtain ⟨F, B, E, fps, rl, h⟩ := h
  refine ⟨F, B, E, fps, rl, (Pst.bind h).imp ?_⟩
  rintro v H1 ⟨d, E1, B1, fps1, rl1, s1, r1, h1⟩
  rw [r1.isN]
  exact h1 _ B1 H1 _ rl1 (Same.refl B1) (.bl _)
theorem d_notN {j pos'} (ha : Ed X ct W a ma) : Ed X ct W (.Compare a [.IsNot] [.Constant .none j pos'] pos) (mNotN ma) := by
  refine PE.imp (pe_cmp (pc_notN ha)) fun σ H Q h => ?_
  obtain ⟨F, B, E, fps, rl, h⟩ := h
  refine ⟨F, B, E, fps, rl, (Pst.bind h).imp ?_⟩
  rintro v H1 ⟨d, E1, B1, fps1, rl1, s1, r1, h1⟩
  rw [r1.isN]
  exact h1 _ B1 H1 _ rl1 (Same.refl B1) (.bl _)
theorem d_isi {x : Str} {p2 : Pos} (T : Tn) (hg : Gl X "isinstance") (hm : X.mg "isinstance" = none) (hgT : Gl X x) (hmT : X.mg x = none) (hvT : bootBuiltins x = some (.type T.s)) (ha : Ed X ct W a ma)
    (hv : bootBuiltins "isinstance" = some (.builtin "isinstance") := by decide +kernel) (hn : x ≠ "__name__" := by decide) (hdb : (x == ("__debug__" : Str)) = false := by decide)
    (h1 : starEach [Expr.Name x p2] X.env = (false, eval (Expr.Name x p2) X.env) :: starEach [] X.env := by rfl) (he : starEach [a, Expr.Name x p2] X.env = (false, eval a X.env) :: starEach [Expr.Name x p2] X.env := by rfl)
    (hpl : (backTo pos (starEach [Expr.Name x p2] X.env)).any (·.1) = false := by rfl) : Ed X ct W (.Call (.Name "isinstance" p) [a, .Name x p2] [] pos) (mIsi T ma) := by
  refine PE.imp (pe_callB call_isi hg hm hv (pa_cons ha (pa_cons (pe_bltn (v := .ty T.s) hgT hmT hvT rfl hn hdb) pa_nil h1) he) (by decide) (by decide) he hpl) fun σ H Q h => ?_
  obtain ⟨F, B, E, fps, rl, h⟩ := h
  refine ⟨F, B, E, fps, rl, (Pst.bind h).imp ?_⟩
  rintro v H1 ⟨d, E1, B1, fps1, rl1, s1, r1, h1⟩
  obtain ⟨z, e, h2⟩ := opt_of h1
  unfold pIsi at e
  obtain ⟨t, e1, e2⟩ := Option.map_eq_some_iff.mp e
  subst e2
  exact ⟨v, .ty T.s, _, _, t.sub T, rfl, .ty _, r1.tyX rl1.bs e1, kit_ty (kit_sub t T), (out_of rl1 h2).1 _ (.bl _)⟩
theorem d_len {p pos : Pos} (hg : Gl X "len") (hm : X.mg "len" = none) (ha : Ad X ct W (a :: es) ms) (he : starEach (a :: es) X.env = (false, eval a X.env) :: starEach es X.env := by rfl)
    (hpl : (backTo pos (starEach es X.env)).any (·.1) = false := by rfl) : Ed X ct W (.Call (.Name "len" p) (a :: es) [] pos) (mFn pLen ms) := d_callB call_len ok_len hg hm PySem.boot_len ha (by decide) (by decide) he hpl
theorem call_tupL : CallR X (.type "tuple") (rTupOf X.K) := by
  intro pins s σ H xs us Q I r h
  obtain ⟨p, ys, rfl, h⟩ := h
  obtain ⟨u, rfl, rx⟩ := vals1 r
  cases rx
  rcases h with ⟨hq, q⟩ | ⟨hq, q⟩
  · obtain ⟨its, r', pl, hz⟩ := I.list hq
    have hlen := r'.length
    refine call_tuple_list pl.isList (fun h' kp => ?_) (by simp only [List.size_toArray] <;> omega)
    exact laid_tup (s := { s with heap := h' }) (I.kept (t' := s.toks) kp) q hz r'
  · obtain ⟨its, r', pl, hz⟩ := I.tuple hq
    exact call_tuple_same pl ⟨.ref p, H, I, rfl, q⟩
theorem d_tuple {p pos : Pos} (hg : Gl X "tuple") (hm : X.mg "tuple" = none) (ha : Ad X ct W (a :: es) ms) (he : starEach (a :: es) X.env = (false, eval a X.env) :: starEach es X.env := by rfl)
    (hpl : (backTo pos (starEach es X.env)).any (·.1) = false := by rfl) : Ed X ct W (.Call (.Name "tuple" p) (a :: es) [] pos) (mFn pTuple ms) := d_callTy call_tupL ok_tuple hg hm (by decide +kernel) ha (by decide) (by decide) he hpl
theorem d_list {p pos : Pos} (hg : Gl X "list") (hm : X.mg "list" = none) (ha : Ad X ct W (a :: es) ms) (he : starEach (a :: es) X.env = (false, eval a X.env) :: starEach es X.env := by rfl)
    (hpl : (backTo pos (starEach es X.env)).any (·.1) = false := by rfl) : Ed X ct W (.Call (.Name "list" p) (a :: es) [] pos) (mFn pList ms) := d_callTy call_list_of ok_list hg hm (by decide +kernel) ha (by decide) (by decide) he hpl
theorem d_all {p pos : Pos} (hc : X.calm = true) (hg : Gl X "all") (hm : X.mg "all" = none) (ha : Ad X ct W (a :: es) ms) (he : starEach (a :: es) X.env = (false, eval a X.env) :: starEach es X.env := by rfl)
    (hpl : (backTo pos (starEach es X.env)).any (·.1) = false := by rfl) : Ed X ct W (.Call (.Name "all" p) (a :: es) [] pos) (mFn pAll ms) := d_callB (cr_all hc) ok_all hg hm (by decide +kernel) ha (by decide) (by decide) he hpl
theorem d_any {p pos : Pos} (hc : X.calm = true) (hg : Gl X "any") (hm : X.mg "any" = none) (ha : Ad X ct W (a :: es) ms) (he : starEach (a :: es) X.env = (false, eval a X.env) :: starEach es X.env := by rfl)
    (hpl : (backTo pos (starEach es X.env)).any (·.1) = false := by rfl) : Ed X ct W (.Call (.Name "any" p) (a :: es) [] pos) (mFn pAny ms) := d_callB (cr_any hc) ok_any hg hm (by decide +kernel) ha (by decide) (by decide) he hpl
theorem d_sum {p pos : Pos} (hc : X.calm = true) (hg : Gl X "sum") (hm : X.mg "sum" = none) (ha : Ad X ct W (a :: es) ms) (he : starEach (a :: es) X.env = (false, eval a X.env) :: starEach es X.env := by rfl)
    (hpl : (backTo pos (starEach es X.env)).any (·.1) = false := by rfl) : Ed X ct W (.Call (.Name "sum" p) (a :: es) [] pos) (mFn pSum ms) := d_callB (cr_sum hc) ok_sum hg hm (by decide +kernel) ha (by decide) (by decide) he hpl
theorem d_max2 {p pos : Pos} (hc : X.calm = true) (hg : Gl X "max") (hm : X.mg "max" = none) (ha : Ad X ct W (a :: es) ms) (he : starEach (a :: es) X.env = (false, eval a X.env) :: starEach es X.env := by rfl)
    (hpl : (backTo pos (starEach es X.env)).any (·.1) = false := by rfl) : Ed X ct W (.Call (.Name "max" p) (a :: es) [] pos) (mFn pMax2 ms) := d_callB (call_max2 hc) ok_max2 hg hm (by decide +kernel) ha (by decide) (by decide) he hpl
theorem d_min2 {p pos : Pos} (hc : X.calm = true) (hg : Gl X "min") (hm : X.mg "min" = none) (ha : Ad X ct W (a :: es) ms) (he : starEach (a :: es) X.env = (false, eval a X.env) :: starEach es X.env := by rfl)
    (hpl : (backTo pos (starEach es X.env)).any (·.1) = false := by rfl) : Ed X ct W (.Call (.Name "min" p) (a :: es) [] pos) (mFn pMin2 ms) := d_callB (call_min2 hc) ok_min2 hg hm (by decide +kernel) ha (by decide) (by decide) he hpl
theorem d_pint {p pos : Pos} (hg : Gl X "int") (hm : X.mg "int" = none) (ha : Ad X ct W (a :: es) ms) (he : starEach (a :: es) X.env = (false, eval a X.env) :: starEach es X.env := by rfl)
    (hpl : (backTo pos (starEach es X.env)).any (·.1) = false := by rfl) : Ed X ct W (.Call (.Name "int" p) (a :: es) [] pos) (mFn pInt ms) := d_callTy call_int1 ok_pint hg hm (by decide +kernel) ha (by decide) (by decide) he hpl
theorem d_strI {p pos : Pos} (hg : Gl X "str") (hm : X.mg "str" = none) (ha : Ad X ct W (a :: es) ms) (he : starEach (a :: es) X.env = (false, eval a X.env) :: starEach es X.env := by rfl)
    (hpl : (backTo pos (starEach es X.env)).any (·.1) = false := by rfl) : Ed X ct W (.Call (.Name "str" p) (a :: es) [] pos) (mFn pStrI ms) := d_callTy call_str_int ok_strI hg hm (by decide +kernel) ha (by decide) (by decide) he hpl
end
end Wu

/-! Defs: what they mean, bodies, calls. -/
namespace Wu
open PySem PySem.Spec PyProof.Rows L2

inductive Rz where
  | ok (d : D) (as : List Ag)
  | ex (x : Exn) (as : List Ag)
  | bad
abbrev Sm := List Ag → Rz
def toSl (i : Nat) : Ag → Sl
  | .v d => .val d
  | .o c => .own (some i) c
def slots (as : List Ag) : Env' := as.mapIdx toSl
theorem slots_get (as : List Ag) (i : Nat) : (slots as)[i]? = (as[i]?).map (toSl i) := by unfold slots; rw [List.getElem?_mapIdx]
theorem slots_len (as : List Ag) : (slots as).length = as.length := by unfold slots; rw [List.length_mapIdx]
noncomputable def off (H : Hp) (p : Addr → Prop) : Hp := fun a => by classical exact if p a then none else H a
theorem off_in {H : Hp} {p : Addr → Prop} {a : Addr} (h : p a) : off H p a = none := by unfold off; rw [if_pos h]
theorem off_out {H : Hp} {p : Addr → Prop} {a : Addr} (h : ¬ p a) : off H p a = H a := by unfold off; rw [if_neg h]
theorem off_same (H : Hp) (p : Addr → Prop) : Same (off H p) H := fun a o e => by
  by_cases h : p a
  · rw [off_in h] at e; cases e
  · rw [off_out h] at e; exact e
/-- around a def's body: all but what it owns stands still -/
noncomputable def Fm.at (ct : Ct) (H B : Hp) (ar : List Addr) (fps : Nat → List Addr) : Fm := ⟨off H fun a => (∃ i, a ∈ fps i) ∨ ((∃ ps, H a = some (.tbl ps)) ∧ ¬ ct.tb a), B, fun a => ∃ o, H a = some o, ar⟩

section
variable (K : PySem.W.Frag) (ct : Ct)
def spD (n : Nat) (sem : Sm) : Sp := fun vs H Q E => ∃ B as ar fps, vs.length = n ∧ Rl K ct (Fm.at ct H B ar fps) B H (vs.map some) (slots as) fps ∧
  match sem as with
  | .ok d as' => ∀ v B' H' fps', Rl K ct (Fm.at ct H B ar fps) B' H' (vs.map some) (slots as') fps' → Rp K ct B' v d → Q v H'
  | .ex x as' => ∀ c dx B' H' fps', Rl K ct (Fm.at ct H B ar fps) B' H' (vs.map some) (slots as') fps' → XR K ct B' c dx x → E c dx H'
  | .bad => False
end

/-! ### a body's meaning as a def's -/
def b1 (E : Env') (i : Nat) : Ag → Option Ag
  | .v d => some (.v d)
  | .o _ => match E[i]? with
    | some (.own (some j) c) => if j = i then some (.o c) else none
    | _ => none
def backN (E : Env') : Nat → List Ag → Option (List Ag)
  | _, [] => some []
  | i, a :: as => (b1 E i a).bind fun b => (backN E (i + 1) as).map (b :: ·)
theorem backN_get {E : Env'} : ∀ {as bs : List Ag} {i : Nat}, backN E i as = some bs → bs.length = as.length ∧ ∀ j b, bs[j]? = some b → ∃ a, as[j]? = some a ∧ b1 E (i + j) a = some b
  | [], bs, i, e => by cases e; exact ⟨rfl, fun j b h => by simp at h⟩
  | a :: as, bs, i, e => by
    obtain ⟨b, e1, e2⟩ := Option.bind_eq_some_iff.mp (show (b1 E i a).bind _ = some bs from e)
    obtain ⟨cs, e3, e4⟩ := Option.map_eq_some_iff.mp e2
    subst e4
    obtain ⟨h1, h2⟩ := backN_get e3
    refine ⟨by simp [h1], fun j c h => ?_⟩
    cases j with
    | zero => simp at h; subst h; exact ⟨a, rfl, e1⟩
    | succ j =>
      obtain ⟨a', q1, q2⟩ := h2 j c (by simpa using h)
      exact ⟨a', by simpa using q1, by rw [show i + (j + 1) = i + 1 + j by omega]; exact q2⟩
def finZ (as : List Ag) (E : Env') (d : D) : Rz := match backN E 0 as with
  | some bs => .ok d bs
  | none => .bad
def finX (as : List Ag) (E : Env') (x : Exn) : Rz := match backN E 0 as with
  | some bs => .ex x bs
  | none => .bad
def env0 (n : Nat) (as : List Ag) : Env' := slots as ++ List.replicate (n - as.length) .und
def endZ (as : List Ag) : R Fl → Rz
  | .ok (.rt d) E => finZ as E d
  | .ok .nx E => finZ as E .non
  | .ok .bk _ => .bad
  | .ok .ct _ => .bad
  | .ex x E => finX as E x
  | .bad => .bad
def semOf (n : Nat) (bm : SM) : Sm := fun as => endZ as (bm (env0 n as))

section
variable {K : PySem.W.Frag} {ct : Ct} {F : Fm} {B B' H H' : Hp}
/-- behind the body: the arguments again -/
theorem Rl.back {vs : List V} {as bs : List Ag} {fps fps' : Nat → List Addr} {σ' : L2.St} {E' : Env'} (r0 : Rl K ct F B H (vs.map some) (slots as) fps) (r : Rl K ct F B' H' σ' E' fps') (s : Same B B')
    (har : ∀ (i : Nat) (c : Ow) (a : Addr), as[i]? = some (.o c) → F.ar[i]? = some a → vs[i]? = some (.ref a)) (e : backN E' 0 as = some bs) :
    ∃ fps'', Rl K ct F B' H' (vs.map some) (slots bs) fps'' := by
  obtain ⟨hl, hb⟩ := backN_get e
  refine ⟨fun i => match bs[i]? with | some (.o _) => fps' i | _ => [], r.gs, r.bs, r.b0, r.nb, r.dm, ?_, fun i sl h => ?_, fun i h => ?_, fun i j a hi hj => ?_, fun i a hi => ?_⟩
  · rw [slots_len, hl, ← slots_len]; exact r0.ln
  · rw [slots_get] at h
    obtain ⟨b, h1, h2⟩ := Option.map_eq_some_iff.mp h
    obtain ⟨a, h3, h4⟩ := hb i b h1
    rw [Nat.zero_add] at h4
    have h5 : (slots as)[i]? = some (toSl i a) := by rw [slots_get, h3]; rfl
    obtain ⟨o, h6, h7⟩ := r0.en i _ h5
    refine ⟨o, h6, ?_⟩
    cases a with
    | v d =>
      cases h4
      subst h2
      rw [h1]
      obtain ⟨_, v, e1, e2⟩ := h7
      exact ⟨rfl, v, e1, e2.mono s⟩
    | o c =>
      simp only [b1] at h4
      split at h4
      · rename_i j c' h8
        split at h4
        · rename_i hj
          cases h4
          subst hj
          subst h2
          rw [h1]
          obtain ⟨o', g1, a', g2, g3, g4⟩ := r.en j _ h8
          have g5 : vs[j]? = some (.ref a') := har j c a' h3 g3
          have g6 : o = some (.ref a') := by
            rw [List.getElem?_map, g5] at h6
            exact (Option.some.inj h6).symm
          exact ⟨a', g6, g3, g4⟩
        · cases h4
      · cases h4
  · have : bs[i]? = none := by
      rw [slots_get] at h
      simpa using h
    rw [this]
  · have hi' : a ∈ fps' i := by
      revert hi
      cases bs[i]? with
      | none => intro z; cases z
      | some b => cases b with
        | v d => intro z; cases z
        | o c => intro z; exact z
    have hj' : a ∈ fps' j := by
      revert hj
      cases bs[j]? with
      | none => intro z; cases z
      | some b => cases b with
        | v d => intro z; cases z
        | o c => intro z; exact z
    exact r.dj i j a hi' hj'
  · have hi' : a ∈ fps' i := by
      revert hi
      cases bs[i]? with
      | none => intro z; cases z
      | some b => cases b with
        | v d => intro z; cases z
        | o c => intro z; exact z
    exact r.fr i a hi'
/-- the slots at the body's start -/
theorem Rl.start {N : List Str} {vs : List V} {as : List Ag} {fps : Nat → List Addr} (r : Rl K ct F B H (vs.map some) (slots as) fps) (hN : vs.length ≤ N.length) :
    ∃ fps', Rl K ct F B H (L2.start N vs) (env0 N.length as) fps' := by
  have hl : vs.length = as.length := by have := r.ln; rw [slots_len, List.length_map] at this; exact this
  refine ⟨fps, r.gs, r.bs, r.b0, r.nb, r.dm, ?_, fun i s e => ?_, fun i e => ?_, r.dj, r.fr⟩
  · unfold L2.start env0; simp [slots_len, hl]
  · unfold env0 at e
    by_cases hi : i < as.length
    · rw [List.getElem?_append_left (by rw [slots_len]; exact hi)] at e
      obtain ⟨o, h1, h2⟩ := r.en i s e
      exact ⟨o, by unfold L2.start; rw [List.getElem?_append_left (by rw [List.length_map, hl]; exact hi)]; exact h1, h2⟩
    · rw [List.getElem?_append_right (by rw [slots_len]; omega), List.getElem?_replicate] at e
      split at e
      · rename_i h2
        cases e
        refine ⟨none, ?_, ?_⟩
        · unfold L2.start
          rw [List.getElem?_append_right (by rw [List.length_map]; omega), List.getElem?_replicate, if_pos]
          rw [List.length_map]; rw [slots_len] at h2; omega
        · exact r.e0 i (by rw [slots_get, List.getElem?_eq_none (by omega)]; rfl)
      · cases e
  · unfold env0 at e
    refine r.e0 i ?_
    rw [List.getElem?_eq_none_iff] at e ⊢
    simp at e
    omega
end

section
variable {P : Program} {w : World} {K : PySem.W.Frag} {mg : Str → Option Value} {base : Heap} {ct : Ct}
/-- a def by its body's meaning -/
theorem fn_sem {k n : Nat} {x qual : Str} {st : Stmt} {f : Addr} {fd : FuncData} {N ps : List Str} {bm : SM} (F : Fun K x qual st f fd) (S : FnScope N ps (defScope st)) (hn : N.length = n) (hp : ps.length ≤ n)
    (hbody : ∀ (cdv : Value) (A : Around) (outer : List Env) (s : Shared) (H : Hp) (E : XK), fd.code = cdv → (A.deeper (envOfC qual (defScope st) s.heap.objs.size f cdv)).guards = some [] →
      Room k (A.deeper (envOfC qual (defScope st) s.heap.objs.size f cdv)) → Takes (cxOf (L2.CX P w) P w K mg base N qual (defScope st) f cdv A outer s H E) (fun c d _ H => E c d H) →
      PSs (cxOf (L2.CX P w) P w K mg base N qual (defScope st) f cdv A outer s H E) (defBody st) (tMS K ct (fun c d _ H => E c d H) bm)) :
    FnG P w K mg base (k + 1) f fd ps (spD K ct ps.length (semOf n bm)) := by
  refine fn_body F S (fun vs H Q E h => ?_) (fun cdv A outer s H vs Q E hcv hG hr h => ⟨_, hbody cdv A outer s H E hcv hG hr (takes_of rfl rfl rfl rfl), ?_⟩)
  · obtain ⟨_, _, _, _, e, _⟩ := h; exact e
  · obtain ⟨B, as, ar, fps, hl, r, h⟩ := h
    obtain ⟨fps1, r1⟩ := r.start (N := N) (by rw [hl, hn]; exact hp)
    have har : ∀ (i : Nat) (c : Ow) (a : Addr), as[i]? = some (.o c) → (Fm.at ct H B ar fps).ar[i]? = some a → vs[i]? = some (.ref a) := fun i c a h1 h2 => by
      obtain ⟨o, h3, a', h4, h5, _⟩ := r.en i (.own (some i) c) (by rw [slots_get, h1]; rfl)
      have h6 : (Fm.at ct H B ar fps).ar[i]? = some a' := h5
      rw [h2] at h6; cases h6
      rw [List.getElem?_map] at h3
      cases e : vs[i]? with
      | none => rw [e] at h3; cases h3
      | some v =>
        rw [e] at h3
        have h7 : some v = o := Option.some.inj h3
        rw [h4] at h7; exact h7
    refine ⟨_, B, _, fps1, r1, ?_⟩
    rw [hn]
    unfold semOf at h
    have key : ∀ {E'} {d : D}, (match finZ as E' d with
        | .ok d as' => ∀ v B' H' fps', Rl K ct (Fm.at ct H B ar fps) B' H' (vs.map some) (slots as') fps' → Rp K ct B' v d → Q v H'
        | .ex x as' => ∀ c dx B' H' fps', Rl K ct (Fm.at ct H B ar fps) B' H' (vs.map some) (slots as') fps' → XR K ct B' c dx x → E c dx H'
        | .bad => False) → ∀ v σ' B' H' fps', Rl K ct (Fm.at ct H B ar fps) B' H' σ' E' fps' → Same B B' → Rp K ct B' v d → Q v H' := by
      intro E' d h v σ' B' H' fps' r' s rp
      unfold finZ at h
      cases e : backN E' 0 as with
      | none => rw [e] at h; exact h.elim
      | some bs =>
        rw [e] at h
        obtain ⟨fps2, r2⟩ := Rl.back r r' s har e
        exact h v B' H' fps2 r2 rp
    cases hb : bm (env0 n as) with
    | ok fl E' =>
      rw [hb] at h
      cases fl with
      | nx => exact fun σ' B' H' fps' r' s => key h .non σ' B' H' fps' r' s .non
      | rt d => exact key h
      | bk => exact h.elim
      | ct => exact h.elim
    | ex x E' =>
      rw [hb] at h
      intro c dx σ' B' H' fps' r' s xr
      have h' : (match finX as E' x with
        | .ok d as' => ∀ v B' H' fps', Rl K ct (Fm.at ct H B ar fps) B' H' (vs.map some) (slots as') fps' → Rp K ct B' v d → Q v H'
        | .ex x as' => ∀ c dx B' H' fps', Rl K ct (Fm.at ct H B ar fps) B' H' (vs.map some) (slots as') fps' → XR K ct B' c dx x → E c dx H'
        | .bad => False) := h
      unfold finX at h'
      cases e : backN E' 0 as with
      | none => rw [e] at h'; exact h'.elim
      | some bs =>
        rw [e] at h'
        obtain ⟨fps2, r2⟩ := Rl.back r r' s har e
        exact h' c dx B' H' fps2 r2 xr
    | bad => rw [hb] at h; exact h.elim
end
end Wu

/-! Calls of defs: arguments that are data, arguments that are owned names. -/
namespace Wu
open PySem PySem.Spec PyProof.Rows L2

abbrev AR := D ⊕ Nat
def mrNil : M (List AR) := .ret []
def mrE (m : M D) (ms : M (List AR)) : M (List AR) := m.bnd fun d => ms.bnd fun l => .ret (.inl d :: l)
def mrR (i : Nat) (ms : M (List AR)) : M (List AR) := fun E => match E[i]? with
  | some (.own _ _) => (ms.bnd fun l => .ret (.inr i :: l)) E
  | _ => .bad
inductive ArV (K : PySem.W.Frag) (ct : Ct) (σ : L2.St) (B : Hp) : List V → List AR → Prop
  | nil : ArV K ct σ B [] []
  | e {v : V} {d : D} {vs : List V} {l : List AR} : Rp K ct B v d → ArV K ct σ B vs l → ArV K ct σ B (v :: vs) (.inl d :: l)
  | r {v : V} {i : Nat} {vs : List V} {l : List AR} : σ[i]? = some (some v) → ArV K ct σ B vs l → ArV K ct σ B (v :: vs) (.inr i :: l)
theorem ArV.len {K : PySem.W.Frag} {ct : Ct} {σ : L2.St} {B : Hp} : ∀ {vs : List V} {l : List AR}, ArV K ct σ B vs l → vs.length = l.length
  | _, _, .nil => rfl
  | _, _, .e _ t => congrArg (· + 1) t.len
  | _, _, .r _ t => congrArg (· + 1) t.len
theorem ArV.get {K : PySem.W.Frag} {ct : Ct} {σ : L2.St} {B : Hp} : ∀ {vs : List V} {l : List AR} {p : Nat} {x : AR}, ArV K ct σ B vs l → l[p]? = some x → ∃ v, vs[p]? = some v ∧ match x with | .inl d => Rp K ct B v d | .inr i => σ[i]? = some (some v)
  | _, _, _, _, .nil, h => by simp at h
  | _, _, 0, _, .e q _, h => by simp at h; subst h; exact ⟨_, rfl, q⟩
  | _, _, 0, _, .r q _, h => by simp at h; subst h; exact ⟨_, rfl, q⟩
  | _, _, p + 1, x, .e _ t, h => by
    obtain ⟨v, h1, h2⟩ := ArV.get (p := p) (x := x) t (by simpa using h)
    exact ⟨v, by simpa using h1, h2⟩
  | _, _, p + 1, x, .r _ t, h => by
    obtain ⟨v, h1, h2⟩ := ArV.get (p := p) (x := x) t (by simpa using h)
    exact ⟨v, by simpa using h1, h2⟩
def isRef (i : Nat) : AR → Bool
  | .inl _ => false
  | .inr j => i == j
def rOk : List AR → Bool
  | [] => true
  | .inl _ :: l => rOk l
  | .inr i :: l => !(l.any (isRef i)) && rOk l
def gather (E : Env') : List AR → Option (List Ag)
  | [] => some []
  | .inl d :: l => (gather E l).map (.v d :: ·)
  | .inr i :: l => match E[i]? with
    | some (.own _ c) => (gather E l).map (.o c :: ·)
    | _ => none
def lookR : List AR → List Ag → Nat → Option Ow
  | .inr i :: l, .o c :: as, j => if i = j then some c else lookR l as j
  | _ :: l, _ :: as, j => lookR l as j
  | _, _, _ => none
def scat1 (l : List AR) (as : List Ag) (j : Nat) : Sl → Sl
  | .own ix c => match lookR l as j with
    | some c' => .own ix c'
    | none => .own ix c
  | s => s
def scatter (E : Env') (l : List AR) (as : List Ag) : Env' := E.mapIdx (scat1 l as)
/-- owned arguments come back owned -/
def shapes : List AR → List Ag → Bool
  | [], [] => true
  | .inl _ :: l, _ :: as => shapes l as
  | .inr _ :: l, .o _ :: as => shapes l as
  | _, _ => false
def mCall (n : Nat) (sem : Sm) (ms : M (List AR)) : M D := ms.bnd fun l E =>
  if rOk l && l.length == n then
    match gather E l with
    | none => .bad
    | some as => match sem as with
      | .ok d as' => if shapes l as' then .ok d (scatter E l as') else .bad
      | .ex x as' => if shapes l as' then .ex x (scatter E l as') else .bad
      | .bad => .bad
  else .bad
def posR : List AR → Nat → Option Nat
  | [], _ => none
  | .inl _ :: l, j => (posR l j).map (· + 1)
  | .inr i :: l, j => if i = j then some 0 else (posR l j).map (· + 1)
theorem posR_get : ∀ {l : List AR} {j p : Nat}, posR l j = some p → l[p]? = some (.inr j)
  | [], _, _, h => by cases h
  | .inl d :: l, j, p, h => by
    obtain ⟨q, h1, h2⟩ := Option.map_eq_some_iff.mp (show (posR l j).map (· + 1) = some p from h)
    subst h2
    simpa using posR_get h1
  | .inr i :: l, j, p, h => by
    unfold posR at h
    split at h
    · rename_i e; cases h; subst e; rfl
    · obtain ⟨q, h1, h2⟩ := Option.map_eq_some_iff.mp h
      subst h2
      simpa using posR_get h1
theorem posR_none : ∀ {l : List AR} {j : Nat}, posR l j = none → ∀ p : Nat, l[p]? ≠ some (Sum.inr j)
  | [], _, _, p => by simp
  | .inl d :: l, j, h, p => by
    have h1 : posR l j = none := by simpa [posR] using h
    cases p with
    | zero => simp
    | succ p => simpa using posR_none h1 p
  | .inr i :: l, j, h, p => by
    unfold posR at h
    split at h
    · cases h
    · rename_i hi
      have h1 : posR l j = none := by simpa using h
      cases p with
      | zero => simpa using hi
      | succ p => simpa using posR_none h1 p
theorem rOk_inj : ∀ {l : List AR} {i p q : Nat}, rOk l = true → l[p]? = some (.inr i) → l[q]? = some (.inr i) → p = q
  | [], _, _, _, _, h, _ => by simp at h
  | .inl d :: l, i, p, q, h, h1, h2 => by
    cases p with
    | zero => simp at h1
    | succ p => cases q with
      | zero => simp at h2
      | succ q => exact congrArg (· + 1) (rOk_inj (l := l) (i := i) h (by simpa using h1) (by simpa using h2))
  | .inr k :: l, i, p, q, h, h1, h2 => by
    obtain ⟨h3, h4⟩ := Bool.and_eq_true_iff.mp (show (!(l.any (isRef k)) && rOk l) = true from h)
    have no : ∀ q : Nat, l[q]? ≠ some (Sum.inr k) := fun q e => by
      have : l.any (isRef k) = true := List.any_eq_true.mpr ⟨_, List.mem_of_getElem? e, by simp [isRef]⟩
      rw [this] at h3; cases h3
    cases p with
    | zero => cases q with
      | zero => rfl
      | succ q =>
        have e : k = i := by simpa using h1
        subst e
        exact absurd (by simpa using h2) (no q)
    | succ p => cases q with
      | zero =>
        have e : k = i := by simpa using h2
        subst e
        exact absurd (by simpa using h1) (no p)
      | succ q => exact congrArg (· + 1) (rOk_inj (l := l) (i := i) h4 (by simpa using h1) (by simpa using h2))
theorem gather_get {E : Env'} : ∀ {l : List AR} {as : List Ag}, gather E l = some as → as.length = l.length ∧ ∀ (p : Nat) (x : AR), l[p]? = some x → match x with | .inl d => as[p]? = some (.v d) | .inr i => ∃ ix c, E[i]? = some (.own ix c) ∧ as[p]? = some (.o c)
  | [], as, h => by cases h; exact ⟨rfl, fun p x h => by simp at h⟩
  | .inl d :: l, as, h => by
    obtain ⟨bs, h1, h2⟩ := Option.map_eq_some_iff.mp (show (gather E l).map _ = some as from h)
    subst h2
    obtain ⟨h3, h4⟩ := gather_get h1
    refine ⟨by simp [h3], fun p x e => ?_⟩
    cases p with
    | zero => simp at e; subst e; rfl
    | succ p => have := h4 p x (by simpa using e); cases x <;> simpa using this
  | .inr i :: l, as, h => by
    unfold gather at h
    split at h
    · rename_i ix c e1
      obtain ⟨bs, h1, h2⟩ := Option.map_eq_some_iff.mp h
      subst h2
      obtain ⟨h3, h4⟩ := gather_get h1
      refine ⟨by simp [h3], fun p x e => ?_⟩
      cases p with
      | zero => simp at e; subst e; exact ⟨ix, c, e1, rfl⟩
      | succ p => have := h4 p x (by simpa using e); cases x <;> simpa using this
    · cases h
theorem lookR_get : ∀ {l : List AR} {as : List Ag} {j p : Nat}, shapes l as = true → posR l j = some p → ∃ c, as[p]? = some (.o c) ∧ lookR l as j = some c
  | [], _, _, _, _, h => by cases h
  | .inl d :: l, [], _, _, h, _ => by cases h
  | .inl d :: l, a :: as, j, p, h, h1 => by
    obtain ⟨q, h2, h3⟩ := Option.map_eq_some_iff.mp (show (posR l j).map (· + 1) = some p from h1)
    subst h3
    obtain ⟨c, h4, h5⟩ := lookR_get (l := l) (as := as) (j := j) h h2
    exact ⟨c, by simpa using h4, by simpa [lookR] using h5⟩
  | .inr i :: l, [], _, _, h, _ => by cases h
  | .inr i :: l, .v d :: as, _, _, h, _ => by cases h
  | .inr i :: l, .o c :: as, j, p, h, h1 => by
    unfold posR at h1
    split at h1
    · rename_i e; cases h1; exact ⟨c, rfl, by simp [lookR, e]⟩
    · rename_i e
      obtain ⟨q, h2, h3⟩ := Option.map_eq_some_iff.mp h1
      subst h3
      obtain ⟨c', h4, h5⟩ := lookR_get (l := l) (as := as) (j := j) h h2
      exact ⟨c', by simpa using h4, by simpa [lookR, e] using h5⟩
theorem lookR_none : ∀ {l : List AR} {as : List Ag} {j : Nat}, posR l j = none → lookR l as j = none
  | [], as, _, _ => by simp [lookR]
  | .inl d :: l, [], _, _ => by simp [lookR]
  | .inl d :: l, a :: as, j, h => by
    have h1 : posR l j = none := by simpa [posR] using h
    simpa [lookR] using lookR_none (as := as) h1
  | .inr i :: l, [], _, _ => by simp [lookR]
  | .inr i :: l, .v d :: as, j, h => by
    unfold posR at h
    split at h
    · cases h
    · simpa [lookR] using lookR_none (as := as) (by simpa using h)
  | .inr i :: l, .o c :: as, j, h => by
    unfold posR at h
    split at h
    · cases h
    · rename_i e; simpa [lookR, e] using lookR_none (as := as) (by simpa using h)

section
variable {K : PySem.W.Frag} {ct : Ct} {F : Fm} {B B' H H' : Hp} {σ : L2.St} {E : Env'} {fps : Nat → List Addr} {vs : List V} {l : List AR} {as as' : List Ag}
abbrev adr : V → Addr
  | .ref a => a
  | _ => 0
abbrev fpA (l : List AR) (fps : Nat → List Addr) : Nat → List Addr := fun p => match l[p]? with
  | some (.inr i) => fps i
  | _ => []
theorem fpA_in {p : Nat} {a : Addr} (h : a ∈ fpA l fps p) : ∃ i, l[p]? = some (.inr i) ∧ a ∈ fps i := by
  unfold fpA at h
  split at h
  · rename_i i e; exact ⟨i, e, h⟩
  · cases h
theorem Fm.at_G {H B : Hp} {ar : List Addr} {fps : Nat → List Addr} : (Fm.at ct H B ar fps).G = off H (fun a => (∃ i, a ∈ fps i) ∨ ((∃ ps, H a = some (.tbl ps)) ∧ ¬ ct.tb a)) := rfl
theorem Fm.at_in {H B : Hp} {ar : List Addr} {fps : Nat → List Addr} {a : Addr} {o : HO} (h : H a = some o) (n : ¬ ∃ i, a ∈ fps i) (k : ∀ ps, o ≠ .tbl ps) : (Fm.at ct H B ar fps).G a = some o := by
  rw [Fm.at_G, off_out, h]
  rintro (z | ⟨⟨ps, z⟩, _⟩)
  · exact n z
  · rw [h] at z; exact k ps (Option.some.inj z)
/-- the frame of a call holds the tables of the frame around -/
theorem Fm.at_gs {F : Fm} {H B : Hp} {ar : List Addr} {fps : Nat → List Addr} (g : SameT ct F B H) (hB : ∀ a, ct.tb a → B a = none) (n : ∀ i a, a ∈ fps i → F.G a = none) : SameT ct (Fm.at ct H B ar fps) B H := by
  refine ⟨fun a o e => ?_, fun a h => ?_, fun a h => ⟨?_, hB a h⟩, g.bp⟩
  · have h1 : H a = some o := off_same H _ a o (show off H (fun a => (∃ i, a ∈ fps i) ∨ ((∃ ps, H a = some (.tbl ps)) ∧ ¬ ct.tb a)) a = some o from e)
    by_cases k : ∀ ps, o ≠ .tbl ps
    · exact .inl ⟨h1, k⟩
    · obtain ⟨ps, rfl⟩ : ∃ ps, o = .tbl ps := Classical.byContradiction fun z => k fun ps q => z ⟨ps, q⟩
      have ht : ct.tb a := Classical.byContradiction fun z => by
        rw [Fm.at_G, off_in (.inr ⟨⟨ps, h1⟩, z⟩)] at e; cases e
      obtain ⟨p0, e0⟩ := g.tf a ht
      rcases g.go a _ e0 with ⟨_, z⟩ | ⟨q0, q1, _, _, e3, e4, e5⟩
      · exact absurd rfl (z p0)
      · exact .inr ⟨ps, q1, rfl, ht, e3, e4, e5⟩
  · obtain ⟨p0, e0⟩ := g.tf a h
    rcases g.go a _ e0 with ⟨_, z⟩ | ⟨q0, q1, _, _, e3, _⟩
    · exact absurd rfl (z p0)
    · refine ⟨q1, ?_⟩
      rw [Fm.at_G, off_out, e3]
      rintro (⟨i, z⟩ | ⟨_, z⟩)
      · rw [n i a z] at e0; cases e0
      · exact z h
  · obtain ⟨p0, e0⟩ := g.tf a h
    exact (g.go a _ e0).sm
theorem SameT.over {F F' : Fm} {B B' H H' : Hp} (g : SameT ct F B H) (q : SameT ct F' B' H') (k : ∀ a o, F.G a = some o → H a = some o → (∀ ps, o ≠ .tbl ps) → F'.G a = some o) : SameT ct F B' H' := by
  refine ⟨fun a o e => ?_, g.tf, g.td, q.bp⟩
  rcases g.go a o e with ⟨h1, h2⟩ | ⟨p0, p1, rfl, h2, h3, h4, h5⟩
  · exact .inl ⟨q.eq (k a o e h1 h2) h2, h2⟩
  · obtain ⟨p2, e2⟩ := q.tf a h2
    rcases q.go a _ e2 with ⟨_, z⟩ | ⟨q0, q1, _, _, e3, e4, e5⟩
    · exact absurd rfl (z p2)
    · exact .inr ⟨p0, q1, rfl, h2, e3, e4, e5⟩
/-- and behind the call those of the frame around are good -/
theorem Fm.at_go {F : Fm} {H B B' H' : Hp} {ar : List Addr} {fps : Nat → List Addr} (g : SameT ct F B H) (n : ∀ i a, a ∈ fps i → F.G a = none) (q : SameT ct (Fm.at ct H B ar fps) B' H') : SameT ct F B' H' := by
  refine ⟨fun a o e => ?_, g.tf, g.td, q.bp⟩
  rcases g.go a o e with ⟨h1, h2⟩ | ⟨p0, p1, rfl, h2, h3, h4, h5⟩
  · exact .inl ⟨q.eq (Fm.at_in h1 (fun ⟨i, z⟩ => by rw [n i a z] at e; cases e) h2) h2, h2⟩
  · obtain ⟨p2, e2⟩ := q.tf a h2
    rcases q.go a _ e2 with ⟨_, z⟩ | ⟨q0, q1, _, _, e3, e4, e5⟩
    · exact absurd rfl (z p2)
    · exact .inr ⟨p0, q1, rfl, h2, e3, e4, e5⟩
theorem Rl.enter (r : Rl K ct F B H σ E fps) (av : ArV K ct σ B vs l) (hr : rOk l = true) (hg : gather E l = some as) :
    Rl K ct (Fm.at ct H B (vs.map adr) (fpA l fps)) B H (vs.map some) (slots as) (fpA l fps) := by
  obtain ⟨g1, g2⟩ := gather_get hg
  refine ⟨Fm.at_gs r.gs (fun _ h => r.tB h) fun p a hp => (by obtain ⟨i, _, h2⟩ := fpA_in hp; exact (r.fr i a h2).2), r.bs, Same.refl _, fun a _ => rfl, fun a h => h, ?_, fun p s e => ?_, fun p e => ?_, fun p q a hp hq => ?_, fun p a hp => ?_⟩
  · rw [List.length_map, slots_len, g1, av.len]
  · rw [slots_get] at e
    obtain ⟨b, e1, e2⟩ := Option.map_eq_some_iff.mp e
    have hp : p < l.length := by rw [← g1]; exact (List.getElem?_eq_some_iff.mp e1).1
    have ex : l[p]? = some l[p] := List.getElem?_eq_getElem hp
    obtain ⟨v, h1, h2⟩ := av.get ex
    have h3 := g2 p _ ex
    refine ⟨some v, by rw [List.getElem?_map, h1]; rfl, ?_⟩
    cases hx : l[p] with
    | inl d =>
      rw [hx] at h2 h3
      have h3' : as[p]? = some (.v d) := h3
      rw [e1] at h3'; cases h3'
      subst e2
      refine ⟨?_, v, rfl, h2⟩
      show (match l[p]? with | some (.inr i) => fps i | _ => []) = []
      rw [ex, hx]
    | inr i =>
      rw [hx] at h2 h3
      obtain ⟨ix, c, h4, h5⟩ := h3
      rw [e1] at h5; cases h5
      subst e2
      obtain ⟨o, h6, a, h7, h8, h9⟩ := r.en i _ h4
      have h2' : σ[i]? = some (some v) := h2
      rw [h2'] at h6
      have h10 : some v = o := Option.some.inj h6
      rw [h7] at h10
      have hv : v = .ref a := Option.some.inj h10
      refine ⟨a, by rw [hv], ?_, ?_⟩
      · show (vs.map adr)[p]? = some a
        rw [List.getElem?_map, h1, hv]; rfl
      · have : fpA l fps p = fps i := by
          show (match l[p]? with | some (.inr i) => fps i | _ => []) = fps i
          rw [ex, hx]
        rw [this]; exact h9
  · have : l[p]? = none := by
      rw [slots_get] at e
      have e1 : as[p]? = none := by simpa using e
      rw [List.getElem?_eq_none_iff] at e1 ⊢
      omega
    show (match l[p]? with | some (.inr i) => fps i | _ => []) = []
    rw [this]
  · obtain ⟨i, h1, h2⟩ := fpA_in hp
    obtain ⟨j, h3, h4⟩ := fpA_in hq
    have e := r.dj i j a h2 h4
    subst e
    exact rOk_inj hr h1 h3
  · obtain ⟨i, h1, h2⟩ := fpA_in hp
    exact ⟨(r.fr i a h2).1, by rw [Fm.at_G]; exact off_in (.inl ⟨p, hp⟩)⟩
/-- behind the call -/
theorem Rl.leave {fps' : Nat → List Addr} (r : Rl K ct F B H σ E fps) (av : ArV K ct σ B vs l) (hr : rOk l = true) (hg : gather E l = some as) (hs : shapes l as' = true)
    (q : Rl K ct (Fm.at ct H B (vs.map adr) (fpA l fps)) B' H' (vs.map some) (slots as') fps') : ∃ fps2, Rl K ct F B' H' σ (scatter E l as') fps2 := by
  obtain ⟨g1, g2⟩ := gather_get hg
  have sb : Same B B' := q.b0
  -- what a name that isn't passed stands upon is kept
  have kept : ∀ {j b}, posR l j = none → b ∈ fps j → H' b = H b := fun {j b} hj hb => by
    obtain ⟨u, hu⟩ := r.mem hb
    have no : ¬ ∃ p, b ∈ fpA l fps p := fun ⟨p, hp⟩ => by
      obtain ⟨i, h1, h2⟩ := fpA_in hp
      have := r.dj i j b h2 hb
      subst this
      exact posR_none hj p h1
    rw [hu]
    have nt : ∀ ps, u ≠ .tbl ps := fun ps z => r.nt hb ps (by rw [hu, z])
    exact q.gs.eq (Fm.at_in hu no nt) nt
  have frame : ∀ {a}, (∃ p, a ∈ fps' p) → ∀ u, H a = some u → (∀ ps, H a ≠ some (.tbl ps)) → ∃ p, a ∈ fpA l fps p := fun {a} ⟨p, hp⟩ u hu nt => by
    have h1 := (q.fr p a hp).2
    refine Classical.byContradiction fun no => ?_
    rw [Fm.at_in hu no (fun ps z => nt ps (by rw [hu, z]))] at h1
    cases h1
  have nfp : ∀ p a, a ∈ fpA l fps p → F.G a = none := fun p a hp => by
    obtain ⟨i, _, h2⟩ := fpA_in hp
    exact (r.fr i a h2).2
  refine ⟨fun j => match posR l j with | some p => fps' p | none => fps j, Fm.at_go r.gs nfp q.gs, q.bs, r.b0.trans sb, fun a h => ?_, fun a h => ?_, ?_, fun j s e => ?_, fun j e => ?_, fun i j a hi hj => ?_, fun j a hj => ?_⟩
  · exact (q.nb a (r.dm a h)).trans (r.nb a h)
  · exact q.dm a (r.dm a h)
  · unfold scatter; rw [List.length_mapIdx]; exact r.ln
  · unfold scatter at e
    rw [List.getElem?_mapIdx] at e
    obtain ⟨s1, e1, e2⟩ := Option.map_eq_some_iff.mp e
    obtain ⟨o, h1, h2⟩ := r.en j s1 e1
    refine ⟨o, h1, ?_⟩
    cases hp : posR l j with
    | none =>
      have : scat1 l as' j s1 = s1 := by
        cases s1 with
        | und => rfl
        | fn => rfl
        | val d => rfl
        | own ix c => simp only [scat1, lookR_none hp]
      rw [this] at e2
      subst e2
      exact h2.mono sb fun b hb => kept hp hb
    | some p =>
      have hl := posR_get hp
      obtain ⟨ix, c, h3, _⟩ := g2 p _ hl
      rw [e1] at h3; cases h3
      obtain ⟨c', h5, h6⟩ := lookR_get hs hp
      have : scat1 l as' j (.own ix c) = .own ix c' := by simp only [scat1, h6]
      rw [this] at e2
      subst e2
      obtain ⟨a, h7, h8, _⟩ := h2
      obtain ⟨o', k1, a', k2, k3, k4⟩ := q.en p (.own (some p) c') (by rw [slots_get, h5]; rfl)
      obtain ⟨v, m1, m2⟩ := av.get hl
      have m2' : σ[j]? = some (some v) := m2
      rw [h1] at m2'
      have m3 : o = some v := Option.some.inj m2'
      rw [List.getElem?_map, m1] at k1
      have m4 : some v = o' := Option.some.inj k1
      rw [← m4] at k2
      have m5 : v = .ref a' := Option.some.inj k2
      rw [m3, m5] at h7
      have m6 : a' = a := by injection (Option.some.inj h7)
      subst m6
      exact ⟨a', by rw [m3, m5], h8, k4⟩
  · unfold scatter at e
    rw [List.getElem?_mapIdx] at e
    have e1 : E[j]? = none := by simpa using e
    cases hp : posR l j with
    | none => exact r.e0 j e1
    | some p =>
      obtain ⟨ix, c, h3, _⟩ := g2 p _ (posR_get hp)
      rw [e1] at h3; cases h3
  · cases hp : posR l i with
    | none =>
      rw [hp] at hi
      cases hq : posR l j with
      | none => rw [hq] at hj; exact r.dj i j a hi hj
      | some p =>
        rw [hq] at hj
        obtain ⟨u, hu⟩ := r.mem hi
        obtain ⟨p', h1⟩ := frame ⟨p, hj⟩ u hu (r.nt hi)
        obtain ⟨k, h2, h3⟩ := fpA_in h1
        have := r.dj k i a h3 hi
        subst this
        exact absurd h2 (posR_none hp p')
    | some p =>
      rw [hp] at hi
      cases hq : posR l j with
      | none =>
        rw [hq] at hj
        obtain ⟨u, hu⟩ := r.mem hj
        obtain ⟨p', h1⟩ := frame ⟨p, hi⟩ u hu (r.nt hj)
        obtain ⟨k, h2, h3⟩ := fpA_in h1
        have := r.dj k j a h3 hj
        subst this
        exact absurd h2 (posR_none hq p')
      | some p2 =>
        rw [hq] at hj
        have e := q.dj p p2 a hi hj
        subst e
        have e1 := posR_get hp
        rw [posR_get hq] at e1
        injection (Option.some.inj e1) with e2
        exact e2.symm
  · cases hp : posR l j with
    | none =>
      rw [hp] at hj
      refine ⟨?_, (r.fr j a hj).2⟩
      rw [q.nb a (r.mem hj)]
      exact (r.fr j a hj).1
    | some p =>
      rw [hp] at hj
      refine ⟨(q.fr p a hj).1, ?_⟩
      cases hG : F.G a with
      | none => rfl
      | some u =>
        have no : ¬ ∃ p, a ∈ fpA l fps p := fun ⟨p, z⟩ => by rw [nfp p a z] at hG; cases hG
        have h1 := (q.fr p a hj).2
        rcases r.gs.go a u hG with ⟨z1, z2⟩ | ⟨p0, p1, _, z2, z3, _⟩
        · rw [Fm.at_in z1 no z2] at h1; cases h1
        · rw [Fm.at_G, off_out, z3] at h1
          · cases h1
          · rintro (z | ⟨_, z⟩)
            · exact no z
            · exact z z2
end

section
variable {X : Cx} {ct : Ct} {W : WX}
/-- an argument list with owned names in it -/
abbrev Cd (X : Cx) (ct : Ct) (W : WX) (es : List Expr) (m : M (List AR)) : Prop := PA X es (fun σ H Q => tG X.K ct (ArV X.K ct σ) W m σ H Q)
theorem ArV.mono {K : PySem.W.Frag} {σ : L2.St} {B B' : Hp} (s : Same B B') : ∀ {vs : List V} {l : List AR}, ArV K ct σ B vs l → ArV K ct σ B' vs l
  | _, _, .nil => .nil
  | _, _, .e h t => .e (h.mono s) (ArV.mono s t)
  | _, _, .r h t => .r h (ArV.mono s t)
theorem r_nil : Cd X ct W [] mrNil := by
  refine PA.imp pa_nil fun σ H Q h => ?_
  obtain ⟨F, B, E, fps, rl, h⟩ := h
  exact h [] B H _ rl (Same.refl B) .nil
theorem r_e {e : Expr} {es : List Expr} {m : M D} {ms : M (List AR)} (ha : Ed X ct W e m) (hr : Cd X ct W es ms)
    (hs : starEach (e :: es) X.env = (false, eval e X.env) :: starEach es X.env := by rfl) : Cd X ct W (e :: es) (mrE m ms) := by
  refine PA.imp (pa_cons ha hr hs) fun σ H Q h => ?_
  obtain ⟨F, B, E, fps, rl, h⟩ := h
  refine ⟨F, B, E, fps, rl, (Pst.bind h).imp ?_⟩
  rintro v H1 ⟨d, E1, B1, fps1, rl1, s1, r1, h1⟩
  refine ⟨F, B1, E1, fps1, rl1, (Pst.bind h1).imp ?_⟩
  rintro vs H2 ⟨ds, E2, B2, fps2, rl2, s2, r2, h2⟩
  exact h2 _ B2 H2 _ rl2 (Same.refl B2) (.e (r1.mono s2) r2)
theorem r_r (i : Nat) {x : Str} {es : List Expr} {pos : Pos} {ms : M (List AR)} (hr : Cd X ct W es ms) (hN : X.N[i]? = some x := by rfl)
    (hv : Vis X.env.scope x := by first | exact Or.inl rfl | exact Or.inr (Or.inl rfl) | exact Or.inr (Or.inr rfl))
    (hd : (x == ("__debug__" : Str)) = false := by decide) (hcd : (x == ("__classdict__" : Str)) = false := by decide)
    (hs : starEach (Expr.Name x pos :: es) X.env = (false, eval (Expr.Name x pos) X.env) :: starEach es X.env := by rfl) : Cd X ct W (.Name x pos :: es) (mrR i ms) := by
  refine PA.imp (pa_cons (pe_var hN hv hd hcd) hr hs) fun σ H Q h => ?_
  obtain ⟨F, B, E, fps, rl, h⟩ := h
  unfold mrR at h
  split at h
  · rename_i ix c e
    obtain ⟨o, h1, a, h2, _⟩ := rl.en i _ e
    refine ⟨.ref a, by rw [h1, h2], F, B, E, fps, rl, (Pst.bind h).imp ?_⟩
    rintro vs H2 ⟨ds, E2, B2, fps2, rl2, s2, r2, h2'⟩
    exact h2' _ B2 H2 _ rl2 (Same.refl B2) (.r (by rw [h1, h2]) r2)
  · exact h.elim
theorem call_imp {n : Nat} {sem : Sm} {ms : M (List AR)} : ∀ σ H Q, tM X.K ct W (mCall n sem ms) σ H Q → tFn (spD X.K ct n sem) [] W (fun σ H Q => tG X.K ct (ArV X.K ct σ) W ms σ H Q) σ H Q := by
  intro σ H Q h
  obtain ⟨F, B, E, fps, rl, h⟩ := h
  refine ⟨F, B, E, fps, rl, (Pst.bind h).imp ?_⟩
  rintro vs H1 ⟨l, E1, B1, fps1, rl1, s1, av, h1⟩
  rw [List.append_nil]
  split at h1
  · rename_i hc
    obtain ⟨hr, hn⟩ := Bool.and_eq_true_iff.mp hc
    have hn' : l.length = n := by simpa using hn
    cases hg : gather E1 l with
    | none => rw [hg] at h1; exact h1.elim
    | some as =>
      rw [hg] at h1
      refine ⟨B1, as, vs.map adr, fpA l fps1, by rw [av.len]; exact hn', rl1.enter av hr hg, ?_⟩
      dsimp only at h1
      cases hz : sem as with
      | ok d as' =>
        rw [hz] at h1
        dsimp only at h1
        split at h1
        · rename_i hsh
          intro v B' H' fps' q rp
          obtain ⟨fps2, r2⟩ := rl1.leave av hr hg hsh q
          exact h1 v B' H' fps2 r2 q.b0 rp
        · exact h1.elim
      | ex x as' =>
        rw [hz] at h1
        dsimp only at h1
        split at h1
        · rename_i hsh
          intro c dx B' H' fps' q xr
          obtain ⟨fps2, r2⟩ := rl1.leave av hr hg hsh q
          exact h1 c dx B' H' fps2 r2 q.b0 xr
        · exact h1.elim
      | bad => rw [hz] at h1; exact h1.elim
  · exact h1.elim
/-- f(e, ..) -/
theorem d_fn {k n : Nat} {f : Addr} {fd : FuncData} {ps : List Str} {sem : Sm} {x : Str} {p pos : Pos} {e : Expr} {es : List Expr} {ms : M (List AR)} (Fn : FnG X.prog X.w X.K X.mg X.base k f fd ps (spD X.K ct n sem)) (hG : X.A.guards = some []) (hr : Room k X.A)
    (hg : Gl X x) (hm : X.mg x = some (.ref f)) (hk : PySem.W.keepIn X.K (.ref f) = true) (hb : Binds X.K fd ps []) (tk : Takes X W) (ha : Cd X ct W (e :: es) ms) (hdb : (x == ("__debug__" : Str)) = false := by decide)
    (he : starEach (e :: es) X.env = (false, eval e X.env) :: starEach es X.env := by rfl) (hpl : (backTo pos (starEach es X.env)).any (·.1) = false := by rfl) :
    Ed X ct W (.Call (.Name x p) (e :: es) [] pos) (mCall n sem ms) := PE.imp (pe_fn Fn hG hr hg hm hk hb .nil tk ha hdb he hpl) call_imp
end
end Wu

/-! Statements. -/
namespace Wu
open PySem PySem.Spec PyProof.Rows L2

section
variable (K : PySem.W.Frag) (ct : Ct)
def PstS (W : WX) (F : Fm) (B : Hp) (r : R Fl) (N : Ends) : Prop :=
  match r with
  | .ok .nx E' => ∀ σ' B' H' fps', Rl K ct F B' H' σ' E' fps' → Same B B' → N.nx σ' H'
  | .ok (.rt d) E' => ∀ v σ' B' H' fps', Rl K ct F B' H' σ' E' fps' → Same B B' → Rp K ct B' v d → N.rt v H'
  | .ok .bk E' => ∀ σ' B' H' fps', Rl K ct F B' H' σ' E' fps' → Same B B' → N.bk σ' H'
  | .ok .ct E' => ∀ σ' B' H' fps', Rl K ct F B' H' σ' E' fps' → Same B B' → N.ct σ' H'
  | .ex x E' => ∀ c dx σ' B' H' fps', Rl K ct F B' H' σ' E' fps' → Same B B' → XR K ct B' c dx x → W c dx σ' H'
  | .bad => False
end
theorem tMS_iff {K : PySem.W.Frag} {ct : Ct} {W : WX} {m : SM} {N : Ends} {σ : L2.St} {H : Hp} : tMS K ct W m N σ H ↔ ∃ F B E fps, Rl K ct F B H σ E fps ∧ PstS K ct W F B (m E) N := Iff.rfl
section
variable {K : PySem.W.Frag} {ct : Ct} {W : WX} {F : Fm} {B B' H : Hp} {σ : L2.St}
theorem PstS.mono {r : R Fl} {N : Ends} (s : Same B B') (h : PstS K ct W F B r N) : PstS K ct W F B' r N := by
  cases r with
  | ok f E =>
    cases f with
    | nx => exact fun σ' B2 H2 fp q s2 => h σ' B2 H2 fp q (s.trans s2)
    | rt d => exact fun v σ' B2 H2 fp q s2 => h v σ' B2 H2 fp q (s.trans s2)
    | bk => exact fun σ' B2 H2 fp q s2 => h σ' B2 H2 fp q (s.trans s2)
    | ct => exact fun σ' B2 H2 fp q s2 => h σ' B2 H2 fp q (s.trans s2)
  | ex x E => exact fun c dx σ' B2 H2 fp q s2 => h c dx σ' B2 H2 fp q (s.trans s2)
  | bad => exact h
/-- an expression, then a statement's rest -/
theorem PstS.bind {α υ : Type} {Rr : Hp → υ → α → Prop} {r : R α} {k : α → SM} {N : Ends} (h : PstS K ct W F B (r.bind k) N) :
    Pst K ct Rr W F B σ r (fun v H1 => ∃ d E1 B1 fps, Rl K ct F B1 H1 σ E1 fps ∧ Same B B1 ∧ Rr B1 v d ∧ PstS K ct W F B1 (k d E1) N) := by
  cases r with
  | ok d E => exact fun v B1 H1 fp rl s q => ⟨d, E, B1, fp, rl, s, q, PstS.mono s h⟩
  | ex x E => exact fun c dx B1 H1 fp rl s q => h c dx σ B1 H1 fp rl s q
  | bad => exact h
end

/-! ### meanings -/
def sNil : SM := fun E => .ok .nx E
def sSeq (a b : SM) : SM := fun E => match a E with
  | .ok .nx E' => b E'
  | r => r
def sSet (i : Nat) (m : M D) : SM := m.bnd fun d E => .ok .nx (E.set i (.val d))
def sIf (c : M Bool) (a b : SM) : SM := c.bnd fun k => if k then a else b
def sRet (m : M D) : SM := m.bnd fun d E => .ok (.rt d) E
def sRetN : SM := fun E => .ok (.rt .non) E
def sExpr (m : M D) : SM := m.bnd fun _ E => .ok .nx E
def sBrk : SM := fun E => .ok .bk E
def sCnt : SM := fun E => .ok .ct E
/-- a target -/
abbrev GM := D → Env' → Option Env'
def gN (i : Nat) : GM := fun d E => some (E.set i (.val d))
def gAll : List Nat → List D → Env' → Option Env'
  | [], [], E => some E
  | i :: is, d :: ds, E => gAll is ds (E.set i (.val d))
  | _, _, _ => none
def gT (is : List Nat) : GM := fun d E => match d with
  | .nd .tup l => gAll is l E
  | .nd .pr l => gAll is l E
  | _ => none
def sAsg (m : M D) (g : GM) : SM := m.bnd fun d E => match g d E with
  | some E' => .ok .nx E'
  | none => .bad
def sPar (i j : Nat) (a b : M D) : SM := a.bnd fun x => b.bnd fun y E => .ok .nx ((E.set i (.val x)).set j (.val y))
def loopD (g : GM) (body : SM) : List D → SM
  | [] => sNil
  | d :: ds => fun E => match g d E with
    | none => .bad
    | some E1 => match body E1 with
      | .ok .nx E2 => loopD g body ds E2
      | .ok .ct E2 => loopD g body ds E2
      | .ok .bk E2 => .ok .nx E2
      | .ok (.rt d) E2 => .ok (.rt d) E2
      | .ex x E2 => .ex x E2
      | .bad => .bad
def sFor (mi : M (List D)) (g : GM) (body : SM) : SM := mi.bnd fun ds => loopD g body ds
def loopW (c : M Bool) (body : SM) : Nat → SM
  | 0 => fun _ => .bad
  | n + 1 => c.bnd fun k => if k then (fun E => match body E with
      | .ok .nx E2 => loopW c body n E2
      | .ok .ct E2 => loopW c body n E2
      | .ok .bk E2 => .ok .nx E2
      | .ok (.rt d) E2 => .ok (.rt d) E2
      | .ex x E2 => .ex x E2
      | .bad => .bad) else sNil

section
variable {X : Cx} {ct : Ct} {W : WX}
abbrev Sd (X : Cx) (ct : Ct) (W : WX) (st : Stmt) (m : SM) : Prop := PS X st (tMS X.K ct W m)
abbrev Bd (X : Cx) (ct : Ct) (W : WX) (st : List Stmt) (m : SM) : Prop := PSs X st (tMS X.K ct W m)
theorem s_nil : Bd X ct W [] sNil := by
  refine PSs.imp pss_nil fun N σ H h => ?_
  obtain ⟨F, B, E, fps, rl, h⟩ := h
  exact h σ B H fps rl (Same.refl B)
theorem s_cons {st : Stmt} {rest : List Stmt} {a b : SM} (h1 : Sd X ct W st a) (h2 : Bd X ct W rest b) : Bd X ct W (st :: rest) (sSeq a b) := by
  refine PSs.imp (pss_cons h1 h2) fun N σ H h => ?_
  obtain ⟨F, B, E, fps, rl, h⟩ := h
  refine ⟨F, B, E, fps, rl, ?_⟩
  have h' : PstS X.K ct W F B (sSeq a b E) N := h
  unfold sSeq at h'
  cases e : a E with
  | ok f E1 =>
    rw [e] at h'
    cases f with
    | nx => exact fun σ' B' H' fps' q s => ⟨F, B', E1, fps', q, PstS.mono s h'⟩
    | rt d => exact h'
    | bk => exact h'
    | ct => exact h'
  | ex x E1 => rw [e] at h'; exact h'
  | bad => rw [e] at h'; exact h'
theorem s_one {st : Stmt} {a : SM} (h : Sd X ct W st a) : Bd X ct W [st] a := pss_one h
theorem s_set {i : Nat} {x : Str} {e : Expr} {m : M D} {pos pos' : Pos} (hN : X.N.Nodup) (hi : X.N[i]? = some x) (hx : Loc X.env.scope x) (he : Ed X ct W e m) (hs : swapsWith e (some (.Name x pos')) pos.line X.env = pure false := by rfl)
    (hf : X.fn x = true ∨ X.env.scope.names.lookup x = some .local := by first | exact .inl rfl | exact .inr rfl | assumption) : Sd X ct W (.Assign [.Name x pos'] e pos) (sSet i m) := by
  refine PS.imp (ps_set hN hi hx he hs hf) fun N σ H h => ?_
  obtain ⟨F, B, E, fps, rl, h⟩ := h
  refine ⟨F, B, E, fps, rl, (PstS.bind (σ := σ) (Rr := Rp X.K ct) h).imp ?_⟩
  rintro v H1 ⟨d, E1, B1, fps1, rl1, s1, r1, h1⟩
  exact h1 _ B1 H1 _ (rl1.setV r1) (Same.refl B1)
theorem s_if {c : Expr} {a b : List Stmt} {pos : Pos} {mc : M Bool} {ma mb : SM} (hc : Td X ct W c mc) (ha : Bd X ct W a ma) (hb : Bd X ct W b mb) : Sd X ct W (.If c a b pos) (sIf mc ma mb) := by
  refine PS.imp (ps_if hc ha hb) fun N σ H h => ?_
  obtain ⟨F, B, E, fps, rl, h⟩ := h
  refine ⟨F, B, E, fps, rl, (PstS.bind (σ := σ) (Rr := RpB) h).imp ?_⟩
  rintro v H1 ⟨d, E1, B1, fps1, rl1, s1, r1, h1⟩
  cases r1
  cases v with
  | true => exact ⟨F, B1, E1, fps1, rl1, h1⟩
  | false => exact ⟨F, B1, E1, fps1, rl1, h1⟩
theorem s_ret {e : Expr} {pos : Pos} {m : M D} (he : Ed X ct W e m) : Sd X ct W (.Return (some e) pos) (sRet m) := by
  refine PS.imp (ps_ret he) fun N σ H h => ?_
  obtain ⟨F, B, E, fps, rl, h⟩ := h
  refine ⟨F, B, E, fps, rl, (PstS.bind (σ := σ) (Rr := Rp X.K ct) h).imp ?_⟩
  rintro v H1 ⟨d, E1, B1, fps1, rl1, s1, r1, h1⟩
  exact h1 v σ B1 H1 _ rl1 (Same.refl B1) r1
theorem s_retN {pos : Pos} : Sd X ct W (.Return none pos) sRetN := by
  refine PS.imp ps_retN fun N σ H h => ?_
  obtain ⟨F, B, E, fps, rl, h⟩ := h
  exact h .non σ B H _ rl (Same.refl B) .non
theorem s_expr {e : Expr} {pos : Pos} {m : M D} (he : Ed X ct W e m) (hs : swapsWith e none pos.line X.env = pure false := by rfl) : Sd X ct W (.Expr e pos) (sExpr m) := by
  refine PS.imp (ps_expr he hs) fun N σ H h => ?_
  obtain ⟨F, B, E, fps, rl, h⟩ := h
  refine ⟨F, B, E, fps, rl, (PstS.bind (σ := σ) (Rr := Rp X.K ct) h).imp ?_⟩
  rintro v H1 ⟨d, E1, B1, fps1, rl1, s1, r1, h1⟩
  exact h1 σ B1 H1 _ rl1 (Same.refl B1)
theorem s_break {pos : Pos} : Sd X ct W (.Break pos) sBrk := by
  refine PS.imp ps_break fun N σ H h => ?_
  obtain ⟨F, B, E, fps, rl, h⟩ := h
  exact h σ B H _ rl (Same.refl B)
theorem s_cont {pos : Pos} : Sd X ct W (.Continue pos) sCnt := by
  refine PS.imp ps_continue fun N σ H h => ?_
  obtain ⟨F, B, E, fps, rl, h⟩ := h
  exact h σ B H _ rl (Same.refl B)

/-! ### targets -/
/-- the slots but is are as before -/
def Outs (is : List Nat) (σ σ' : L2.St) : Prop := σ'.length = σ.length ∧ ∀ j, j ∉ is → σ'[j]? = σ[j]?
def tGt (K : PySem.W.Frag) (ct : Ct) (is : List Nat) (g : GM) : TG := fun v σ H Q => ∃ F B E fps d, Rl K ct F B H σ E fps ∧ Rp K ct B v d ∧ ∃ E', g d E = some E' ∧ ∀ σ' fps', Rl K ct F B H σ' E' fps' → Outs is σ σ' → Q σ' H
theorem PG.imp {tg : Expr} {t u : TG} (h : PG X tg t) (k : ∀ v σ H Q, u v σ H Q → t v σ H Q) : PG X tg u := ⟨fun pins s σ H v w Q I r q => h.run pins s σ H v w Q I r (k v σ H Q q)⟩
theorem PGs.imp {ts : List Expr} {t u : TGs} (h : PGs X ts t) (k : ∀ v σ H Q, u v σ H Q → t v σ H Q) : PGs X ts u := ⟨fun pins s σ H v w Q I r q => h.run pins s σ H v w Q I r (k v σ H Q q)⟩
abbrev Gd (X : Cx) (ct : Ct) (tg : Expr) (is : List Nat) (g : GM) : Prop := PG X tg (tGt X.K ct is g)
theorem outs_set {σ : L2.St} {i : Nat} {v : V} : Outs [i] σ (σ.set i (some v)) := ⟨List.length_set, fun j hj => List.getElem?_set_ne (fun e => hj (by simp [e]))⟩
theorem Outs.step {σ σ' : L2.St} {i : Nat} {is : List Nat} {v : V} (h : Outs is (σ.set i (some v)) σ') : Outs (i :: is) σ σ' :=
  ⟨h.1.trans List.length_set, fun j hj => by
    rw [h.2 j (fun z => hj (List.mem_cons_of_mem _ z)), List.getElem?_set_ne (fun e => hj (by simp [e]))]⟩
def tGs (K : PySem.W.Frag) (ct : Ct) (is : List Nat) : TGs := fun vs σ H Q => ∃ F B E fps ds, Rl K ct F B H σ E fps ∧ RpL K ct B vs ds ∧ ∃ E', gAll is ds E = some E' ∧ ∀ σ' fps', Rl K ct F B H σ' E' fps' → Outs is σ σ' → Q σ' H
theorem g_name {i : Nat} {x : Str} {pos : Pos} (hN : X.N.Nodup) (hi : X.N[i]? = some x) (hx : Loc X.env.scope x) (hf : X.fn x = true ∨ X.env.scope.names.lookup x = some .local := by first | exact .inl rfl | exact .inr rfl | assumption) : Gd X ct (.Name x pos) [i] (gN i) := by
  refine PG.imp (pg_name hN hi hx hf) fun v σ H Q h => ?_
  obtain ⟨F, B, E, fps, d, rl, rp, E', e, h⟩ := h
  cases e
  exact h _ _ (rl.setV rp) outs_set
theorem gs_nil : PGs X [] (tGs X.K ct []) := by
  refine PGs.imp pgs_nil fun vs σ H Q h => ?_
  obtain ⟨F, B, E, fps, ds, rl, rp, E', e, h⟩ := h
  cases ds with
  | nil => cases rp; cases e; exact ⟨rfl, h _ _ rl ⟨rfl, fun _ _ => rfl⟩⟩
  | cons d ds => cases e
theorem gs_cons {i : Nat} {is : List Nat} {x : Str} {pos : Pos} {es : List Expr} (hN : X.N.Nodup) (hi : X.N[i]? = some x) (hx : Loc X.env.scope x) (h2 : PGs X es (tGs X.K ct is))
    (hf : X.fn x = true ∨ X.env.scope.names.lookup x = some .local := by first | exact .inl rfl | exact .inr rfl | assumption)
    (hs : (assignEach (Expr.Name x pos :: es) X.env).map (·.2) = assign (Expr.Name x pos) X.env :: (assignEach es X.env).map (·.2) := by rfl) : PGs X (.Name x pos :: es) (tGs X.K ct (i :: is)) := by
  refine PGs.imp (pgs_cons (pg_name hN hi hx hf) h2 hs) fun vs σ H Q h => ?_
  obtain ⟨F, B, E, fps, ds, rl, rp, E', e, h⟩ := h
  cases rp with
  | nil => cases e
  | cons r rr => exact ⟨_, _, rfl, F, B, _, _, _, rl.setV r, rr, E', e, fun σ' fps' q o => h σ' fps' q o.step⟩
theorem g_tup {es : List Expr} {k : Nat} {pos : Pos} {is : List Nat} (hc : X.calm = true) (h : PGs X es (tGs X.K ct is)) (hn : (assignEach es X.env).length = is.length := by rfl) (hst : (assignEach es X.env).findIdx? (·.1) = none := by rfl) : Gd X ct (.Tuple es k pos) is (gT is) := by
  refine PG.imp (pg_tup hc h hn hst) fun v σ H Q h => ?_
  obtain ⟨F, B, E, fps, d, rl, rp, E', e, h⟩ := h
  have hl : ∀ {is : List Nat} {l : List D} {E E' : Env'}, gAll is l E = some E' → l.length = is.length := by
    intro is
    induction is with
    | nil => intro l E E' z; cases l with
      | nil => rfl
      | cons d l => cases z
    | cons i is ih => intro l E E' z; cases l with
      | nil => cases z
      | cons d l => exact congrArg (· + 1) (ih z)
  unfold gT at e
  split at e
  · rename_i l
    obtain ⟨a, xs, rfl, hx, rx⟩ := rp.ndI
    exact ⟨a, xs, rfl, sqT_mono rl.bs hx.t, by rw [rx.len]; exact hl e, F, B, E, fps, l, rl, rx, E', e, h⟩
  · rename_i l
    obtain ⟨a, xs, rfl, hx, rx⟩ := rp.ndI
    exact ⟨a, xs, rfl, sqT_mono rl.bs hx, by rw [rx.len]; exact hl e, F, B, E, fps, l, rl, rx, E', e, h⟩
  · cases e
theorem s_asg {tg e : Expr} {pos : Pos} {m : M D} {is : List Nat} {g : GM} (he : Ed X ct W e m) (hg : Gd X ct tg is g) (hs : swapsWithSole [tg] e pos.line X.env = pure false := by rfl) (hw : swappedStores [tg] e X.env = pure none := by rfl)
    (h1 : (assignEach [tg] X.env).map (·.2) = [assign tg X.env] := by rfl) : Sd X ct W (.Assign [tg] e pos) (sAsg m g) := by
  refine PS.imp (ps_asg he hg hs hw h1) fun N σ H h => ?_
  obtain ⟨F, B, E, fps, rl, h⟩ := h
  refine ⟨F, B, E, fps, rl, (PstS.bind (σ := σ) (Rr := Rp X.K ct) h).imp ?_⟩
  rintro v H1 ⟨d, E1, B1, fps1, rl1, s1, r1, h1⟩
  cases e : g d E1 with
  | none => rw [e] at h1; exact h1.elim
  | some E' =>
    rw [e] at h1
    exact ⟨F, B1, E1, fps1, d, rl1, r1, E', e, fun σ' fps' q _ => h1 σ' B1 H1 fps' q (Same.refl B1)⟩
theorem s_par {i j : Nat} {x y : Str} {a b : Expr} {ma mb : M D} {px py pt : Pos} {kt k2 pt2} {pos : Pos} (hc : X.calm = true) (hN : X.N.Nodup) (hi : X.N[i]? = some x) (hj : X.N[j]? = some y) (hij : i ≠ j)
    (hx : X.env.scope.names.lookup x = some .local) (hy : X.env.scope.names.lookup y = some .local) (ha : Ed X ct W a ma) (hb : Ed X ct W b mb)
    (hw : swappedStores [.Tuple [.Name x px, .Name y py] kt pt] (.Tuple [a, b] k2 pt2) X.env = pure (some [x, y]))
    (hs : swapsWithSole [.Tuple [.Name x px, .Name y py] kt pt] (.Tuple [a, b] k2 pt2) pos.line X.env = pure false := by rfl)
    (h1 : starEach [b] X.env = (false, eval b X.env) :: starEach [] X.env := by rfl) (h2 : starEach [a, b] X.env = (false, eval a X.env) :: starEach [b] X.env := by rfl) :
    Sd X ct W (.Assign [.Tuple [.Name x px, .Name y py] kt pt] (.Tuple [a, b] k2 pt2) pos) (sPar i j ma mb) := by
  refine PS.imp (ps_par hc hN hi hj hij hx hy (pa_cons ha (pa_cons hb pa_nil h1) h2) hw hs) fun N σ H h => ?_
  obtain ⟨F, B, E, fps, rl, h⟩ := h
  refine ⟨F, B, E, fps, rl, (PstS.bind (σ := σ) (Rr := Rp X.K ct) h).imp ?_⟩
  rintro v H1 ⟨d, E1, B1, fps1, rl1, s1, r1, h1⟩
  refine ⟨F, B1, E1, fps1, rl1, (PstS.bind (σ := σ) (Rr := Rp X.K ct) h1).imp ?_⟩
  rintro w H2 ⟨d2, E2, B2, fps2, rl2, s2, r2, h2⟩
  exact ⟨v, w, rfl, h2 _ B2 H2 _ ((rl2.setV (r1.mono s2)).setV r2) (Same.refl B2)⟩

/-! ### loops -/
/-- how an iterator goes through data -/
structure ItOk (K : PySem.W.Frag) (ct : Ct) (J : It) (B : Hp) (ds : List D) : Prop where
  go : ∀ i H, Same B H → i < ds.length → J.go i H
  yld : ∀ i H x H', Same B H → i < ds.length → J.yld i H x H' → ∃ d, ds[i]? = some d ∧ ((H' = H ∧ Rp K ct B x d) ∨ ∃ p o, H p = none ∧ x = .ref p ∧ H' = upd H p o ∧ Rp K ct (upd B p o) (.ref p) d)
  stop : ∀ i H, Same B H → ds.length = i → J.stop i H
def tIt (K : PySem.W.Frag) (ct : Ct) (W : WX) (m : M (List D)) : TI := fun σ H R => tG K ct (fun B (J : It) ds => ItOk K ct J B ds) W m σ H R
abbrev Itd' (X : Cx) (ct : Ct) (W : WX) (tg iter : Expr) (m : M (List D)) : Prop := PI X tg iter (tIt X.K ct W m)
theorem PI.imp {tg iter : Expr} {t u : TI} (h : PI X tg iter t) (k : ∀ σ H R, u σ H R → t σ H R) : PI X tg iter u := ⟨fun pins s σ H R I q => h.run pins s σ H R I (k σ H R q)⟩
theorem s_for {tg iter : Expr} {body : List Stmt} {pos : Pos} {mi : M (List D)} {is : List Nat} {g : GM} {bm : SM} (hp : PassesOwn (model X.prog X.w) X.A X.env X.xe) (hc : X.calm = true) (hi : Itd' X ct W tg iter mi) (hg : Gd X ct tg is g) (hb : Bd X ct W body bm)
    (hs : ∀ x, foldedSetIterable iter X.env x = pure x := by intro _; rfl) : Sd X ct W (.For tg iter body [] pos) (sFor mi g bm) := by
  refine PS.imp (ps_for hp hc hi hg hb hs) fun N σ H h => ?_
  obtain ⟨F, B, E, fps, rl, h⟩ := h
  refine ⟨F, B, E, fps, rl, (PstS.bind (σ := σ) (Rr := fun B (J : It) ds => ItOk X.K ct J B ds) h).imp ?_⟩
  rintro J H1 ⟨ds, E1, B1, fps1, rl1, s1, ok, h1⟩
  refine ⟨fun i m σ H => m = ds.length - i ∧ i ≤ ds.length ∧ ∃ B E fps, Rl X.K ct F B H σ E fps ∧ Same B1 B ∧ PstS X.K ct W F B (loopD g bm (ds.drop i) E) N, ⟨ds.length, by simp, Nat.zero_le _, B1, E1, fps1, rl1, Same.refl _, by simpa using h1⟩, ?_⟩
  rintro i m σ2 H2 ⟨rfl, hi, B2, E2, fps2, rl2, s2, h2⟩
  have sH : Same B1 H2 := s2.trans rl2.bs
  by_cases hlt : i < ds.length
  · refine .inr ⟨ok.go i H2 sH hlt, fun σ' H' => ∃ B E fps, Rl X.K ct F B H' σ' E fps ∧ Same B1 B ∧ PstS X.K ct W F B (loopD g bm (ds.drop (i + 1)) E) N, fun σ' H' q => ⟨ds.length - (i + 1), by omega, rfl, hlt, q⟩, ?_⟩
    intro x H3 hy
    obtain ⟨d, hd, hx⟩ := ok.yld i H2 x H3 sH hlt hy
    have hdrop : ds.drop i = d :: ds.drop (i + 1) := by
      rw [List.drop_eq_getElem_cons hlt]
      rw [List.getElem?_eq_getElem hlt] at hd
      rw [Option.some.inj hd]
    rw [hdrop] at h2
    -- the turn's item, perhaps newly laid
    obtain ⟨B3, rl3, s3, rp3⟩ : ∃ B3, Rl X.K ct F B3 H3 σ2 E2 fps2 ∧ Same B2 B3 ∧ Rp X.K ct B3 x d := by
      rcases hx with ⟨rfl, rp⟩ | ⟨p, o, hn, rfl, rfl, rp⟩
      · exact ⟨B2, rl2, Same.refl _, rp.mono s2⟩
      · obtain ⟨q1, q2⟩ := rl2.laid (o := o) hn
        refine ⟨_, q1, q2, rp.mono fun b u e => ?_⟩
        unfold upd at e ⊢
        split at e
        · rw [if_pos (by assumption)]; exact e
        · rw [if_neg (by assumption)]; exact s2 b u e
    unfold loopD at h2
    cases eg : g d E2 with
    | none => rw [eg] at h2; exact h2.elim
    | some E3 =>
      rw [eg] at h2
      refine ⟨F, B3, E2, fps2, d, rl3, rp3, E3, eg, fun σ' fps' rl4 _ => ⟨F, B3, E3, fps', rl4, ?_⟩⟩
      have h3 := PstS.mono s3 h2
      dsimp only at h3
      cases eb : bm E3 with
      | ok f E4 =>
        rw [eb] at h3
        cases f with
        | nx => exact fun σ5 B5 H5 fp5 rl5 s5 => ⟨B5, E4, fp5, rl5, (s2.trans s3).trans s5, PstS.mono s5 h3⟩
        | ct => exact fun σ5 B5 H5 fp5 rl5 s5 => ⟨B5, E4, fp5, rl5, (s2.trans s3).trans s5, PstS.mono s5 h3⟩
        | rt d => exact h3
        | bk => exact h3
      | ex x E4 => rw [eb] at h3; exact h3
      | bad => rw [eb] at h3; exact h3
  · refine .inl ⟨ok.stop i H2 sH (by omega), ?_⟩
    rw [List.drop_eq_nil_of_le (by omega)] at h2
    exact h2 σ2 B2 H2 fps2 rl2 (Same.refl _)
theorem s_while (n : Nat) {c : Expr} {body : List Stmt} {pos : Pos} {mc : M Bool} {bm : SM} (hp : PassesOwn (model X.prog X.w) X.A X.env X.xe) (hc : Td X ct W c mc) (hb : Bd X ct W body bm) : Sd X ct W (.While c body [] pos) (loopW mc bm n) := by
  refine PS.imp (ps_while hp hc hb) fun N σ H h => ?_
  obtain ⟨F, B, E, fps, rl, h⟩ := h
  refine ⟨fun m σ H => ∃ B E fps, Rl X.K ct F B H σ E fps ∧ PstS X.K ct W F B (loopW mc bm m E) N, ⟨n, B, E, fps, rl, h⟩, ?_⟩
  rintro m σ2 H2 ⟨B2, E2, fps2, rl2, h2⟩
  cases m with
  | zero => exact h2.elim
  | succ m =>
    refine ⟨F, B2, E2, fps2, rl2, (PstS.bind (σ := σ2) (Rr := RpB) h2).imp ?_⟩
    rintro v H3 ⟨d, E3, B3, fps3, rl3, s3, r3, h3⟩
    cases r3
    cases v with
    | false => exact h3 σ2 B3 H3 fps3 rl3 (Same.refl _)
    | true =>
      refine ⟨fun σ' H' => ∃ B E fps, Rl X.K ct F B H' σ' E fps ∧ PstS X.K ct W F B (loopW mc bm m E) N, fun σ' H' q => ⟨m, Nat.lt_succ_self m, q⟩, F, B3, E3, fps3, rl3, ?_⟩
      rw [if_pos rfl] at h3
      cases eb : bm E3 with
      | ok f E4 =>
        rw [eb] at h3
        cases f with
        | nx => exact fun σ5 B5 H5 fp5 rl5 s5 => ⟨B5, E4, fp5, rl5, PstS.mono s5 h3⟩
        | ct => exact fun σ5 B5 H5 fp5 rl5 s5 => ⟨B5, E4, fp5, rl5, PstS.mono s5 h3⟩
        | rt d => exact h3
        | bk => exact h3
      | ex x E4 => rw [eb] at h3; exact h3
      | bad => rw [eb] at h3; exact h3
end
end Wu

/-! What is gone through; comprehensions. -/
namespace Wu
open PySem PySem.Spec PyProof.Rows L2

def signs (x : Str) : List D := x.cps.toList.map fun c => .str ⟨#[c]⟩
def items1 : D → Option (List D)
  | .nd .tup l => some l
  | .nd .lst l => some l
  | .nd .scr l => some l
  | .str x => some (signs x)
  | _ => none
def mSeq (m : M D) : M (List D) := m.bnd fun d => .opt (items1 d)
def rangeD (lo : Int) (n : Nat) : List D := (List.range n).map fun (i : Nat) => .int (lo + (i : Int))
def pRange : List D → Option (List D)
  | [.int j] => if -(2 ^ 62) ≤ j ∧ j < 2 ^ 62 then some (rangeD 0 j.toNat) else none
  | [.int i, .int j] => if -(2 ^ 62) ≤ i ∧ i < 2 ^ 62 ∧ -(2 ^ 62) ≤ j ∧ j < 2 ^ 62 then some (rangeD i (j - i).toNat) else none
  | _ => none
def mRange (ms : M (List D)) : M (List D) := ms.bnd fun ds => .opt (pRange ds)

section
variable {X : Cx} {ct : Ct} {W : WX}
theorem it_tup {K : PySem.W.Frag} {B : Hp} {a : Addr} {xs : List V} {ds : List D} (h : SqT K B a xs) (r : RpL K ct B xs ds) : ItOk K ct (Itt K a) B ds where
  go := fun i H s hi => ⟨xs, xs[i]'(by rw [r.len]; exact hi), sqT_mono s h, by simp [r.len, hi]⟩
  yld := fun i H x H' s _ ⟨e, k⟩ => by
    obtain ⟨d, h1, h2⟩ := r.getV (k xs (sqT_mono s h))
    exact ⟨d, h1, .inl ⟨e, h2⟩⟩
  stop := fun i H s hi => ⟨xs, sqT_mono s h, by rw [r.len]; exact Nat.le_of_eq hi⟩
theorem it_lst {K : PySem.W.Frag} {B : Hp} {a : Addr} {xs : List V} {ds : List D} (h : SqL K B a xs) (r : RpL K ct B xs ds) : ItOk K ct (Itl K a) B ds where
  go := fun i H s hi => ⟨xs, xs[i]'(by rw [r.len]; exact hi), s.seq h, by simp [r.len, hi]⟩
  yld := fun i H x H' s _ ⟨e, k⟩ => by
    obtain ⟨d, h1, h2⟩ := r.getV (k xs (s.seq h))
    exact ⟨d, h1, .inl ⟨e, h2⟩⟩
  stop := fun i H s hi => ⟨xs, s.seq h, by rw [r.len]; exact Nat.le_of_eq hi⟩
theorem it_str {K : PySem.W.Frag} {B : Hp} {x : Str} : ItOk K ct (Its x) B (signs x) where
  go := fun i H s hi => by
    have : i < x.cps.size := by simpa [signs] using hi
    exact this
  yld := fun i H v H' s _ ⟨e, c, h1, h2⟩ => by
    refine ⟨.str ⟨#[c]⟩, ?_, .inl ⟨e, by rw [h2]; exact .str _⟩⟩
    unfold signs
    rw [List.getElem?_map, Array.getElem?_toList, h1]; rfl
  stop := fun i H s hi => by
    have : x.cps.size ≤ i := Nat.le_of_eq (by simpa [signs] using hi)
    exact this
theorem it_rng {K : PySem.W.Frag} {B : Hp} {lo : Int} {n : Nat} : ItOk K ct (Itr lo n) B (rangeD lo n) where
  go := fun i H s hi => by
    have hi' : i < n := by simpa [rangeD] using hi
    exact hi'
  yld := fun i H v H' s hi ⟨e, h1⟩ => by
    have hi' : i < n := by simpa [rangeD] using hi
    exact ⟨.int (lo + i), by simp [rangeD, hi'], .inl ⟨e, by rw [h1]; exact .int _⟩⟩
  stop := fun i H s hi => by
    have hi' : n ≤ i := Nat.le_of_eq (by simpa [rangeD] using hi)
    exact hi'
/-- going through a tuple, a list, a text -/
theorem i_seq {tg e : Expr} {m : M D} (he : Ed X ct W e m) : Itd' X ct W tg e (mSeq m) := by
  have h1 := pi_list (tg := tg) he
  have h2 := pi_tup (tg := tg) he
  have h3 := pi_str (tg := tg) he
  refine ⟨fun pins s σ H R I h => ?_⟩
  obtain ⟨F, B, E, fps, rl, h⟩ := h
  have h0 : Pst X.K ct (fun B (J : It) ds => ItOk X.K ct J B ds) W F B σ ((m E).bind fun d => M.opt (items1 d)) R := h
  -- the kind of what comes tells the iterator
  cases em : m E with
  | bad => rw [em] at h0; exact h0.elim
  | ex x E1 =>
    rw [em] at h0
    refine h1.run pins s σ H R I ⟨F, B, E, fps, rl, ?_⟩
    rw [em]; exact h0
  | ok d E1 =>
    rw [em] at h0
    obtain ⟨l, el, h0⟩ := opt_of (show Pst X.K ct (fun B (J : It) ds => ItOk X.K ct J B ds) W F B σ (M.opt (items1 d) E1) R from h0)
    unfold items1 at el
    split at el
    · cases el
      refine h2.run pins s σ H R I ⟨F, B, E, fps, rl, ?_⟩
      rw [em]
      intro v B1 H1 fp1 rl1 s1 rp
      obtain ⟨a, xs, rfl, hx, rx⟩ := rp.ndI
      exact ⟨a, rfl, ⟨xs, sqT_mono rl1.bs hx.t⟩, h0 _ B1 H1 fp1 rl1 s1 (it_tup hx.t rx)⟩
    · cases el
      refine h1.run pins s σ H R I ⟨F, B, E, fps, rl, ?_⟩
      rw [em]
      intro v B1 H1 fp1 rl1 s1 rp
      obtain ⟨a, xs, rfl, hx, rx⟩ := rp.ndI
      exact ⟨a, rfl, ⟨xs, SqL.of (rl1.bs _ _ hx)⟩, h0 _ B1 H1 fp1 rl1 s1 (it_lst (SqL.of hx) rx)⟩
    · cases el
      refine h1.run pins s σ H R I ⟨F, B, E, fps, rl, ?_⟩
      rw [em]
      intro v B1 H1 fp1 rl1 s1 rp
      obtain ⟨a, xs, rfl, hx, rx⟩ := rp.ndI
      exact ⟨a, rfl, ⟨xs, rl1.bs.seq hx⟩, h0 _ B1 H1 fp1 rl1 s1 (it_lst hx rx)⟩
    · cases el
      refine h3.run pins s σ H R I ⟨F, B, E, fps, rl, ?_⟩
      rw [em]
      intro v B1 H1 fp1 rl1 s1 rp
      cases rp
      exact ⟨_, rfl, h0 _ B1 H1 fp1 rl1 s1 it_str⟩
    · cases el
theorem i_range1 {tg a : Expr} {p pos : Pos} {ma : M D} (hg : Gl X "range") (hm : X.mg "range" = none) (ha : Ed X ct W a ma) (hs : starEach [a] X.env = [(false, eval a X.env)] := by rfl) :
    Itd' X ct W tg (.Call (.Name "range" p) [a] [] pos) (mRange (mCons ma mNil)) := by
  refine PI.imp (pi_range1 hg hm (pa_cons ha pa_nil hs) hs) fun σ H R h => ?_
  obtain ⟨F, B, E, fps, rl, h⟩ := h
  have h' : Pst X.K ct (fun B (J : It) ds => ItOk X.K ct J B ds) W F B σ (((ma E).bind fun d => M.ret [d]).bind fun ds => M.opt (pRange ds)) R := h
  refine ⟨F, B, E, fps, rl, ?_⟩
  cases em : ma E with
  | bad => rw [em] at h'; exact h'.elim
  | ex x E1 => rw [em] at h'; exact h'
  | ok d E1 =>
    rw [em] at h'
    obtain ⟨l, el, h0⟩ := opt_of (show Pst X.K ct (fun B (J : It) ds => ItOk X.K ct J B ds) W F B σ (M.opt (pRange [d]) E1) R from h')
    intro v B1 H1 fp1 rl1 s1 rp
    unfold pRange at el
    split at el
    · rename_i j e
      cases e
      split at el
      · rename_i hj
        cases el
        exact ⟨j, by rw [rp.intI], hj.1, hj.2, h0 _ B1 H1 fp1 rl1 s1 it_rng⟩
      · cases el
    · rename_i e; cases e
    · cases el
end

/-! ### comprehensions -/
def wipeE (vs : List Nat) (E : Env') : Env' := E.mapIdx fun j s => if j ∈ vs then .und else s
def restE (vs : List Nat) (E1 E2 : Env') : Env' := E1.mapIdx fun j s => if j ∈ vs then s else E2.getD j .und
def Sl.free : Sl → Bool
  | .own _ _ => false
  | _ => true
/-- the turns of a comprehension, none of which may raise -/
def compD (g : GM) (t : M Bool) (m : M D) (vs : List Nat) : List D → Env' → Option (List D × Env')
  | [], E => some ([], E)
  | d :: ds, E => match g d E with
    | none => none
    | some E1 => match t E1 with
      | .ok true E2 => match m E2 with
        | .ok y E3 => (compD g t m vs ds (wipeE vs E3)).map fun r => (y :: r.1, r.2)
        | _ => none
      | .ok false E2 => compD g t m vs ds (wipeE vs E2)
      | _ => none
def mLc (mi : M (List D)) (g : GM) (t : M Bool) (m : M D) (vs : List Nat) : M D := mi.bnd fun ds E =>
  if vs.all (fun j => (E.getD j .und).free) && decide (ds.length ≤ sizeLine) then
    match compD g t m vs ds (wipeE vs E) with
    | some r => .ok (.lst r.1) (restE vs E r.2)
    | none => .bad
  else .bad
abbrev W0 : WX := fun _ _ _ _ => False
def mYes : M Bool := .ret true

theorem wipe_get {σ : L2.St} : ∀ {vs : List Nat} {i : Nat}, (wipe σ vs)[i]? = if i ∈ vs ∧ i < σ.length then some none else σ[i]?
  | [], i => by simp [wipe]
  | v :: vs, i => by
    unfold wipe
    by_cases h : v = i
    · subst h
      by_cases hl : v < σ.length
      · rw [List.getElem?_set_self (by rw [wipe_length]; exact hl), if_pos ⟨List.mem_cons_self, hl⟩]
      · rw [List.getElem?_eq_none (by simp [wipe_length]; omega), if_neg (fun z => hl z.2), List.getElem?_eq_none (by omega)]
    · rw [List.getElem?_set_ne h, wipe_get]
      by_cases hi : i ∈ vs ∧ i < σ.length
      · rw [if_pos hi, if_pos ⟨List.mem_cons_of_mem _ hi.1, hi.2⟩]
      · rw [if_neg hi, if_neg]
        rintro ⟨z1, z2⟩
        rcases List.mem_cons.mp z1 with z | z
        · exact h z.symm
        · exact hi ⟨z, z2⟩
section
variable {K : PySem.W.Frag} {ct : Ct} {F : Fm} {B B' H H' : Hp} {σ : L2.St} {E : Env'} {fps : Nat → List Addr}
theorem Rl.wipe (r : Rl K ct F B H σ E fps) (vs : List Nat) : ∃ fps', Rl K ct F B H (L2.wipe σ vs) (wipeE vs E) fps' ∧ ∀ i a, a ∈ fps' i → a ∈ fps i := by
  refine r.forget (by rw [wipe_length]; unfold wipeE; rw [List.length_mapIdx]; exact r.ln) fun i s e => ?_
  unfold wipeE at e
  rw [List.getElem?_mapIdx] at e
  obtain ⟨s1, e1, e2⟩ := Option.map_eq_some_iff.mp e
  have hl : i < σ.length := by rw [r.ln]; exact (List.getElem?_eq_some_iff.mp e1).1
  by_cases h : i ∈ vs
  · rw [if_pos h] at e2
    exact .inl ⟨e2.symm, none, by rw [wipe_get, if_pos ⟨h, hl⟩]⟩
  · rw [if_neg h] at e2
    subst e2
    exact .inr ⟨e1, by rw [wipe_get, if_neg (fun z => h z.1)]⟩
theorem Rl.rest {B1 H1 : Hp} {E2 : Env'} {fps1 : Nat → List Addr} {vs : List Nat} (r1 : Rl K ct F B1 H1 σ E fps1) (r2 : Rl K ct F B H (L2.wipe σ vs) E2 fps) (s : Same B1 B) (hv : vs.all (fun j => (E.getD j .und).free) = true) :
    ∃ fps', Rl K ct F B H σ (restE vs E E2) fps' := by
  have hl2 : E2.length = E.length := by rw [← r2.ln, wipe_length, r1.ln]
  refine ⟨fun j => if j ∈ vs then [] else fps j, r2.gs, r2.bs, r2.b0, r2.nb, r2.dm, by unfold restE; rw [List.length_mapIdx]; exact r1.ln, fun j sl e => ?_, fun j e => ?_, fun i j a hi hj => ?_, fun j a hj => ?_⟩
  · unfold restE at e
    rw [List.getElem?_mapIdx] at e
    obtain ⟨s1, e1, e2⟩ := Option.map_eq_some_iff.mp e
    by_cases h : j ∈ vs
    · rw [if_pos h] at e2
      subst e2
      rw [if_pos h]
      obtain ⟨o, h1, h2⟩ := r1.en j _ e1
      refine ⟨o, h1, ?_⟩
      have hf := List.all_eq_true.mp hv j h
      rw [List.getD_eq_getElem?_getD, e1] at hf
      cases s1 with
      | und => rfl
      | fn => exact ⟨rfl, h2.2⟩
      | val d => obtain ⟨_, v, h3, h4⟩ := h2; exact ⟨rfl, v, h3, h4.mono s⟩
      | own ix c => cases hf
    · rw [if_neg h] at e2
      rw [if_neg h]
      have hj : j < E2.length := by rw [hl2]; exact (List.getElem?_eq_some_iff.mp e1).1
      have e3 : E2[j]? = some sl := by
        rw [List.getElem?_eq_getElem hj]
        rw [List.getD_eq_getElem?_getD, List.getElem?_eq_getElem hj] at e2
        exact congrArg some e2
      obtain ⟨o, h1, h2⟩ := r2.en j _ e3
      rw [wipe_get, if_neg (fun z => h z.1)] at h1
      exact ⟨o, h1, h2⟩
  · unfold restE at e
    rw [List.getElem?_mapIdx] at e
    have e1 : E[j]? = none := by simpa using e
    by_cases h : j ∈ vs
    · rw [if_pos h]
    · rw [if_neg h]
      refine r2.e0 j ?_
      rw [List.getElem?_eq_none_iff] at e1 ⊢
      omega
  · by_cases h1 : i ∈ vs
    · rw [if_pos h1] at hi; cases hi
    · by_cases h2 : j ∈ vs
      · rw [if_pos h2] at hj; cases hj
      · rw [if_neg h1] at hi; rw [if_neg h2] at hj
        exact r2.dj i j a hi hj
  · by_cases h1 : j ∈ vs
    · rw [if_pos h1] at hj; cases hj
    · rw [if_neg h1] at hj
      exact r2.fr j a hj
/-- one thing more that stands still: the list at L -/
def Fm.plus (F : Fm) (L : Addr) (o : HO) : Fm := ⟨upd F.G L o, F.B0, fun a => F.Dm a ∨ a = L, F.ar⟩
theorem SlR.frame {F' : Fm} {o : Option V} {fp : List Addr} (ha : F'.ar = F.ar) : ∀ {sl : Sl}, SlR K ct F B H o fp sl → (∀ a ∈ fp, ¬ F.Dm a → ¬ F'.Dm a) → SlR K ct F' B H o fp sl
  | .und, h, _ => h
  | .fn, h, _ => h
  | .val _, h, _ => h
  | .own ix c, ⟨a, h1, h2, h3⟩, k => by
    refine ⟨a, h1, ?_, h3⟩
    cases ix with
    | some i => show F'.ar[i]? = some a; rw [ha]; exact h2
    | none =>
      refine k a ?_ h2
      cases c with
      | dr s => obtain ⟨g, e, _⟩ := h3; rw [e]; simp
      | nd q l =>
        cases q with
        | lst => obtain ⟨e, _⟩ := h3; rw [e]; simp
        | dct ks => obtain ⟨e, _⟩ := h3; rw [e]; simp
        | dtt ks => obtain ⟨e, _⟩ := h3; rw [e]; simp
        | ob x fs => obtain ⟨dx, xs, e, _⟩ := h3; rw [e]; simp
        | tup => exact h3.elim
        | scr => exact h3.elim
        | pr => exact h3.elim
        | exn x fs => exact h3.elim
theorem Rl.plus {L : Addr} {o : HO} (r : Rl K ct F B H σ E fps) (hL : H L = some o) (hB : B L = none) (hf : ∀ j, L ∉ fps j) (hB0 : F.B0 L = none) (hT : ∀ ps, o ≠ .tbl ps := by intro _ z; cases z) : Rl K ct (F.plus L o) B H σ E fps := by
  refine ⟨⟨fun a u e => ?_, fun a h => ?_, fun a h => ⟨.inl (r.gs.td a h).1, (r.gs.td a h).2⟩, r.gs.bp⟩, r.bs, r.b0, fun a h => ?_, fun a h => ?_, r.ln, fun i s e => ?_, r.e0, r.dj, fun i a h => ⟨(r.fr i a h).1, ?_⟩⟩
  · have e' : upd F.G L o a = some u := e
    unfold upd at e'
    split at e'
    · rename_i z; subst z; cases e'; exact .inl ⟨hL, hT⟩
    · exact r.gs.go a u e'
  · obtain ⟨p0, e0⟩ := r.gs.tf a h
    refine ⟨p0, ?_⟩
    show upd F.G L o a = _
    rw [upd_ne]
    · exact e0
    · rintro rfl
      rcases r.gs.go a _ e0 with ⟨_, z⟩ | ⟨_, p1, _, _, z, _⟩
      · exact z p0 rfl
      · rw [hL] at z; exact hT p1 (Option.some.inj z)
  · rcases h with h | h
    · exact r.nb a h
    · subst h; rw [hB]; exact hB0.symm
  · rcases h with h | h
    · exact r.dm a h
    · subst h; exact ⟨o, hL⟩
  · obtain ⟨v, h1, h2⟩ := r.en i s e
    refine ⟨v, h1, SlR.frame (F := F) (F' := F.plus L o) rfl h2 fun a ha hn => ?_⟩
    rintro (z | z)
    · exact hn z
    · subst z; exact hf i ha
  · show upd F.G L o a = none
    rw [upd_ne]
    · exact (r.fr i a h).2
    · rintro rfl; exact hf i h
theorem Rl.minus {L : Addr} {o : HO} (r : Rl K ct (F.plus L o) B H σ E fps) (hG : F.G L = none) (hT : ∀ ps, o ≠ .tbl ps := by intro _ z; cases z) : Rl K ct F B H σ E fps ∧ H L = some o ∧ B L = F.B0 L ∧ ∀ j, L ∉ fps j := by
  have hL : H L = some o := r.gs.eq (show upd F.G L o L = some o from upd_same) hT
  have nf : ∀ j, L ∉ fps j := fun j h => by
    have := (r.fr j L h).2
    have z : upd F.G L o L = none := this
    rw [upd_same] at z; cases z
  refine ⟨⟨⟨fun a u e => r.gs.go a u ?_, fun a h => ?_, fun a h => ⟨?_, (r.gs.td a h).2⟩, r.gs.bp⟩, r.bs, r.b0, fun a h => r.nb a (.inl h), fun a h => r.dm a (.inl h), r.ln, fun i s e => ?_, r.e0, r.dj, fun i a h => ⟨(r.fr i a h).1, ?_⟩⟩, hL, r.nb L (.inr rfl), nf⟩
  · show upd F.G L o a = some u
    rw [upd_ne (ne_of_none e hG)]; exact e
  · obtain ⟨p0, e0⟩ := r.gs.tf a h
    refine ⟨p0, ?_⟩
    have e1 : upd F.G L o a = some (.tbl p0) := e0
    unfold upd at e1
    split at e1
    · exact absurd (Option.some.inj e1) (hT p0)
    · exact e1
  · rcases (r.gs.td a h).1 with z | z
    · exact z
    · subst z
      obtain ⟨p0, e0⟩ := r.gs.tf _ h
      have e1 : upd F.G a o a = some (.tbl p0) := e0
      rw [upd_same] at e1
      exact absurd (Option.some.inj e1) (hT p0)
  · obtain ⟨v, h1, h2⟩ := r.en i s e
    exact ⟨v, h1, SlR.frame (F := F.plus L o) (F' := F) rfl h2 fun a ha hn z => hn (.inl z)⟩
  · have := (r.fr i a h).2
    have z : upd F.G L o a = none := this
    rw [upd_ne] at z
    · exact z
    · rintro rfl; exact nf i h
/-- what was laid meanwhile is from now on data -/
theorem Rl.freeze {L : Addr} {o : HO} (r : Rl K ct F B H σ E fps) (hL : H L = some o) (hB : B L = none) (hf : ∀ j, L ∉ fps j) (hD : ¬ F.Dm L) : Rl K ct F (upd B L o) H σ E fps ∧ Same B (upd B L o) := by
  have sb : Same B (upd B L o) := fun b u e => by rw [upd_ne (ne_of_none e hB)]; exact e
  refine ⟨r.move sb r.gs.go (fun b u e => ?_) (fun a h => ?_) r.dm (fun _ _ _ => rfl) (fun i a h => ?_), sb⟩
  · unfold upd at e
    split at e
    · rename_i z; subst z; rw [hL]; exact e
    · exact r.bs b u e
  · rw [upd_ne]
    rintro rfl; exact hD h
  · rw [upd_ne]
    · exact (r.fr i a h).1
    · rintro rfl; exact hf i h
/-- the list at L has grown; nobody knows it -/
theorem Rl.grown {L : Addr} {o : HO} (r : Rl K ct F B H σ E fps) (hG : F.G L = none) (hB : B L = none) (hf : ∀ j, L ∉ fps j) (hD : ¬ F.Dm L) : Rl K ct F B (upd H L o) σ E fps :=
  r.move (Same.refl B) (fun a u e => by rw [upd_ne (ne_of_none e hG)]; exact r.gs.go a u e) (fun a u e => by rw [upd_ne (ne_of_none e hB)]; exact r.bs a u e) (fun _ _ => rfl)
    (fun a h => by
      obtain ⟨u, hu⟩ := r.dm a h
      exact ⟨u, by rw [upd_ne]; exact hu; rintro rfl; exact hD h⟩) (fun i b h => upd_ne (by rintro rfl; exact hf i h)) fun i a h => (r.fr i a h).1
end
section
variable {X : Cx} {ct : Ct} {W : WX}
abbrev PTd (X : Cx) (ct : Ct) (ifs : List Expr) (t : M Bool) : Prop := PTs X ifs (tMT X.K ct W0 t)
theorem ts_nil : PTd X ct [] mYes := by
  refine ⟨fun pins s σ H Q I h => ?_⟩
  obtain ⟨F, B, E, fps, rl, h⟩ := h
  exact pts_nil.run pins s σ H Q I (h true B H _ rl (Same.refl B) rfl)
theorem ts_one {c : Expr} {t : M Bool} (h : Td X ct W0 c t) : PTd X ct [c] t := pts_one h
theorem wipe_outs {σ σ2 : L2.St} {is vs : List Nat} (h : Outs is (L2.wipe σ vs) σ2) (hs : ∀ i ∈ is, i ∈ vs) : L2.wipe σ2 vs = L2.wipe σ vs := by
  apply List.ext_getElem?
  intro j
  have hl : σ2.length = σ.length := by rw [h.1, wipe_length]
  rw [wipe_get, wipe_get, hl]
  by_cases hj : j ∈ vs ∧ j < σ.length
  · rw [if_pos hj, if_pos hj]
  · rw [if_neg hj, if_neg hj]
    by_cases hv : j ∈ vs
    · have hn : ¬ j < σ.length := fun z => hj ⟨hv, z⟩
      rw [List.getElem?_eq_none (by omega), List.getElem?_eq_none (by omega)]
    · rw [h.2 j (fun z => hv (hs j z)), wipe_get, if_neg hj]
theorem lc_imp {mi : M (List D)} {is : List Nat} {g : GM} {t : M Bool} {m : M D} {vs : List Nat} (hv : ∀ i ∈ is, i ∈ vs) :
    ∀ σ H Q, tM X.K ct W (mLc mi g t m vs) σ H Q → tLc (tIt X.K ct W mi) (tGt X.K ct is g) (tMT X.K ct W0 t) (tM X.K ct W0 m) vs σ H Q := by
  intro σ H Q h
  obtain ⟨F, B, E, fps, rl, h⟩ := h
  refine ⟨F, B, E, fps, rl, (Pst.bind h).imp ?_⟩
  rintro J H1 ⟨ds, E1, B1, fps1, rl1, s1, ok, h1⟩
  split at h1
  case isFalse => exact h1.elim
  rename_i hc
  obtain ⟨hf, hz⟩ := Bool.and_eq_true_iff.mp hc
  have hz' : ds.length ≤ sizeLine := by simpa using hz
  cases ec : compD g t m vs ds (wipeE vs E1) with
  | none => rw [ec] at h1; exact h1.elim
  | some res =>
    obtain ⟨out, Ee⟩ := res
    rw [ec] at h1
    intro L hL
    have hGL : F.G L = none := rl1.gs.free hL
    have hB1 : B1 L = none := rl1.bs.free hL
    have hB0 : F.B0 L = none := rl1.b0.free hB1
    have hDm : ¬ F.Dm L := fun z => by
      obtain ⟨o, ho⟩ := rl1.dm L z
      rw [hL] at ho; cases ho
    have hfL : ∀ j, L ∉ fps1 j := fun j z => by
      obtain ⟨o, ho⟩ := rl1.mem z
      rw [hL] at ho; cases ho
    refine ⟨fun i k H => k = ds.length - i ∧ i ≤ ds.length ∧ ∃ B E fps acc accD rest, Rl X.K ct F B H (L2.wipe σ vs) E fps ∧ Same B1 B ∧ B L = none ∧ (∀ j, L ∉ fps j) ∧ H L = some (.lst acc) ∧ RpL X.K ct B acc accD ∧ acc.length ≤ i ∧
      out = accD ++ rest ∧ compD g t m vs (ds.drop i) E = some (rest, Ee), ⟨ds.length, by simp, Nat.zero_le _, ?_⟩, ?_⟩
    · have rg := rl1.grown (o := .lst []) hGL hB1 hfL hDm
      obtain ⟨fps2, rw2, sub2⟩ := rg.wipe vs
      exact ⟨B1, _, fps2, [], [], out, rw2, Same.refl _, hB1, fun j z => hfL j (sub2 j L z), upd_same, .nil, Nat.zero_le _, by simp, by simpa using ec⟩
    · rintro i k H2 ⟨rfl, hi, B2, E2, fps2, acc, accD, rest, rl2, s2, hB2, hf2, hL2, ra, hal, eo, ecd⟩
      have sH : Same B1 H2 := s2.trans rl2.bs
      by_cases hlt : i < ds.length
      · refine .inr ⟨ok.go i H2 sH hlt, fun H' => ∃ B E fps acc accD rest, Rl X.K ct F B H' (L2.wipe σ vs) E fps ∧ Same B1 B ∧ B L = none ∧ (∀ j, L ∉ fps j) ∧ H' L = some (.lst acc) ∧ RpL X.K ct B acc accD ∧ acc.length ≤ i + 1 ∧
          out = accD ++ rest ∧ compD g t m vs (ds.drop (i + 1)) E = some (rest, Ee), fun H' q => ⟨ds.length - (i + 1), by omega, rfl, hlt, q⟩, ?_⟩
        intro x H3 hy
        obtain ⟨d, hd, hx⟩ := ok.yld i H2 x H3 sH hlt hy
        have hdrop : ds.drop i = d :: ds.drop (i + 1) := by
          rw [List.drop_eq_getElem_cons hlt]
          rw [List.getElem?_eq_getElem hlt] at hd
          rw [Option.some.inj hd]
        rw [hdrop] at ecd
        obtain ⟨B3, rl3, s3, rp3, hB3, hL3⟩ : ∃ B3, Rl X.K ct F B3 H3 (L2.wipe σ vs) E2 fps2 ∧ Same B2 B3 ∧ Rp X.K ct B3 x d ∧ B3 L = none ∧ H3 L = some (.lst acc) := by
          rcases hx with ⟨rfl, rp⟩ | ⟨p, o, hn, rfl, rfl, rp⟩
          · exact ⟨B2, rl2, Same.refl _, rp.mono s2, hB2, hL2⟩
          · obtain ⟨q1, q2⟩ := rl2.laid (o := o) hn
            have hpL : L ≠ p := ne_of_none hL2 hn
            refine ⟨_, q1, q2, rp.mono fun b u e => ?_, by rw [upd_ne hpL]; exact hB2, by rw [upd_ne hpL]; exact hL2⟩
            unfold upd at e ⊢
            split at e
            · rw [if_pos (by assumption)]; exact e
            · rw [if_neg (by assumption)]; exact s2 b u e
        unfold compD at ecd
        cases eg : g d E2 with
        | none => rw [eg] at ecd; cases ecd
        | some E3 =>
          rw [eg] at ecd
          dsimp only at ecd
          have rp3' := rl3.plus (o := .lst acc) hL3 hB3 hf2 hB0
          refine ⟨F.plus L (.lst acc), B3, E2, fps2, d, rp3', rp3, E3, eg, fun σ4 fps4 rl4 ou => ⟨wipe_outs ou hv, ?_⟩⟩
          have hwp := wipe_outs ou hv
          cases et : t E3 with
          | bad => rw [et] at ecd; cases ecd
          | ex x E4 => rw [et] at ecd; cases ecd
          | ok b E4 =>
            rw [et] at ecd
            refine ⟨F.plus L (.lst acc), B3, E3, fps4, rl4, ?_⟩
            rw [et]
            intro b' B5 H5 fp5 rl5 s5 eb
            subst eb
            cases b' with
            | false =>
              show ∃ B E fps acc accD rest, _
              obtain ⟨rm, hL5, hB5, hf5⟩ := rl5.minus hGL
              obtain ⟨fp6, rw6, sub6⟩ := rm.wipe vs
              rw [hwp] at rw6
              exact ⟨B5, _, fp6, acc, accD, rest, rw6, (s2.trans s3).trans s5, hB5.trans hB0, fun j z => hf5 j (sub6 j L z), hL5, (ra.mono s3).mono s5, by omega, eo, ecd⟩
            | true =>
              show tM X.K ct W0 m σ4 H5 _
              dsimp only at ecd
              refine ⟨F.plus L (.lst acc), B5, E4, fp5, rl5, ?_⟩
              cases em : m E4 with
              | bad => rw [em] at ecd; cases ecd
              | ex x E5 => rw [em] at ecd; cases ecd
              | ok y E5 =>
                rw [em] at ecd
                dsimp only at ecd
                obtain ⟨res, e1, e2⟩ := Option.map_eq_some_iff.mp ecd
                obtain ⟨rest2, Ee2⟩ := res
                have e3 : y :: rest2 = rest ∧ Ee2 = Ee := by simpa using e2
                obtain ⟨e4, e5⟩ := e3
                subst e4 e5
                intro v B6 H6 fp6 rl6 s6 rp6
                obtain ⟨rm, hL6, hB6, hf6⟩ := rl6.minus hGL
                have hB6' := hB6.trans hB0
                refine ⟨acc, hL6, by omega, ?_⟩
                have rg := rm.grown (o := .lst (acc ++ [v])) hGL hB6' hf6 hDm
                obtain ⟨fp7, rw7, sub7⟩ := rg.wipe vs
                rw [hwp] at rw7
                refine ⟨B6, _, fp7, acc ++ [v], accD ++ [y], rest2, rw7, ((s2.trans s3).trans s5).trans s6, hB6', fun j z => hf6 j (sub7 j L z), upd_same, (((ra.mono s3).mono s5).mono s6).app (.cons rp6 .nil), by simp; omega, by rw [eo]; simp, e1⟩
      · refine .inl ⟨ok.stop i H2 sH (by omega), ?_⟩
        rw [List.drop_eq_nil_of_le (by omega)] at ecd
        have e1 : rest = [] ∧ E2 = Ee := by
          have : some (([] : List D), E2) = some (rest, Ee) := ecd
          injection this with this
          injection this with q1 q2
          exact ⟨q1.symm, q2⟩
        obtain ⟨rfl, rfl⟩ := e1
        obtain ⟨q1, q2⟩ := rl2.freeze hL2 hB2 hf2 hDm
        obtain ⟨fp3, q3⟩ := Rl.rest rl1 q1 (s2.trans q2) hf
        refine h1 (.ref L) _ H2 fp3 q3 (s2.trans q2) ?_
        rw [eo, List.append_nil]
        exact .nd (show Sq X.K ct _ L .lst acc from upd_same) (ra.mono q2)
theorem d_lc {elt tg iter : Expr} {ifs : List Expr} {scope : Scope} {own : List (Str × Nat)} {pos : Pos} {mi : M (List D)} {is : List Nat} {g : GM} {t : M Bool} {m : M D} (hc : X.calm = true) (hN : X.N.Nodup) (hi : Itd' X ct W tg iter mi) (ok : BlkOk X.N X.env.scope scope own)
    (hv : ∀ i ∈ is, i ∈ own.map (·.2)) (hg : ∀ (s : Shared) (H : Hp) (C : Addr) (cl : List (Str × Addr)) (fp : List Addr), Gd (X.blk s H scope (compEnvC scope cl C X.env) fp) ct tg is g) (ht : ∀ (s : Shared) (H : Hp) (C : Addr) (cl : List (Str × Addr)) (fp : List Addr), PTd (X.blk s H scope (compEnvC scope cl C X.env) fp) ct ifs t)
    (he : ∀ (s : Shared) (H : Hp) (C : Addr) (cl : List (Str × Addr)) (fp : List Addr), Ed (X.blk s H scope (compEnvC scope cl C X.env) fp) ct W0 elt m) (hs : ∀ x, foldedSetIterable iter X.env x = pure x := by intro _; rfl) :
    Ed X ct W (.ListComp elt [⟨tg, iter, ifs, 0⟩] scope pos) (mLc mi g t m (own.map (·.2))) :=
  PE.imp (pe_lc (own := own) hc hN hi ok hg ht he hs) (lc_imp hv)
theorem s_setLc {i : Nat} {y : Str} {py spos : Pos} {elt tg iter : Expr} {ifs : List Expr} {scope : Scope} {own : List (Str × Nat)} {pos : Pos} {mi : M (List D)} {is : List Nat} {g : GM} {t : M Bool} {m : M D} (hc : X.calm = true) (hN : X.N.Nodup) (hy : X.N[i]? = some y) (hyl : X.env.scope.names.lookup y = some .local)
    (hsw : swapsWith (.ListComp elt [⟨tg, iter, ifs, 0⟩] scope pos) (some (.Name y py)) spos.line X.env = pure true) (hi : Itd' X ct W tg iter mi) (ok : BlkOk X.N X.env.scope scope own)
    (hv : ∀ i ∈ is, i ∈ own.map (·.2)) (hg : ∀ (s : Shared) (H : Hp) (C : Addr) (cl : List (Str × Addr)) (fp : List Addr), Gd (X.blk s H scope (compEnvC scope cl C X.env) fp) ct tg is g) (ht : ∀ (s : Shared) (H : Hp) (C : Addr) (cl : List (Str × Addr)) (fp : List Addr), PTd (X.blk s H scope (compEnvC scope cl C X.env) fp) ct ifs t)
    (he : ∀ (s : Shared) (H : Hp) (C : Addr) (cl : List (Str × Addr)) (fp : List Addr), Ed (X.blk s H scope (compEnvC scope cl C X.env) fp) ct W0 elt m) (hs : ∀ x, foldedSetIterable iter X.env x = pure x := by intro _; rfl) :
    Sd X ct W (.Assign [.Name y py] (.ListComp elt [⟨tg, iter, ifs, 0⟩] scope pos) spos) (sSet i (mLc mi g t m (own.map (·.2)))) := by
  refine PS.imp (ps_setLc (own := own) (wi := tIt X.K ct W mi) (g := tGt X.K ct is g) (tt := tMT X.K ct W0 t) (te := tM X.K ct W0 m) hc hN hy hyl hsw hi ok hg ht he hs) fun N σ H h => ?_
  obtain ⟨F, B, E, fps, rl, h⟩ := h
  refine lc_imp hv σ H _ ⟨F, B, E, fps, rl, (PstS.bind (σ := σ) (Rr := Rp X.K ct) h).imp ?_⟩
  rintro v H1 ⟨d, E1, B1, fps1, rl1, s1, r1, h1⟩
  exact h1 _ B1 H1 _ (rl1.setV r1) (Same.refl B1)
end
end Wu

/-! enumerate of a tuple (the library has that of a list). -/
namespace PySem
open Sem (wp)
open AutoSeq1 (wpAny_loadPart')
namespace WuEnum
abbrev itO (t : Addr) : Obj := { cls := .type "tuple_iterator", data := .fields #[.ref t, .int 0 0] }
abbrev enO (it : Addr) : Obj := { cls := .type "enumerate", data := .fields #[.none, .bool false, .ref it, rawInt 0, .none, .none] }
theorem new_of (t : Addr) (items : Array Value) (n : Nat) (dct : Option Addr) (sl : Array (Option Value)) :
    Meets (Builtin.«enumerate.__new__» ⟨[.type "enumerate", .ref t], []⟩) (fun _ R s =>
      s.heap.get? t = some { cls := .type "tuple", dict := dct, data := .seq items n, slots := sl } ∧
      R (.ok (.ret (.ref (s.heap.push (itO t)).objs.size))) { s with heap := (s.heap.push (itO t)).push (enO s.heap.objs.size) }) :=
  .of_wp fun prog w A R s h => by
    obtain ⟨hp, g, d, tk, os⟩ := s
    obtain ⟨ht, h⟩ := h
    have hsub := sub_enumerate
    have hT : Heap.IsTuple (Shared.heap ⟨hp, g, d, tk, os⟩) t items := ⟨_, ht, rfl, n, rfl⟩
    wp_walk using wpAny_loadPart' ht
    refine wpAny_stack_any fun st => wpAny_pure ?_
    split
    · rename_i c _ _ _ _ _
      cases (c == Value.type "enumerate") <;>
      · wp_walk using wpAny_loadPart' ht, wpAny_pyIter_tuple hT
        exact ⟨_, rfl, h⟩
    · wp_walk using wpAny_loadPart' ht, wpAny_pyIter_tuple hT
      exact ⟨_, rfl, h⟩
theorem call_of {prog : Program} {w : World} {A : Around} {E : Value → Shared → Prop} {s : Shared} {t : Addr} {items : Array Value} {Q : Value → Shared → Prop} (hT : s.heap.IsTuple t items)
    (h : ∀ h', IsEnum h' (s.heap.objs.size + 1) s.heap.objs.size 0 .none → h'.IsTupleIter s.heap.objs.size t 0 → (∀ b o, s.heap.get? b = some o → h'.get? b = some o) → Q (.ref (s.heap.objs.size + 1)) { s with heap := h' }) :
    wpAny (model prog w) A (call (.type "enumerate") [.ref t]) Q E s := by
  obtain ⟨⟨c, dct, dt, sl⟩, ht, hc, n, hd⟩ := hT
  have hc' : c = .type "tuple" := hc
  have hd' : dt = .seq items n := hd
  subst hc' hd'
  refine callType_new F.called_enumerate (by decide) (F.typeCall_enumerate_1 _) (F.newCall_enumerate_1 _) (fun obj => F.args_object_init_2 obj _) F.entry_enumerate_new (new_of t items n dct sl) ⟨ht, ?_⟩
  have hz : (s.heap.push (itO t)).objs.size = s.heap.objs.size + 1 := Heap.size_push ..
  show _ ∧ _
  rw [hz]
  have he : IsEnum ((s.heap.push (itO t)).push (enO s.heap.objs.size)) (s.heap.objs.size + 1) s.heap.objs.size 0 .none := by
    have z := Heap.get?_push_size (s.heap.push (itO t)) (o := enO s.heap.objs.size) rfl
    rw [hz] at z
    exact z
  exact ⟨⟨_, he, rfl⟩, h _ he ⟨_, Heap.get?_push_of_some _ (Heap.get?_push_size _ rfl), rfl, rfl⟩ fun b o x => Heap.get?_push_of_some _ (Heap.get?_push_of_some _ x)⟩
end WuEnum
end PySem
namespace Wu
open PySem PySem.Spec PyProof.Rows L2
/-- the tuple at a, its items in new pairs with their numbers -/
def ItE (K : PySem.W.Frag) (a : Addr) : It :=
  ⟨fun i H => ∃ (xs : List V) (x : V), SqT K H a xs ∧ xs[i]? = some x,
   fun i H v H' => ∃ T x, v = .ref T ∧ H T = none ∧ H' = upd H T (.tup [.int (i : Nat), x]) ∧ ∀ xs, SqT K H a xs → xs[i]? = some x,
   fun i H => ∃ xs : List V, SqT K H a xs ∧ xs.length = i⟩
theorem turnE {P : Program} {w : World} {K : PySem.W.Frag} {elts : List Expr} {kk : Nat} {tpos : Pos} (a e it : Addr) :
    Turn P w K (.Tuple elts kk tpos) (ItE K a) [e, it] e (fun i h => (∃ old, IsEnum h e it ((i : Nat) : Int) old) ∧ h.IsTupleIter it a i ∧ e ≠ it ∧ a ≠ it ∧ a ≠ e) where
  mem := by simp
  obj := fun i h st b hb => by
    obtain ⟨⟨old, he⟩, ⟨o, ho, hc, hd⟩, _⟩ := st
    rcases (by simpa using hb : b = e ∨ b = it) with rfl | rfl
    · exact ⟨_, he, fun v q => nomatch q⟩
    · exact ⟨o, ho, fun v q => by rw [hd] at q; cases q⟩
  keep := fun i h h' st k => by
    obtain ⟨⟨old, he⟩, hi, hne⟩ := st
    exact ⟨⟨old, k e (by simp) _ he⟩, hi.at fun o q => k it (by simp) o q, hne⟩
  item := by
    intro X hP hw hK hc i pins s σ H E I hf st hg
    subst hP hw hK
    obtain ⟨⟨old, he⟩, hit, hne, hai, hae⟩ := st
    obtain ⟨xs, x, hq, hx⟩ := hg
    obtain ⟨its, rv, p, hz⟩ := I.tuple hq
    obtain ⟨u, hu, ru⟩ := rv.get hx
    have hel : e < s.heap.objs.size := Heap.lt_size he
    have hil : it < s.heap.objs.size := by
      obtain ⟨_, q, _⟩ := id hit
      exact Heap.lt_size q
    have hlen : i < its.toArray.size := by
      have := (List.getElem?_eq_some_iff.mp hu).1
      simpa using this
    have dr := Draws.tuple (prog := X.prog) (w := X.w) (A := X.A.in1) (by rw [Around.in1_handled]; exact I.ok.hd hc) it a hai its.toArray
    refine wpAny_pyNext_enum_itemD dr he ⟨hit, p⟩ hlen hne (by simp only [List.mem_cons, List.not_mem_nil, or_false, not_or]; exact ⟨hne, fun z => hae z.symm⟩) fun y h' tk hy ho hst hT hsz hk => ?_
    have hyu : y = u := by
      have z : its[i]? = some y := by simpa using hy
      rw [hu] at z
      exact (Option.some.inj z).symm
    subst hyu
    refine ⟨_, rfl, wpAny_letOwnedTupleGo_enum (s := { s with heap := h', toks := tk + 1 }) ho fun h'' he' sb => ?_⟩
    have hT2 : h''.get? s.heap.objs.size = some { cls := .type "tuple", data := .seq #[.int i tk, y] } := (sb.2 _ (Nat.ne_of_gt hel)).trans hT
    have new : ObjOk X.prog X.w (upd H s.heap.objs.size (.tup [.int (i : Nat), x])) h'' s.heap.objs.size (.tup [.int (i : Nat), x]) :=
      ⟨by show 2 ≤ sizeLine; decide, [.int i tk, y], .cons ⟨_, rfl⟩ (.cons ru .nil), ⟨_, hT2, rfl, _, rfl⟩⟩
    have I1 : Inv X pins σ (upd H s.heap.objs.size (.tup [.int (i : Nat), x])) { s with heap := h'', toks := tk + 1 } :=
      I.turnedNew (ch := [e, it]) (fun b ob hb q => (sb.2 b (fun z => hb (by simp [z]))).trans (hk b ob (fun z => hb (by simp [z])) (fun z => hb (by simp [z])) q)) hf (Nat.le_refl _) new
    refine ⟨.ref s.heap.objs.size, _, I1, rfl, ⟨_, x, rfl, I.hok.fresh (Nat.le_refl _), rfl, fun ys hy => by rw [I.tuple_inj hy hq]; exact hx⟩, ⟨⟨y, ?_⟩, hst.1.at fun o q => (sb.2 it (Ne.symm hne)).trans q, hne, hai, hae⟩, fun b hb => ?_⟩
    · have e1 : ((i + 1 : Nat) : Int) = (i : Int) + 1 := by omega
      rw [e1]; exact he'
    · have hb' : b < s.heap.objs.size := by
        rcases (by simpa using hb : b = e ∨ b = it) with rfl | rfl
        · exact hel
        · exact hil
      rw [upd_ne (Nat.ne_of_lt hb')]
      exact (hf b hb).1
  done := by
    intro X hP hw hK hc i pins s σ H E I hf st hg
    subst hP hw hK
    obtain ⟨⟨old, he⟩, hit, hne, hai, hae⟩ := st
    obtain ⟨xs, hq, hx⟩ := hg
    obtain ⟨its, rv, p, hz⟩ := I.tuple hq
    obtain ⟨f0, f1, f2, f3, f4, f5⟩ := hf it (by simp)
    have hl := rv.length
    have hsz : its.toArray.size = i := by simp; omega
    have dr := Draws.tuple (prog := X.prog) (w := X.w) (A := X.A.in1) (by rw [Around.in1_handled]; exact I.ok.hd hc) it a hai its.toArray
    refine wpAny_pyNext_enum_endD dr he (by rw [hsz]; exact ⟨hit, p⟩) fun h' eb => ⟨rfl, I.turned (t' := s.toks) (fun b o hb q => eb b o hb q) f0 f1 f3 f4 f5⟩
  self := fun A i s Q E st h => by
    obtain ⟨⟨_, he⟩, _⟩ := st
    exact wpAny_pyIter_enum he h
def iEnT (K : PySem.W.Frag) (ta : TA) : TI := fun σ H R => ta σ H fun vs H1 => ∃ a xs, vs = [.ref a] ∧ SqT K H1 a xs ∧ R (ItE K a) H1
theorem pi_enT {X : Cx} {e : Expr} {ta : TA} {p pos tpos : Pos} {elts : List Expr} {kk : Nat} (hg : Gl X "enumerate") (hm : X.mg "enumerate" = none) (ha : PA X [e] ta) (hs : starEach [e] X.env = [(false, eval e X.env)] := by rfl) :
    PI X (.Tuple elts kk tpos) (.Call (.Name "enumerate" p) [e] [] pos) (iEnT X.K ta) := by
  constructor
  intro pins s σ H R I h
  refine Call_ (ld_blt I hg hm boot_enumerate (PyProof.Rows.callWith_type1 (thn (ha.run pos pins s σ H _ I h) ?_) hs rfl))
  rintro us s1 ⟨vs, H1, I1, r1, a, xs, rfl, hq, q⟩
  obtain ⟨u, rfl, ru⟩ := vals1 r1
  cases ru
  obtain ⟨its, rv, p', hz⟩ := I1.tuple hq
  have hlt : a < s1.heap.objs.size := by
    obtain ⟨o, ho, _⟩ := id p'
    exact Heap.lt_size ho
  refine PySem.WuEnum.call_of p' fun h' he hit hk => wpAny_pyIter_enum he ?_
  have I2 : Inv X pins σ H1 { s1 with heap := h' } := I1.kept (t' := s1.toks) hk
  refine ⟨s1.heap.objs.size + 1, [s1.heap.objs.size + 1, s1.heap.objs.size], _, _, H1, rfl, I2, turnE a (s1.heap.objs.size + 1) s1.heap.objs.size, ⟨⟨.none, he⟩, hit, Nat.succ_ne_self _, Nat.ne_of_lt hlt, Nat.ne_of_lt (Nat.lt_succ_of_lt hlt)⟩, fun b hb => ?_, q⟩
  have hle : s1.heap.objs.size ≤ b := by
    rcases (by simpa using hb : b = s1.heap.objs.size + 1 ∨ b = s1.heap.objs.size) with rfl | rfl
    · exact Nat.le_add_right _ _
    · exact Nat.le_refl _
  exact I1.fpOk hle (I1.hok.fresh hle)

/-- the items with their numbers -/
def numD (l : List D) : List D := l.zipIdx.map fun p => .nd .pr [.int (p.2 : Int), p.1]
def pEnum : D → Option (List D)
  | .nd .tup l => some (numD l)
  | .nd .lst l => some (numD l)
  | .nd .scr l => some (numD l)
  | _ => none
def mEnum (m : M D) : M (List D) := m.bnd fun d => .opt (pEnum d)
section
variable {X : Cx} {ct : Ct} {W : WX}
theorem numD_get {l : List D} {i : Nat} {d : D} (h : l[i]? = some d) : (numD l)[i]? = some (.nd .pr [.int (i : Int), d]) := by
  unfold numD
  rw [List.getElem?_map, List.getElem?_zipIdx, h]
  simp
theorem numD_len (l : List D) : (numD l).length = l.length := by simp [numD]
theorem pair_new {K : PySem.W.Frag} {B H : Hp} {T : Addr} {i : Nat} {x : V} {d : D} (s : Same B H) (n : H T = none) (r : Rp K ct B x d) : Rp K ct (upd B T (.tup [.int (i : Nat), x])) (.ref T) (.nd .pr [.int (i : Int), d]) :=
  new_pr (same_new s n) (.cons (.int _) (.cons r .nil))
theorem it_enT {K : PySem.W.Frag} {B : Hp} {a : Addr} {xs : List V} {ds : List D} (h : SqT K B a xs) (r : RpL K ct B xs ds) : ItOk K ct (ItE K a) B (numD ds) where
  go := fun i H s hi => ⟨xs, xs[i]'(by rw [r.len, ← numD_len]; exact hi), sqT_mono s h, by rw [List.getElem?_eq_getElem]⟩
  yld := fun i H x H' s hi ⟨T, y, e1, e2, e3, k⟩ => by
    obtain ⟨d, h1, h2⟩ := r.getV (k xs (sqT_mono s h))
    exact ⟨_, numD_get h1, .inr ⟨T, _, e2, e1, e3, pair_new s e2 h2⟩⟩
  stop := fun i H s hi => ⟨xs, sqT_mono s h, by rw [r.len, ← numD_len]; exact hi⟩
theorem it_enL {K : PySem.W.Frag} {B : Hp} {a : Addr} {xs : List V} {ds : List D} (h : SqL K B a xs) (r : RpL K ct B xs ds) : ItOk K ct (Ite K a) B (numD ds) where
  go := fun i H s hi => ⟨xs, xs[i]'(by rw [r.len, ← numD_len]; exact hi), s.seq h, by rw [List.getElem?_eq_getElem]⟩
  yld := fun i H x H' s hi ⟨T, y, e1, e2, e3, k⟩ => by
    obtain ⟨d, h1, h2⟩ := r.getV (k xs (s.seq h))
    exact ⟨_, numD_get h1, .inr ⟨T, _, e2, e1, e3, pair_new s e2 h2⟩⟩
  stop := fun i H s hi => ⟨xs, s.seq h, by rw [r.len, ← numD_len]; exact Nat.le_of_eq hi⟩
/-- for i, x in enumerate(e) -/
theorem i_enum {e : Expr} {p pos tpos : Pos} {elts : List Expr} {kk : Nat} {m : M D} (hg : Gl X "enumerate") (hm : X.mg "enumerate" = none) (he : Ed X ct W e m) (hs : starEach [e] X.env = [(false, eval e X.env)] := by rfl) :
    Itd' X ct W (.Tuple elts kk tpos) (.Call (.Name "enumerate" p) [e] [] pos) (mEnum m) := by
  have h1 := pi_enum (elts := elts) (kk := kk) (tpos := tpos) (p := p) (pos := pos) hg hm (pa_cons he pa_nil hs) hs
  have h2 := pi_enT (elts := elts) (kk := kk) (tpos := tpos) (p := p) (pos := pos) hg hm (pa_cons he pa_nil hs) hs
  refine ⟨fun pins s σ H R I h => ?_⟩
  obtain ⟨F, B, E, fps, rl, h⟩ := h
  have h0 : Pst X.K ct (fun B (J : It) ds => ItOk X.K ct J B ds) W F B σ ((m E).bind fun d => M.opt (pEnum d)) R := h
  cases em : m E with
  | bad => rw [em] at h0; exact h0.elim
  | ex x E1 =>
    rw [em] at h0
    refine h1.run pins s σ H R I ⟨F, B, E, fps, rl, ?_⟩
    rw [em]; exact h0
  | ok d E1 =>
    rw [em] at h0
    obtain ⟨l, el, h0⟩ := opt_of (show Pst X.K ct (fun B (J : It) ds => ItOk X.K ct J B ds) W F B σ (M.opt (pEnum d) E1) R from h0)
    unfold pEnum at el
    split at el
    · cases el
      refine h2.run pins s σ H R I ⟨F, B, E, fps, rl, ?_⟩
      rw [em]
      intro v B1 H1 fp1 rl1 s1 rp
      obtain ⟨a, xs, rfl, hx, rx⟩ := rp.ndI
      exact ⟨a, xs, rfl, sqT_mono rl1.bs hx.t, h0 _ B1 H1 fp1 rl1 s1 (it_enT hx.t rx)⟩
    · cases el
      refine h1.run pins s σ H R I ⟨F, B, E, fps, rl, ?_⟩
      rw [em]
      intro v B1 H1 fp1 rl1 s1 rp
      obtain ⟨a, xs, rfl, hx, rx⟩ := rp.ndI
      exact ⟨a, xs, rfl, SqL.of (rl1.bs _ _ hx), h0 _ B1 H1 fp1 rl1 s1 (it_enL (SqL.of hx) rx)⟩
    · cases el
      refine h1.run pins s σ H R I ⟨F, B, E, fps, rl, ?_⟩
      rw [em]
      intro v B1 H1 fp1 rl1 s1 rp
      obtain ⟨a, xs, rfl, hx, rx⟩ := rp.ndI
      exact ⟨a, xs, rfl, rl1.bs.seq hx, h0 _ B1 H1 fp1 rl1 s1 (it_enL hx rx)⟩
    · cases el
end
end Wu

/-! Subscripts, slices; owned lists; owned things seen as data. -/
namespace Wu
open PySem PySem.Spec PyProof.Rows L2

/-! ### x[i] -/
def pIx : D → D → Option D
  | .nd .tup l, .int i => atI l i
  | .nd .lst l, .int i => atI l i
  | .nd .scr l, .int i => atI l i
  | .str z, .int i => if z.length ≤ sizeLine then (atI z.cps.toList i).map fun c => .str ⟨#[c]⟩ else none
  | _, _ => none
section
variable {K : PySem.W.Frag} {ct : Ct}
theorem RpL.atI {B : Hp} {xs : List V} {ds : List D} {i : Int} {d : D} (r : RpL K ct B xs ds) (e : L2.atI ds i = some d) : ∃ v, L2.atI xs i = some v ∧ Rp K ct B v d := by
  unfold L2.atI at e ⊢
  rw [r.len]
  obtain ⟨j, e1, e2⟩ := Option.bind_eq_some_iff.mp e
  obtain ⟨v, h1, h2⟩ := r.get e2
  exact ⟨v, by rw [e1]; exact h1, h2⟩
theorem ok_ix : OpOk K ct (rIx K) pIx := by
  intro B H x y a b d Q s ra rb e o
  unfold pIx at e
  split at e
  · obtain ⟨p, xs, rfl, hx, rx⟩ := ra.ndI
    obtain ⟨v, h1, h2⟩ := rx.atI e
    exact .inr (.inl ⟨p, xs, _, v, rfl, rb.intI, sqT_mono s hx.t, h1, o.1 _ h2⟩)
  · obtain ⟨p, xs, rfl, hx, rx⟩ := ra.ndI
    obtain ⟨v, h1, h2⟩ := rx.atI e
    exact .inl ⟨p, xs, _, v, rfl, rb.intI, SqL.of (s _ _ hx), h1, o.1 _ h2⟩
  · obtain ⟨p, xs, rfl, hx, rx⟩ := ra.ndI
    obtain ⟨v, h1, h2⟩ := rx.atI e
    exact .inl ⟨p, xs, _, v, rfl, rb.intI, s.seq hx, h1, o.1 _ h2⟩
  · split at e
    · obtain ⟨c, e1, e2⟩ := Option.map_eq_some_iff.mp e
      subst e2
      exact .inr (.inr ⟨_, _, c, ra.strI, rb.intI, by assumption, e1, o.1 _ (.str _)⟩)
    · cases e
  · cases e
end

/-! ### x[a:b] -/
def cutD (l : List D) (lo hi : Option Int) : List D := (l.drop (HT.sIx l.length 0 lo)).take (HT.sIx l.length l.length hi - HT.sIx l.length 0 lo)
def pSl (lo hi : Option Int) : D → Option D
  | .nd .tup l => some (.tup (cutD l lo hi))
  | .nd .lst l => some (.lst (cutD l lo hi))
  | .str z => if z.length ≤ sizeLine then some (.str (cutS z lo hi)) else none
  | _ => none
/-- a part of a slice -/
def mPart : Option (M D) → M (Option Int)
  | none => .ret none
  | some m => m.bnd fun d => match d with
    | .int i => .ret (some i)
    | _ => .bad
def mSl (m : M D) (lo hi : Option (M D)) : M D := m.bnd fun d => (mPart lo).bnd fun a => (mPart hi).bnd fun b => .opt (pSl a b d)
abbrev RpO : Hp → Option Int → Option Int → Prop := fun _ a b => a = b
abbrev tMO (K : PySem.W.Frag) (ct : Ct) (W : WX) (m : M (Option Int)) : TO := tG K ct RpO W m
/-- t[lo:hi] -/
def rSlX (K : PySem.W.Frag) : V → Option Int → Option Int → Hp → VK → Prop := fun x lo hi H Q => ∃ a xs, x = .ref a ∧ SqT K H a xs ∧
  (HT.sIx xs.length 0 lo = 0 ∧ HT.sIx xs.length xs.length hi = xs.length → Q (.ref a) H) ∧ (¬ (HT.sIx xs.length 0 lo = 0 ∧ HT.sIx xs.length xs.length hi = xs.length) → Lay H (cutV xs lo hi) Q)
theorem sl_tupX {X : Cx} : L2.SlR X (rSlX X.K) := by
  intro pins s σ H x v vl vu lo hi sl Q I rx hs pl pu h
  obtain ⟨a, xs, rfl, hx, q1, q2⟩ := h
  by_cases hw : HT.sIx xs.length 0 lo = 0 ∧ HT.sIx xs.length xs.length hi = xs.length
  · exact sl_tupA pins s σ H _ v vl vu lo hi sl Q I rx hs pl pu ⟨a, xs, rfl, hx, q1, fun z => absurd hw z⟩
  · cases rx
    obtain ⟨its, r, ht, hz⟩ := I.tuple hx
    have hlen : its.toArray.size = xs.length := by rw [List.size_toArray]; exact r.length.symm
    refine ⟨"tuple", _, PyProof.Rows.slot_tuple_getitem.lookup, ht.typeIs, ?_⟩
    refine HT.getItem_tuple_cut ht hs pl pu (by rw [hlen]; exact hw) ?_ (by rw [hlen]; exact hz)
    rw [hlen]
    exact laid_tup I (q2 hw) (Nat.le_trans (cutV_length xs lo hi) hz) ((r.drop (HT.sIx xs.length 0 lo)).take (HT.sIx xs.length xs.length hi - HT.sIx xs.length 0 lo))
abbrev rSlAll (K : PySem.W.Frag) : V → Option Int → Option Int → Hp → VK → Prop := fun x lo hi H Q => rSlX K x lo hi H Q ∨ (rSlL K x lo hi H Q ∨ rSlS x lo hi H Q)
section
variable {X : Cx} {ct : Ct} {W : WX}
theorem PO.imp {e : Option Expr} {t u : TO} (h : PO X e t) (k : ∀ σ H Q, u σ H Q → t σ H Q) : PO X e u := ⟨fun pins s σ H Q I q => h.run pins s σ H Q I (k σ H Q q)⟩
abbrev Od (X : Cx) (ct : Ct) (W : WX) (e : Option Expr) (m : Option (M D)) : Prop := PO X e (tMO X.K ct W (mPart m))
theorem o_none : Od X ct W none none := by
  refine PO.imp po_none fun σ H Q h => ?_
  obtain ⟨F, B, E, fps, rl, h⟩ := h
  exact h none B H _ rl (Same.refl B) rfl
theorem o_some {e : Expr} {m : M D} (h : Ed X ct W e m) : Od X ct W (some e) (some m) := by
  refine PO.imp (po_some h) fun σ H Q h => ?_
  obtain ⟨F, B, E, fps, rl, h⟩ := h
  refine ⟨F, B, E, fps, rl, (Pst.bind h).imp ?_⟩
  rintro v H1 ⟨d, E1, B1, fps1, rl1, s1, r1, h1⟩
  cases d with
  | int i => cases r1; exact ⟨i, rfl, h1 (some i) B1 H1 _ rl1 (Same.refl B1) rfl⟩
  | non => exact h1.elim
  | bl b => exact h1.elim
  | str x => exact h1.elim
  | nd q l => exact h1.elim
theorem SlR.or {r r' : V → Option Int → Option Int → Hp → VK → Prop} (h : L2.SlR X r) (h' : L2.SlR X r') : L2.SlR X (fun x lo hi H Q => r x lo hi H Q ∨ r' x lo hi H Q) := by
  intro pins s σ H x v vl vu lo hi sl Q I rx hs pl pu q
  rcases q with q | q
  · exact h pins s σ H x v vl vu lo hi sl Q I rx hs pl pu q
  · exact h' pins s σ H x v vl vu lo hi sl Q I rx hs pl pu q
theorem sl_all : L2.SlR X (rSlAll X.K) := SlR.or sl_tupX (SlR.or sl_list sl_str)
theorem RpL.cut {K : PySem.W.Frag} {B : Hp} {xs : List V} {ds : List D} (r : RpL K ct B xs ds) (lo hi : Option Int) : RpL K ct B (cutV xs lo hi) (cutD ds lo hi) := by
  unfold cutV cutD
  rw [r.len]
  exact (r.drop _).take _
theorem d_sl {e : Expr} {lo hi : Option Expr} {p2 pos : Pos} {m : M D} {ml mh : Option (M D)} (he : Ed X ct W e m) (hl : Od X ct W lo ml) (hh : Od X ct W hi mh) : Ed X ct W (.Subscript e (.Slice lo hi none p2) pos) (mSl m ml mh) := by
  refine PE.imp (pe_slice sl_all he hl hh) fun σ H Q h => ?_
  obtain ⟨F, B, E, fps, rl, h⟩ := h
  refine ⟨F, B, E, fps, rl, (Pst.bind h).imp ?_⟩
  rintro v H1 ⟨d, E1, B1, fps1, rl1, s1, r1, h1⟩
  refine ⟨F, B1, E1, fps1, rl1, (Pst.bind h1).imp ?_⟩
  rintro a H2 ⟨a', E2, B2, fps2, rl2, s2, r2, h2⟩
  cases r2
  refine ⟨F, B2, E2, fps2, rl2, (Pst.bind h2).imp ?_⟩
  rintro b H3 ⟨b', E3, B3, fps3, rl3, s3, r3, h3⟩
  cases r3
  obtain ⟨z, ez, h4⟩ := opt_of h3
  have r1' := (r1.mono s2).mono s3
  have o := out_of rl3 h4
  unfold pSl at ez
  split at ez
  · rename_i l
    cases ez
    obtain ⟨p, xs, rfl, hx, rx⟩ := r1'.ndI
    refine .inl ⟨p, xs, rfl, sqT_mono rl3.bs hx.t, fun hw => ?_, fun _ => lay_of o rl3.bs (rx.cut a b)⟩
    refine o.1 _ ?_
    have : cutD l a b = l := by
      unfold cutD
      rw [rx.len] at hw
      rw [hw.1, hw.2]; simp
    rw [this]
    exact .nd hx rx
  · cases ez
    obtain ⟨p, xs, rfl, hx, rx⟩ := r1'.ndI
    exact .inr (.inl ⟨p, xs, rfl, SqL.of (rl3.bs _ _ hx), fun t ht => o.2 t _ ht (new_lst (same_new rl3.bs ht) (rx.cut a b))⟩)
  · split at ez
    · cases ez
      exact .inr (.inr ⟨_, r1'.strI, by assumption, o.1 _ (.str _)⟩)
    · cases ez
  · cases ez
theorem d_ix {a b : Expr} {pos : Pos} {ma mb : M D} (ha : Ed X ct W a ma) (hb : Ed X ct W b mb) (hs : PlainIx b := by intro _ _; rfl) : Ed X ct W (.Subscript a b pos) (mOp pIx ma mb) := PE.imp (pe_ix ix_seq ha hb hs) ok_ix.imp
end

/-! ### owned lists -/
/-- x = [e, ..], a list that will be changed -/
def sNew (i : Nat) (ms : M (List D)) : SM := ms.bnd fun ds E => if ds.length ≤ sizeLine then .ok .nx (E.set i (.own none (.nd .lst ds))) else .bad
/-- x.append(e) -/
def isOwnL (E : Env') (i : Nat) : Bool := match E[i]? with
  | some (.own _ (.nd .lst _)) => true
  | _ => false
def sApp (i : Nat) (m : M D) : SM := fun E => if isOwnL E i then (m.bnd fun d E => match E[i]? with
  | some (.own ix (.nd .lst l)) => if l.length < sizeLine then .ok .nx (E.set i (.own ix (.nd .lst (l ++ [d])))) else .bad
  | _ => .bad) E else .bad
/-- x.extend(e), e a list -/
def sExt (i : Nat) (m : M D) : SM := fun E => if isOwnL E i then (m.bnd fun d E => match E[i]?, d with
  | some (.own ix (.nd .lst l)), .nd .lst r => if l.length + r.length ≤ sizeLine then .ok .nx (E.set i (.own ix (.nd .lst (l ++ r)))) else .bad
  | _, _ => .bad) E else .bad
section
variable {K : PySem.W.Frag} {ct : Ct} {F : Fm} {B B' H H' : Hp} {σ : L2.St} {E : Env'} {fps : Nat → List Addr}
/-- a slot gets an owned thing, newly laid -/
theorem Rl.setO {i : Nat} {a : Addr} {o : HO} {c : Ow} (r : Rl K ct F B H σ E fps) (n : H a = none) (h : OwAt K ct B (upd H a o) a [a] c) (hi : i < E.length) :
    Rl K ct F B (upd H a o) (σ.set i (some (.ref a))) (E.set i (.own none c)) (fun j => if j = i then [a] else fps j) := by
  have nd : ¬ F.Dm a := fun z => by
    obtain ⟨u, hu⟩ := r.dm a z
    rw [n] at hu; cases hu
  have nB : B a = none := r.bs.free n
  have nG : F.G a = none := r.gs.free n
  have nf : ∀ j, a ∉ fps j := fun j z => by
    obtain ⟨u, hu⟩ := r.mem z
    rw [n] at hu; cases hu
  have g := r.grown (o := o) nG nB nf nd
  refine ⟨g.gs, g.bs, g.b0, g.nb, g.dm, by simpa using r.ln, fun j s e => ?_, fun j e => ?_, fun j k b hj hk => ?_, fun j b hj => ?_⟩
  · by_cases hj : j = i
    · subst hj
      rw [List.getElem?_set_self hi] at e
      cases e
      refine ⟨some (.ref a), List.getElem?_set_self (by rw [r.ln]; exact hi), ?_⟩
      rw [if_pos rfl]
      exact ⟨a, rfl, nd, h⟩
    · rw [List.getElem?_set_ne (Ne.symm hj)] at e
      obtain ⟨v, h1, h2⟩ := g.en j s e
      exact ⟨v, by rw [List.getElem?_set_ne (Ne.symm hj)]; exact h1, by rw [if_neg hj]; exact h2⟩
  · by_cases hj : j = i
    · subst hj
      rw [List.getElem?_set_self hi] at e; cases e
    · rw [if_neg hj]
      rw [List.getElem?_set_ne (Ne.symm hj)] at e
      exact r.e0 j e
  · by_cases h1 : j = i
    · by_cases h2 : k = i
      · rw [h1, h2]
      · rw [if_pos h1] at hj; rw [if_neg h2] at hk
        have : b = a := by simpa using hj
        subst this
        exact absurd hk (nf k)
    · by_cases h2 : k = i
      · rw [if_neg h1] at hj; rw [if_pos h2] at hk
        have : b = a := by simpa using hk
        subst this
        exact absurd hj (nf j)
      · rw [if_neg h1] at hj; rw [if_neg h2] at hk
        exact r.dj j k b hj hk
  · by_cases h1 : j = i
    · rw [if_pos h1] at hj
      have : b = a := by simpa using hj
      subst this
      exact ⟨nB, nG⟩
    · rw [if_neg h1] at hj
      exact r.fr j b hj
/-- an owned thing is changed where it stands -/
theorem Rl.chg {i : Nat} {a : Addr} {o : HO} {ix : Option Nat} {c c' : Ow} (r : Rl K ct F B H σ E fps) (e : E[i]? = some (.own ix c)) (ha : σ[i]? = some (some (.ref a))) (hf : a ∈ fps i) (hF : fps i = [a]) (h : OwAt K ct B (upd H a o) a [a] c') :
    Rl K ct F B (upd H a o) σ (E.set i (.own ix c')) fps := by
  obtain ⟨nB, nG⟩ := r.fr i a hf
  have hi : i < E.length := (List.getElem?_eq_some_iff.mp e).1
  refine ⟨⟨fun b u q => ?_, r.gs.tf, r.gs.td, r.gs.bp⟩, fun b u q => ?_, r.b0, r.nb, fun b q => ?_, by simpa using r.ln, fun j s q => ?_, fun j q => ?_, r.dj, r.fr⟩
  · rw [upd_ne (ne_of_none q nG)]; exact r.gs.go b u q
  · rw [upd_ne (ne_of_none q nB)]; exact r.bs b u q
  · by_cases hb : b = a
    · subst hb; exact ⟨o, upd_same⟩
    · rw [upd_ne hb]; exact r.dm b q
  · by_cases hj : j = i
    · subst hj
      rw [List.getElem?_set_self hi] at q
      cases q
      obtain ⟨v, h1, a', h2, h3, _⟩ := r.en j _ e
      rw [ha] at h1
      have : some (V.ref a) = v := Option.some.inj h1
      rw [h2] at this
      have ea : a = a' := by injection (Option.some.inj this)
      subst ea
      exact ⟨some (.ref a), ha, a, rfl, h3, by rw [hF]; exact h⟩
    · rw [List.getElem?_set_ne (Ne.symm hj)] at q
      obtain ⟨v, h1, h2⟩ := r.en j s q
      refine ⟨v, h1, h2.mono (Same.refl B) fun b hb => upd_ne ?_⟩
      rintro rfl
      exact hj (r.dj j i b hb hf)
  · by_cases hj : j = i
    · subst hj
      rw [List.getElem?_set_self hi] at q; cases q
    · rw [List.getElem?_set_ne (Ne.symm hj)] at q
      exact r.e0 j q
end
section
variable {X : Cx} {ct : Ct} {W : WX}
theorem s_new {i : Nat} {x : Str} {es : List Expr} {ms : M (List D)} {pos pos' p2 : Pos} (hN : X.N.Nodup) (hi : X.N[i]? = some x) (hx : Loc X.env.scope x) (he : Ad X ct W es ms) (hs : swapsWith (.List es p2) (some (.Name x pos')) pos.line X.env = pure false := by rfl)
    (hf : X.fn x = true ∨ X.env.scope.names.lookup x = some .local := by first | exact .inl rfl | exact .inr rfl | assumption) (hl : ∀ σ H F B E fps, Rl X.K ct F B H σ E fps → i < E.length → True := by intros; trivial) :
    Sd X ct W (.Assign [.Name x pos'] (.List es p2) pos) (sNew i ms) := by
  refine ⟨fun pins s σ H N I h => ?_⟩
  have hlen : i < σ.length := by rw [I.len]; exact (List.getElem?_eq_some_iff.mp hi).1
  refine (ps_set hN hi hx (pe_lst he) hs hf).run pins s σ H N I ?_
  obtain ⟨F, B, E, fps, rl, h⟩ := h
  refine ⟨F, B, E, fps, rl, (PstS.bind (σ := σ) (Rr := RpL X.K ct) h).imp ?_⟩
  rintro vs H1 ⟨ds, E1, B1, fps1, rl1, s1, r1, h1⟩
  split at h1
  · rename_i hd
    refine ⟨by rw [r1.len]; exact hd, fun p hp => ?_⟩
    exact h1 _ B1 _ _ (rl1.setO hp ⟨rfl, vs, upd_same, r1⟩ (by rw [← rl1.ln]; exact hlen)) (Same.refl B1)
  · exact h1.elim
theorem own_lst {K : PySem.W.Frag} {F : Fm} {B H : Hp} {σ : L2.St} {E : Env'} {fps : Nat → List Addr} {i : Nat} {ix : Option Nat} {l : List D} (r : Rl K ct F B H σ E fps) (e : E[i]? = some (.own ix (.nd .lst l))) :
    ∃ a xs, σ[i]? = some (some (.ref a)) ∧ fps i = [a] ∧ H a = some (.lst xs) ∧ RpL K ct B xs l := by
  obtain ⟨o, h1, a, h2, h3, h4, xs, h5, h6⟩ := r.en i _ e
  exact ⟨a, xs, by rw [h1, h2], h4, h5, h6⟩
theorem s_app (i : Nat) {x : Str} {e : Expr} {m : M D} {p1 p2 pos spos : Pos} (he : Ed X ct W e m) (hN : X.N[i]? = some x := by rfl)
    (hv : Vis X.env.scope x := by first | exact Or.inl rfl | exact Or.inr (Or.inl rfl) | exact Or.inr (Or.inr rfl)) (hd : (x == ("__debug__" : Str)) = false := by decide) (hcd : (x == ("__classdict__" : Str)) = false := by decide)
    (h1 : starEach [e] X.env = (false, eval e X.env) :: starEach [] X.env := by rfl)
    (hbase : attributeBase (.Name x p1) "append" X.env (eval (.Name x p1) X.env) = eval (.Name x p1) X.env := by rfl)
    (hfew : ((backTo pos (starEach [e] X.env)).all (fun x => !x.1) && (backToKw pos (keywordEach [] X.env)).all (fun x => x.1.isSome)
      && decide ([e].length + ([] : List Keyword).length + (if ([] : List Keyword).isEmpty then 0 else 1) < 30)) = true := by rfl)
    (hline : (p2.endLine == pos.line) = true := by rfl) (hpl : (backTo pos (starEach [] X.env)).any (·.1) = false := by rfl)
    (hs : swapsWith (.Call (.Attribute (.Name x p1) "append" p2) [e] [] pos) none spos.line X.env = pure false := by rfl) :
    Sd X ct W (.Expr (.Call (.Attribute (.Name x p1) "append" p2) [e] [] pos) spos) (sApp i m) := by
  refine PS.imp (ps_expr (pe_bm PySem.F.plainAttrs_list PySem.F.slot_list_append PySem.F.type_list_append mt_append (pe_var hN hv hd hcd) (pa_cons he pa_nil h1) hbase hfew hline h1 hpl) hs) fun N σ H h => ?_
  obtain ⟨F, B, E, fps, rl, h⟩ := h
  have h' : PstS X.K ct W F B (sApp i m E) N := h
  unfold sApp at h'
  split at h'
  case isFalse => exact h'.elim
  rename_i ho
  unfold isOwnL at ho
  split at ho
  case h_2 => cases ho
  rename_i ix c e0
  obtain ⟨a, xs, k1, k2, k3, k4⟩ := own_lst rl e0
  refine ⟨.ref a, k1, .inl ⟨rfl, xs, SqL.of k3⟩, F, B, E, fps, rl, (PstS.bind (σ := σ) (Rr := Rp X.K ct) h').imp ?_⟩
  rintro v H1 ⟨d, E1, B1, fps1, rl1, s1, r1, h2⟩
  split at h2
  · rename_i ix1 l e1
    split at h2
    · rename_i hl
      obtain ⟨a1, xs1, q1, q2, q3, q4⟩ := own_lst rl1 e1
      have : a1 = a := by
        rw [k1] at q1
        injection (Option.some.inj (Option.some.inj q1)) with z
        exact z.symm
      subst this
      refine ⟨a1, xs1, v, rfl, rfl, q3, by rw [q4.len]; exact hl, ?_⟩
      exact h2 σ B1 _ fps1 (rl1.chg e1 q1 (by rw [q2]; simp) q2 ⟨rfl, _, upd_same, q4.app (.cons r1 .nil)⟩) (Same.refl B1)
    · exact h2.elim
  · exact h2.elim
theorem s_ext (i : Nat) {x : Str} {e : Expr} {m : M D} {p1 p2 pos spos : Pos} (he : Ed X ct W e m) (hN : X.N[i]? = some x := by rfl)
    (hv : Vis X.env.scope x := by first | exact Or.inl rfl | exact Or.inr (Or.inl rfl) | exact Or.inr (Or.inr rfl)) (hd : (x == ("__debug__" : Str)) = false := by decide) (hcd : (x == ("__classdict__" : Str)) = false := by decide)
    (h1 : starEach [e] X.env = (false, eval e X.env) :: starEach [] X.env := by rfl)
    (hbase : attributeBase (.Name x p1) "extend" X.env (eval (.Name x p1) X.env) = eval (.Name x p1) X.env := by rfl)
    (hfew : ((backTo pos (starEach [e] X.env)).all (fun x => !x.1) && (backToKw pos (keywordEach [] X.env)).all (fun x => x.1.isSome)
      && decide ([e].length + ([] : List Keyword).length + (if ([] : List Keyword).isEmpty then 0 else 1) < 30)) = true := by rfl)
    (hline : (p2.endLine == pos.line) = true := by rfl) (hpl : (backTo pos (starEach [] X.env)).any (·.1) = false := by rfl)
    (hs : swapsWith (.Call (.Attribute (.Name x p1) "extend" p2) [e] [] pos) none spos.line X.env = pure false := by rfl) :
    Sd X ct W (.Expr (.Call (.Attribute (.Name x p1) "extend" p2) [e] [] pos) spos) (sExt i m) := by
  refine PS.imp (ps_expr (pe_bm PySem.F.plainAttrs_list PySem.F.slot_list_extend PySem.F.type_list_extend mt_extend (pe_var hN hv hd hcd) (pa_cons he pa_nil h1) hbase hfew hline h1 hpl) hs) fun N σ H h => ?_
  obtain ⟨F, B, E, fps, rl, h⟩ := h
  have h' : PstS X.K ct W F B (sExt i m E) N := h
  unfold sExt at h'
  split at h'
  case isFalse => exact h'.elim
  rename_i ho
  unfold isOwnL at ho
  split at ho
  case h_2 => cases ho
  rename_i ix c e0
  obtain ⟨a, xs, k1, k2, k3, k4⟩ := own_lst rl e0
  refine ⟨.ref a, k1, .inl ⟨rfl, xs, SqL.of k3⟩, F, B, E, fps, rl, (PstS.bind (σ := σ) (Rr := Rp X.K ct) h').imp ?_⟩
  rintro v H1 ⟨d, E1, B1, fps1, rl1, s1, r1, h2⟩
  split at h2
  · rename_i ix1 l r e1
    split at h2
    · rename_i hl
      obtain ⟨a1, xs1, q1, q2, q3, q4⟩ := own_lst rl1 e1
      have : a1 = a := by
        rw [k1] at q1
        injection (Option.some.inj (Option.some.inj q1)) with z
        exact z.symm
      subst this
      obtain ⟨b, ys, rfl, hb, rb⟩ := r1.ndI
      refine ⟨a1, b, xs1, ys, rfl, rfl, q3, rl1.bs _ _ hb, by rw [q4.len, rb.len]; exact hl, ?_⟩
      exact h2 σ B1 _ fps1 (rl1.chg e1 q1 (by rw [q2]; simp) q2 ⟨rfl, _, upd_same, q4.app rb⟩) (Same.refl B1)
    · exact h2.elim
  · exact h2.elim

/-! ### owned things, for a while seen as data -/
def Sl.view : Sl → Sl
  | .own _ (.nd k l) => .val (.nd k l)
  | s => s
def viewE (E : Env') : Env' := E.map Sl.view
def unv1 : Sl → Sl → Sl
  | .own ix (.dr _), .own _ (.dr s) => .own ix (.dr s)
  | .own _ (.dr _), _ => .und
  | s, _ => s
/-- E again, with the draws' states of E' -/
def unvE (E E' : Env') : Env' := E.mapIdx fun j s => unv1 s (E'.getD j .und)
mutual
/-- nothing in it can be changed -/
def D.pure : D → Bool
  | .non => true
  | .bl _ => true
  | .int _ => true
  | .str _ => true
  | .nd k l => (match k with | .tup => true | _ => false) && pureL l
def pureL : List D → Bool
  | [] => true
  | d :: l => d.pure && pureL l
end
def Exn.pure (x : Exn) : Bool := pureL x.vs
def mView (m : M D) : M D := fun E => match m (viewE E) with
  | .ok d E' => if d.pure then .ok d (unvE E E') else .bad
  | _ => .bad
def mViewB (m : M Bool) : M Bool := fun E => match m (viewE E) with
  | .ok b E' => .ok b (unvE E E')
  | _ => .bad
section
variable {K : PySem.W.Frag} {F : Fm} {B B' H H' : Hp} {σ : L2.St} {E E' : Env'} {fps fps' : Nat → List Addr}
mutual
theorem Rp.keep (k : ∀ m a xs, SqX K m B a xs → SqX K m B' a xs) : ∀ (d : D) (v : V), Rp K ct B v d → d.pure = true → Rp K ct B' v d
  | .non, _, h, _ => by cases h; exact .non
  | .bl b, _, h, _ => by cases h; exact .bl b
  | .int i, _, h, _ => by cases h; exact .int i
  | .str x, _, h, _ => by cases h; exact .str x
  | .nd q l, v, h, p => by
    have p' := Bool.and_eq_true_iff.mp (show (_ && pureL l) = true from p)
    cases h with
    | nd h r =>
      cases q with
      | tup => exact .nd (show Sq K ct B' _ .tup _ from k _ _ _ h) (RpL.keep k l _ r p'.2)
      | pr => cases p'.1
      | lst => cases p'.1
      | scr => cases p'.1
      | dct ks => cases p'.1
      | dtt ks => cases p'.1
      | ob c fs => cases p'.1
      | exn c fs => cases p'.1
theorem RpL.keep (k : ∀ m a xs, SqX K m B a xs → SqX K m B' a xs) : ∀ (ds : List D) (vs : List V), RpL K ct B vs ds → pureL ds = true → RpL K ct B' vs ds
  | [], _, h, _ => by cases h; exact .nil
  | d :: ds, _, h, p => by
    have p' := Bool.and_eq_true_iff.mp (show (d.pure && pureL ds) = true from p)
    cases h with
    | cons h r => exact .cons (Rp.keep k d _ h p'.1) (RpL.keep k ds _ r p'.2)
end
/-- the data with what is owned (but the draws) besides -/
noncomputable def plusO (B H : Hp) (p : Addr → Prop) : Hp := fun a => by classical exact if p a then H a else B a
theorem plusO_in {p : Addr → Prop} {a : Addr} (h : p a) : plusO B H p a = H a := by unfold plusO; rw [if_pos h]
theorem plusO_out {p : Addr → Prop} {a : Addr} (h : ¬ p a) : plusO B H p a = B a := by unfold plusO; rw [if_neg h]
/-- upon which addresses things stand that are seen as data -/
def VP (E : Env') (fps : Nat → List Addr) (a : Addr) : Prop := ∃ j ix k l, E[j]? = some (.own ix (.nd k l)) ∧ a ∈ fps j
noncomputable def Fm.view (F : Fm) (H : Hp) (p : Addr → Prop) : Fm := ⟨F.G, plusO F.B0 H p, F.Dm, F.ar⟩
theorem viewE_get (E : Env') (j : Nat) : (viewE E)[j]? = (E[j]?).map Sl.view := by unfold viewE; rw [List.getElem?_map]
theorem Rl.view (r : Rl K ct F B H σ E fps) : ∃ fps', Rl K ct (F.view H (VP E fps)) (plusO B H (VP E fps)) H σ (viewE E) fps' ∧ (∀ j ix s, E[j]? = some (.own ix (.dr s)) → fps' j = fps j) ∧ ∀ j ix k l, E[j]? = some (.own ix (.nd k l)) → fps' j = [] := by
  have nB : ∀ {a}, VP E fps a → B a = none := fun {a} ⟨j, ix, k, l, h1, h2⟩ => (r.fr j a h2).1
  have sB : Same B (plusO B H (VP E fps)) := fun a o e => by
    rw [plusO_out]
    · exact e
    · intro z; rw [nB z] at e; cases e
  have gv : SameT ct (F.view H (VP E fps)) (plusO B H (VP E fps)) H := by
    have g1 := r.gs.mono sB
    refine ⟨g1.go, g1.tf, fun a h => ⟨(r.gs.td a h).1, ?_⟩, g1.bp⟩
    show plusO F.B0 H (VP E fps) a = none
    rw [plusO_out]
    · exact (r.gs.td a h).2
    · rintro ⟨j, ix, k, l, h1, h2⟩
      obtain ⟨p0, e0⟩ := r.gs.tf a h
      rw [(r.fr j a h2).2] at e0; cases e0
  refine ⟨fun j => match E[j]? with | some (.own _ (.dr _)) => fps j | _ => [], ⟨gv, fun a o e => ?_, fun a o e => ?_, fun a h => ?_, r.dm, by unfold viewE; rw [List.length_map]; exact r.ln, fun j s e => ?_, fun j e => ?_, fun i j a hi hj => ?_, fun j a hj => ?_⟩, fun j ix s e => by dsimp only; rw [e], fun j ix k l e => by dsimp only; rw [e]⟩
  · by_cases h : VP E fps a
    · rw [plusO_in h] at e; exact e
    · rw [plusO_out h] at e; exact r.bs a o e
  · have e' : plusO F.B0 H (VP E fps) a = some o := e
    by_cases h : VP E fps a
    · rw [plusO_in h] at e' ⊢; exact e'
    · rw [plusO_out h] at e' ⊢; exact r.b0 a o e'
  · show plusO B H _ a = plusO F.B0 H _ a
    by_cases h' : VP E fps a
    · rw [plusO_in h', plusO_in h']
    · rw [plusO_out h', plusO_out h']; exact r.nb a h
  · rw [viewE_get] at e
    obtain ⟨s0, e1, e2⟩ := Option.map_eq_some_iff.mp e
    obtain ⟨o, h1, h2⟩ := r.en j s0 e1
    refine ⟨o, h1, ?_⟩
    rw [e1]
    cases s0 with
    | und => subst e2; rfl
    | fn => subst e2; exact ⟨rfl, h2.2⟩
    | val d => subst e2; obtain ⟨_, v, q1, q2⟩ := h2; exact ⟨rfl, v, q1, q2.mono sB⟩
    | own ix c =>
      cases c with
      | dr s =>
        subst e2
        obtain ⟨a, q1, q2, q3⟩ := h2
        refine ⟨a, q1, ?_, q3.mono sB fun _ _ => rfl⟩
        cases ix with
        | none => exact q2
        | some i => exact q2
      | nd k l =>
        subst e2
        obtain ⟨a, q1, q2, q3⟩ := h2
        have inn : ∀ b ∈ fps j, plusO B H (VP E fps) b = H b := fun b hb => plusO_in ⟨j, ix, k, l, e1, hb⟩
        refine ⟨rfl, .ref a, q1, ?_⟩
        cases k with
        | lst =>
          obtain ⟨f, xs, p1, p2⟩ := q3
          exact .nd (show plusO B H _ a = some (.lst xs) by rw [inn a (by rw [f]; simp)]; exact p1) (p2.mono sB)
        | dct ks =>
          obtain ⟨f, xs, p0, p1, p2⟩ := q3
          exact .nd (show Sq K ct _ a (.dct ks) xs from ⟨p0, .inl (by rw [inn a (by rw [f]; simp)]; exact p1)⟩) (p2.mono sB)
        | dtt ks =>
          obtain ⟨f, xs, p0, p1, p2⟩ := q3
          exact .nd (show Sq K ct _ a (.dtt ks) xs from ⟨p0, .inl (by rw [inn a (by rw [f]; simp)]; exact p1)⟩) (p2.mono sB)
        | ob c fs =>
          obtain ⟨dx, xs, f, p0, p1, p3, p2⟩ := q3
          exact .nd (show Sq K ct _ a (.ob c fs) xs from ⟨p0, dx, by rw [inn a (by rw [f]; simp)]; exact p1⟩) (p2.mono sB)
        | tup => exact q3.elim
        | scr => exact q3.elim
        | pr => exact q3.elim
        | exn c fs => exact q3.elim
  · have e1 : E[j]? = none := by rw [viewE_get] at e; simpa using e
    rw [e1]
  · have hi' : a ∈ fps i := by revert hi; split <;> intro z; exact z; cases z
    have hj' : a ∈ fps j := by revert hj; split <;> intro z; exact z; cases z
    exact r.dj i j a hi' hj'
  · revert hj
    split
    · rename_i ix s e1
      intro hj
      refine ⟨?_, (r.fr j a hj).2⟩
      rw [plusO_out]
      · exact (r.fr j a hj).1
      · rintro ⟨j', ix', k, l, q1, q2⟩
        have := r.dj j j' a hj q2
        subst this
        rw [e1] at q1; cases q1
    · intro z; cases z
theorem Rl.unview {B' H' : Hp} {E' : Env'} {fps' : Nat → List Addr} (r : Rl K ct F B H σ E fps) (r' : Rl K ct (F.view H (VP E fps)) B' H' σ E' fps') (s : Same (plusO B H (VP E fps)) B') :
    ∃ B2 fps2, Rl K ct F B2 H' σ (unvE E E') fps2 ∧ Same B B2 ∧ ∀ m a xs, SqX K m B' a xs → SqX K m B2 a xs := by
  have nB : ∀ {a}, VP E fps a → B a = none := fun {a} ⟨j, ix, k, l, h1, h2⟩ => (r.fr j a h2).1
  have at_ : ∀ {a}, VP E fps a → ∃ o, H a = some o ∧ B' a = some o ∧ H' a = some o := fun {a} h => by
    obtain ⟨j, ix, k, l, h1, h2⟩ := id h
    obtain ⟨o, ho⟩ := r.mem h2
    have e : B' a = some o := s a o (by rw [plusO_in h]; exact ho)
    exact ⟨o, ho, e, r'.bs a o e⟩
  have sB2 : Same B (off B' (VP E fps)) := fun a o e => by
    have hn : ¬ VP E fps a := fun z => by rw [nB z] at e; cases e
    rw [off_out hn]
    exact s a o (by rw [plusO_out hn]; exact e)
  have gs1 : SameT ct (F.view H (VP E fps)) B' H' := r'.gs
  have gs2 : SameT ct F (off B' (VP E fps)) H' := by
    refine ⟨fun a o e => ?_, gs1.tf, r.gs.td, ct.bm sB2 r.gs.bp⟩
    rcases gs1.go a o e with h | ⟨p0, p1, h1, h2, h3, h4, h5⟩
    · exact .inl h
    · refine .inr ⟨p0, p1, h1, h2, h3, h4, fun pos cv q => ?_⟩
      obtain ⟨c, e1, e2⟩ := h5 pos cv q
      refine ⟨c, e1, ?_⟩
      rw [off_out]
      · exact e2
      · intro z
        obtain ⟨o', k1, k2, _⟩ := at_ z
        obtain ⟨j, ix, k, l, z1, z2⟩ := z
        rw [e2] at k2
        cases k2
        exact r.nx z2 _ k1
  refine ⟨off B' (VP E fps), fun j => match E[j]? with
    | some (.own _ (.nd _ _)) => fps j
    | some (.own _ (.dr _)) => (match E'[j]? with | some (.own _ (.dr _)) => fps' j | _ => [])
    | _ => [], ⟨gs2, fun a o e => r'.bs a o (off_same _ _ a o e), r.b0.trans sB2, fun a h => ?_, r'.dm, by unfold unvE; rw [List.length_mapIdx]; exact r.ln, fun j sl e => ?_, fun j e => ?_, fun i j a hi hj => ?_, fun j a hj => ?_⟩, sB2, fun m a xs h => ?_⟩
  · by_cases hv : VP E fps a
    · rw [off_in hv, ← r.nb a h, nB hv]
    · rw [off_out hv]
      have e : B' a = plusO F.B0 H (VP E fps) a := r'.nb a h
      rw [e, plusO_out hv]
  · unfold unvE at e
    rw [List.getElem?_mapIdx] at e
    obtain ⟨s0, e1, e2⟩ := Option.map_eq_some_iff.mp e
    obtain ⟨o, h1, h2⟩ := r.en j s0 e1
    refine ⟨o, h1, ?_⟩
    rw [e1]
    cases s0 with
    | und => subst e2; rfl
    | fn => subst e2; exact ⟨rfl, h2.2⟩
    | val d => subst e2; obtain ⟨_, v, q1, q2⟩ := h2; exact ⟨rfl, v, q1, q2.mono sB2⟩
    | own ix c =>
      cases c with
      | nd k l =>
        subst e2
        exact SlR.mono sB2 h2 fun b hb => by
          obtain ⟨u, k1, _, k3⟩ := at_ ⟨j, ix, k, l, e1, hb⟩
          rw [k1, k3]
      | dr s1 =>
        cases e3 : E'[j]? with
        | none =>
          rw [List.getD_eq_getElem?_getD, e3] at e2
          subst e2; rfl
        | some s2 =>
          rw [List.getD_eq_getElem?_getD, e3] at e2
          cases s2 with
          | und => subst e2; rfl
          | fn => subst e2; rfl
          | val d => subst e2; rfl
          | own ix2 c2 =>
            cases c2 with
            | nd k l => subst e2; rfl
            | dr s3 =>
              subst e2
              obtain ⟨o', p1, a', p2, p3, p4⟩ := r'.en j _ e3
              rw [h1] at p1
              have eo : o = o' := Option.some.inj p1
              obtain ⟨a, q1, q2, q3⟩ := h2
              have ea : a' = a := by
                rw [← eo, q1] at p2
                injection (Option.some.inj p2) with z
                exact z.symm
              subst ea
              exact ⟨a', q1, q2, p4⟩
  · unfold unvE at e
    rw [List.getElem?_mapIdx] at e
    have e1 : E[j]? = none := by simpa using e
    rw [e1]
  · have split : ∀ {i}, a ∈ (match E[i]? with
      | some (.own _ (.nd _ _)) => fps i
      | some (.own _ (.dr _)) => (match E'[i]? with | some (.own _ (.dr _)) => fps' i | _ => [])
      | _ => []) → (VP E fps a ∧ a ∈ fps i) ∨ a ∈ fps' i := by
      intro i h
      split at h
      · rename_i ix k l e1; exact .inl ⟨⟨i, ix, k, l, e1, h⟩, h⟩
      · split at h
        · exact .inr h
        · cases h
      · cases h
    rcases split hi with ⟨v1, k1⟩ | k1
    · rcases split hj with ⟨_, k2⟩ | k2
      · exact r.dj i j a k1 k2
      · obtain ⟨o, _, z, _⟩ := at_ v1
        rw [(r'.fr j a k2).1] at z; cases z
    · rcases split hj with ⟨v2, k2⟩ | k2
      · obtain ⟨o, _, z, _⟩ := at_ v2
        rw [(r'.fr i a k1).1] at z; cases z
      · exact r'.dj i j a k1 k2
  · split at hj
    · rename_i ix k l e1
      exact ⟨off_in ⟨j, ix, k, l, e1, hj⟩, (r.fr j a hj).2⟩
    · split at hj
      · refine ⟨?_, (r'.fr j a hj).2⟩
        by_cases hv : VP E fps a
        · exact off_in hv
        · rw [off_out hv]; exact (r'.fr j a hj).1
      · cases hj
    · cases hj
  · have nt : ∀ {u}, B' a = some u → VP E fps a → (∀ ys, u ≠ .tup ys) ∧ ∀ ob ys, u ≠ .frz ob ys := fun {u} hu hv => by
      obtain ⟨j, ix, k, l, e1, hb⟩ := id hv
      obtain ⟨o, k1, k2, _⟩ := at_ hv
      rw [hu] at k2
      have eu : u = o := Option.some.inj k2
      subst eu
      obtain ⟨v, h1, a', h2, h3, h4⟩ := r.en j _ e1
      cases k with
      | lst =>
        obtain ⟨f, ys, p1, _⟩ := h4
        rw [f] at hb
        have : a = a' := by simpa using hb
        subst this
        rw [p1] at k1; cases k1
        exact ⟨fun _ z => (by cases z), fun _ _ z => (by cases z)⟩
      | dct ks =>
        obtain ⟨f, ys, _, p1, _⟩ := h4
        rw [f] at hb
        have : a = a' := by simpa using hb
        subst this
        rw [p1] at k1; cases k1
        exact ⟨fun _ z => (by cases z), fun _ _ z => (by cases z)⟩
      | dtt ks =>
        obtain ⟨f, ys, _, p1, _⟩ := h4
        rw [f] at hb
        have : a = a' := by simpa using hb
        subst this
        rw [p1] at k1; cases k1
        exact ⟨fun _ z => (by cases z), fun _ _ z => (by cases z)⟩
      | ob c fs =>
        obtain ⟨dx, ys, f, _, p1, p2, _⟩ := h4
        rw [f] at hb
        rcases (by simpa using hb : a = a' ∨ a = dx) with z | z
        · subst z
          rw [p1] at k1; cases k1
          exact ⟨fun _ z => (by cases z), fun _ _ z => (by cases z)⟩
        · subst z
          rw [p2] at k1; cases k1
          exact ⟨fun _ z => (by cases z), fun _ _ z => (by cases z)⟩
      | tup => exact h4.elim
      | scr => exact h4.elim
      | pr => exact h4.elim
      | exn c fs => exact h4.elim
    have nd : NoD K B' a → NoD K (off B' (VP E fps)) a := fun h => by
      rcases h with ⟨ob, u, h1, h⟩ | h
      · refine .inl ⟨ob, u, h1, ?_⟩
        rw [off_out (fun z => (nt h z).2 _ _ rfl)]; exact h
      · exact .inr h
    refine ⟨?_, fun e => nd (h.x e), fun e => (h.p e).imp (fun h => ?_) fun h => ⟨h.1, nd h.2⟩⟩
    · rcases h.t with (h | ⟨ob, h⟩) | h
      · refine .inl (.inl ?_)
        rw [off_out (fun z => (nt h z).1 _ rfl)]; exact h
      · refine .inl (.inr ⟨ob, ?_⟩)
        rw [off_out (fun z => (nt h z).2 _ _ rfl)]; exact h
      · exact .inr h
    · rw [off_out (fun z => (nt h z).1 _ rfl)]; exact h
end
/-- an expression that looks at owned things, and gives what can't be changed -/
theorem d_view {e : Expr} {m : M D} (h : Ed X ct W0 e m) (hx : PE X e (tM X.K ct W0 m) → PE X e (tM X.K ct W0 m) := id) : Ed X ct W e (mView m) := by
  refine PE.imp h fun σ H Q h => ?_
  obtain ⟨F, B, E, fps, rl, h⟩ := h
  obtain ⟨fps', rv, _⟩ := rl.view
  refine ⟨_, _, _, fps', rv, ?_⟩
  have h' : Pst X.K ct (Rp X.K ct) W F B σ (mView m E) Q := h
  unfold mView at h'
  cases em : m (viewE E) with
  | bad => rw [em] at h'; exact h'.elim
  | ex x E' => rw [em] at h'; exact h'.elim
  | ok d E' =>
    rw [em] at h'
    dsimp only at h'
    split at h'
    · rename_i hp
      intro v B' H' fp2 rl2 s2 rp
      obtain ⟨B3, fps3, rl3, s3, k3⟩ := rl.unview rl2 s2
      exact h' v B3 H' fps3 rl3 s3 (Rp.keep k3 d v rp hp)
    · exact h'.elim
theorem t_view {e : Expr} {m : M Bool} (h : Td X ct W0 e m) : Td X ct W e (mViewB m) := by
  refine PT.imp h fun σ H Q h => ?_
  obtain ⟨F, B, E, fps, rl, h⟩ := h
  obtain ⟨fps', rv, _⟩ := rl.view
  refine ⟨_, _, _, fps', rv, ?_⟩
  have h' : Pst X.K ct RpB W F B σ (mViewB m E) Q := h
  unfold mViewB at h'
  cases em : m (viewE E) with
  | bad => rw [em] at h'; exact h'.elim
  | ex x E' => rw [em] at h'; exact h'.elim
  | ok d E' =>
    rw [em] at h'
    intro v B' H' fp2 rl2 s2 rp
    obtain ⟨B3, fps3, rl3, s3, k3⟩ := rl.unview rl2 s2
    exact h' v B3 H' fps3 rl3 s3 rp
end
end Wu

/-! repr of data, dicts among them: the library's road asks that no list at all stands where sys.modules does; here it is asked of dicts alone. -/
namespace PySem
namespace WuRepr
variable {prog : Program} {w : World} {h₀ : Heap}
/-- no dict stands at sys.modules' place -/
def NoDict1 (h₀ : Heap) : Prop := ∀ o, h₀.get? sysModules = some o → o.cls ≠ .type "dict"
theorem apart {a : Addr} {o : Obj} (n : NoDict1 h₀) (h1 : h₀.get? a = some o) (h2 : o.cls = .type "dict") : (a == sysModules) = false := by
  cases e : a == sysModules with
  | false => rfl
  | true => rw [beq_iff_eq.mp e] at h1; exact absurd h2 (n o h1)
theorem two_le {kvs : List (PyData × PyData)} (hz : (dictText (PyData.shownKv kvs)).length ≤ sizeLine) :
    (∀ t ∈ PyData.shownAll (kvs.map (·.1)), t.length ≤ sizeLine) ∧ ∀ t ∈ PyData.shownAll (kvs.map (·.2)), t.length ≤ sizeLine := by
  constructor
  · intro t ht
    obtain ⟨p, hp, hl⟩ := PyData.shownKv_key_le kvs t ht
    exact Nat.le_trans hl (Nat.le_trans (dictText_mem_le hp) hz)
  · intro t ht
    obtain ⟨p, hp, hl⟩ := PyData.shownKv_val_le kvs t ht
    exact Nat.le_trans hl (Nat.le_trans (dictText_mem_le hp) hz)
mutual
theorem one (n : NoDict1 h₀) : ∀ {v : Value} {d : PyData} {as : List Addr}, Reads h₀ v d as → d.showable = true → d.shown.length ≤ sizeLine →
    ∃ bs, ReadAtMost h₀ d.depth bs ∧ ReprK prog w bs h₀ d.depth v d.shown
  | _, _, _, .none, _, _ => by
    refine ⟨[], (fun b h => nomatch h), ?_⟩
    simp only [PyData.shown]
    exact .of_is ReprIs.none _ _ _
  | _, _, _, .bool b, _, _ => by
    refine ⟨[], (fun b h => nomatch h), ?_⟩
    simp only [PyData.shown]
    exact .of_is (ReprIs.bool b) _ _ _
  | _, _, _, .int i t, hs, _ => by
    refine ⟨[], (fun b h => nomatch h), ?_⟩
    simp only [PyData.shown]
    exact .of_is (ReprIs.int t (by simpa [PyData.showable] using hs)) _ _ _
  | _, _, _, .str x t, _, hz => by
    refine ⟨[], (fun b h => nomatch h), ?_⟩
    simp only [PyData.shown] at hz ⊢
    exact .of_is (ReprIs.str x t hz) _ _ _
  | _, _, _, .list (a := a) (vs := vs) (xs := xs) g1 g2 g3 g4, hs, hz => by
    simp only [PyData.shown] at hz
    obtain ⟨bs, hb, hk⟩ := all n g4 (by simpa [PyData.showable] using hs) fun t ht => Nat.le_trans (listText_mem_le ht) hz
    have rd : Reads h₀ (.ref a) (.list xs) _ := .list g1 g2 g3 g4
    have fresh : a ∉ bs := not_mem_of_deeper rd (by simp only [PyData.depth]; omega) hb
    refine ⟨a :: bs, .cons rd (by simp only [PyData.depth]; omega) hb, ?_⟩
    simp only [PyData.depth, PyData.shown]
    obtain ⟨l⟩ := vs
    cases l with
    | nil =>
      have g4' : ReadsAll h₀ [] xs _ := g4
      cases g4'
      simp only [PyData.shownAll, listText_nil]
      exact .listEmpty g1 g2 g3
    | cons x l => exact .list g1 g2 g3 fresh (by simpa using hk.length_eq) fun i y e => hk.item i y (by simpa using e)
  | _, _, _, .tuple (a := a) (xs := xs) g1 g2 g3 g4, hs, hz => by
    simp only [PyData.shown] at hz
    obtain ⟨bs, hb, hk⟩ := all n g4 (by simpa [PyData.showable] using hs) fun t ht => Nat.le_trans (tupleText_mem_le ht) hz
    have rd : Reads h₀ (.ref a) (.tuple xs) _ := .tuple g1 g2 g3 g4
    refine ⟨a :: bs, .cons rd (by simp only [PyData.depth]; omega) hb, ?_⟩
    simp only [PyData.depth, PyData.shown]
    exact .tuple g1 g2 g3 (not_mem_of_deeper rd (by simp only [PyData.depth]; omega) hb) hk
  | _, _, _, .dict (a := a) (es := es) (kvs := kvs) g1 g2 g3 g4 g5, hs, hz => by
    simp only [PyData.shown] at hz
    obtain ⟨s1, s2⟩ := PyData.showableKv_split kvs (by simpa [PyData.showable] using hs)
    obtain ⟨z1, z2⟩ := two_le hz
    obtain ⟨b1, hb1, k1⟩ := all n g4 s1 z1
    obtain ⟨b2, hb2, k2⟩ := all n g5 s2 z2
    have rd : Reads h₀ (.ref a) (.dict kvs) _ := .dict g1 g2 g3 g4 g5
    have both := (hb1.mono (PyData.depthAll_keys_le kvs)).append (hb2.mono (PyData.depthAll_vals_le kvs))
    refine ⟨a :: (b1 ++ b2), .cons rd (by simp only [PyData.depth]; omega) both, ?_⟩
    simp only [PyData.depth, PyData.shown, PyData.shownKv_eq]
    refine .dict g1 g2 g3 (apart n g1 g2) (not_mem_of_deeper rd (by simp only [PyData.depth]; omega) both) ?_
    refine .of_two es.toList _ _ (k1.more_le ?_ (PyData.depthAll_keys_le kvs)) (k2.more_le ?_ (PyData.depthAll_vals_le kvs))
    · exact fun b hb => List.mem_append_left _ hb
    · exact fun b hb => List.mem_append_right _ hb
theorem all (n : NoDict1 h₀) : ∀ {vs : List Value} {ds : List PyData} {as : List Addr}, ReadsAll h₀ vs ds as → PyData.showableAll ds = true → (∀ t ∈ PyData.shownAll ds, t.length ≤ sizeLine) →
    ∃ bs, ReadAtMost h₀ (PyData.depthAll ds) bs ∧ ReprAllK prog w bs h₀ (PyData.depthAll ds) vs (PyData.shownAll ds)
  | _, _, _, .nil, _, _ => by
    refine ⟨[], (fun b h => nomatch h), ?_⟩
    simp only [PyData.shownAll]
    exact .nil
  | _, _, _, .cons (d := d) (ds := ds) r rs, hs, hz => by
    obtain ⟨s1, s2⟩ : d.showable = true ∧ PyData.showableAll ds = true := by simpa [PyData.showableAll] using hs
    simp only [PyData.shownAll] at hz
    obtain ⟨b1, hb1, k1⟩ := one n r s1 (hz _ List.mem_cons_self)
    obtain ⟨b2, hb2, k2⟩ := all n rs s2 fun t ht => hz t (List.mem_cons_of_mem _ ht)
    simp only [PyData.depthAll, PyData.shownAll]
    refine ⟨b1 ++ b2, (hb1.mono (Nat.le_max_left _ _)).append (hb2.mono (Nat.le_max_right _ _)), .cons ((k1.more ?_).level_le (Nat.le_max_left _ _)) (k2.more_le ?_ (Nat.le_max_right _ _))⟩
    · exact fun b hb => List.mem_append_left _ hb
    · exact fun b hb => List.mem_append_right _ hb
end
/-- repr of a list, a tuple, a dict -/
theorem call_repr {a : Addr} {d : PyData} {as : List Addr} {A : Around} {E : Value → Shared → Prop} {s : Shared} {Q : Value → Shared → Prop} (n : NoDict1 h₀) (r : Reads h₀ (.ref a) d as) (hs : d.showable = true) (hz : d.shown.length ≤ sizeLine)
    (hg : A.guards = some []) (hu : A.units + (d.depth + 1) < cLine) (hk : ∀ b o, h₀.get? b = some o → s.heap.get? b = some o)
    (hQ : ∀ h' u tk, (∀ b o, s.heap.get? b = some o → h'.get? b = some o) → Q (.str d.shown u) { s with heap := h', toks := tk }) : wpAny (model prog w) A (call (.builtin "repr") [.ref a]) Q E s := by
  have hg1 : A.in1.guards = some [] := hg
  have fin : ∀ (h' : Heap) (u tk : Nat), (∀ b o, s.heap.get? b = some o → h'.get? b = some o) → (fun r (s1 : Shared) => ∃ x t, r = Value.str x t ∧ Q r s1) (.str d.shown u) { s with heap := h', toks := tk } := fun h' u tk k => ⟨_, _, rfl, hQ h' u tk k⟩
  cases r with
  | list g1 g2 g3 g4 =>
    rename_i o vs m xs bs0
    simp only [PyData.shown] at hz
    obtain ⟨bs, hb, k⟩ := all (prog := prog) (w := w) n g4 (by simpa [PyData.showable] using hs) fun t ht => Nat.le_trans (listText_mem_le ht) hz
    have fresh : a ∉ bs := not_mem_of_deeper (.list g1 g2 g3 g4) (by simp only [PyData.depth]; omega) hb
    simp only [PyData.depth] at hu
    simp only [PyData.shown] at fin
    refine call_repr_slot (by omega) ⟨o, hk _ _ g1, g2⟩ F.slot_list_repr.toG ?_
    obtain ⟨l⟩ := vs
    cases l with
    | nil =>
      have g4' : ReadsAll h₀ [] xs _ := g4
      cases g4'
      simp only [PyData.shownAll, listText_nil] at fin
      exact call_list_repr_empty ⟨o, hk _ _ g1, g2⟩ (hk _ _ g1) g3 (fin s.heap _ _ fun _ _ e => e)
    | cons x l => exact call_list_reprK g1 g2 g3 fresh (by simpa using k.length_eq) (fun i y e => k.item i y (by simpa using e)) hg1 (fun b _ => Clear.nil b) (by rw [Around.in1_units]; omega) hk fin hz
  | tuple g1 g2 g3 g4 =>
    rename_i o vs m xs
    simp only [PyData.shown] at hz
    obtain ⟨bs, hb, k⟩ := all (prog := prog) (w := w) n g4 (by simpa [PyData.showable] using hs) fun t ht => Nat.le_trans (tupleText_mem_le ht) hz
    have fresh : a ∉ bs := not_mem_of_deeper (.tuple g1 g2 g3 g4) (by simp only [PyData.depth]; omega) hb
    simp only [PyData.depth] at hu
    simp only [PyData.shown] at fin
    refine call_repr_slot (by omega) ⟨o, hk _ _ g1, g2⟩ F.slot_tuple_repr ?_
    exact call_tuple_reprK g1 g2 g3 fresh k hg1 (fun b _ => Clear.nil b) (by rw [Around.in1_units]; omega) hk fin hz
  | dict g1 g2 g3 g4 g5 =>
    rename_i o es m kvs as1 bs1
    simp only [PyData.shown] at hz
    obtain ⟨s1, s2⟩ := PyData.showableKv_split kvs (by simpa [PyData.showable] using hs)
    obtain ⟨z1, z2⟩ := two_le hz
    obtain ⟨b1, hb1, k1⟩ := all (prog := prog) (w := w) n g4 s1 z1
    obtain ⟨b2, hb2, k2⟩ := all (prog := prog) (w := w) n g5 s2 z2
    have both := (hb1.mono (PyData.depthAll_keys_le kvs)).append (hb2.mono (PyData.depthAll_vals_le kvs))
    have fresh : a ∉ b1 ++ b2 := not_mem_of_deeper (.dict g1 g2 g3 g4 g5) (by simp only [PyData.depth]; omega) both
    simp only [PyData.depth] at hu
    simp only [PyData.shown, PyData.shownKv_eq] at fin
    refine call_repr_slot (by omega) ⟨o, hk _ _ g1, g2⟩ F.slot_dict_repr ?_
    refine call_dict_reprK g1 g2 g3 (apart n g1 g2) fresh (.of_two es.toList _ _ (k1.more_le ?_ (PyData.depthAll_keys_le kvs)) (k2.more_le ?_ (PyData.depthAll_vals_le kvs))) hg1 (fun b _ => Clear.nil b) (by rw [Around.in1_units]; omega) hk fin (by rw [← PyData.shownKv_eq]; exact hz)
    · exact fun b hb => List.mem_append_left _ hb
    · exact fun b hb => List.mem_append_right _ hb
end WuRepr
end PySem

/-! The laws' draws. -/
namespace Wu
open PySem PySem.Spec PyProof.Rows L2

/-- the next number below n, and the state behind it -/
def Dr.at (s : Dr) : Nat := ((s.turn + 1) % (if (s.great.length : Int) > 1 then (s.great.length : Int) else 1)).toNat
def Dr.big (s : Dr) : Int := s.great.getD s.at 0
def Dr.mix (s : Dr) : Int := (s.mixed * 6364136223846793 + 1442695040888963 * (s.turn + 1) + 11) % 2305843009213693951
def Dr.draw (s : Dr) (n : Int) : Int := if s.great ≠ [] ∧ 0 < s.big then s.big % n else s.mix / 32749 % n
def Dr.next (s : Dr) (n : Int) : Dr := if s.great ≠ [] ∧ 0 < s.big then ⟨s.mixed, s.great.set s.at (s.big / n), s.turn + 1⟩ else ⟨s.mix, s.great, s.turn + 1⟩
theorem Dr.draw_lt (s : Dr) {n : Int} (h : 0 < n) : 0 ≤ s.draw n ∧ s.draw n < n := by
  unfold Dr.draw
  split
  · exact ⟨Int.emod_nonneg _ (by omega), Int.emod_lt_of_pos _ h⟩
  · exact ⟨Int.emod_nonneg _ (by omega), Int.emod_lt_of_pos _ h⟩
theorem Dr.at_lt (s : Dr) (h : s.great ≠ []) : s.at < s.great.length := by
  have hl : 0 < s.great.length := List.length_pos_iff.mpr h
  unfold Dr.at
  split
  · have := Int.emod_lt_of_pos (s.turn + 1) (b := (s.great.length : Int)) (by omega)
    have := Int.emod_nonneg (s.turn + 1) (b := (s.great.length : Int)) (by omega)
    omega
  · rw [Int.emod_one]; exact hl
theorem Dr.Ok.next {s : Dr} {n : Int} (h : s.Ok) (hn : 0 < n) : (s.next n).Ok := by
  unfold Dr.next
  split
  · rename_i hc
    refine ⟨h.m0, h.m1, by have := h.t0; show 0 ≤ s.turn + 1; omega, by simpa using h.len, fun z hz => ?_⟩
    rcases List.mem_or_eq_of_mem_set hz with z1 | z1
    · exact h.bits z z1
    · have hb : s.big.natAbs < 2 ^ 1048577 := by
        refine h.bits _ ?_
        unfold Dr.big
        rw [List.getD_eq_getElem?_getD, List.getElem?_eq_getElem (s.at_lt hc.1)]
        exact List.getElem_mem _
      have h1 : 0 ≤ s.big / n := Int.ediv_nonneg (by omega) (by omega)
      have h2 : s.big / n ≤ s.big := Int.ediv_le_self _ (by omega)
      rw [z1]
      exact Nat.lt_of_le_of_lt (by omega) hb
  · refine ⟨Int.emod_nonneg _ (by decide), Int.emod_lt_of_pos _ (by decide), by have := h.t0; show 0 ≤ s.turn + 1; omega, h.len, h.bits⟩
def semNext : Sm
  | [.o (.dr s), .v (.int n)] => if 0 < n ∧ n.natAbs.log2 < 9000 then .ok (.int (s.draw n)) [.o (.dr (s.next n)), .v (.int n)] else .bad
  | _ => .bad
/-- the dict of the draws -/
abbrev drK (m : Int) (g : Addr) (t : Int) : List (Key × V) := [(Sum.inr ("mixed" : Str), V.int m), (Sum.inr ("great" : Str), V.ref g), (Sum.inr ("turn" : Str), V.int t)]
theorem n_mt : ¬ ((Sum.inr ("mixed" : Str) : Key) = Sum.inr ("turn" : Str)) := by decide +kernel
theorem n_gt : ¬ ((Sum.inr ("great" : Str) : Key) = Sum.inr ("turn" : Str)) := by decide +kernel
theorem n_mg : ¬ ((Sum.inr ("mixed" : Str) : Key) = Sum.inr ("great" : Str)) := by decide +kernel
theorem n_gm : ¬ ((Sum.inr ("great" : Str) : Key) = Sum.inr ("mixed" : Str)) := by decide +kernel
theorem n_tm : ¬ ((Sum.inr ("turn" : Str) : Key) = Sum.inr ("mixed" : Str)) := by decide +kernel
theorem drK_turn {m t : Int} {g : Addr} : valV (drK m g t) (Sum.inr ("turn" : Str)) = some (.int t) := by
  simp only [drK, valV, List.find?, decide_eq_false n_mt, decide_eq_false n_gt, decide_true, Option.map_some]
theorem drK_great {m t : Int} {g : Addr} : valV (drK m g t) (Sum.inr ("great" : Str)) = some (.ref g) := by
  simp only [drK, valV, List.find?, decide_eq_false n_mg, decide_true, Option.map_some]
theorem drK_mixed {m t : Int} {g : Addr} : valV (drK m g t) (Sum.inr ("mixed" : Str)) = some (.int m) := by
  simp only [drK, valV, List.find?, decide_true, Option.map_some]
theorem drK_putT {m t u : Int} {g : Addr} : putK (drK m g t) (Sum.inr ("turn" : Str)) (.int u) = drK m g u := by
  simp only [drK, putK, List.any, decide_eq_false n_mt, decide_eq_false n_gt, decide_true, Bool.or_false, Bool.or_true, Bool.false_or, if_true, List.map, if_neg n_mt, if_neg n_gt]
theorem drK_putM {m t u : Int} {g : Addr} : putK (drK m g t) (Sum.inr ("mixed" : Str)) (.int u) = drK u g t := by
  simp only [drK, putK, List.any, decide_true, Bool.true_or, if_true, List.map, if_neg n_gm, if_neg n_tm]
theorem semNext_inv (as : List Ag) : (∃ s n, as = [.o (.dr s), .v (.int n)] ∧ 0 < n ∧ n.natAbs.log2 < 9000 ∧ semNext as = .ok (.int (s.draw n)) [.o (.dr (s.next n)), .v (.int n)]) ∨ semNext as = .bad := by
  unfold semNext
  split
  · rename_i s n
    split
    · rename_i h; exact .inl ⟨s, n, rfl, h.1, h.2, rfl⟩
    · exact .inr rfl
  · exact .inr rfl
/-- what stands where a draw begins -/
theorem next_args {K : PySem.W.Frag} {ct : Ct} {vs : List V} {H : Hp} {Q : VK} {E : XK} (h : spD K ct 2 semNext vs H Q E) : ∃ (a g : Addr) (s : Dr) (n : Int), vs = [.ref a, .int n] ∧ H a = some (.dK (drK s.mixed g s.turn)) ∧ H g = some (.lst (s.great.map V.int)) ∧ g ≠ a ∧
    s.Ok ∧ 0 < n ∧ n.natAbs.log2 < 9000 ∧ ∀ H', (∀ b o, H b = some o → b ≠ a → b ≠ g → H' b = some o) → H' a = some (.dK (drK (s.next n).mixed g (s.next n).turn)) → H' g = some (.lst ((s.next n).great.map V.int)) → Q (.int (s.draw n)) H' := by
  obtain ⟨B, as, ar, fps, hl, r, h⟩ := h
  rcases semNext_inv as with ⟨s, n, rfl, hn1, hn2, e⟩ | e
  case inr => rw [e] at h; exact h.elim
  rw [e] at h
  have hn : 0 < n ∧ n.natAbs.log2 < 9000 := ⟨hn1, hn2⟩
  obtain ⟨o0, e0, a, ea, ix, g, ef, ok, hg, ha⟩ := r.en 0 (.own (some 0) (.dr s)) rfl
  obtain ⟨o1, e1, f1, v1, ev, rv⟩ := r.en 1 (.val (.int n)) rfl
  cases rv
  obtain ⟨v0, v1', rfl⟩ : ∃ x y, vs = [x, y] := by
    match vs, hl with
    | [x, y], _ => exact ⟨x, y, rfl⟩
  have q0 : some v0 = o0 := Option.some.inj e0
  have q1 : some v1' = o1 := Option.some.inj e1
  rw [ea] at q0
  rw [ev] at q1
  cases q0
  cases q1
  have hne : g ≠ a := fun z => by rw [z, ha] at hg; cases hg
  refine ⟨a, g, s, n, rfl, ha, hg, hne, ok, hn.1, hn.2, fun H' k h1 h2 => ?_⟩
  have hf0 : ∀ b, b ∈ fps 0 ↔ b = a ∨ b = g := fun b => by rw [ef]; simp
  have hfi : ∀ i b, b ∈ fps i → i = 0 := fun i b hb => by
    match i with
    | 0 => rfl
    | 1 => rw [f1] at hb; cases hb
    | i + 2 => rw [r.e0 (i + 2) (by simp [slots, toSl])] at hb; cases hb
  have old : ∀ b o, B b = some o → H' b = some o := fun b o e => by
    refine k b o (r.bs b o e) (fun z => ?_) fun z => ?_
    · have := (r.fr 0 b ((hf0 b).mpr (.inl z))).1; rw [e] at this; cases this
    · have := (r.fr 0 b ((hf0 b).mpr (.inr z))).1; rw [e] at this; cases this
  refine h (.int (s.draw n)) B H' fps ⟨⟨fun b o e => ?_, r.gs.tf, r.gs.td, r.gs.bp⟩, old, Same.refl _, fun _ _ => rfl, fun b hb => ?_, rfl, fun i sl e => ?_, fun i e => ?_, r.dj, r.fr⟩ (.int _)
  · obtain ⟨u, hu⟩ := (r.gs.go b o e).sm
    have nb : ∀ {i}, b ∉ fps i := fun {i} z => by rw [(r.fr i b z).2] at e; cases e
    have eb : H' b = H b := by rw [hu]; exact k b u hu (fun z => nb ((hf0 b).mpr (.inl z))) fun z => nb ((hf0 b).mpr (.inr z))
    rw [eb]
    exact r.gs.go b o e
  · obtain ⟨o, ho⟩ := hb
    by_cases z1 : b = a
    · rw [z1]; exact ⟨_, h1⟩
    · by_cases z2 : b = g
      · rw [z2]; exact ⟨_, h2⟩
      · exact ⟨o, k b o ho z1 z2⟩
  · match i with
    | 0 =>
      have : sl = .own (some 0) (.dr (s.next n)) := (Option.some.inj e).symm
      subst this
      exact ⟨_, rfl, a, rfl, ix, g, ef, ok.next hn.1, h2, h1⟩
    | 1 =>
      have : sl = .val (.int n) := (Option.some.inj e).symm
      subst this
      exact ⟨_, rfl, f1, _, rfl, .int n⟩
    | i + 2 => simp [slots, toSl] at e
  · match i with
    | 0 => cases e
    | 1 => exact f1
    | i + 2 => exact r.e0 (i + 2) (by simp [slots, toSl])
theorem dp_ints {K : PySem.W.Frag} {H : Hp} : ∀ ns : List Int, DpAll K H (ns.map V.int) (ns.map PyData.int)
  | [] => .nil
  | n :: ns => .cons (.int n) (dp_ints ns)
theorem lay_ints : ∀ ns : List Int, PyData.canLayAll0 (ns.map PyData.int) = true
  | [] => by simp [PyData.canLayAll0]
  | n :: ns => by simp [PyData.canLayAll0, PyData.canLay0, lay_ints ns]
theorem dep_ints : ∀ ns : List Int, PyData.depthAll (ns.map PyData.int) = 0
  | [] => by simp [PyData.depthAll]
  | n :: ns => by simp [PyData.depthAll, PyData.depth, dep_ints ns]
theorem shp_ints (ns : List Int) : SeqAt.shaped (.list (ns.map PyData.int)) = true := by
  simp [SeqAt.shaped, PyData.canLay0, lay_ints, PyData.depth, dep_ints]
theorem eqv_nil (ns : List Int) : PyData.eqv (.list (ns.map PyData.int)) (.list []) = ns.isEmpty := by
  cases ns with
  | nil => simp [PyData.eqv, PyData.eqvAll]
  | cons n ns => simp [PyData.eqv, PyData.eqvAll]
end Wu

/-! New things that nobody else knows; owned names: read, stored, given up. -/
namespace Wu
open PySem PySem.Spec PyProof.Rows L2

abbrev Nk := Kd × List D
section
variable (K : PySem.W.Frag) (ct : Ct)
/-- at a: a new thing of kind n -/
structure NwAt (F : Fm) (B H : Hp) (fps : Nat → List Addr) (a : Addr) (n : Nk) : Prop where
  ow : OwAt K ct B H a [a] (.nd n.1 n.2)
  fG : F.G a = none
  fB : B a = none
  fD : ¬ F.Dm a
  ff : ∀ j, a ∉ fps j
def PstN (W : WX) (F : Fm) (B : Hp) (σ : L2.St) (r : R Nk) (Q : VK) : Prop :=
  match r with
  | .ok n E' => ∀ a B' H' fps, Rl K ct F B' H' σ E' fps → Same B B' → NwAt K ct F B' H' fps a n → Q (.ref a) H'
  | .ex x E' => ∀ c dx B' H' fps, Rl K ct F B' H' σ E' fps → Same B B' → XR K ct B' c dx x → W c dx σ H'
  | .bad => False
def tNw (W : WX) (m : M Nk) : TE := fun σ H Q => ∃ F B E fps, Rl K ct F B H σ E fps ∧ PstN K ct W F B σ (m E) Q
end
section
variable {K : PySem.W.Frag} {ct : Ct} {W : WX} {F : Fm} {B B' H H' : Hp} {σ : L2.St} {E : Env'} {fps : Nat → List Addr}
theorem PstN.mono {r : R Nk} {Q : VK} (s : Same B B') (h : PstN K ct W F B σ r Q) : PstN K ct W F B' σ r Q := by
  cases r with
  | ok d E => exact fun v B2 H2 fp r s2 q => h v B2 H2 fp r (s.trans s2) q
  | ex x E => exact fun c dx B2 H2 fp r s2 q => h c dx B2 H2 fp r (s.trans s2) q
  | bad => exact h
theorem PstN.imp {r : R Nk} {Q Q' : VK} (h : PstN K ct W F B σ r Q) (k : ∀ v H, Q v H → Q' v H) : PstN K ct W F B σ r Q' := by
  cases r with
  | ok d E => exact fun v B2 H2 fp r s2 q => k _ _ (h v B2 H2 fp r s2 q)
  | ex x E => exact h
  | bad => exact h
/-- data, then a new thing -/
theorem PstN.of {α υ : Type} {Rr : Hp → υ → α → Prop} {r : R α} {k : α → M Nk} {Q : VK} (h : PstN K ct W F B σ (r.bind k) Q) :
    Pst K ct Rr W F B σ r (fun v H1 => ∃ d E1 B1 fps, Rl K ct F B1 H1 σ E1 fps ∧ Same B B1 ∧ Rr B1 v d ∧ PstN K ct W F B1 σ (k d E1) Q) := by
  cases r with
  | ok d E => exact fun v B1 H1 fp rl s q => ⟨d, E, B1, fp, rl, s, q, PstN.mono s h⟩
  | ex x E => exact h
  | bad => exact h
/-- a new thing, then a statement's rest -/
theorem PstN.thenS {r : R Nk} {k : Nk → SM} {N : Ends} (h : PstS K ct W F B (r.bind k) N) :
    PstN K ct W F B σ r (fun v H1 => ∃ n E1 B1 fps a, Rl K ct F B1 H1 σ E1 fps ∧ Same B B1 ∧ v = .ref a ∧ NwAt K ct F B1 H1 fps a n ∧ PstS K ct W F B1 (k n E1) N) := by
  cases r with
  | ok n E => exact fun a B1 H1 fp rl s q => ⟨n, E, B1, fp, a, rl, s, rfl, q, PstS.mono s h⟩
  | ex x E => exact fun c dx B1 H1 fp rl s q => h c dx σ B1 H1 fp rl s q
  | bad => exact h
theorem PstN.thenE {α υ : Type} {Sr : Hp → υ → α → Prop} {r : R Nk} {k : Nk → M α} {Q : υ → Hp → Prop} (h : Pst K ct Sr W F B σ (r.bind k) Q) :
    PstN K ct W F B σ r (fun v H1 => ∃ n E1 B1 fps a, Rl K ct F B1 H1 σ E1 fps ∧ Same B B1 ∧ v = .ref a ∧ NwAt K ct F B1 H1 fps a n ∧ Pst K ct Sr W F B1 σ (k n E1) Q) := by
  cases r with
  | ok n E => exact fun a B1 H1 fp rl s q => ⟨n, E, B1, fp, a, rl, s, rfl, q, Pst.mono s h⟩
  | ex x E => exact h
  | bad => exact h
theorem NwAt.at {a : Addr} {n : Nk} (h : NwAt K ct F B H fps a n) : ∃ o, H a = some o := h.ow.mem a (by simp)
/-- a thing newly laid -/
theorem Rl.nw {a : Addr} {o : HO} {n : Nk} (r : Rl K ct F B H σ E fps) (hn : H a = none) (h : OwAt K ct B (upd H a o) a [a] (.nd n.1 n.2)) : Rl K ct F B (upd H a o) σ E fps ∧ NwAt K ct F B (upd H a o) fps a n := by
  have nd : ¬ F.Dm a := fun z => by
    obtain ⟨u, hu⟩ := r.dm a z
    rw [hn] at hu; cases hu
  have nB : B a = none := r.bs.free hn
  have nG : F.G a = none := r.gs.free hn
  have nf : ∀ j, a ∉ fps j := fun j z => by
    obtain ⟨u, hu⟩ := r.mem z
    rw [hn] at hu; cases hu
  exact ⟨r.grown (o := o) nG nB nf nd, h, nG, nB, nd, nf⟩
/-- a slot gets it -/
theorem Rl.setN {i : Nat} {a : Addr} {n : Nk} (r : Rl K ct F B H σ E fps) (h : NwAt K ct F B H fps a n) (hi : i < E.length) :
    Rl K ct F B H (σ.set i (some (.ref a))) (E.set i (.own none (.nd n.1 n.2))) (fun j => if j = i then [a] else fps j) := by
  refine ⟨r.gs, r.bs, r.b0, r.nb, r.dm, by simpa using r.ln, fun j s e => ?_, fun j e => ?_, fun j k b hj hk => ?_, fun j b hj => ?_⟩
  · by_cases hj : j = i
    · subst hj
      rw [List.getElem?_set_self hi] at e
      cases e
      refine ⟨some (.ref a), List.getElem?_set_self (by rw [r.ln]; exact hi), ?_⟩
      rw [if_pos rfl]
      exact ⟨a, rfl, h.fD, h.ow⟩
    · rw [List.getElem?_set_ne (Ne.symm hj)] at e
      obtain ⟨v, h1, h2⟩ := r.en j s e
      exact ⟨v, by rw [List.getElem?_set_ne (Ne.symm hj)]; exact h1, by rw [if_neg hj]; exact h2⟩
  · by_cases hj : j = i
    · subst hj
      rw [List.getElem?_set_self hi] at e; cases e
    · rw [if_neg hj]
      rw [List.getElem?_set_ne (Ne.symm hj)] at e
      exact r.e0 j e
  · by_cases h1 : j = i
    · by_cases h2 : k = i
      · rw [h1, h2]
      · rw [if_pos h1] at hj; rw [if_neg h2] at hk
        have : b = a := by simpa using hj
        subst this
        exact absurd hk (h.ff k)
    · by_cases h2 : k = i
      · rw [if_neg h1] at hj; rw [if_pos h2] at hk
        have : b = a := by simpa using hk
        subst this
        exact absurd hj (h.ff j)
      · rw [if_neg h1] at hj; rw [if_neg h2] at hk
        exact r.dj j k b hj hk
  · by_cases h1 : j = i
    · rw [if_pos h1] at hj
      have : b = a := by simpa using hj
      subst this
      exact ⟨h.fB, h.fG⟩
    · rw [if_neg h1] at hj
      exact r.fr j b hj
/-- what is new may be taken as data -/
theorem NwAt.dat {a : Addr} {n : Nk} (r : Rl K ct F B H σ E fps) (h : NwAt K ct F B H fps a n) : ∃ B', Rl K ct F B' H σ E fps ∧ Same B B' ∧ Rp K ct B' (.ref a) (.nd n.1 n.2) := by
  obtain ⟨k, ds⟩ := n
  cases k with
  | lst =>
    obtain ⟨_, xs, h1, h2⟩ := h.ow
    obtain ⟨q1, q2⟩ := r.freeze h1 h.fB h.ff h.fD
    exact ⟨_, q1, q2, .nd (show Sq K ct _ a .lst xs from upd_same) (h2.mono q2)⟩
  | dct ks =>
    obtain ⟨_, xs, h0, h1, h2⟩ := h.ow
    obtain ⟨q1, q2⟩ := r.freeze h1 h.fB h.ff h.fD
    exact ⟨_, q1, q2, .nd (show Sq K ct _ a (.dct ks) xs from ⟨h0, .inl upd_same⟩) (h2.mono q2)⟩
  | dtt ks =>
    obtain ⟨_, xs, h0, h1, h2⟩ := h.ow
    obtain ⟨q1, q2⟩ := r.freeze h1 h.fB h.ff h.fD
    exact ⟨_, q1, q2, .nd (show Sq K ct _ a (.dtt ks) xs from ⟨h0, .inl upd_same⟩) (h2.mono q2)⟩
  | tup => exact h.ow.elim
  | scr => exact h.ow.elim
  | pr => exact h.ow.elim
  | ob c fs => obtain ⟨dx, xs, e, _⟩ := h.ow; cases e
  | exn c fs => exact h.ow.elim
/-- while something else is worked out, a new thing stands still -/
theorem NwAt.hold {a : Addr} {n : Nk} (r : Rl K ct F B H σ E fps) (h : NwAt K ct F B H fps a n) : ∃ o, H a = some o ∧ Rl K ct (F.plus a o) B H σ E fps ∧
    ∀ {B' H' : Hp} {E' : Env'} {fps' : Nat → List Addr}, Rl K ct (F.plus a o) B' H' σ E' fps' → Same B B' → Rl K ct F B' H' σ E' fps' ∧ NwAt K ct F B' H' fps' a n := by
  obtain ⟨o, ho⟩ := h.at
  have hB0 : F.B0 a = none := r.b0.free h.fB
  have nt : ∀ ps, o ≠ .tbl ps := fun ps z => h.ow.nt a (by simp) ps (by rw [ho, z])
  refine ⟨o, ho, r.plus ho h.fB h.ff hB0 nt, fun {B' H' E' fps'} r' s => ?_⟩
  obtain ⟨rm, h1, h2, h3⟩ := r'.minus h.fG nt
  refine ⟨rm, h.ow.mono s fun b hb => ?_, h.fG, h2.trans hB0, h.fD, h3⟩
  have : b = a := by simpa using hb
  subst this
  rw [h1, ho]
end

/-! ### giving up what is owned -/
def frzE (i : Nat) (E : Env') : Env' := match E[i]? with
  | some (.own none (.nd .lst l)) => E.set i (.val (.nd .lst l))
  | some (.own none (.nd (.dct ks) l)) => E.set i (.val (.nd (.dct ks) l))
  | some (.own none (.nd (.dtt ks) l)) => E.set i (.val (.nd (.dtt ks) l))
  | _ => E
section
variable {K : PySem.W.Frag} {ct : Ct} {W : WX} {F : Fm} {B B' H H' : Hp} {σ : L2.St} {E : Env'} {fps : Nat → List Addr}
theorem Rl.frz1 {i : Nat} {k : Kd} {l : List D} (r : Rl K ct F B H σ E fps) (e : E[i]? = some (.own none (.nd k l))) (hk : ∀ c fs, k ≠ .ob c fs) : ∃ B' fps', Rl K ct F B' H σ (E.set i (.val (.nd k l))) fps' ∧ Same B B' := by
  obtain ⟨o, h1, a, h2, h3, h4⟩ := r.en i _ e
  have hi : i < E.length := (List.getElem?_eq_some_iff.mp e).1
  have hf : fps i = [a] := by
    cases k with
    | lst => exact h4.1
    | dct ks => exact h4.1
    | dtt ks => exact h4.1
    | tup => exact h4.elim
    | scr => exact h4.elim
    | pr => exact h4.elim
    | ob c fs => exact absurd rfl (hk c fs)
    | exn c fs => exact h4.elim
  -- forget the slot first
  have r0 : Rl K ct F B H σ (E.set i .und) (fun j => if j = i then [] else fps j) := by
    refine ⟨r.gs, r.bs, r.b0, r.nb, r.dm, by simpa using r.ln, fun j s q => ?_, fun j q => ?_, fun j m b hj hm => ?_, fun j b hj => ?_⟩
    · by_cases hj : j = i
      · subst hj
        rw [List.getElem?_set_self hi] at q
        cases q
        refine ⟨o, h1, ?_⟩
        show (if j = j then [] else fps j) = []
        rw [if_pos rfl]
      · rw [List.getElem?_set_ne (Ne.symm hj)] at q
        obtain ⟨v, q1, q2⟩ := r.en j s q
        exact ⟨v, q1, by rw [if_neg hj]; exact q2⟩
    · by_cases hj : j = i
      · rw [if_pos hj]
      · rw [if_neg hj]
        rw [List.getElem?_set_ne (Ne.symm hj)] at q
        exact r.e0 j q
    · by_cases z1 : j = i
      · rw [if_pos z1] at hj; cases hj
      · by_cases z2 : m = i
        · rw [if_pos z2] at hm; cases hm
        · rw [if_neg z1] at hj; rw [if_neg z2] at hm
          exact r.dj j m b hj hm
    · by_cases z1 : j = i
      · rw [if_pos z1] at hj; cases hj
      · rw [if_neg z1] at hj
        exact r.fr j b hj
  have ha : a ∈ fps i := by rw [hf]; simp
  have nw : NwAt K ct F B H (fun j => if j = i then [] else fps j) a (k, l) := by
    refine ⟨by rw [hf] at h4; exact h4, (r.fr i a ha).2, (r.fr i a ha).1, h3, fun j hj => ?_⟩
    by_cases z1 : j = i
    · rw [if_pos z1] at hj; cases hj
    · rw [if_neg z1] at hj
      exact z1 (r.dj j i a hj ha)
  obtain ⟨B', r1, s1, rp⟩ := nw.dat r0
  have r2 := r1.setV (i := i) rp
  have e1 : (E.set i .und).set i (.val (.nd k l)) = E.set i (.val (.nd k l)) := by rw [List.set_set]
  have e2 : σ.set i (some (.ref a)) = σ := by
    rw [h2] at h1
    exact List.set_getElem?_self' h1
  rw [e1, e2] at r2
  exact ⟨B', _, r2, s1⟩
where
  List.set_getElem?_self' {α : Type} {l : List α} {i : Nat} {x : α} (h : l[i]? = some x) : l.set i x = l := by
    obtain ⟨h1, h2⟩ := List.getElem?_eq_some_iff.mp h
    subst h2
    exact List.set_getElem_self h1
theorem Rl.frz (i : Nat) (r : Rl K ct F B H σ E fps) : ∃ B' fps', Rl K ct F B' H σ (frzE i E) fps' ∧ Same B B' := by
  unfold frzE
  split
  · rename_i l e; exact r.frz1 e (fun _ _ z => by cases z)
  · rename_i ks l e; exact r.frz1 e (fun _ _ z => by cases z)
  · rename_i ks l e; exact r.frz1 e (fun _ _ z => by cases z)
  · exact ⟨B, fps, r, Same.refl B⟩
end
def mPre {α : Type} (i : Nat) (m : M α) : M α := fun E => m (frzE i E)
section
variable {X : Cx} {ct : Ct} {W : WX}
theorem e_frz (i : Nat) {e : Expr} {m : M D} (h : Ed X ct W e m) : Ed X ct W e (mPre i m) := by
  refine PE.imp h fun σ H Q h => ?_
  obtain ⟨F, B, E, fps, rl, h⟩ := h
  obtain ⟨B', fps', r', s'⟩ := rl.frz i
  exact ⟨F, B', _, fps', r', Pst.mono s' h⟩
theorem t_frz (i : Nat) {e : Expr} {m : M Bool} (h : Td X ct W e m) : Td X ct W e (mPre i m) := by
  refine PT.imp h fun σ H Q h => ?_
  obtain ⟨F, B, E, fps, rl, h⟩ := h
  obtain ⟨B', fps', r', s'⟩ := rl.frz i
  exact ⟨F, B', _, fps', r', Pst.mono s' h⟩
theorem s_frz (i : Nat) {st : Stmt} {m : SM} (h : Sd X ct W st m) : Sd X ct W st (mPre i m) := by
  refine PS.imp h fun N σ H h => ?_
  obtain ⟨F, B, E, fps, rl, h⟩ := h
  obtain ⟨B', fps', r', s'⟩ := rl.frz i
  exact ⟨F, B', _, fps', r', PstS.mono s' h⟩
theorem b_frz (i : Nat) {st : List Stmt} {m : SM} (h : Bd X ct W st m) : Bd X ct W st (mPre i m) := by
  refine PSs.imp h fun N σ H h => ?_
  obtain ⟨F, B, E, fps, rl, h⟩ := h
  obtain ⟨B', fps', r', s'⟩ := rl.frz i
  exact ⟨F, B', _, fps', r', PstS.mono s' h⟩
abbrev Nd (X : Cx) (ct : Ct) (W : WX) (e : Expr) (m : M Nk) : Prop := PE X e (tNw X.K ct W m)
/-- a new thing, at once taken as data -/
def mDat (m : M Nk) : M D := m.bnd fun n => .ret (.nd n.1 n.2)
theorem d_new {e : Expr} {m : M Nk} (h : Nd X ct W e m) : Ed X ct W e (mDat m) := by
  refine PE.imp h fun σ H Q h => ?_
  obtain ⟨F, B, E, fps, rl, h⟩ := h
  refine ⟨F, B, E, fps, rl, (PstN.thenE h).imp ?_⟩
  rintro v H1 ⟨n, E1, B1, fps1, a, rl1, s1, rfl, nw, h1⟩
  obtain ⟨B2, r2, s2, rp⟩ := nw.dat rl1
  exact h1 _ B2 H1 fps1 r2 s2 rp
def nLst (ms : M (List D)) : M Nk := ms.bnd fun ds => if ds.length ≤ sizeLine then .ret (.lst, ds) else .bad
theorem n_lst {es : List Expr} {ms : M (List D)} {pos : Pos} (he : Ad X ct W es ms) : Nd X ct W (.List es pos) (nLst ms) := by
  refine PE.imp (pe_lst he) fun σ H Q h => ?_
  obtain ⟨F, B, E, fps, rl, h⟩ := h
  refine ⟨F, B, E, fps, rl, (PstN.of h).imp ?_⟩
  rintro vs H1 ⟨ds, E1, B1, fps1, rl1, s1, r1, h1⟩
  split at h1
  · rename_i hd
    refine ⟨by rw [r1.len]; exact hd, fun p hp => ?_⟩
    obtain ⟨q1, q2⟩ := rl1.nw (n := (.lst, ds)) hp ⟨rfl, vs, upd_same, r1⟩
    exact h1 p B1 _ fps1 q1 (Same.refl B1) q2
  · exact h1.elim
def nDict0 : M Nk := .ret (.dct [], [])
theorem n_dict0 {pos : Pos} : Nd X ct W (.Dict [] [] pos) nDict0 := by
  refine PE.imp pe_dnewK fun σ H Q h => ?_
  obtain ⟨F, B, E, fps, rl, h⟩ := h
  intro p hp
  obtain ⟨q1, q2⟩ := rl.nw (n := (.dct [], [])) hp ⟨rfl, [], rfl, upd_same, .nil⟩
  exact h p B _ fps q1 (Same.refl B) q2
/-- x = e, e new -/
def sOwn (i : Nat) (m : M Nk) : SM := m.bnd fun n E => .ok .nx (E.set i (.own none (.nd n.1 n.2)))
theorem s_own {i : Nat} {x : Str} {e : Expr} {m : M Nk} {pos pos' : Pos} (hN : X.N.Nodup) (hi : X.N[i]? = some x) (hx : Loc X.env.scope x) (he : Nd X ct W e m) (hs : swapsWith e (some (.Name x pos')) pos.line X.env = pure false := by rfl)
    (hf : X.fn x = true ∨ X.env.scope.names.lookup x = some .local := by first | exact .inl rfl | exact .inr rfl | assumption) : Sd X ct W (.Assign [.Name x pos'] e pos) (sOwn i m) := by
  refine ⟨fun pins s σ H N I h => ?_⟩
  have hlen : i < σ.length := by rw [I.len]; exact (List.getElem?_eq_some_iff.mp hi).1
  refine (ps_set hN hi hx he hs hf).run pins s σ H N I ?_
  obtain ⟨F, B, E, fps, rl, h⟩ := h
  refine ⟨F, B, E, fps, rl, (PstN.thenS (σ := σ) h).imp ?_⟩
  rintro v H1 ⟨n, E1, B1, fps1, a, rl1, s1, rfl, nw, h1⟩
  exact h1 _ B1 _ _ (rl1.setN nw (by rw [← rl1.ln]; exact hlen)) (Same.refl B1)
end
end Wu

/-! Comprehensions as new things; two names at once; owned names read and stored. -/
namespace Wu
open PySem PySem.Spec PyProof.Rows L2

def nLc (mi : M (List D)) (g : GM) (t : M Bool) (m : M D) (vs : List Nat) : M Nk := mi.bnd fun ds E =>
  if vs.all (fun j => (E.getD j .und).free) && decide (ds.length ≤ sizeLine) then
    match compD g t m vs ds (wipeE vs E) with
    | some r => .ok (.lst, r.1) (restE vs E r.2)
    | none => .bad
  else .bad
section
variable {K : PySem.W.Frag} {ct : Ct} {W : WX} {F : Fm} {B B' H H' : Hp} {σ : L2.St} {E : Env'} {fps : Nat → List Addr}
theorem Rl.rest' {B1 H1 : Hp} {E2 : Env'} {fps1 : Nat → List Addr} {vs : List Nat} (r1 : Rl K ct F B1 H1 σ E fps1) (r2 : Rl K ct F B H (L2.wipe σ vs) E2 fps) (s : Same B1 B) (hv : vs.all (fun j => (E.getD j .und).free) = true) :
    ∃ fps', Rl K ct F B H σ (restE vs E E2) fps' ∧ ∀ i a, a ∈ fps' i → a ∈ fps i := by
  have hl2 : E2.length = E.length := by rw [← r2.ln, wipe_length, r1.ln]
  refine ⟨fun j => if j ∈ vs then [] else fps j, ⟨r2.gs, r2.bs, r2.b0, r2.nb, r2.dm, by unfold restE; rw [List.length_mapIdx]; exact r1.ln, fun j sl e => ?_, fun j e => ?_, fun i j a hi hj => ?_, fun j a hj => ?_⟩, fun j a hj => ?_⟩
  · unfold restE at e
    rw [List.getElem?_mapIdx] at e
    obtain ⟨s1, e1, e2⟩ := Option.map_eq_some_iff.mp e
    by_cases h : j ∈ vs
    · rw [if_pos h] at e2
      subst e2
      rw [if_pos h]
      obtain ⟨o, h1, h2⟩ := r1.en j _ e1
      refine ⟨o, h1, ?_⟩
      have hf := List.all_eq_true.mp hv j h
      rw [List.getD_eq_getElem?_getD, e1] at hf
      cases s1 with
      | und => rfl
      | fn => exact ⟨rfl, h2.2⟩
      | val d => obtain ⟨_, v, h3, h4⟩ := h2; exact ⟨rfl, v, h3, h4.mono s⟩
      | own ix c => cases hf
    · rw [if_neg h] at e2
      rw [if_neg h]
      have hj : j < E2.length := by rw [hl2]; exact (List.getElem?_eq_some_iff.mp e1).1
      have e3 : E2[j]? = some sl := by
        rw [List.getElem?_eq_getElem hj]
        rw [List.getD_eq_getElem?_getD, List.getElem?_eq_getElem hj] at e2
        exact congrArg some e2
      obtain ⟨o, h1, h2⟩ := r2.en j _ e3
      rw [wipe_get, if_neg (fun z => h z.1)] at h1
      exact ⟨o, h1, h2⟩
  · unfold restE at e
    rw [List.getElem?_mapIdx] at e
    have e1 : E[j]? = none := by simpa using e
    by_cases h : j ∈ vs
    · rw [if_pos h]
    · rw [if_neg h]
      refine r2.e0 j ?_
      rw [List.getElem?_eq_none_iff] at e1 ⊢
      omega
  · by_cases h1 : i ∈ vs
    · rw [if_pos h1] at hi; cases hi
    · by_cases h2 : j ∈ vs
      · rw [if_pos h2] at hj; cases hj
      · rw [if_neg h1] at hi; rw [if_neg h2] at hj
        exact r2.dj i j a hi hj
  · by_cases h1 : j ∈ vs
    · rw [if_pos h1] at hj; cases hj
    · rw [if_neg h1] at hj
      exact r2.fr j a hj
  · dsimp only at hj
    split at hj
    · cases hj
    · exact hj
end
section
variable {X : Cx} {ct : Ct} {W : WX}
theorem lc_impN {mi : M (List D)} {is : List Nat} {g : GM} {t : M Bool} {m : M D} {vs : List Nat} (hv : ∀ i ∈ is, i ∈ vs) :
    ∀ σ H Q, tNw X.K ct W (nLc mi g t m vs) σ H Q → tLc (tIt X.K ct W mi) (tGt X.K ct is g) (tMT X.K ct W0 t) (tM X.K ct W0 m) vs σ H Q := by
  intro σ H Q h
  obtain ⟨F, B, E, fps, rl, h⟩ := h
  refine ⟨F, B, E, fps, rl, (PstN.of h).imp ?_⟩
  rintro J H1 ⟨ds, E1, B1, fps1, rl1, s1, ok, h1⟩
  split at h1
  case isFalse => exact h1.elim
  rename_i hc
  obtain ⟨hf, hz⟩ := Bool.and_eq_true_iff.mp hc
  have hz' : ds.length ≤ sizeLine := by simpa using hz
  cases ec : compD g t m vs ds (wipeE vs E1) with
  | none => rw [ec] at h1; exact h1.elim
  | some res =>
    obtain ⟨out, Ee⟩ := res
    rw [ec] at h1
    intro L hL
    have hGL : F.G L = none := rl1.gs.free hL
    have hB1 : B1 L = none := rl1.bs.free hL
    have hB0 : F.B0 L = none := rl1.b0.free hB1
    have hDm : ¬ F.Dm L := fun z => by
      obtain ⟨o, ho⟩ := rl1.dm L z
      rw [hL] at ho; cases ho
    have hfL : ∀ j, L ∉ fps1 j := fun j z => by
      obtain ⟨o, ho⟩ := rl1.mem z
      rw [hL] at ho; cases ho
    refine ⟨fun i k H => k = ds.length - i ∧ i ≤ ds.length ∧ ∃ B E fps acc accD rest, Rl X.K ct F B H (L2.wipe σ vs) E fps ∧ Same B1 B ∧ B L = none ∧ (∀ j, L ∉ fps j) ∧ H L = some (.lst acc) ∧ RpL X.K ct B acc accD ∧ acc.length ≤ i ∧
      out = accD ++ rest ∧ compD g t m vs (ds.drop i) E = some (rest, Ee), ⟨ds.length, by simp, Nat.zero_le _, ?_⟩, ?_⟩
    · have rg := rl1.grown (o := .lst []) hGL hB1 hfL hDm
      obtain ⟨fps2, rw2, sub2⟩ := rg.wipe vs
      exact ⟨B1, _, fps2, [], [], out, rw2, Same.refl _, hB1, fun j z => hfL j (sub2 j L z), upd_same, .nil, Nat.zero_le _, by simp, by simpa using ec⟩
    · rintro i k H2 ⟨rfl, hi, B2, E2, fps2, acc, accD, rest, rl2, s2, hB2, hf2, hL2, ra, hal, eo, ecd⟩
      have sH : Same B1 H2 := s2.trans rl2.bs
      by_cases hlt : i < ds.length
      · refine .inr ⟨ok.go i H2 sH hlt, fun H' => ∃ B E fps acc accD rest, Rl X.K ct F B H' (L2.wipe σ vs) E fps ∧ Same B1 B ∧ B L = none ∧ (∀ j, L ∉ fps j) ∧ H' L = some (.lst acc) ∧ RpL X.K ct B acc accD ∧ acc.length ≤ i + 1 ∧
          out = accD ++ rest ∧ compD g t m vs (ds.drop (i + 1)) E = some (rest, Ee), fun H' q => ⟨ds.length - (i + 1), by omega, rfl, hlt, q⟩, ?_⟩
        intro x H3 hy
        obtain ⟨d, hd, hx⟩ := ok.yld i H2 x H3 sH hlt hy
        have hdrop : ds.drop i = d :: ds.drop (i + 1) := by
          rw [List.drop_eq_getElem_cons hlt]
          rw [List.getElem?_eq_getElem hlt] at hd
          rw [Option.some.inj hd]
        rw [hdrop] at ecd
        obtain ⟨B3, rl3, s3, rp3, hB3, hL3⟩ : ∃ B3, Rl X.K ct F B3 H3 (L2.wipe σ vs) E2 fps2 ∧ Same B2 B3 ∧ Rp X.K ct B3 x d ∧ B3 L = none ∧ H3 L = some (.lst acc) := by
          rcases hx with ⟨rfl, rp⟩ | ⟨p, o, hn, rfl, rfl, rp⟩
          · exact ⟨B2, rl2, Same.refl _, rp.mono s2, hB2, hL2⟩
          · obtain ⟨q1, q2⟩ := rl2.laid (o := o) hn
            have hpL : L ≠ p := ne_of_none hL2 hn
            refine ⟨_, q1, q2, rp.mono fun b u e => ?_, by rw [upd_ne hpL]; exact hB2, by rw [upd_ne hpL]; exact hL2⟩
            unfold upd at e ⊢
            split at e
            · rw [if_pos (by assumption)]; exact e
            · rw [if_neg (by assumption)]; exact s2 b u e
        unfold compD at ecd
        cases eg : g d E2 with
        | none => rw [eg] at ecd; cases ecd
        | some E3 =>
          rw [eg] at ecd
          dsimp only at ecd
          have rp3' := rl3.plus (o := .lst acc) hL3 hB3 hf2 hB0
          refine ⟨F.plus L (.lst acc), B3, E2, fps2, d, rp3', rp3, E3, eg, fun σ4 fps4 rl4 ou => ⟨wipe_outs ou hv, ?_⟩⟩
          have hwp := wipe_outs ou hv
          cases et : t E3 with
          | bad => rw [et] at ecd; cases ecd
          | ex x E4 => rw [et] at ecd; cases ecd
          | ok b E4 =>
            rw [et] at ecd
            refine ⟨F.plus L (.lst acc), B3, E3, fps4, rl4, ?_⟩
            rw [et]
            intro b' B5 H5 fp5 rl5 s5 eb
            subst eb
            cases b' with
            | false =>
              show ∃ B E fps acc accD rest, _
              obtain ⟨rm, hL5, hB5, hf5⟩ := rl5.minus hGL
              obtain ⟨fp6, rw6, sub6⟩ := rm.wipe vs
              rw [hwp] at rw6
              exact ⟨B5, _, fp6, acc, accD, rest, rw6, (s2.trans s3).trans s5, hB5.trans hB0, fun j z => hf5 j (sub6 j L z), hL5, (ra.mono s3).mono s5, by omega, eo, ecd⟩
            | true =>
              show tM X.K ct W0 m σ4 H5 _
              dsimp only at ecd
              refine ⟨F.plus L (.lst acc), B5, E4, fp5, rl5, ?_⟩
              cases em : m E4 with
              | bad => rw [em] at ecd; cases ecd
              | ex x E5 => rw [em] at ecd; cases ecd
              | ok y E5 =>
                rw [em] at ecd
                dsimp only at ecd
                obtain ⟨res, e1, e2⟩ := Option.map_eq_some_iff.mp ecd
                obtain ⟨rest2, Ee2⟩ := res
                have e3 : y :: rest2 = rest ∧ Ee2 = Ee := by simpa using e2
                obtain ⟨e4, e5⟩ := e3
                subst e4 e5
                intro v B6 H6 fp6 rl6 s6 rp6
                obtain ⟨rm, hL6, hB6, hf6⟩ := rl6.minus hGL
                have hB6' := hB6.trans hB0
                refine ⟨acc, hL6, by omega, ?_⟩
                have rg := rm.grown (o := .lst (acc ++ [v])) hGL hB6' hf6 hDm
                obtain ⟨fp7, rw7, sub7⟩ := rg.wipe vs
                rw [hwp] at rw7
                refine ⟨B6, _, fp7, acc ++ [v], accD ++ [y], rest2, rw7, ((s2.trans s3).trans s5).trans s6, hB6', fun j z => hf6 j (sub7 j L z), upd_same, (((ra.mono s3).mono s5).mono s6).app (.cons rp6 .nil), by simp; omega, by rw [eo]; simp, e1⟩
      · refine .inl ⟨ok.stop i H2 sH (by omega), ?_⟩
        rw [List.drop_eq_nil_of_le (by omega)] at ecd
        have e1 : rest = [] ∧ E2 = Ee := by
          have : some (([] : List D), E2) = some (rest, Ee) := ecd
          injection this with this
          injection this with q1 q2
          exact ⟨q1.symm, q2⟩
        obtain ⟨rfl, rfl⟩ := e1
        obtain ⟨fp3, q3, q4⟩ := Rl.rest' rl1 rl2 s2 hf
        refine h1 L _ H2 fp3 q3 s2 ⟨⟨rfl, acc, hL2, ?_⟩, hGL, hB2, hDm, fun j z => hf2 j (q4 j L z)⟩
        rw [eo, List.append_nil]
        exact ra

theorem n_lc {elt tg iter : Expr} {ifs : List Expr} {scope : Scope} {own : List (Str × Nat)} {pos : Pos} {mi : M (List D)} {is : List Nat} {g : GM} {t : M Bool} {m : M D} (hc : X.calm = true) (hN : X.N.Nodup) (hi : Itd' X ct W tg iter mi) (ok : BlkOk X.N X.env.scope scope own)
    (hv : ∀ i ∈ is, i ∈ own.map (·.2)) (hg : ∀ (s : Shared) (H : Hp) (C : Addr) (cl : List (Str × Addr)) (fp : List Addr), Gd (X.blk s H scope (compEnvC scope cl C X.env) fp) ct tg is g) (ht : ∀ (s : Shared) (H : Hp) (C : Addr) (cl : List (Str × Addr)) (fp : List Addr), PTd (X.blk s H scope (compEnvC scope cl C X.env) fp) ct ifs t)
    (he : ∀ (s : Shared) (H : Hp) (C : Addr) (cl : List (Str × Addr)) (fp : List Addr), Ed (X.blk s H scope (compEnvC scope cl C X.env) fp) ct W0 elt m) (hs : ∀ x, foldedSetIterable iter X.env x = pure x := by intro _; rfl) :
    Nd X ct W (.ListComp elt [⟨tg, iter, ifs, 0⟩] scope pos) (nLc mi g t m (own.map (·.2))) :=
  PE.imp (pe_lc (own := own) hc hN hi ok hg ht he hs) (lc_impN hv)
/-- name = [..], the list then owned -/
theorem s_ownLc {i : Nat} {y : Str} {py spos : Pos} {elt tg iter : Expr} {ifs : List Expr} {scope : Scope} {own : List (Str × Nat)} {pos : Pos} {mi : M (List D)} {is : List Nat} {g : GM} {t : M Bool} {m : M D} (hc : X.calm = true) (hN : X.N.Nodup) (hy : X.N[i]? = some y) (hyl : X.env.scope.names.lookup y = some .local)
    (hsw : swapsWith (.ListComp elt [⟨tg, iter, ifs, 0⟩] scope pos) (some (.Name y py)) spos.line X.env = pure true) (hi : Itd' X ct W tg iter mi) (ok : BlkOk X.N X.env.scope scope own)
    (hv : ∀ i ∈ is, i ∈ own.map (·.2)) (hg : ∀ (s : Shared) (H : Hp) (C : Addr) (cl : List (Str × Addr)) (fp : List Addr), Gd (X.blk s H scope (compEnvC scope cl C X.env) fp) ct tg is g) (ht : ∀ (s : Shared) (H : Hp) (C : Addr) (cl : List (Str × Addr)) (fp : List Addr), PTd (X.blk s H scope (compEnvC scope cl C X.env) fp) ct ifs t)
    (he : ∀ (s : Shared) (H : Hp) (C : Addr) (cl : List (Str × Addr)) (fp : List Addr), Ed (X.blk s H scope (compEnvC scope cl C X.env) fp) ct W0 elt m) (hs : ∀ x, foldedSetIterable iter X.env x = pure x := by intro _; rfl) :
    Sd X ct W (.Assign [.Name y py] (.ListComp elt [⟨tg, iter, ifs, 0⟩] scope pos) spos) (sOwn i (nLc mi g t m (own.map (·.2)))) := by
  refine ⟨fun pins s σ H N I h => ?_⟩
  have hlen : i < σ.length := by rw [I.len]; exact (List.getElem?_eq_some_iff.mp hy).1
  refine (ps_setLc (own := own) (wi := tIt X.K ct W mi) (g := tGt X.K ct is g) (tt := tMT X.K ct W0 t) (te := tM X.K ct W0 m) hc hN hy hyl hsw hi ok hg ht he hs).run pins s σ H N I ?_
  obtain ⟨F, B, E, fps, rl, h⟩ := h
  refine lc_impN hv σ H _ ⟨F, B, E, fps, rl, (PstN.thenS (σ := σ) h).imp ?_⟩
  rintro v H1 ⟨n, E1, B1, fps1, a, rl1, s1, rfl, nw, h1⟩
  exact h1 _ B1 _ _ (rl1.setN nw (by rw [← rl1.ln]; exact hlen)) (Same.refl B1)

/-! ### two names at once, each data or new -/
abbrev Pk := D ⊕ Nk
def Pk.sl : Pk → Sl
  | .inl d => .val d
  | .inr n => .own none (.nd n.1 n.2)
def PkAt (K : PySem.W.Frag) (ct : Ct) (F : Fm) (B H : Hp) (fps : Nat → List Addr) (v : V) : Pk → Prop
  | .inl d => Rp K ct B v d
  | .inr n => ∃ a, v = .ref a ∧ NwAt K ct F B H fps a n
def PstP (K : PySem.W.Frag) (ct : Ct) (W : WX) (F : Fm) (B : Hp) (σ : L2.St) (r : R Pk) (Q : VK) : Prop :=
  match r with
  | .ok p E' => ∀ v B' H' fps, Rl K ct F B' H' σ E' fps → Same B B' → PkAt K ct F B' H' fps v p → Q v H'
  | .ex x E' => ∀ c dx B' H' fps, Rl K ct F B' H' σ E' fps → Same B B' → XR K ct B' c dx x → W c dx σ H'
  | .bad => False
abbrev Pd (X : Cx) (ct : Ct) (W : WX) (e : Expr) (m : M Pk) : Prop := PE X e (fun σ H Q => ∃ F B E fps, Rl X.K ct F B H σ E fps ∧ PstP X.K ct W F B σ (m E) Q)
def pD (m : M D) : M Pk := m.bnd fun d => .ret (.inl d)
def pN (m : M Nk) : M Pk := m.bnd fun d => .ret (.inr d)
theorem p_d {e : Expr} {m : M D} (h : Ed X ct W e m) : Pd X ct W e (pD m) := by
  refine PE.imp h fun σ H Q h => ?_
  obtain ⟨F, B, E, fps, rl, h⟩ := h
  refine ⟨F, B, E, fps, rl, ?_⟩
  have h' : PstP X.K ct W F B σ (R.bind (m E) fun d => M.ret (.inl d)) Q := h
  cases e : m E with
  | ok d E1 => rw [e] at h'; exact fun v B1 H1 fp r s q => h' v B1 H1 fp r s q
  | ex x E1 => rw [e] at h'; exact h'
  | bad => rw [e] at h'; exact h'
theorem p_n {e : Expr} {m : M Nk} (h : Nd X ct W e m) : Pd X ct W e (pN m) := by
  refine PE.imp h fun σ H Q h => ?_
  obtain ⟨F, B, E, fps, rl, h⟩ := h
  refine ⟨F, B, E, fps, rl, ?_⟩
  have h' : PstP X.K ct W F B σ (R.bind (m E) fun d => M.ret (.inr d)) Q := h
  cases e : m E with
  | ok d E1 => rw [e] at h'; exact fun a B1 H1 fp r s q => h' (.ref a) B1 H1 fp r s ⟨a, rfl, q⟩
  | ex x E1 => rw [e] at h'; exact h'
  | bad => rw [e] at h'; exact h'
def sPar2 (i j : Nat) (a b : M Pk) : SM := a.bnd fun x => b.bnd fun y E => .ok .nx ((E.set i x.sl).set j y.sl)
/-- a slot gets it -/
theorem Rl.setP {K : PySem.W.Frag} {F : Fm} {B H : Hp} {σ : L2.St} {E : Env'} {fps : Nat → List Addr} {i : Nat} {v : V} {p : Pk} (r : Rl K ct F B H σ E fps) (h : PkAt K ct F B H fps v p) (hi : i < E.length) :
    ∃ fps', Rl K ct F B H (σ.set i (some v)) (E.set i p.sl) fps' ∧ ∀ j b, b ∈ fps' j → b ∈ fps j ∨ (∃ n, p = .inr n ∧ v = .ref b) := by
  cases p with
  | inl d =>
    refine ⟨_, r.setV h, fun j b hb => .inl ?_⟩
    have hb' : b ∈ (if j = i then [] else fps j) := hb
    split at hb'
    · cases hb'
    · exact hb'
  | inr n =>
    obtain ⟨a, rfl, nw⟩ := h
    refine ⟨_, r.setN nw hi, fun j b hb => ?_⟩
    have hb' : b ∈ (if j = i then [a] else fps j) := hb
    split at hb'
    · have : b = a := by simpa using hb'
      exact .inr ⟨n, rfl, by rw [this]⟩
    · exact .inl hb'
theorem s_par2 {i j : Nat} {x y : Str} {a b : Expr} {ma mb : M Pk} {px py pt : Pos} {kt k2 pt2} {pos : Pos} (hc : X.calm = true) (hN : X.N.Nodup) (hi : X.N[i]? = some x) (hj : X.N[j]? = some y) (hij : i ≠ j)
    (hx : X.env.scope.names.lookup x = some .local) (hy : X.env.scope.names.lookup y = some .local) (ha : Pd X ct W a ma) (hb : Pd X ct W b mb)
    (hw : swappedStores [.Tuple [.Name x px, .Name y py] kt pt] (.Tuple [a, b] k2 pt2) X.env = pure (some [x, y]))
    (hs : swapsWithSole [.Tuple [.Name x px, .Name y py] kt pt] (.Tuple [a, b] k2 pt2) pos.line X.env = pure false := by rfl)
    (h1 : starEach [b] X.env = (false, eval b X.env) :: starEach [] X.env := by rfl) (h2 : starEach [a, b] X.env = (false, eval a X.env) :: starEach [b] X.env := by rfl) :
    Sd X ct W (.Assign [.Tuple [.Name x px, .Name y py] kt pt] (.Tuple [a, b] k2 pt2) pos) (sPar2 i j ma mb) := by
  refine ⟨fun pins s σ H N I h => ?_⟩
  have li : i < σ.length := by rw [I.len]; exact (List.getElem?_eq_some_iff.mp hi).1
  have lj : j < σ.length := by rw [I.len]; exact (List.getElem?_eq_some_iff.mp hj).1
  refine (ps_par hc hN hi hj hij hx hy (pa_cons ha (pa_cons hb pa_nil h1) h2) hw hs).run pins s σ H N I ?_
  obtain ⟨F, B, E, fps, rl, h⟩ := h
  have h' : PstS X.K ct W F B (R.bind (ma E) fun x => M.bnd mb fun y E => .ok .nx ((E.set i x.sl).set j y.sl)) N := h
  refine ⟨F, B, E, fps, rl, ?_⟩
  cases ea : ma E with
  | bad => rw [ea] at h'; exact h'
  | ex x E1 => rw [ea] at h'; exact fun c dx B1 H1 fp r s q => h' c dx σ B1 H1 fp r s q
  | ok p E1 =>
    rw [ea] at h'
    have h2' : PstS X.K ct W F B (R.bind (mb E1) fun y E => .ok .nx ((E.set i p.sl).set j y.sl)) N := h'
    intro v B1 H1 fps1 r1 s1 pa1
    -- what follows, by the relation behind the second
    have key : ∀ {w : V} {q : Pk} {B2 H2 : Hp} {E2 : Env'} {fps2 : Nat → List Addr}, mb E1 = .ok q E2 → Rl X.K ct F B2 H2 σ E2 fps2 → Same B1 B2 → PkAt X.K ct F B2 H2 fps2 v p → PkAt X.K ct F B2 H2 fps2 w q → (∀ n m, p = .inr n → q = .inr m → v ≠ w) →
        N.nx ((σ.set i (some v)).set j (some w)) H2 := by
      intro w q B2 H2 E2 fps2 eb r2 s2 pv pw ne
      rw [eb] at h2'
      have l2 : σ.length = E2.length := r2.ln
      obtain ⟨fps3, r3, k3⟩ := r2.setP (i := i) pv (by rw [← l2]; exact li)
      have pw' : PkAt X.K ct F B2 H2 fps3 w q := by
        cases q with
        | inl d => exact pw
        | inr n =>
          obtain ⟨b, rfl, nw⟩ := pw
          refine ⟨b, rfl, nw.ow, nw.fG, nw.fB, nw.fD, fun jj hb => ?_⟩
          rcases k3 jj b hb with z | ⟨m, e1, z⟩
          · exact nw.ff jj z
          · exact ne m n e1 rfl z
      obtain ⟨fps4, r4, _⟩ := r3.setP (i := j) pw' (by rw [List.length_set, ← l2]; exact lj)
      exact h2' _ B2 H2 fps4 r4 (s1.trans s2)
    cases p with
    | inl d =>
      have pv : Rp X.K ct B1 v d := pa1
      refine ⟨F, B1, E1, fps1, r1, ?_⟩
      cases eb : mb E1 with
      | bad => rw [eb] at h2'; exact h2'
      | ex x E2 => rw [eb] at h2'; exact fun c dx B2 H2 fp r s q => h2' c dx σ B2 H2 fp r (s1.trans s) q
      | ok q E2 => exact fun w B2 H2 fps2 r2 s2 pw => ⟨v, w, rfl, key eb r2 s2 (pv.mono s2) pw (fun n m z => by cases z)⟩
    | inr n =>
      obtain ⟨a', rfl, nw⟩ := pa1
      obtain ⟨o, ho, rh, back⟩ := nw.hold r1
      refine ⟨F.plus a' o, B1, E1, fps1, rh, ?_⟩
      cases eb : mb E1 with
      | bad => rw [eb] at h2'; exact h2'
      | ex x E2 =>
        rw [eb] at h2'
        intro c dx B2 H2 fp r s q
        exact h2' c dx σ B2 H2 fp (back r s).1 (s1.trans s) q
      | ok q E2 =>
        intro w B2 H2 fps2 r2 s2 pw
        obtain ⟨rm, nw2⟩ := back r2 s2
        refine ⟨_, w, rfl, key eb rm s2 ⟨a', rfl, nw2⟩ ?_ ?_⟩
        · cases q with
          | inl d => exact pw
          | inr m =>
            obtain ⟨b', rfl, nb⟩ := pw
            have hne : b' ≠ a' := fun z => nb.fD (.inr z)
            exact ⟨b', rfl, nb.ow, by have := nb.fG; rw [show (F.plus a' o).G b' = upd F.G a' o b' from rfl, upd_ne hne] at this; exact this, nb.fB, fun z => nb.fD (.inl z), nb.ff⟩
        · intro n' m _ e2 z
          subst e2
          obtain ⟨b', rfl, nb⟩ := pw
          injection z with z
          exact nb.fD (.inr z.symm)
end
end Wu

/-! Dicts as data; owned lists and dicts: read, stored. -/
namespace Wu
open PySem PySem.Spec PyProof.Rows L2

def D.key : D → Option Key
  | .int i => some (.inl i)
  | .str x => some (.inr x)
  | _ => none
def valZ {κ α : Type} [DecidableEq κ] (ks : List κ) (l : List α) (k : κ) : Option α := ((ks.zip l).find? fun kv => decide (kv.1 = k)).map (·.2)
def setZ {κ α : Type} [DecidableEq κ] (k : κ) (v : α) : List κ → List α → List α
  | k' :: ks, x :: l => (if k' = k then v else x) :: setZ k v ks l
  | _, _ => []
def putZ {κ α : Type} [DecidableEq κ] (ks : List κ) (l : List α) (k : κ) (v : α) : List κ × List α :=
  if (ks.any fun k' => decide (k' = k)) = true then (ks, setZ k v ks l) else (ks ++ [k], l ++ [v])
theorem setZ_len {κ α : Type} [DecidableEq κ] {k : κ} {v : α} : ∀ {ks : List κ} {l : List α}, ks.length = l.length → (setZ k v ks l).length = l.length
  | [], [], _ => rfl
  | _ :: ks, _ :: l, h => congrArg (· + 1) (setZ_len (Nat.succ.inj h))
  | [], _ :: _, h => by cases h
  | _ :: _, [], h => by cases h
theorem setZ_zip {κ : Type} [DecidableEq κ] {k : κ} {v : V} : ∀ {ks : List κ} {l : List V}, ks.length = l.length → (ks.zip l).map (fun kv => if kv.1 = k then (kv.1, v) else kv) = ks.zip (setZ k v ks l)
  | [], [], _ => rfl
  | k' :: ks, x :: l, h => by
    rw [List.zip_cons_cons, List.map_cons, setZ_zip (Nat.succ.inj h), setZ, List.zip_cons_cons]
    congr 1
    dsimp only
    split <;> rfl
  | [], _ :: _, h => by cases h
  | _ :: _, [], h => by cases h
theorem any_zip {κ α : Type} {p : κ → Bool} : ∀ {ks : List κ} {l : List α}, ks.length = l.length → ((ks.zip l).any fun kv => p kv.1) = ks.any p
  | [], [], _ => rfl
  | k :: ks, x :: l, h => by simp [List.zip_cons_cons, any_zip (Nat.succ.inj h)]
  | [], _ :: _, h => by cases h
  | _ :: _, [], h => by cases h
theorem putZ_zip {κ : Type} [DecidableEq κ] {k : κ} {v : V} {ks : List κ} {l : List V} (h : ks.length = l.length) : putK (ks.zip l) k v = (putZ ks l k v).1.zip (putZ ks l k v).2 ∧ (putZ ks l k v).1.length = (putZ ks l k v).2.length := by
  unfold putK putZ
  rw [any_zip (p := fun k' => decide (k' = k)) h]
  split
  · exact ⟨setZ_zip h, by rw [setZ_len h]; exact h⟩
  · refine ⟨?_, by simp [h]⟩
    rw [List.zip_append h]; rfl
theorem putZ_keys {κ α β : Type} [DecidableEq κ] {k : κ} {v : α} {u : β} {ks : List κ} {l : List α} {m : List β} : (putZ ks l k v).1 = (putZ ks m k u).1 := by
  unfold putZ
  split <;> rfl
section
variable {K : PySem.W.Frag} {ct : Ct} {B : Hp}
theorem Rp.key {v : V} {d : D} {k : Key} (h : Rp K ct B v d) (e : d.key = some k) : v = kV k := by
  cases h with
  | int i => cases e; rfl
  | str x => cases e; rfl
  | non => cases e
  | bl b => cases e
  | nd q r => cases e
theorem RpL.valZ {κ : Type} [DecidableEq κ] {k : κ} : ∀ {ks : List κ} {vs : List V} {ds : List D}, RpL K ct B vs ds → (∀ d, Wu.valZ ks ds k = some d → ∃ v, valV (ks.zip vs) k = some v ∧ Rp K ct B v d) ∧ (Wu.valZ ks ds k = none → valV (ks.zip vs) k = none)
  | [], vs, ds, h => ⟨fun d e => by simp [Wu.valZ] at e, fun _ => by simp [valV]⟩
  | k' :: ks, [], ds, h => by cases h; exact ⟨fun d e => by simp [Wu.valZ] at e, fun _ => by simp [valV]⟩
  | k' :: ks, v :: vs, ds, h => by
    cases h with
    | @cons _ _ d0 ds0 h1 h2 =>
      obtain ⟨i1, i2⟩ := RpL.valZ (k := k) (ks := ks) h2
      by_cases e : k' = k
      · refine ⟨fun d q => ?_, fun q => ?_⟩
        · rw [Wu.valZ, List.zip_cons_cons, List.find?_cons_of_pos (by simp [e])] at q
          cases q
          exact ⟨v, by rw [List.zip_cons_cons]; exact valV_pos e, h1⟩
        · rw [Wu.valZ, List.zip_cons_cons, List.find?_cons_of_pos (by simp [e])] at q
          cases q
      · have en : Wu.valZ (k' :: ks) (d0 :: ds0) k = Wu.valZ ks ds0 k := by
          rw [Wu.valZ, List.zip_cons_cons, List.find?_cons_of_neg (by simp [e])]; rfl
        have ev : valV ((k' :: ks).zip (v :: vs)) k = valV (ks.zip vs) k := by rw [List.zip_cons_cons]; exact valV_neg e
        rw [en, ev]
        exact ⟨i1, i2⟩
theorem RpL.setZ {κ : Type} [DecidableEq κ] {k : κ} {v : V} {d : D} (h : Rp K ct B v d) : ∀ {ks : List κ} {vs : List V} {ds : List D}, RpL K ct B vs ds → RpL K ct B (Wu.setZ k v ks vs) (Wu.setZ k d ks ds)
  | [], vs, ds, r => by simp [Wu.setZ]; exact .nil
  | k' :: ks, [], ds, r => by cases r; simp [Wu.setZ]; exact .nil
  | k' :: ks, x :: vs, ds, r => by
    cases r with
    | cons r1 r2 =>
      simp only [Wu.setZ]
      refine .cons ?_ (RpL.setZ h r2)
      split
      · exact h
      · exact r1
theorem RpL.putZ {κ : Type} [DecidableEq κ] {k : κ} {v : V} {d : D} (h : Rp K ct B v d) {ks : List κ} {vs : List V} {ds : List D} (r : RpL K ct B vs ds) : RpL K ct B (Wu.putZ ks vs k v).2 (Wu.putZ ks ds k d).2 := by
  unfold Wu.putZ
  split
  · exact r.setZ h
  · exact r.app (.cons h .nil)
end
def pIxA (a b : D) : Option D := match a with
  | .nd (.dct ks) ds => b.key.bind fun k => valZ ks ds k
  | _ => pIx a b
def pInA (neg : Bool) (a b : D) : Option D := match b with
  | .nd (.dct ks) ds => a.key.bind fun k => if ks.length = ds.length then some (.bl (if neg then !(valZ ks ds k).isSome else (valZ ks ds k).isSome)) else none
  | _ => pInS neg a b
abbrev rIxD' : R2 := fun x y H Q => ∃ a v, x = .ref a ∧ DGet H a y (some v) ∧ Q v H
abbrev rInD' (neg : Bool) : R2 := fun y x H Q => ∃ a o, x = .ref a ∧ DGet H a y o ∧ Q (.bl (if neg then !o.isSome else o.isSome)) H
section
variable {X : Cx} {ct : Ct} {W : WX}
theorem ix_dct (hu : X.A.units + 1 < cLine) : IxR X rIxD' := by
  intro value slice pins s σ H x y v u Q I rx ry h hs
  obtain ⟨a, z, rfl, g, q⟩ := h
  obtain rfl : v = Value.ref a := rx
  have hT := dict_typeIs I g
  unfold subscriptTail
  refine wpAny_bind ?_
  rw [getitemInPython_of_ne hT.not_modules]
  refine wpAny_bind (wpAny_specialOf hT PySem.F.slot_dict_getitem.lookup ?_)
  have fin : wpAny (model X.prog X.w) X.A (subscripted slice false (.ref a) u) (fun r s₃ => wpAny (model X.prog X.w) X.A (letTemporaryGo value (.ref a) r >>= fun _ => pure r) (EP X pins σ Q) X.xe s₃) X.xe s := by
    rw [hs]
    exact wpAny_operating (wpAny_mono (d_getItem hu I g ry fun w' s3 I3 rw' => (⟨z, H, I3, rw', q⟩ : EP X pins σ Q w' s3)) (fun r s₃ h₃ => wpAny_bind (wpAny_letTemporaryGo (wpAny_pure h₃))) fun _ _ x => x)
  first
    | exact wpAny_pure (wpAny_bind fin)
    | exact wpAny_bind (wpAny_pure (wpAny_bind fin))
    | exact wpAny_bind fin
theorem op_inD (hu : X.A.units + 1 < cLine) : OpR X (compareOp .In) (rInD' false) := by
  intro pins s σ H y x v u Q I ry rx h
  obtain ⟨a, o, rfl, g, q⟩ := h
  obtain rfl : u = Value.ref a := rx
  exact L2.d_in hu I g ry fun s3 I3 => ⟨.bl o.isSome, H, I3, rfl, q⟩
theorem op_notInD (hu : X.A.units + 1 < cLine) : OpR X (compareOp .NotIn) (rInD' true) := by
  intro pins s σ H y x v u Q I ry rx h
  obtain ⟨a, o, rfl, g, q⟩ := h
  obtain rfl : u = Value.ref a := rx
  exact L2.d_notIn hu I g ry fun s3 I3 => ⟨.bl (!o.isSome), H, I3, rfl, q⟩
theorem ok_ixA {K : PySem.W.Frag} : OpOk K ct (fun x y H Q => rIx K x y H Q ∨ rIxD' x y H Q) pIxA := by
  intro B H x y a b d Q s rx ry e o
  unfold pIxA at e
  split at e
  · rename_i ks ds
    obtain ⟨k, e1, e2⟩ := Option.bind_eq_some_iff.mp e
    obtain ⟨a, xs, rfl, ⟨hl, hd⟩, rr⟩ := rx.ndI
    obtain ⟨v, e3, rv⟩ := (RpL.valZ (k := k) (ks := ks) rr).1 d e2
    exact .inr ⟨a, v, rfl, .inl ⟨_, k, rd_mono s hd, ry.key e1, e3.symm⟩, o.1 v rv⟩
  · exact .inl (ok_ix B H x y a b d Q s rx ry e o)
theorem ok_inA {K : PySem.W.Frag} {neg : Bool} : OpOk K ct (fun x y H Q => rInAll K neg x y H Q ∨ rInD' neg x y H Q) (pInA neg) := by
  intro B H x y a b d Q s rx ry e o
  unfold pInA at e
  split at e
  · rename_i ks ds
    obtain ⟨k, e1, e2⟩ := Option.bind_eq_some_iff.mp e
    split at e2
    · obtain ⟨a, xs, rfl, ⟨hl, hd⟩, rr⟩ := ry.ndI
      obtain ⟨q1, q2⟩ := RpL.valZ (k := k) (ks := ks) rr
      refine .inr ⟨a, valV (ks.zip xs) k, rfl, .inl ⟨_, k, rd_mono s hd, rx.key e1, rfl⟩, ?_⟩
      have ei : (valV (ks.zip xs) k).isSome = (valZ ks ds k).isSome := by
        cases ez : valZ ks ds k with
        | none => rw [q2 ez]; rfl
        | some z => obtain ⟨v, e3, _⟩ := q1 z ez; rw [e3]; rfl
      rw [ei]
      cases e2
      exact o.1 _ (.bl _)
    · cases e2
  · exact .inl (ok_in B H x y a b d Q s rx ry e o)
theorem OpR.or' {op : Value → Value → Sem Value} {r r' : R2} (h : OpR X op r) (h' : OpR X op r') : OpR X op (fun x y H Q => r x y H Q ∨ r' x y H Q) := by
  intro pins s σ H x y v u Q I rx ry q
  rcases q with q | q
  · exact h pins s σ H x y v u Q I rx ry q
  · exact h' pins s σ H x y v u Q I rx ry q
theorem d_ixA {a b : Expr} {pos : Pos} {ma mb : M D} (hu : X.A.units + 64 < cLine) (ha : Ed X ct W a ma) (hb : Ed X ct W b mb) (hs : PlainIx b := by intro _ _; rfl) : Ed X ct W (.Subscript a b pos) (mOp pIxA ma mb) :=
  PE.imp (pe_ix (ix_seq.or (ix_dct (by omega))) ha hb hs) ok_ixA.imp
theorem d_inA {a b : Expr} {pos : Pos} {ma mb : M D} (hu : X.A.units + 64 < cLine) (ha : Ed X ct W a ma) (hb : Ed X ct W b mb) (hm : behindInMarks .In b = false := by rfl) : Ed X ct W (.Compare a [.In] [b] pos) (mOp (pInA false) ma mb) :=
  d_cmp (OpR.or' op_inAll (op_inD (by omega))) ok_inA ha hb hm
theorem d_notinA {a b : Expr} {pos : Pos} {ma mb : M D} (hu : X.A.units + 64 < cLine) (ha : Ed X ct W a ma) (hb : Ed X ct W b mb) (hm : behindInMarks .NotIn b = false := by rfl) : Ed X ct W (.Compare a [.NotIn] [b] pos) (mOp (pInA true) ma mb) :=
  d_cmp (OpR.or' op_notInAll (op_notInD (by omega))) ok_inA ha hb hm
theorem t_inA {a b : Expr} {pos : Pos} {ma mb : M D} (hu : X.A.units + 64 < cLine) (ha : Ed X ct W a ma) (hb : Ed X ct W b mb) (hm : behindInMarks .In b = false := by rfl) : Td X ct W (.Compare a [.In] [b] pos) (mTest (mOp (pInA false) ma mb)) :=
  t_cmp (OpR.or' op_inAll (op_inD (by omega))) ok_inA ha hb hm
theorem t_notinA {a b : Expr} {pos : Pos} {ma mb : M D} (hu : X.A.units + 64 < cLine) (ha : Ed X ct W a ma) (hb : Ed X ct W b mb) (hm : behindInMarks .NotIn b = false := by rfl) : Td X ct W (.Compare a [.NotIn] [b] pos) (mTest (mOp (pInA true) ma mb)) :=
  t_cmp (OpR.or' op_notInAll (op_notInD (by omega))) ok_inA ha hb hm
end

/-! ### owned names read -/
/-- what stands there, as if it were data -/
def Sl.peek : Sl → Option D
  | .own _ (.nd .lst l) => some (.nd .lst l)
  | .own _ (.nd (.dct ks) l) => some (.nd (.dct ks) l)
  | _ => none
def mOix (i : Nat) (mk : M D) : M D := fun E => if ((E.getD i .und).peek).isSome then (mk.bnd fun k E1 => (M.opt (((E1.getD i .und).peek).bind fun d => pIxA d k)) E1) E else .bad
section
variable {K : PySem.W.Frag} {ct : Ct} {F : Fm} {B H : Hp} {σ : L2.St} {E : Env'} {fps : Nat → List Addr}
theorem getD_some {E : Env'} {i : Nat} {s : Sl} (h : E.getD i .und = s) (hs : s ≠ .und) : E[i]? = some s := by
  rw [List.getD_eq_getElem?_getD] at h
  cases e : E[i]? with
  | none => rw [e] at h; exact absurd h.symm hs
  | some t => rw [e] at h; exact congrArg some h
theorem Rl.peek {i : Nat} {d : D} (r : Rl K ct F B H σ E fps) (h : (E.getD i .und).peek = some d) :
    ∃ a, σ[i]? = some (some (.ref a)) ∧ ((∃ l xs, d = .nd .lst l ∧ H a = some (.lst xs) ∧ RpL K ct B xs l) ∨ ∃ ks l xs, d = .nd (.dct ks) l ∧ ks.length = xs.length ∧ H a = some (.dK (ks.zip xs)) ∧ RpL K ct B xs l) := by
  unfold Sl.peek at h
  split at h
  · rename_i ix l e
    obtain ⟨o, h1, a, h2, _, _, xs, h5, h6⟩ := r.en i _ (getD_some e (by intro z; cases z))
    cases h
    exact ⟨a, by rw [h1, h2], .inl ⟨l, xs, rfl, h5, h6⟩⟩
  · rename_i ix ks l e
    obtain ⟨o, h1, a, h2, _, _, xs, h4, h5, h6⟩ := r.en i _ (getD_some e (by intro z; cases z))
    cases h
    exact ⟨a, by rw [h1, h2], .inr ⟨ks, l, xs, rfl, h4, h5, h6⟩⟩
  · cases h
end
section
variable {X : Cx} {ct : Ct} {W : WX}
theorem d_oix (i : Nat) {x : Str} {b : Expr} {p pos : Pos} {mb : M D} (hu : X.A.units + 64 < cLine) (hb : Ed X ct W b mb) (hs : PlainIx b := by intro _ _; rfl) (hN : X.N[i]? = some x := by rfl)
    (hv : Vis X.env.scope x := by first | exact Or.inl rfl | exact Or.inr (Or.inl rfl) | exact Or.inr (Or.inr rfl)) (hd : (x == ("__debug__" : Str)) = false := by decide) (hcd : (x == ("__classdict__" : Str)) = false := by decide) :
    Ed X ct W (.Subscript (.Name x p) b pos) (mOix i mb) := by
  refine PE.imp (pe_ix (ix_seq.or (ix_dct (by omega))) (pe_var hN hv hd hcd) hb hs) fun σ H Q h => ?_
  obtain ⟨F, B, E, fps, rl, h⟩ := h
  have h' : Pst X.K ct (Rp X.K ct) W F B σ (mOix i mb E) Q := h
  unfold mOix at h'
  split at h'
  case isFalse => exact h'.elim
  rename_i hp
  obtain ⟨d0, e0⟩ := Option.isSome_iff_exists.mp hp
  obtain ⟨a, ha, _⟩ := rl.peek e0
  refine ⟨.ref a, ha, F, B, E, fps, rl, (Pst.bind h').imp ?_⟩
  rintro y H1 ⟨k, E1, B1, fps1, rl1, s1, r1, h1⟩
  obtain ⟨d, e1, h2⟩ := opt_of h1
  obtain ⟨c, e2, e3⟩ := Option.bind_eq_some_iff.mp e1
  obtain ⟨a1, ha1, hc⟩ := rl1.peek e2
  have ea : a1 = a := by
    rw [ha] at ha1
    injection (Option.some.inj (Option.some.inj ha1)) with z
    exact z.symm
  subst ea
  rcases hc with ⟨l, xs, rfl, hx, rx⟩ | ⟨ks, l, xs, rfl, hl, hx, rx⟩
  · have e4 : pIx (.nd .lst l) k = some d := e3
    unfold pIx at e4
    split at e4
    · rename_i q; cases q
    · rename_i l' n q
      cases q
      obtain ⟨v, e5, rv⟩ := rx.atI e4
      rw [r1.intI]
      exact .inl (.inl ⟨a1, xs, n, v, rfl, rfl, SqL.of hx, e5, (out_of rl1 h2).1 v rv⟩)
    · rename_i q; cases q
    · rename_i q; cases q
    · cases e4
  · obtain ⟨kk, e4, e5⟩ := Option.bind_eq_some_iff.mp (show k.key.bind _ = some d from e3)
    obtain ⟨v, e6, rv⟩ := (RpL.valZ (k := kk) (ks := ks) rx).1 d e5
    exact .inr ⟨a1, v, rfl, .inl ⟨_, kk, .inl hx, r1.key e4, e6.symm⟩, (out_of rl1 h2).1 v rv⟩
end

/-! ### owned names stored into -/
def stZ (s : Sl) (k v : D) : Option Sl := match s with
  | .own ix (.nd .lst l) => match k with
    | .int n => (ixN l.length n).map fun j => .own ix (.nd .lst (l.set j v))
    | _ => none
  | .own ix (.nd (.dct ks) l) => if l.length < sizeLine then k.key.map fun k => .own ix (.nd (.dct (putZ ks l k v).1) (putZ ks l k v).2) else none
  | _ => none
/-- x[k] = v -/
def sOset (i : Nat) (mk mv : M D) : SM := mv.bnd fun v E => if ((E.getD i .und).peek).isSome then (mk.bnd fun k E1 => match stZ (E1.getD i .und) k v with
  | some s => .ok .nx (E1.set i s)
  | none => .bad) E else .bad
theorem PSet.or {X : Cx} {t t' : TSet} (h : PSet X t) (h' : PSet X t') : PSet X (fun o i v H Q => t o i v H Q ∨ t' o i v H Q) := by
  intro pins s σ H o i v ov iv u Q I ro ri rv q
  rcases q with q | q
  · exact h pins s σ H o i v ov iv u Q I ro ri rv q
  · exact h' pins s σ H o i v ov iv u Q I ro ri rv q
section
variable {X : Cx} {ct : Ct} {W : WX}
theorem s_oset (i : Nat) {x : Str} {b v : Expr} {p p2 pos : Pos} {mb mv : M D} (hu : X.A.units + 64 < cLine) (hb : Ed X ct W b mb) (hv : Ed X ct W v mv) (hN : X.N[i]? = some x := by rfl)
    (hvis : Vis X.env.scope x := by first | exact Or.inl rfl | exact Or.inr (Or.inl rfl) | exact Or.inr (Or.inr rfl)) (hd : (x == ("__debug__" : Str)) = false := by decide) (hcd : (x == ("__classdict__" : Str)) = false := by decide)
    (hs : swapsWithSole [.Subscript (.Name x p) b p2] v pos.line X.env = pure false := by rfl) (hw : swappedStores [.Subscript (.Name x p) b p2] v X.env = pure none := by rfl)
    (h1 : (assignEach [.Subscript (.Name x p) b p2] X.env).map (·.2) = [assign (.Subscript (.Name x p) b p2) X.env] := by rfl)
    (hsub : ∀ v, assign (.Subscript (.Name x p) b p2) X.env v = (do
      let ov ← holding [v] (eval (.Name x p) X.env)
      let iv ← holding [v, ov] (eval b X.env)
      standAt p2
      holding [v, ov, iv] (setItem ov iv v)
      release [v, ov, iv] []) := by intro _; rfl) : Sd X ct W (.Assign [.Subscript (.Name x p) b p2] v pos) (sOset i mb mv) := by
  refine PS.imp (ps_asg hv (pg_sub (pe_var hN hvis hd hcd) hb (PSet.or set_list (set_dict (by omega))) hsub) hs hw h1) fun N σ H h => ?_
  obtain ⟨F, B, E, fps, rl, h⟩ := h
  refine ⟨F, B, E, fps, rl, (PstS.bind (σ := σ) (Rr := Rp X.K ct) h).imp ?_⟩
  rintro y H1 ⟨d, E1, B1, fps1, rl1, s1, r1, h1⟩
  split at h1
  case isFalse => exact h1.elim
  rename_i hp
  obtain ⟨d0, e0⟩ := Option.isSome_iff_exists.mp hp
  obtain ⟨a, ha, _⟩ := rl1.peek e0
  refine ⟨.ref a, ha, F, B1, E1, fps1, rl1, (PstS.bind (σ := σ) (Rr := Rp X.K ct) h1).imp ?_⟩
  rintro z H2 ⟨k, E2, B2, fps2, rl2, s2, r2, h2⟩
  cases es : stZ (E2.getD i .und) k d with
  | none => rw [es] at h2; exact h2.elim
  | some sl =>
    rw [es] at h2
    unfold stZ at es
    split at es
    · rename_i ix l eg
      split at es
      · rename_i n
        obtain ⟨j, e3, e4⟩ := Option.map_eq_some_iff.mp es
        subst e4
        have eE := getD_some eg (by intro z; cases z)
        obtain ⟨a1, xs, q1, q2, q3, q4⟩ := own_lst rl2 eE
        have ea : a1 = a := by
          rw [ha] at q1
          injection (Option.some.inj (Option.some.inj q1)) with z
          exact z.symm
        subst ea
        refine .inl ⟨a1, xs, n, j, rfl, r2.intI, q3, by rw [q4.len]; exact e3, ?_⟩
        exact h2 σ B2 _ fps2 (rl2.chg eE q1 (by rw [q2]; simp) q2 ⟨rfl, _, upd_same, q4.set (r1.mono s2) j⟩) (Same.refl B2)
      · cases es
    · rename_i ix ks l eg
      split at es
      · rename_i hz
        obtain ⟨kk, e3, e4⟩ := Option.map_eq_some_iff.mp es
        subst e4
        have eE := getD_some eg (by intro z; cases z)
        obtain ⟨o, g1, a1, g2, g3, q2, xs, hl, q3, q4⟩ := rl2.en i _ eE
        have q1 : σ[i]? = some (some (.ref a1)) := by rw [g1, g2]
        have ea : a1 = a := by
          rw [ha] at q1
          injection (Option.some.inj (Option.some.inj q1)) with z
          exact z.symm
        subst ea
        have pz := putZ_zip (k := kk) (v := y) hl
        refine .inr ⟨a1, _, rfl, .inl ⟨_, kk, q3, r2.key e3, ?_, rfl⟩, ?_⟩
        · rw [List.length_zip, hl, q4.len]; omega
        · refine h2 σ B2 _ fps2 (rl2.chg eE q1 (by rw [q2]; simp) q2 ⟨rfl, (putZ ks xs kk y).2, ?_, ?_, q4.putZ (r1.mono s2)⟩) (Same.refl B2)
          · rw [← putZ_keys (l := xs) (v := y)]; exact pz.2
          · rw [upd_same, pz.1, putZ_keys (m := l) (u := d)]
      · cases es
    · cases es
end
end Wu

/-! Dict comprehensions. -/
namespace Wu
open PySem PySem.Spec PyProof.Rows L2

def compDD (g : GM) (t : M Bool) (mk m : M D) (vs : List Nat) : List D → List Key × List D → Env' → Option ((List Key × List D) × Env')
  | [], a, E => some (a, E)
  | d :: ds, a, E => match g d E with
    | none => none
    | some E1 => match t E1 with
      | .ok true E2 => match mk E2 with
        | .ok k E3 => match k.key with
          | none => none
          | some k => match m E3 with
            | .ok y E4 => compDD g t mk m vs ds ((putZ a.1 a.2 k y).1, (putZ a.1 a.2 k y).2) (wipeE vs E4)
            | _ => none
        | _ => none
      | .ok false E2 => compDD g t mk m vs ds a (wipeE vs E2)
      | _ => none
def nDc (mi : M (List D)) (g : GM) (t : M Bool) (mk m : M D) (vs : List Nat) : M Nk := mi.bnd fun ds E =>
  if vs.all (fun j => (E.getD j .und).free) && decide (ds.length ≤ sizeLine) then
    match compDD g t mk m vs ds ([], []) (wipeE vs E) with
    | some r => .ok (.dct r.1.1, r.1.2) (restE vs E r.2)
    | none => .bad
  else .bad
section
variable {X : Cx} {ct : Ct} {W : WX}
theorem dc_impN {mi : M (List D)} {is : List Nat} {g : GM} {t : M Bool} {mk m : M D} {vs : List Nat} (hv : ∀ i ∈ is, i ∈ vs) :
    ∀ σ H Q, tNw X.K ct W (nDc mi g t mk m vs) σ H Q → tDc (tIt X.K ct W mi) (tGt X.K ct is g) (tMT X.K ct W0 t) (tM X.K ct W0 mk) (tM X.K ct W0 m) vs σ H Q := by
  intro σ H Q h
  obtain ⟨F, B, E, fps, rl, h⟩ := h
  refine ⟨F, B, E, fps, rl, (PstN.of h).imp ?_⟩
  rintro J H1 ⟨ds, E1, B1, fps1, rl1, s1, ok, h1⟩
  split at h1
  case isFalse => exact h1.elim
  rename_i hc
  obtain ⟨hf, hz⟩ := Bool.and_eq_true_iff.mp hc
  have hz' : ds.length ≤ sizeLine := by simpa using hz
  cases ec : compDD g t mk m vs ds ([], []) (wipeE vs E1) with
  | none => rw [ec] at h1; exact h1.elim
  | some res =>
    obtain ⟨out, Ee⟩ := res
    rw [ec] at h1
    intro L hL
    have hGL : F.G L = none := rl1.gs.free hL
    have hB1 : B1 L = none := rl1.bs.free hL
    have hB0 : F.B0 L = none := rl1.b0.free hB1
    have hDm : ¬ F.Dm L := fun z => by
      obtain ⟨o, ho⟩ := rl1.dm L z
      rw [hL] at ho; cases ho
    have hfL : ∀ j, L ∉ fps1 j := fun j z => by
      obtain ⟨o, ho⟩ := rl1.mem z
      rw [hL] at ho; cases ho
    refine ⟨fun i k H => k = ds.length - i ∧ i ≤ ds.length ∧ ∃ B E fps ks acc accD, Rl X.K ct F B H (L2.wipe σ vs) E fps ∧ Same B1 B ∧ B L = none ∧ (∀ j, L ∉ fps j) ∧ H L = some (.dK (List.zip ks acc)) ∧ ks.length = acc.length ∧ RpL X.K ct B acc accD ∧ acc.length ≤ i ∧
      compDD g t mk m vs (ds.drop i) (ks, accD) E = some (out, Ee), ⟨ds.length, by simp, Nat.zero_le _, ?_⟩, ?_⟩
    · have rg := rl1.grown (o := .dK []) hGL hB1 hfL hDm
      obtain ⟨fps2, rw2, sub2⟩ := rg.wipe vs
      exact ⟨B1, _, fps2, [], [], [], rw2, Same.refl _, hB1, fun j z => hfL j (sub2 j L z), upd_same, rfl, .nil, Nat.zero_le _, by simpa using ec⟩
    · rintro i k H2 ⟨rfl, hi, B2, E2, fps2, ks, acc, accD, rl2, s2, hB2, hf2, hL2, hkl, ra, hal, ecd⟩
      have sH : Same B1 H2 := s2.trans rl2.bs
      by_cases hlt : i < ds.length
      · refine .inr ⟨ok.go i H2 sH hlt, fun H' => ∃ B E fps ks acc accD, Rl X.K ct F B H' (L2.wipe σ vs) E fps ∧ Same B1 B ∧ B L = none ∧ (∀ j, L ∉ fps j) ∧ H' L = some (.dK (List.zip ks acc)) ∧ ks.length = acc.length ∧ RpL X.K ct B acc accD ∧ acc.length ≤ i + 1 ∧
          compDD g t mk m vs (ds.drop (i + 1)) (ks, accD) E = some (out, Ee), fun H' q => ⟨ds.length - (i + 1), by omega, rfl, hlt, q⟩, ?_⟩
        intro x H3 hy
        obtain ⟨d, hd, hx⟩ := ok.yld i H2 x H3 sH hlt hy
        have hdrop : ds.drop i = d :: ds.drop (i + 1) := by
          rw [List.drop_eq_getElem_cons hlt]
          rw [List.getElem?_eq_getElem hlt] at hd
          rw [Option.some.inj hd]
        rw [hdrop] at ecd
        obtain ⟨B3, rl3, s3, rp3, hB3, hL3⟩ : ∃ B3, Rl X.K ct F B3 H3 (L2.wipe σ vs) E2 fps2 ∧ Same B2 B3 ∧ Rp X.K ct B3 x d ∧ B3 L = none ∧ H3 L = some (.dK (ks.zip acc)) := by
          rcases hx with ⟨rfl, rp⟩ | ⟨p, o, hn, rfl, rfl, rp⟩
          · exact ⟨B2, rl2, Same.refl _, rp.mono s2, hB2, hL2⟩
          · obtain ⟨q1, q2⟩ := rl2.laid (o := o) hn
            have hpL : L ≠ p := ne_of_none hL2 hn
            refine ⟨_, q1, q2, rp.mono fun b u e => ?_, by rw [upd_ne hpL]; exact hB2, by rw [upd_ne hpL]; exact hL2⟩
            unfold upd at e ⊢
            split at e
            · rw [if_pos (by assumption)]; exact e
            · rw [if_neg (by assumption)]; exact s2 b u e
        unfold compDD at ecd
        cases eg : g d E2 with
        | none => rw [eg] at ecd; cases ecd
        | some E3 =>
          rw [eg] at ecd
          dsimp only at ecd
          have rp3' := rl3.plus (o := .dK (ks.zip acc)) hL3 hB3 hf2 hB0
          refine ⟨F.plus L (.dK (ks.zip acc)), B3, E2, fps2, d, rp3', rp3, E3, eg, fun σ4 fps4 rl4 ou => ⟨wipe_outs ou hv, ?_⟩⟩
          have hwp := wipe_outs ou hv
          cases et : t E3 with
          | bad => rw [et] at ecd; cases ecd
          | ex x E4 => rw [et] at ecd; cases ecd
          | ok b E4 =>
            rw [et] at ecd
            refine ⟨F.plus L (.dK (ks.zip acc)), B3, E3, fps4, rl4, ?_⟩
            rw [et]
            intro b' B5 H5 fp5 rl5 s5 eb
            subst eb
            cases b' with
            | false =>
              show ∃ B E fps ks acc accD, _
              obtain ⟨rm, hL5, hB5, hf5⟩ := rl5.minus hGL
              obtain ⟨fp6, rw6, sub6⟩ := rm.wipe vs
              rw [hwp] at rw6
              exact ⟨B5, _, fp6, ks, acc, accD, rw6, (s2.trans s3).trans s5, hB5.trans hB0, fun j z => hf5 j (sub6 j L z), hL5, hkl, (ra.mono s3).mono s5, by omega, ecd⟩
            | true =>
              show tM X.K ct W0 mk σ4 H5 _
              dsimp only at ecd
              refine ⟨F.plus L (.dK (ks.zip acc)), B5, E4, fp5, rl5, ?_⟩
              cases ek : mk E4 with
              | bad => rw [ek] at ecd; cases ecd
              | ex x E5 => rw [ek] at ecd; cases ecd
              | ok yk E5 =>
                rw [ek] at ecd
                dsimp only at ecd
                cases ekk : yk.key with
                | none => rw [ekk] at ecd; cases ecd
                | some kk =>
                  rw [ekk] at ecd
                  dsimp only at ecd
                  intro vk B6 H6 fp6 rl6 s6 rp6
                  show tM X.K ct W0 m σ4 H6 _
                  refine ⟨F.plus L (.dK (ks.zip acc)), B6, E5, fp6, rl6, ?_⟩
                  cases em : m E5 with
                  | bad => rw [em] at ecd; cases ecd
                  | ex x E6 => rw [em] at ecd; cases ecd
                  | ok y E6 =>
                    rw [em] at ecd
                    dsimp only at ecd
                    intro v B7 H7 fp7 rl7 s7 rp7
                    obtain ⟨rm, hL7, hB7, hf7⟩ := rl7.minus hGL
                    have hB7' := hB7.trans hB0
                    have pz := putZ_zip (k := kk) (v := v) hkl
                    refine ⟨ks.zip acc, kk, rp6.key ekk, hL7, by rw [List.length_zip]; omega, ?_⟩
                    have rg := rm.grown (o := .dK (putK (ks.zip acc) kk v)) hGL hB7' hf7 hDm
                    obtain ⟨fp8, rw8, sub8⟩ := rg.wipe vs
                    rw [hwp] at rw8
                    have raa := (((ra.mono s3).mono s5).mono s6).mono s7
                    refine ⟨B7, _, fp8, (putZ ks acc kk v).1, (putZ ks acc kk v).2, (putZ ks accD kk y).2, rw8, (((s2.trans s3).trans s5).trans s6).trans s7, hB7', fun j z => hf7 j (sub8 j L z), by rw [upd_same, pz.1], pz.2, raa.putZ rp7, ?_, ?_⟩
                    · have : (putZ ks acc kk v).2.length ≤ acc.length + 1 := by
                        unfold putZ
                        split
                        · show (setZ kk v ks acc).length ≤ _
                          rw [setZ_len hkl]; omega
                        · simp
                      omega
                    · rw [← putZ_keys (l := acc) (m := accD) (v := v) (u := y)] at ecd
                      exact ecd
      · refine .inl ⟨ok.stop i H2 sH (by omega), ?_⟩
        rw [List.drop_eq_nil_of_le (by omega)] at ecd
        have e1 : (ks, accD) = out ∧ E2 = Ee := by
          have : some ((ks, accD), E2) = some (out, Ee) := ecd
          injection this with this
          injection this with q1 q2
          exact ⟨q1, q2⟩
        obtain ⟨rfl, rfl⟩ := e1
        obtain ⟨fp3, q3, q4⟩ := Rl.rest' rl1 rl2 s2 hf
        exact h1 L _ H2 fp3 q3 s2 ⟨⟨rfl, acc, hkl, hL2, ra⟩, hGL, hB2, hDm, fun j z => hf2 j (q4 j L z)⟩

theorem n_dc {kx vx tg iter : Expr} {ifs : List Expr} {scope : Scope} {own : List (Str × Nat)} {pos : Pos} {mi : M (List D)} {is : List Nat} {g : GM} {t : M Bool} {mk m : M D} (hc : X.calm = true) (hN : X.N.Nodup) (hi : Itd' X ct W tg iter mi) (ok : BlkOk X.N X.env.scope scope own)
    (hv : ∀ i ∈ is, i ∈ own.map (·.2)) (hg : ∀ (s : Shared) (H : Hp) (C : Addr) (cl : List (Str × Addr)) (fp : List Addr), Gd (X.blk s H scope (compEnvC scope cl C X.env) fp) ct tg is g) (ht : ∀ (s : Shared) (H : Hp) (C : Addr) (cl : List (Str × Addr)) (fp : List Addr), PTd (X.blk s H scope (compEnvC scope cl C X.env) fp) ct ifs t)
    (hk : ∀ (s : Shared) (H : Hp) (C : Addr) (cl : List (Str × Addr)) (fp : List Addr), Ed (X.blk s H scope (compEnvC scope cl C X.env) fp) ct W0 kx mk)
    (he : ∀ (s : Shared) (H : Hp) (C : Addr) (cl : List (Str × Addr)) (fp : List Addr), Ed (X.blk s H scope (compEnvC scope cl C X.env) fp) ct W0 vx m) (hs : ∀ x, foldedSetIterable iter X.env x = pure x := by intro _; rfl) :
    Nd X ct W (.DictComp kx vx [⟨tg, iter, ifs, 0⟩] scope pos) (nDc mi g t mk m (own.map (·.2))) :=
  PE.imp (pe_dc (own := own) hc hN hi ok hg ht hk he hs) (dc_impN hv)
end
end Wu

/-! Instances: fields read and stored, making, methods. -/
namespace Wu
open PySem PySem.Spec PyProof.Rows L2

def fldZ {α : Type} (fs : List Str) (l : List α) (f : Str) : Option α := (fs.zip l).lookup f
def putFZ {α : Type} (f : Str) (v : α) : List Str → List α → List Str × List α
  | g :: fs, x :: l => if g = f then (g :: fs, v :: l) else (g :: (putFZ f v fs l).1, x :: (putFZ f v fs l).2)
  | _, _ => ([f], [v])
theorem putFZ_zip {f : Str} {v : V} : ∀ {fs : List Str} {l : List V}, fs.length = l.length → putF f v (fs.zip l) = (putFZ f v fs l).1.zip (putFZ f v fs l).2 ∧ (putFZ f v fs l).1.length = (putFZ f v fs l).2.length
  | [], [], _ => ⟨rfl, rfl⟩
  | g :: fs, x :: l, h => by
    obtain ⟨h1, h2⟩ := putFZ_zip (f := f) (v := v) (fs := fs) (l := l) (Nat.succ.inj h)
    rw [List.zip_cons_cons, putF, putFZ]
    split
    · exact ⟨rfl, h⟩
    · exact ⟨by rw [h1]; rfl, by simp [h2]⟩
  | [], _ :: _, h => by cases h
  | _ :: _, [], h => by cases h
theorem putFZ_keys {α β : Type} {f : Str} {v : α} {u : β} : ∀ {fs : List Str} {l : List α} {m : List β}, l.length = m.length → (putFZ f v fs l).1 = (putFZ f u fs m).1
  | [], l, m, _ => by simp [putFZ]
  | g :: fs, [], [], _ => by simp [putFZ]
  | g :: fs, x :: l, y :: m, h => by
    simp only [putFZ]
    split
    · rfl
    · dsimp only
      rw [putFZ_keys (fs := fs) (Nat.succ.inj h)]
  | g :: fs, [], _ :: _, h => by cases h
  | g :: fs, _ :: _, [], h => by cases h
section
variable {K : PySem.W.Frag} {ct : Ct} {B : Hp}
theorem RpL.fldZ {f : Str} : ∀ {fs : List Str} {vs : List V} {ds : List D} {d : D}, RpL K ct B vs ds → Wu.fldZ fs ds f = some d → ∃ v, (fs.zip vs).lookup f = some v ∧ Rp K ct B v d
  | [], vs, ds, d, h, e => by simp [Wu.fldZ] at e
  | g :: fs, [], ds, d, h, e => by cases h; simp [Wu.fldZ] at e
  | g :: fs, v :: vs, ds, d, h, e => by
    cases h with
    | cons h1 h2 =>
      rw [Wu.fldZ, List.zip_cons_cons, lookup_put] at e
      rw [List.zip_cons_cons, lookup_put']
      split at e
      · rename_i q; rw [if_pos q]; cases e; exact ⟨v, rfl, h1⟩
      · rename_i q; rw [if_neg q]; exact RpL.fldZ h2 e
where
  lookup_put {α : Type} {f g : Str} {y : α} {fs : List (Str × α)} : ((g, y) :: fs).lookup f = if f = g then some y else fs.lookup f := by
    by_cases h : f = g
    · subst h; simp [List.lookup]
    · have e : (f == g) = false := by simpa using h
      rw [if_neg h]; simp [List.lookup, e]
  lookup_put' {f g : Str} {y : V} {fs : List (Str × V)} : ((g, y) :: fs).lookup f = if f = g then some y else fs.lookup f := by
    by_cases h : f = g
    · subst h; simp [List.lookup]
    · have e : (f == g) = false := by simpa using h
      rw [if_neg h]; simp [List.lookup, e]
theorem RpL.putFZ {f : Str} {v : V} {d : D} (h : Rp K ct B v d) : ∀ {fs : List Str} {vs : List V} {ds : List D}, RpL K ct B vs ds → RpL K ct B (Wu.putFZ f v fs vs).2 (Wu.putFZ f d fs ds).2
  | [], vs, ds, r => by simp [Wu.putFZ]; exact .cons h .nil
  | g :: fs, [], ds, r => by cases r; simp [Wu.putFZ]; exact .cons h .nil
  | g :: fs, x :: vs, ds, r => by
    cases r with
    | cons r1 r2 =>
      simp only [Wu.putFZ]
      split
      · exact .cons h r2
      · exact .cons r1 (RpL.putFZ h r2)
end
def pFld (c f : Str) : D → Option D
  | .nd (.ob c' fs) l => if c' = c then fldZ fs l f else none
  | _ => none
def mFld (c f : Str) (m : M D) : M D := m.bnd fun d => .opt (pFld c f d)
section
variable {X : Cx} {ct : Ct} {W : WX}
theorem d_fld (c : Str) {f : Str} {e : Expr} {pos : Pos} {m : M D} (hC : Cls X.K (ct c)) (hn : NoAttr X.K (ct c) f) (he : Ed X ct W e m) (hb : attributeBase e f X.env (eval e X.env) = eval e X.env := by rfl) :
    Ed X ct W (.Attribute e f pos) (mFld c f m) := by
  refine PE.imp (pe_fld he hb) fun σ H Q h => ?_
  obtain ⟨F, B, E, fps, rl, h⟩ := h
  refine ⟨F, B, E, fps, rl, (Pst.bind h).imp ?_⟩
  rintro x H1 ⟨d, E1, B1, fps1, rl1, s1, r1, h1⟩
  obtain ⟨z, e1, h2⟩ := opt_of h1
  unfold pFld at e1
  split at e1
  · rename_i c' fs l
    split at e1
    · rename_i ec
      subst ec
      obtain ⟨a, xs, rfl, ⟨hl, dx, hx⟩, rx⟩ := r1.ndI
      obtain ⟨v, e2, rv⟩ := RpL.fldZ rx e1
      exact ⟨a, _, dx, _, v, rfl, rl1.bs _ _ hx, hC, hn, e2, (out_of rl1 h2).1 v rv⟩
    · cases e1
  · cases e1
end

/-! ### slots of owned things -/
section
variable {K : PySem.W.Frag} {ct : Ct} {W : WX} {F : Fm} {B B' H H' : Hp} {σ : L2.St} {E : Env'} {fps : Nat → List Addr}
theorem Rl.unset (i : Nat) (r : Rl K ct F B H σ E fps) : Rl K ct F B H σ (E.set i .und) (fun j => if j = i then [] else fps j) := by
  refine ⟨r.gs, r.bs, r.b0, r.nb, r.dm, by simpa using r.ln, fun j s q => ?_, fun j q => ?_, fun j m b hj hm => ?_, fun j b hj => ?_⟩
  · by_cases hj : j = i
    · subst hj
      have hi : j < E.length := by simpa using (List.getElem?_eq_some_iff.mp q).1
      rw [List.getElem?_set_self hi] at q
      cases q
      refine ⟨σ[j]'(by rw [r.ln]; exact hi), List.getElem?_eq_getElem _, ?_⟩
      show (if j = j then [] else fps j) = []
      rw [if_pos rfl]
    · rw [List.getElem?_set_ne (Ne.symm hj)] at q
      obtain ⟨v, q1, q2⟩ := r.en j s q
      exact ⟨v, q1, by rw [if_neg hj]; exact q2⟩
  · by_cases hj : j = i
    · rw [if_pos hj]
    · rw [if_neg hj]
      rw [List.getElem?_set_ne (Ne.symm hj)] at q
      exact r.e0 j q
  · by_cases z1 : j = i
    · rw [if_pos z1] at hj; cases hj
    · by_cases z2 : m = i
      · rw [if_pos z2] at hm; cases hm
      · rw [if_neg z1] at hj; rw [if_neg z2] at hm
        exact r.dj j m b hj hm
  · by_cases z1 : j = i
    · rw [if_pos z1] at hj; cases hj
    · rw [if_neg z1] at hj
      exact r.fr j b hj
theorem Rl.setOw {i : Nat} {a : Addr} {fp : List Addr} {ix : Option Nat} {c : Ow} (r : Rl K ct F B H σ E fps) (hσ : σ[i]? = some (some (.ref a))) (ho : IxOk F a ix) (ow : OwAt K ct B H a fp c)
    (hf : ∀ b ∈ fp, B b = none ∧ F.G b = none ∧ ∀ j, j ≠ i → b ∉ fps j) : Rl K ct F B H σ (E.set i (.own ix c)) (fun j => if j = i then fp else fps j) := by
  have hi : i < E.length := by rw [← r.ln]; exact (List.getElem?_eq_some_iff.mp hσ).1
  refine ⟨r.gs, r.bs, r.b0, r.nb, r.dm, by simpa using r.ln, fun j s q => ?_, fun j q => ?_, fun j m b hj hm => ?_, fun j b hj => ?_⟩
  · by_cases hj : j = i
    · subst hj
      rw [List.getElem?_set_self hi] at q
      cases q
      exact ⟨_, hσ, by rw [if_pos rfl]; exact ⟨a, rfl, ho, ow⟩⟩
    · rw [List.getElem?_set_ne (Ne.symm hj)] at q
      obtain ⟨v, q1, q2⟩ := r.en j s q
      exact ⟨v, q1, by rw [if_neg hj]; exact q2⟩
  · by_cases hj : j = i
    · subst hj; rw [List.getElem?_set_self hi] at q; cases q
    · rw [if_neg hj]
      rw [List.getElem?_set_ne (Ne.symm hj)] at q
      exact r.e0 j q
  · by_cases z1 : j = i
    · by_cases z2 : m = i
      · rw [z1, z2]
      · rw [if_pos z1] at hj; rw [if_neg z2] at hm
        exact absurd hm ((hf b hj).2.2 m z2)
    · by_cases z2 : m = i
      · rw [if_neg z1] at hj; rw [if_pos z2] at hm
        exact absurd hj ((hf b hm).2.2 j z1)
      · rw [if_neg z1] at hj; rw [if_neg z2] at hm
        exact r.dj j m b hj hm
  · by_cases z1 : j = i
    · rw [if_pos z1] at hj
      exact ⟨(hf b hj).1, (hf b hj).2.1⟩
    · rw [if_neg z1] at hj
      exact r.fr j b hj
/-- what is owned at a slot is changed at one of its addresses -/
theorem Rl.chgA {i : Nat} {a x : Addr} {o : HO} {ix : Option Nat} {c c' : Ow} (r : Rl K ct F B H σ E fps) (e : E[i]? = some (.own ix c)) (ha : σ[i]? = some (some (.ref a))) (hf : x ∈ fps i) (h : OwAt K ct B (upd H x o) a (fps i) c') :
    Rl K ct F B (upd H x o) σ (E.set i (.own ix c')) fps := by
  obtain ⟨nB, nG⟩ := r.fr i x hf
  have hi : i < E.length := (List.getElem?_eq_some_iff.mp e).1
  refine ⟨⟨fun b u q => ?_, r.gs.tf, r.gs.td, r.gs.bp⟩, fun b u q => ?_, r.b0, r.nb, fun b q => ?_, by simpa using r.ln, fun j s q => ?_, fun j q => ?_, r.dj, r.fr⟩
  · rw [upd_ne (ne_of_none q nG)]; exact r.gs.go b u q
  · rw [upd_ne (ne_of_none q nB)]; exact r.bs b u q
  · by_cases hb : b = x
    · subst hb; exact ⟨o, upd_same⟩
    · rw [upd_ne hb]; exact r.dm b q
  · by_cases hj : j = i
    · subst hj
      rw [List.getElem?_set_self hi] at q
      cases q
      obtain ⟨v, h1, a', h2, h3, _⟩ := r.en j _ e
      rw [ha] at h1
      have : some (V.ref a) = v := Option.some.inj h1
      rw [h2] at this
      have ea : a = a' := by injection (Option.some.inj this)
      subst ea
      exact ⟨some (.ref a), ha, a, rfl, h3, h⟩
    · rw [List.getElem?_set_ne (Ne.symm hj)] at q
      obtain ⟨v, h1, h2⟩ := r.en j s q
      refine ⟨v, h1, h2.mono (Same.refl B) fun b hb => upd_ne ?_⟩
      rintro rfl
      exact hj (r.dj j i b hb hf)
  · by_cases hj : j = i
    · subst hj
      rw [List.getElem?_set_self hi] at q; cases q
    · rw [List.getElem?_set_ne (Ne.symm hj)] at q
      exact r.e0 j q
theorem Rl.own_ob {i : Nat} {ix : Option Nat} {c : Str} {fs : List Str} {l : List D} (r : Rl K ct F B H σ E fps) (e : E[i]? = some (.own ix (.nd (.ob c fs) l))) :
    ∃ a dx xs, σ[i]? = some (some (.ref a)) ∧ IxOk F a ix ∧ fps i = [a, dx] ∧ fs.length = xs.length ∧ H a = some (.ins (ct c) dx (fs.zip xs)) ∧ H dx = some (.own a) ∧ RpL K ct B xs l := by
  obtain ⟨o, h1, a, h2, h3, dx, xs, h4, h5, h6, h7, h8⟩ := r.en i _ e
  exact ⟨a, dx, xs, by rw [h1, h2], h3, h4, h5, h6, h7, h8⟩
end
/-- self.f = e -/
def sFldO (i : Nat) (c f : Str) (m : M D) : SM := m.bnd fun d E => match E[i]? with
  | some (.own ix (.nd (.ob c' fs) l)) => if c' = c ∧ l.length < 1000 then .ok .nx (E.set i (.own ix (.nd (.ob c (putFZ f d fs l).1) (putFZ f d fs l).2))) else .bad
  | _ => .bad
section
variable {X : Cx} {ct : Ct} {W : WX}
theorem s_fld (i : Nat) (c : Str) {x f : Str} {e : Expr} {p p2 pos : Pos} {m : M D} (hC : Cls X.K (ct c)) (hn : NoAttr X.K (ct c) f) (he : Ed X ct W e m) (hN : X.N[i]? = some x := by rfl)
    (hvis : Vis X.env.scope x := by first | exact Or.inl rfl | exact Or.inr (Or.inl rfl) | exact Or.inr (Or.inr rfl)) (hd : (x == ("__debug__" : Str)) = false := by decide) (hcd : (x == ("__classdict__" : Str)) = false := by decide)
    (hs : swapsWith e (some (.Attribute (.Name x p) f p2)) pos.line X.env = pure false := by rfl) : Sd X ct W (.Assign [.Attribute (.Name x p) f p2] e pos) (sFldO i c f m) := by
  refine PS.imp (ps_fld (pe_var hN hvis hd hcd) he hs) fun N σ H h => ?_
  obtain ⟨F, B, E, fps, rl, h⟩ := h
  refine ⟨F, B, E, fps, rl, (PstS.bind (σ := σ) (Rr := Rp X.K ct) h).imp ?_⟩
  rintro y H1 ⟨d, E1, B1, fps1, rl1, s1, r1, h1⟩
  split at h1
  · rename_i ix c' fs l e1
    split at h1
    · rename_i hc
      obtain ⟨rfl, hl⟩ := hc
      obtain ⟨a, dx, xs, q1, q2, q3, q4, q5, q6, q7⟩ := rl1.own_ob e1
      have hda : dx ≠ a := fun z => by rw [z, q5] at q6; cases q6
      have pz := putFZ_zip (f := f) (v := y) q4
      have ek := putFZ_keys (f := f) (v := y) (u := d) (fs := fs) q7.len
      refine ⟨.ref a, q1, a, _, dx, _, rfl, q5, hC, hn, by rw [List.length_zip, q7.len]; omega, ?_⟩
      refine h1 σ B1 _ fps1 (rl1.chgA e1 q1 (by rw [q3]; simp) ?_) (Same.refl B1)
      exact ⟨dx, (putFZ f y fs xs).2, q3, by rw [← ek]; exact pz.2, by rw [upd_same, pz.1, ek], by rw [upd_ne hda]; exact q6, q7.putFZ r1⟩
    · exact h1.elim
  · exact h1.elim
end
end Wu

/-! Making an instance; methods. -/
namespace Wu
open PySem PySem.Spec PyProof.Rows L2

section
variable {K : PySem.W.Frag} {ct : Ct} {W : WX} {F F' : Fm} {B B' H H2 H' : Hp} {σ σ' : L2.St} {E E' : Env'} {fps fps' : Nat → List Addr}
/-- behind something that saw only data -/
theorem Rl.after (r : Rl K ct F B H σ E fps) (r' : Rl K ct F' B' H' σ' E' fps') (h0 : F'.B0 = B) (hD : ∀ b o, H b = some o → F'.Dm b) (hG : ∀ b o, H b = some o → (∀ ps, o ≠ .tbl ps) → F'.G b = some o) : Rl K ct F B' H' σ E fps ∧ Same B B' := by
  have s : Same B B' := by rw [← h0]; exact r'.b0
  have eb : ∀ b o, H b = some o → B' b = B b := fun b o e => by rw [r'.nb b (hD b o e), h0]
  have eh : ∀ b o, H b = some o → (∀ ps, o ≠ .tbl ps) → H' b = some o := fun b o e n => r'.gs.eq (hG b o e n) n
  have gs' : SameT ct F B' H' := r.gs.over r'.gs fun a o _ h n => hG a o h n
  have mv := r.gs
  refine ⟨⟨gs', r'.bs, r.b0.trans s, fun b h => ?_, fun b h => ?_, r.ln, fun i sl e => ?_, r.e0, r.dj, fun i b hb => ⟨?_, (r.fr i b hb).2⟩⟩, s⟩
  · obtain ⟨o, ho⟩ := r.dm b h; exact (eb b o ho).trans (r.nb b h)
  · obtain ⟨o, ho⟩ := r.dm b h; exact r'.dm b (hD b o ho)
  · obtain ⟨o, h1, h2⟩ := r.en i sl e
    refine ⟨o, h1, h2.mono s fun b hb => ?_⟩
    obtain ⟨u, hu⟩ := r.mem hb
    rw [eh b u hu (fun ps z => r.nt hb ps (by rw [hu, z])), hu]
  · obtain ⟨o, ho⟩ := r.mem hb; rw [eb b o ho]; exact (r.fr i b hb).1
/-- where only data is handed on -/
theorem Rl.enterV {vs : List V} {ds : List D} (r : Rl K ct F B H σ E fps) (h : RpL K ct B vs ds) : Rl K ct (Fm.at ct H B [] fun _ => []) B H (vs.map some) (slots (ds.map Ag.v)) (fun _ => []) := by
  refine ⟨Fm.at_gs r.gs (fun _ h => r.tB h) (fun _ _ z => by cases z), r.bs, Same.refl B, fun _ _ => rfl, fun _ h => h, by rw [slots_len, List.length_map, List.length_map, h.len], fun i s e => ?_, fun _ _ => rfl, fun _ _ _ z => (by cases z), fun _ _ z => (by cases z)⟩
  rw [slots_get] at e
  obtain ⟨a, e1, e2⟩ := Option.map_eq_some_iff.mp e
  rw [List.getElem?_map] at e1
  obtain ⟨d, e3, e4⟩ := Option.map_eq_some_iff.mp e1
  subst e4 e2
  obtain ⟨v, e5, rv⟩ := h.get e3
  exact ⟨some v, by rw [List.getElem?_map, e5]; rfl, rfl, v, rfl, rv⟩
end
/-- a call that hands on data alone -/
def zV (n : Nat) (sem : Sm) (ds : List D) : M D := fun E => if ds.length = n then (match sem (ds.map Ag.v) with
  | .ok d _ => .ok d E
  | .ex x _ => .ex x E
  | .bad => .bad) else .bad
theorem spV {K : PySem.W.Frag} {ct : Ct} {W : WX} {F : Fm} {B H : Hp} {σ : L2.St} {E : Env'} {fps : Nat → List Addr} {n : Nat} {sem : Sm} {vs : List V} {ds : List D} {Q : VK} (r : Rl K ct F B H σ E fps) (rv : RpL K ct B vs ds) (h : Pst K ct (Rp K ct) W F B σ (zV n sem ds E) Q) :
    spD K ct n sem vs H Q (atS W σ) := by
  unfold zV at h
  split at h
  case isFalse => exact h.elim
  rename_i hn
  refine ⟨B, ds.map Ag.v, [], fun _ => [], rv.len.trans hn, r.enterV rv, ?_⟩
  have aft : ∀ {B' H' : Hp} {σ' : L2.St} {E' : Env'} {fps' : Nat → List Addr}, Rl K ct (Fm.at ct H B [] fun _ => []) B' H' σ' E' fps' → Rl K ct F B' H' σ E fps ∧ Same B B' := fun r' =>
    r.after r' rfl (fun b o e => ⟨o, e⟩) (fun b o e n => Fm.at_in e (fun ⟨_, z⟩ => by cases z) n)
  cases es : sem (ds.map Ag.v) with
  | bad => rw [es] at h; exact h.elim
  | ok d as' =>
    rw [es] at h
    intro v B' H' fps' r' rp
    obtain ⟨q1, q2⟩ := aft r'
    exact h v B' H' fps q1 q2 rp
  | ex x as' =>
    rw [es] at h
    intro c dx B' H' fps' r' xr
    obtain ⟨q1, q2⟩ := aft r'
    exact h c dx B' H' fps q1 q2 xr

/-! ### o.m(..) -/
def mMeth (c m : Str) (n : Nat) (sem : Sm) (mo : M D) (ms : M (List D)) : M D := mo.bnd fun o => match o with
  | .nd (.ob c' fs) l => if c' = c ∧ fldZ fs l m = none then ms.bnd fun ds => zV n sem (.nd (.ob c' fs) l :: ds) else .bad
  | _ => .bad
section
variable {X : Cx} {ct : Ct} {W : WX}
theorem RpL.fldN {K : PySem.W.Frag} {B : Hp} {f : Str} : ∀ {fs : List Str} {vs : List V} {ds : List D}, RpL K ct B vs ds → Wu.fldZ fs ds f = none → (fs.zip vs).lookup f = none
  | [], vs, ds, h, e => by simp
  | g :: fs, [], ds, h, e => by simp
  | g :: fs, v :: vs, ds, h, e => by
    cases h with
    | cons h1 h2 =>
      rw [Wu.fldZ, List.zip_cons_cons, RpL.fldZ.lookup_put] at e
      rw [List.zip_cons_cons, RpL.fldZ.lookup_put']
      split at e
      · cases e
      · rename_i q; rw [if_neg q]; exact RpL.fldN h2 e
def tMethG (C : Addr) (m : Str) (sp : Sp) (W : WX) (ta : TE) (t : TA) : TE := fun σ H Q => ta σ H fun x H1 => ∃ a dx fs, x = .ref a ∧ H1 a = some (.ins C dx fs) ∧ fs.lookup m = none ∧
  t σ H1 fun vs H2 => sp (x :: vs) H2 Q (atS W σ)
theorem pe_methG {k : Nat} {C f : Addr} {m : Str} {fd : FuncData} {ps : List Str} {sp : Sp} {o e : Expr} {es : List Expr} {apos pos : Pos} {ta : TE} {t : TA} {pl : Sem Bool} (he : PE X o ta) (c : Cls X.K C) (hm : Meth X.K C m f) (F : FnG X.prog X.w X.K X.mg X.base k f fd ps sp) (hG : X.A.guards = some []) (hr : Room k X.A) (hb : Binds X.K fd ps []) (tk : Takes X W) (ha : PA X (e :: es) t)
    (hst : starEach (e :: es) X.env = (false, eval e X.env) :: starEach es X.env := by rfl) (hpl : (backTo pos (starEach es X.env)).any (·.1) = false := by rfl)
    (ht : eval (.Call (.Attribute o m apos) (e :: es) [] pos) X.env = (do
      let ov ← eval o X.env
      standAt apos.atName
      let (f, first) ← holding [ov] (getMethod ov m pl)
      callWith pos f first (backTo pos (starEach (e :: es) X.env)) (backToKw pos (keywordEach [] X.env))) := by rfl) :
    PE X (.Call (.Attribute o m apos) (e :: es) [] pos) (tMethG C m sp W ta t) := by
  refine ⟨fun pins s σ H Q I h => ?_⟩
  refine PySem.W.methodCall_KW (pl := pl) (thn (he.run pins s σ H _ I h) fun u s1 ⟨x, H1, I1, rx, a, dx, fs, ex, ea, l, q⟩ => ?_) ht
  subst ex
  obtain rfl : u = Value.ref a := rx
  refine getmeth_ok I1 ea c hm l ?_
  refine PySem.W.callWith_K (first := [.ref a]) (h₀ := X.base) I.ok.mod.kin hm.kp (thn (ha.run pos pins s1 σ H1 _ I1 q) fun us s2 ⟨vs, H2, I2, r, q2⟩ => ⟨I2.kIn, ?_⟩) hst hpl
  exact run_g (us := .ref a :: us) (vs := .ref a :: vs) (ds := []) (dvs := []) F hG hr hb .nil tk I2 (.cons rfl r) (by rw [List.append_nil]; exact q2)
theorem d_meth (c : Str) {k n : Nat} {f : Addr} {m : Str} {fd : FuncData} {ps : List Str} {sem : Sm} {o e : Expr} {es : List Expr} {apos pos : Pos} {mo : M D} {ms : M (List D)} {pl : Sem Bool} (hC : Cls X.K (ct c)) (hm : Meth X.K (ct c) m f) (Fn : FnG X.prog X.w X.K X.mg X.base k f fd ps (spD X.K ct n sem)) (hG : X.A.guards = some []) (hr : Room k X.A) (hb : Binds X.K fd ps []) (tk : Takes X W)
    (he : Ed X ct W o mo) (ha : Ad X ct W (e :: es) ms)
    (hst : starEach (e :: es) X.env = (false, eval e X.env) :: starEach es X.env := by rfl) (hpl : (backTo pos (starEach es X.env)).any (·.1) = false := by rfl)
    (ht : eval (.Call (.Attribute o m apos) (e :: es) [] pos) X.env = (do
      let ov ← eval o X.env
      standAt apos.atName
      let (f, first) ← holding [ov] (getMethod ov m pl)
      callWith pos f first (backTo pos (starEach (e :: es) X.env)) (backToKw pos (keywordEach [] X.env))) := by rfl) :
    Ed X ct W (.Call (.Attribute o m apos) (e :: es) [] pos) (mMeth c m n sem mo ms) := by
  refine PE.imp (pe_methG (W := W) he hC hm Fn hG hr hb tk ha hst hpl ht) fun σ H Q h => ?_
  obtain ⟨F, B, E, fps, rl, h⟩ := h
  refine ⟨F, B, E, fps, rl, (Pst.bind h).imp ?_⟩
  rintro x H1 ⟨d, E1, B1, fps1, rl1, s1, r1, h1⟩
  split at h1
  · rename_i c' fs l
    split at h1
    · rename_i hc
      obtain ⟨rfl, hn⟩ := hc
      obtain ⟨a, xs, rfl, ⟨hl, dx, hx⟩, rx⟩ := id r1.ndI
      refine ⟨a, dx, _, rfl, rl1.bs _ _ hx, RpL.fldN rx hn, F, B1, E1, fps1, rl1, (Pst.bind h1).imp ?_⟩
      rintro vs H2 ⟨ds, E2, B2, fps2, rl2, s2, r2, h2⟩
      exact spV rl2 (.cons (r1.mono s2) r2) h2
    · exact h1.elim
  · exact h1.elim

/-! ### C(..) -/
def tMkG (C : Addr) (sp : Sp) (W : WX) (t : TA) : TE := fun σ H Q => t σ H fun vs H1 => ∀ x dx, H1 x = none → H1 dx = none → dx ≠ x →
  sp (.ref x :: vs) (upd (upd H1 dx (.own x)) x (.ins C dx [])) (fun v H2 => v = .non ∧ Q (.ref x) H2) (atS W σ)
theorem pe_makeG {k : Nat} {C f : Addr} {x : Str} {fd : FuncData} {ps : List Str} {sp : Sp} {e : Expr} {es : List Expr} {p pos : Pos} {t : TA} (M : Mk X.K C f) (F : FnG X.prog X.w X.K X.mg X.base k f fd ps sp) (hG : X.A.guards = some []) (hr : Room (k + 1) X.A) (hg : Gl X x) (hm : X.mg x = some (.ref C)) (hb : Binds X.K fd ps []) (tk : Takes X W)
    (ha : PA X (e :: es) t) (hdb : (x == ("__debug__" : Str)) = false := by decide) (he : starEach (e :: es) X.env = (false, eval e X.env) :: starEach es X.env := by rfl) (hpl : (backTo pos (starEach es X.env)).any (·.1) = false := by rfl) :
    PE X (.Call (.Name x p) (e :: es) [] pos) (tMkG C sp W t) := by
  refine ⟨fun pins s σ H Q I h => ?_⟩
  refine wpAny_Call_Name_kw (ld_glob I hg hm ?_ hdb)
  refine PySem.W.callWith_K (h₀ := X.base) I.ok.mod.kin M.kp (thn (ha.run pos pins s σ H _ I h) fun us s1 ⟨vs, H1, I1, r, q⟩ => ⟨I1.kIn, ?_⟩) he hpl
  have hq := q (s1.heap.objs.size + 1) s1.heap.objs.size (I1.hok.fresh (Nat.le_succ _)) (I1.hok.fresh (Nat.le_refl _)) (Nat.ne_of_lt (Nat.lt_succ_self _))
  have I2 := Inv.made (C := C) I1
  have r2 : Vals (V.ref (s1.heap.objs.size + 1) :: vs) (Value.ref (s1.heap.objs.size + 1) :: us) := .cons rfl r
  have hl : (Value.ref (s1.heap.objs.size + 1) :: us).length = ps.length := r2.length.symm.trans (F.len _ _ _ _ hq)
  have hbb := hb _ (Value.ref (s1.heap.objs.size + 1) :: us) I2.kIn (by rw [List.append_nil]; exact hl)
  rw [List.append_nil] at hbb
  refine wpAny_call (make_map (f := f) I1.kIn M.makes M.init (beq_iff_eq.mp M.fn) (codeAny_mono (F.run _ X.stack _ _ ⟨Value.ref (s1.heap.objs.size + 1) :: us, []⟩ (Value.ref (s1.heap.objs.size + 1) :: us) _ _ (atS W σ) ?_ (hr.make C us [])
    (I2.env0.make C us []) hbb r2 hq) fun r s' hq' => ?_))
  · exact hG
  · match r, hq' with
    | .error e, hq' => exact passAt tk σ pins _ _ e s' I2 hq'
    | .ok (.ret u), hq' =>
      obtain ⟨v, H', I3, rv, ev, q3⟩ := I2.after hq'
      subst ev
      exact ⟨rv, ⟨V.ref (s1.heap.objs.size + 1), H', I3, rfl, q3⟩⟩
    | .ok .next, hq' => exact False.elim hq'
    | .ok .brk, hq' => exact False.elim hq'
    | .ok .cont, hq' => exact False.elim hq'
def zMk (c : Str) (n : Nat) (sem : Sm) (ds : List D) : M D := fun E => if ds.length + 1 = n then (match sem (.o (.nd (.ob c []) []) :: ds.map Ag.v) with
  | .ok .non (.o (.nd (.ob c' fs) l) :: _) => .ok (.nd (.ob c' fs) l) E
  | .ex x _ => .ex x E
  | _ => .bad) else .bad
def mMake (c : Str) (n : Nat) (sem : Sm) (ms : M (List D)) : M D := ms.bnd fun ds => zMk c n sem ds
theorem d_make (c : Str) {k n : Nat} {f : Addr} {x : Str} {fd : FuncData} {ps : List Str} {sem : Sm} {e : Expr} {es : List Expr} {p pos : Pos} {ms : M (List D)} (M : Mk X.K (ct c) f) (Fn : FnG X.prog X.w X.K X.mg X.base k f fd ps (spD X.K ct n sem)) (hG : X.A.guards = some []) (hr : Room (k + 1) X.A) (hg : Gl X x) (hm : X.mg x = some (.ref (ct c))) (hb : Binds X.K fd ps []) (tk : Takes X W)
    (ha : Ad X ct W (e :: es) ms) (hdb : (x == ("__debug__" : Str)) = false := by decide) (he : starEach (e :: es) X.env = (false, eval e X.env) :: starEach es X.env := by rfl) (hpl : (backTo pos (starEach es X.env)).any (·.1) = false := by rfl) :
    Ed X ct W (.Call (.Name x p) (e :: es) [] pos) (mMake c n sem ms) := by
  refine PE.imp (pe_makeG (W := W) M Fn hG hr hg hm hb tk ha hdb he hpl) fun σ H Q h => ?_
  obtain ⟨F, B, E, fps, rl, h⟩ := h
  refine ⟨F, B, E, fps, rl, (Pst.bind h).imp ?_⟩
  rintro vs H1 ⟨ds, E1, B1, fps1, rl1, s1, r1, h1⟩ y dx hy hdx hne
  unfold zMk at h1
  split at h1
  case isFalse => exact h1.elim
  rename_i hn
  have sm : ∀ b o, H1 b = some o → b ≠ y ∧ b ≠ dx := fun b o e => ⟨ne_of_none e hy, ne_of_none e hdx⟩
  have up : ∀ b o, H1 b = some o → upd (upd H1 dx (.own y)) y (.ins (ct c) dx []) b = some o := fun b o e => by rw [upd_ne (sm b o e).1, upd_ne (sm b o e).2]; exact e
  have nBy : B1 y = none := rl1.bs.free hy
  have nBd : B1 dx = none := rl1.bs.free hdx
  have nGy : F.G y = none := rl1.gs.free hy
  have nGd : F.G dx = none := rl1.gs.free hdx
  have gsU : SameT ct F B1 (upd (upd H1 dx (.own y)) y (.ins (ct c) dx [])) := ⟨fun b o e => by rw [upd_ne (ne_of_none e nGy), upd_ne (ne_of_none e nGd)]; exact rl1.gs.go b o e, rl1.gs.tf, rl1.gs.td, rl1.gs.bp⟩
  have nGf : ∀ (i : Nat) (b : Addr), b ∈ (if i = 0 then [y, dx] else []) → F.G b = none := fun i b hi => by
    by_cases z1 : i = 0
    · rw [if_pos z1] at hi
      rcases (by simpa using hi : b = y ∨ b = dx) with z | z
      · rw [z]; exact nGy
      · rw [z]; exact nGd
    · rw [if_neg z1] at hi; cases hi
  have ent : Rl X.K ct (Fm.at ct (upd (upd H1 dx (.own y)) y (.ins (ct c) dx [])) B1 [y] fun j => if j = 0 then [y, dx] else []) B1 (upd (upd H1 dx (.own y)) y (.ins (ct c) dx [])) ((V.ref y :: vs).map some) (slots (.o (.nd (.ob c []) []) :: ds.map Ag.v)) (fun j => if j = 0 then [y, dx] else []) := by
    refine ⟨Fm.at_gs gsU (fun _ h => rl1.tB h) nGf, fun b o e => up b o (rl1.bs b o e), Same.refl _, fun _ _ => rfl, fun _ z => z, by simp [slots_len, r1.len], fun i s e => ?_, fun i e => ?_, fun i j b hi hj => ?_, fun i b hi => ?_⟩
    · rw [slots_get] at e
      cases i with
      | zero =>
        have e2 : s = .own (some 0) (.nd (.ob c []) []) := (Option.some.inj e).symm
        subst e2
        exact ⟨_, rfl, y, rfl, rfl, dx, [], rfl, rfl, by rw [upd_same]; rfl, by rw [upd_ne hne, upd_same], .nil⟩
      | succ i =>
        obtain ⟨a, e1, e2⟩ := Option.map_eq_some_iff.mp e
        rw [List.getElem?_cons_succ, List.getElem?_map] at e1
        obtain ⟨d, e3, e4⟩ := Option.map_eq_some_iff.mp e1
        subst e4 e2
        obtain ⟨v, e5, rv⟩ := r1.get e3
        exact ⟨some v, by rw [List.map_cons, List.getElem?_cons_succ, List.getElem?_map, e5]; rfl, rfl, v, rfl, rv⟩
    · cases i with
      | zero => rw [slots_get] at e; cases e
      | succ i => rfl
    · by_cases z1 : i = 0
      · by_cases z2 : j = 0
        · rw [z1, z2]
        · rw [if_neg z2] at hj; cases hj
      · rw [if_neg z1] at hi; cases hi
    · by_cases z1 : i = 0
      · rw [if_pos z1] at hi
        refine ⟨?_, ?_⟩
        · rcases (by simpa using hi : b = y ∨ b = dx) with z | z
          · rw [z]; exact nBy
          · rw [z]; exact nBd
        · rw [Fm.at_G]; exact off_in (.inl ⟨0, by rw [if_pos rfl]; exact hi⟩)
      · rw [if_neg z1] at hi; cases hi
  refine ⟨B1, _, [y], _, by simp [r1.len]; omega, ent, ?_⟩
  have aft : ∀ {B' H' : Hp} {σ' : L2.St} {E' : Env'} {fps' : Nat → List Addr}, Rl X.K ct (Fm.at ct (upd (upd H1 dx (.own y)) y (.ins (ct c) dx [])) B1 [y] fun j => if j = 0 then [y, dx] else []) B' H' σ' E' fps' → Rl X.K ct F B' H' σ E1 fps1 ∧ Same B1 B' := fun r' =>
    rl1.after r' rfl (fun b o e => ⟨o, up b o e⟩) (fun b o e n => by
      refine Fm.at_in (up b o e) ?_ n
      · rintro ⟨i, hi⟩
        by_cases z1 : i = 0
        · rw [if_pos z1] at hi
          rcases (by simpa using hi : b = y ∨ b = dx) with z | z
          · exact (sm b o e).1 z
          · exact (sm b o e).2 z
        · rw [if_neg z1] at hi; cases hi)
  have nDy : ¬ F.Dm y := fun z => by obtain ⟨o, ho⟩ := rl1.dm y z; rw [hy] at ho; cases ho
  have nfy : ∀ j, y ∉ fps1 j := fun j z => by obtain ⟨o, ho⟩ := rl1.mem z; rw [hy] at ho; cases ho
  cases es : sem (.o (.nd (.ob c []) []) :: ds.map Ag.v) with
  | bad => rw [es] at h1; exact h1.elim
  | ex x as' =>
    rw [es] at h1
    intro cc dd B' H' fps' r' xr
    obtain ⟨q1, q2⟩ := aft r'
    exact h1 cc dd B' H' fps1 q1 q2 xr
  | ok d as' =>
    rw [es] at h1
    split at h1
    · rename_i c' fs l rest eq
      have eq' : d = .non ∧ as' = .o (.nd (.ob c' fs) l) :: rest := by
        injection eq with e1 e2
        exact ⟨e1, e2⟩
      obtain ⟨rfl, rfl⟩ := eq'
      intro v B' H' fps' r' rp
      obtain ⟨q1, q2⟩ := aft r'
      obtain ⟨o, g1, a, g2, g3, dx', xs, g4, g5, g6, g7, g8⟩ := r'.en 0 (.own (some 0) (.nd (.ob c' fs) l)) (by rw [slots_get]; rfl)
      have ea : a = y := by
        have : some (V.ref y) = o := Option.some.inj g1
        rw [g2] at this
        injection (Option.some.inj this) with z
        exact z.symm
      subst ea
      refine ⟨rp.nonI, ?_⟩
      obtain ⟨q3, q4⟩ := q1.freeze g6 (r'.fr 0 a (by rw [g4]; simp)).1 nfy nDy
      exact h1 _ _ H' fps1 q3 (q2.trans q4) (.nd (show Sq X.K ct _ a (.ob c' fs) xs from ⟨g5, dx', upd_same⟩) (g8.mono q4))
    · rename_i eq; cases eq
    · exact h1.elim
end
end Wu

/-! self.f = {}, then self.f[k] = v by turns: a field that is a dict. -/
namespace Wu
open PySem PySem.Spec PyProof.Rows L2

def fdLoop (g : GM) (mk mv : M D) : List D → List Key × List D → Env' → Option ((List Key × List D) × Env')
  | [], a, E => some (a, E)
  | d :: ds, a, E => match g d E with
    | none => none
    | some E1 => match mv E1 with
      | .ok v E2 => match mk E2 with
        | .ok k E3 => match k.key with
          | some k => if a.2.length < sizeLine then fdLoop g mk mv ds (putZ a.1 a.2 k v) E3 else none
          | none => none
        | _ => none
      | _ => none
def sFDict (i : Nat) (c f : Str) (mi : M (List D)) (g : GM) (mk mv : M D) : SM := fun E => match E[i]? with
  | some (.own ix (.nd (.ob c' fs) l)) => if c' = c ∧ l.length < 1000 then (match mi (E.set i .und) with
    | .ok ds E1 => match fdLoop g mk mv ds ([], []) E1 with
      | some r => .ok .nx (r.2.set i (.own ix (.nd (.ob c (putFZ f (.nd (.dct r.1.1) r.1.2) fs l).1) (putFZ f (.nd (.dct r.1.1) r.1.2) fs l).2)))
      | none => .bad
    | _ => .bad) else .bad
  | _ => .bad
section
variable {K : PySem.W.Frag} {ct : Ct} {W : WX} {F : Fm} {B B' H H' : Hp} {σ : L2.St} {E : Env'} {fps : Nat → List Addr}
theorem Rl.poke {L : Addr} {o : HO} (r : Rl K ct F B H σ E fps) (hG : F.G L = none) (hB : B L = none) (hf : ∀ j, L ∉ fps j) : Rl K ct F B (upd H L o) σ E fps := by
  refine r.move (Same.refl B) (fun b u e => ?_) (fun b u e => ?_) (fun _ _ => rfl) (fun b h => ?_) (fun j b hb => ?_) (fun j b hb => (r.fr j b hb).1)
  · rw [upd_ne (ne_of_none e hG)]; exact r.gs.go b u e
  · rw [upd_ne (ne_of_none e hB)]; exact r.bs b u e
  · obtain ⟨u, hu⟩ := r.dm b h
    by_cases z : b = L
    · exact ⟨o, by rw [z]; exact upd_same⟩
    · exact ⟨u, by rw [upd_ne z]; exact hu⟩
  · exact upd_ne fun z => hf j (by rw [← z]; exact hb)
end
section
variable {X : Cx} {ct : Ct} {W : WX}
theorem s_fdict (i : Nat) (c : Str) {x f : Str} {tg iter kx vx : Expr} {p p2 pd pos1 q1 q2 p3 pos2 posF : Pos} {mi : M (List D)} {is : List Nat} {g : GM} {mk mv : M D} (hC : Cls X.K (ct c)) (hn : NoAttr X.K (ct c) f) (hu : X.A.units + 64 < cLine)
    (hp : PassesOwn (model X.prog X.w) X.A X.env X.xe) (hcalm : X.calm = true) (hi : Itd' X ct W0 tg iter mi) (hg : Gd X ct tg is g) (his : i ∉ is) (hk : Ed X ct W0 kx mk) (hv : Ed X ct W0 vx mv) (hN : X.N[i]? = some x := by rfl)
    (hvis : Vis X.env.scope x := by first | exact Or.inl rfl | exact Or.inr (Or.inl rfl) | exact Or.inr (Or.inr rfl)) (hd : (x == ("__debug__" : Str)) = false := by decide) (hcd : (x == ("__classdict__" : Str)) = false := by decide)
    (hs1 : swapsWith (.Dict [] [] pd) (some (.Attribute (.Name x p) f p2)) pos1.line X.env = pure false := by rfl) (hs : ∀ x, foldedSetIterable iter X.env x = pure x := by intro _; rfl)
    (hb : attributeBase (.Name x q1) f X.env (eval (.Name x q1) X.env) = eval (.Name x q1) X.env := by rfl)
    (hs2 : swapsWith vx (some (.Subscript (.Attribute (.Name x q1) f q2) kx p3)) pos2.line X.env = pure false := by rfl) :
    Bd X ct W [.Assign [.Attribute (.Name x p) f p2] (.Dict [] [] pd) pos1, .For tg iter [.Assign [.Subscript (.Attribute (.Name x q1) f q2) kx p3] vx pos2] [] posF] (sFDict i c f mi g mk mv) := by
  refine PSs.imp (pss_cons (ps_fld (pe_var hN hvis hd hcd) pe_dnewK hs1) (pss_one (ps_for hp hcalm hi hg (pss_one (ps_dput (by omega) (pe_fld (pe_var hN hvis hd hcd) hb) hk hv hs2)) hs))) fun N σ H h => ?_
  obtain ⟨F, B, E, fps, rl, h⟩ := h
  have h' : PstS X.K ct W F B (sFDict i c f mi g mk mv E) N := h
  unfold sFDict at h'
  split at h'
  case h_2 => exact h'.elim
  rename_i ix c' fs l e0
  split at h'
  case isFalse => exact h'.elim
  rename_i hc
  obtain ⟨rfl, hl⟩ := hc
  cases em : mi (E.set i .und) with
  | bad => rw [em] at h'; exact h'.elim
  | ex x E1 => rw [em] at h'; exact h'.elim
  | ok ds E1 =>
  rw [em] at h'
  dsimp only at h'
  cases ef : fdLoop g mk mv ds ([], []) E1 with
  | none => rw [ef] at h'; exact h'.elim
  | some res =>
  obtain ⟨out, Ee⟩ := res
  rw [ef] at h'
  dsimp only at h'
  obtain ⟨a, dx, xs, k1, k2, k3, k4, k5, k6, k7⟩ := rl.own_ob e0
  have ma : a ∈ fps i := by rw [k3]; simp
  have md : dx ∈ fps i := by rw [k3]; simp
  have hda : dx ≠ a := fun z => by rw [z, k5] at k6; cases k6
  obtain ⟨nBa, nGa⟩ := rl.fr i a ma
  obtain ⟨nBd, nGd⟩ := rl.fr i dx md
  intro q hq
  have hqa : a ≠ q := ne_of_none k5 hq
  have hqd : dx ≠ q := ne_of_none k6 hq
  have nBq : B q = none := rl.bs.free hq
  have nGq : F.G q = none := rl.gs.free hq
  have nDq : ¬ F.Dm q := fun z => by obtain ⟨o, ho⟩ := rl.dm q z; rw [hq] at ho; cases ho
  have nfq : ∀ j, q ∉ fps j := fun j z => by obtain ⟨o, ho⟩ := rl.mem z; rw [hq] at ho; cases ho
  refine ⟨.ref a, k1, a, _, dx, _, rfl, by rw [upd_ne hqa]; exact k5, hC, hn, by rw [List.length_zip, k7.len]; omega, ?_⟩
  -- self is put aside
  have r0 := rl.unset i
  have f0 : ∀ b ∈ fps i, ∀ j, b ∉ (if j = i then [] else fps j) := fun b hb j z => by
    by_cases hj : j = i
    · rw [if_pos hj] at z; cases z
    · rw [if_neg hj] at z; exact hj (rl.dj j i b z hb)
  have r1 := (r0.poke (o := .dK []) nGq nBq (fun j z => by
    by_cases hj : j = i
    · rw [if_pos hj] at z; cases z
    · rw [if_neg hj] at z; exact nfq j z)).poke (L := a) (o := .ins (ct c') dx (putF f (.ref q) (fs.zip xs))) nGa nBa (f0 a ma)
  have pa := r1.plus (L := a) upd_same nBa (f0 a ma) (rl.b0.free nBa)
  have pd' := pa.plus (L := dx) (o := .own a) (by rw [upd_ne hda, upd_ne hqd]; exact k6) nBd (f0 dx md) (rl.b0.free nBd)
  generalize hF2 : (F.plus a (.ins (ct c') dx (putF f (.ref q) (fs.zip xs)))).plus dx (.own a) = F2 at pd'
  have G2q : F2.G q = none := by
    subst hF2
    show upd (upd F.G a _) dx _ q = none
    rw [upd_ne (Ne.symm hqd), upd_ne (Ne.symm hqa)]; exact nGq
  have B2q : F2.B0 q = none := by subst hF2; exact rl.b0.free nBq
  have D2q : ¬ F2.Dm q := by
    subst hF2
    rintro ((z | z) | z)
    · exact nDq z
    · exact hqa z.symm
    · exact hqd z.symm
  have pq := pd'.plus (L := q) (o := .dK []) (by rw [upd_ne (Ne.symm hqa), upd_same]) nBq (fun j z => by
    by_cases hj : j = i
    · rw [if_pos hj] at z; cases z
    · rw [if_neg hj] at z; exact nfq j z) B2q
  refine ⟨_, B, _, _, pq, ?_⟩
  rw [em]
  intro J B1 H1 fps1 rl1 s1 ok
  obtain ⟨rm1, hq1, hBq1, hfq1⟩ := rl1.minus G2q
  refine ⟨fun n m σ H => m = ds.length - n ∧ n ≤ ds.length ∧ σ[i]? = some (some (.ref a)) ∧ ∃ B E fps ks acc accD, Rl X.K ct F2 B H σ E fps ∧ Same B1 B ∧ B q = none ∧ (∀ j, q ∉ fps j) ∧ H q = some (.dK (List.zip ks acc)) ∧ ks.length = acc.length ∧ RpL X.K ct B acc accD ∧
    fdLoop g mk mv (ds.drop n) (ks, accD) E = some (out, Ee), ⟨ds.length, by simp, Nat.zero_le _, k1, B1, E1, fps1, [], [], [], rm1, Same.refl _, hBq1.trans B2q, hfq1, hq1, rfl, .nil, by simpa using ef⟩, ?_⟩
  rintro n m σ2 H2 ⟨rfl, hn2, hσ2, B2, E2, fps2, ks, acc, accD, rl2, s2, hB2, hf2, hL2, hkl, ra, ecd⟩
  have sH : Same B1 H2 := s2.trans rl2.bs
  by_cases hlt : n < ds.length
  · refine .inr ⟨ok.go n H2 sH hlt, fun σ' H' => σ'[i]? = some (some (.ref a)) ∧ ∃ B E fps ks acc accD, Rl X.K ct F2 B H' σ' E fps ∧ Same B1 B ∧ B q = none ∧ (∀ j, q ∉ fps j) ∧ H' q = some (.dK (List.zip ks acc)) ∧ ks.length = acc.length ∧ RpL X.K ct B acc accD ∧
      fdLoop g mk mv (ds.drop (n + 1)) (ks, accD) E = some (out, Ee), fun σ' H' z => ⟨ds.length - (n + 1), by omega, rfl, hlt, z⟩, ?_⟩
    intro x H3 hy
    obtain ⟨d, hd', hx⟩ := ok.yld n H2 x H3 sH hlt hy
    have hdrop : ds.drop n = d :: ds.drop (n + 1) := by
      rw [List.drop_eq_getElem_cons hlt]
      rw [List.getElem?_eq_getElem hlt] at hd'
      rw [Option.some.inj hd']
    rw [hdrop] at ecd
    obtain ⟨B3, rl3, s3, rp3, hB3, hL3⟩ : ∃ B3, Rl X.K ct F2 B3 H3 σ2 E2 fps2 ∧ Same B2 B3 ∧ Rp X.K ct B3 x d ∧ B3 q = none ∧ H3 q = some (.dK (ks.zip acc)) := by
      rcases hx with ⟨rfl, rp⟩ | ⟨p, o, hn', rfl, rfl, rp⟩
      · exact ⟨B2, rl2, Same.refl _, rp.mono s2, hB2, hL2⟩
      · obtain ⟨z1, z2⟩ := rl2.laid (o := o) hn'
        have hpL : q ≠ p := ne_of_none hL2 hn'
        refine ⟨_, z1, z2, rp.mono fun b u e => ?_, by rw [upd_ne hpL]; exact hB2, by rw [upd_ne hpL]; exact hL2⟩
        unfold upd at e ⊢
        split at e
        · rw [if_pos (by assumption)]; exact e
        · rw [if_neg (by assumption)]; exact s2 b u e
    unfold fdLoop at ecd
    cases eg : g d E2 with
    | none => rw [eg] at ecd; cases ecd
    | some E3 =>
    rw [eg] at ecd
    dsimp only at ecd
    have rp3' := rl3.plus (o := .dK (ks.zip acc)) hL3 hB3 hf2 B2q
    refine ⟨_, B3, E2, fps2, d, rp3', rp3, E3, eg, fun σ4 fps4 rl4 ou => ?_⟩
    have hσ4 : σ4[i]? = some (some (.ref a)) := by rw [ou.2 i his]; exact hσ2
    cases ev : mv E3 with
    | bad => rw [ev] at ecd; cases ecd
    | ex x E4 => rw [ev] at ecd; cases ecd
    | ok v E4 =>
    rw [ev] at ecd
    dsimp only at ecd
    refine ⟨_, B3, E3, fps4, rl4, ?_⟩
    rw [ev]
    intro v5 B5 H5 fp5 rl5 s5 rp5
    obtain ⟨rm5, hL5, hB5, hf5⟩ := rl5.minus G2q
    have ha5 : H5 a = some (.ins (ct c') dx (putF f (.ref q) (fs.zip xs))) := rm5.gs.eq (by
      subst hF2
      show upd (upd F.G a _) dx _ a = _
      rw [upd_ne (Ne.symm hda), upd_same]) (by intro _ z; cases z)
    refine ⟨.ref a, hσ4, a, _, dx, _, .ref q, rfl, ha5, hC, hn, by rw [lookup_putF, if_pos rfl], ?_⟩
    cases ek : mk E4 with
    | bad => rw [ek] at ecd; cases ecd
    | ex x E5 => rw [ek] at ecd; cases ecd
    | ok yk E5 =>
    rw [ek] at ecd
    dsimp only at ecd
    cases ekk : yk.key with
    | none => rw [ekk] at ecd; cases ecd
    | some kk =>
    rw [ekk] at ecd
    dsimp only at ecd
    split at ecd
    case isFalse => cases ecd
    rename_i hz
    refine ⟨_, B5, E4, fp5, rl5, ?_⟩
    rw [ek]
    intro vk B6 H6 fp6 rl6 s6 rp6
    obtain ⟨rm6, hL6, hB6, hf6⟩ := rl6.minus G2q
    have hB6' := hB6.trans B2q
    have pz := putZ_zip (k := kk) (v := v5) hkl
    have raa := ((ra.mono s3).mono s5).mono s6
    refine ⟨q, _, rfl, .inl ⟨_, kk, hL6, rp6.key ekk, by rw [List.length_zip, raa.len]; omega, rfl⟩, hσ4, B6, E5, fp6, (putZ ks acc kk v5).1, (putZ ks acc kk v5).2, (putZ ks accD kk v).2, rm6.poke G2q hB6' hf6, ((s2.trans s3).trans s5).trans s6, hB6', hf6, by rw [upd_same, pz.1], pz.2, raa.putZ (rp5.mono s6), ?_⟩
    have ekeys := putZ_keys (ks := ks) (k := kk) (l := acc) (m := accD) (v := v5) (u := v)
    rw [ekeys]
    exact ecd
  · refine .inl ⟨ok.stop n H2 sH (by omega), ?_⟩
    rw [List.drop_eq_nil_of_le (by omega)] at ecd
    have e1 : (ks, accD) = out ∧ E2 = Ee := by
      have : some ((ks, accD), E2) = some (out, Ee) := ecd
      injection this with this
      injection this with z1 z2
      exact ⟨z1, z2⟩
    obtain ⟨rfl, rfl⟩ := e1
    subst hF2
    have gd : (F.plus a (.ins (ct c') dx (putF f (.ref q) (fs.zip xs)))).G dx = none := by
      show upd F.G a _ dx = none
      rw [upd_ne hda]; exact nGd
    obtain ⟨rd, hHd, hBd, hfd⟩ := rl2.minus gd
    obtain ⟨rA, hHa, hBa, hfa⟩ := rd.minus nGa
    have hBa' : B2 a = none := hBa.trans (rl.b0.free nBa)
    have hBd' : B2 dx = none := hBd.trans (rl.b0.free nBd)
    obtain ⟨rq, sq⟩ := rA.freeze hL2 hB2 hf2 nDq
    have rpq : Rp X.K ct (upd B2 q (.dK (ks.zip acc))) (.ref q) (.nd (.dct ks) accD) := .nd (show Sq X.K ct _ q (.dct ks) acc from ⟨hkl, .inl upd_same⟩) (ra.mono sq)
    have sB : Same B (upd B2 q (.dK (ks.zip acc))) := (s1.trans s2).trans sq
    have pz := putFZ_zip (f := f) (v := .ref q) k4
    have ekf := putFZ_keys (f := f) (v := V.ref q) (u := (.nd (.dct ks) accD : D)) (fs := fs) k7.len
    have fin := rq.setOw (i := i) (ix := ix) (fp := [a, dx]) (c := .nd (.ob c' (putFZ f (.nd (.dct ks) accD) fs l).1) (putFZ f (.nd (.dct ks) accD) fs l).2) hσ2 k2
      ⟨dx, (putFZ f (.ref q) fs xs).2, rfl, by rw [← ekf]; exact pz.2, by rw [hHa, pz.1, ekf], hHd, (k7.mono sB).putFZ rpq⟩ (fun b hb => by
        rcases (by simpa using hb : b = a ∨ b = dx) with z | z
        · subst z; exact ⟨by rw [upd_ne hqa]; exact hBa', nGa, fun j _ => hfa j⟩
        · subst z; exact ⟨by rw [upd_ne hqd]; exact hBd', nGd, fun j _ => hfd j⟩)
    exact h' σ2 _ H2 _ fin sB
end
end Wu

/-! The end of a law. -/
namespace Wu
open PySem PySem.Spec PyProof.Rows L2

section
variable {P : Program} {w : World} {K : PySem.W.Frag} {mg mb : Str → Option Value} {k : Nat} {fa a : Addr} {fd : FuncData} {x : Str} {sp : Sp} {s : Shared} {vs : List Value} {ns : List Int}
abbrev scrO (vs : List Value) : Obj := { cls := .type "list", data := .seq vs.toArray }
/-- what is wanted behind the law's call -/
abbrev Won (s : Shared) : Result → Shared → Prop := fun r s' => r = .ok (.ret (.bool true)) ∧ OldK s.heap s'.heap ∧ s'.os = s.os ∧ AllBare s'.gens
/-- the tables of code objects (cs: the code objects and theirs), empty at the law's call -/
structure TabsAt (K : PySem.W.Frag) (mg : Str → Option Value) (cs : List (Addr × Addr)) (h : Heap) : Prop where
  obj : ∀ p ∈ cs, h.get? p.2 = some { cls := .none, data := .fields #[] }
  out : ∀ p ∈ cs, K.lookup p.2 = none
  code : ∀ p ∈ cs, PySem.W.CodeHd h p.1 p.2
def isTb (cs : List (Addr × Addr)) (b : Addr) : Prop := ∃ p ∈ cs, p.2 = b
abbrev BmAt (mg : Str → Option Value) (h : Heap) : Prop := ∃ (bm : Addr) (ob : Obj), mg "__builtins__" = some (.ref bm) ∧ bm ≠ builtinsNs ∧ h.get? bm = some ob ∧ ob.cls = .type "module" ∧ ob.dict = some builtinsNs ∧ ob.data = .plain
/-- what an abstract heap tracks at the law's call -/
structure Begun (cs : List (Addr × Addr)) (a : Addr) (H : Hp) : Prop where
  kind : ∀ b, H b = none ∨ (isTb cs b ∧ H b = some (.tbl #[])) ∨ (b = a ∧ ∃ o xs, H b = some (.frz o (.lst xs)))
  tab : ∀ b, isTb cs b → H b = some (.tbl #[])
/-- from an abstract heap that tracks the script and the tables at most -/
theorem end_core {cs : List (Addr × Addr)} (KX : K.In s.heap) (hns : s.heap.Ns mainGlobals mg) (hb : s.heap.Ns builtinsNs mb) (hbb : ∀ y : Str, y ≠ "__name__" → mb y = bootBuiltins y) (hlim : s.heap.NoLimit) (hg : s.gens = #[]) (T : TabsAt K mg cs s.heap) (hbm : BmAt mg s.heap)
    (ha : s.heap.get? a = some (scrO vs)) (hr : Room k callerA) (F : ∀ base : Heap, K.In base → base.Ns mainGlobals mg → (∀ p ∈ cs, LamX.TabB base mg p.1 p.2) → FnG P w K mg base k fa fd [x] sp) (hbind : ∀ (s : Shared) (u : Value), BindsTo s fd ⟨[u], []⟩ [(x, u)])
    {H : Hp} (hO : Begun cs a H) (hok : HOk P w H s.heap) (hK : H a ≠ none → K.lookup a = none) (hsp : sp [.ref a] H (fun v _ => v = .bl true) fun _ _ _ => False) :
    codeAny (model P w) callerA (.call (.ref fa) ⟨[.ref a], []⟩) (Won s) s := by
  have old : ∀ {b : Addr} {o : Obj}, s.heap.get? b = some o → H b = none → (hidT s.heap H).get? b = some o := fun e n => hidT_get e n
  -- an object that is neither the script nor an empty table isn't tracked
  have noT : ∀ {b : Addr} {o : Obj}, s.heap.get? b = some o → o.data ≠ .fields #[] → (∀ us n, o.data ≠ .seq us n) → H b = none := by
    intro b o e d1 d2
    rcases hO.kind b with q | ⟨⟨p, hp, rfl⟩, q⟩ | ⟨rfl, _⟩
    · exact q
    · rw [T.obj p hp] at e
      injection e with e
      rw [← e] at d1
      exact absurd rfl d1
    · rw [ha] at e
      injection e with e
      rw [← e] at d2
      exact absurd rfl (d2 _ _)
  have keepNs : ∀ {b : Addr} {m : Str → Option Value}, s.heap.Ns b m → (hidT s.heap H).Ns b m := by
    rintro b m ⟨o, es, ep, e, d, r⟩
    exact ⟨o, es, ep, old e (noT e (by rw [d]; intro z; cases z) (by rw [d]; intro _ _ z; cases z)), d, r⟩
  have kin : K.In (hidT s.heap H) := by
    intro b o e
    refine old (KX b o e) ?_
    rcases hO.kind b with q | ⟨⟨p, hp, rfl⟩, _⟩ | ⟨rfl, o', xs, q⟩
    · exact q
    · rw [T.out p hp] at e; cases e
    · rw [hK (by rw [q]; intro z; cases z)] at e; cases e
  obtain ⟨mc, l1, l2⟩ := hlim
  have md : Mod K mg (hidT s.heap H) := ⟨kin, keepNs hns, ⟨mb, keepNs hb, hbb⟩, ⟨mc, keepNs l1, l2⟩⟩
  have tabs : ∀ p ∈ cs, LamX.TabB (hidT s.heap H) mg p.1 p.2 := by
    intro p hp
    have hTp := T.obj p hp
    refine ⟨?_, ?_, ?_⟩
    · obtain ⟨o, us, file, tf, flags, tg, inF, text, tt, c1, c2, c3, c4, c5⟩ := T.code p hp
      refine ⟨o, us, file, tf, flags, tg, inF, text, tt, old c1 (noT c1 ?_ ?_), c2, c3, c4, c5⟩
      · intro z
        rw [c3] at z
        injection z with z
        subst z
        simp at c4
      · intro us' n z
        rw [c3] at z
        cases z
    · obtain ⟨bm, ob, b1, b2, b3, b4, b5, b6⟩ := hbm
      refine ⟨bm, ob, b1, b2, ?_, ?_, old b3 (noT b3 (by rw [b6]; intro z; cases z) (by rw [b6]; intro _ _ z; cases z)), b4, b5, b6⟩
      · rintro rfl
        obtain ⟨o, es, ep, e, d, _⟩ := hns
        rw [b3] at e
        injection e with e
        rw [← e, b6] at d
        cases d
      · rintro rfl
        rw [hTp] at b3
        injection b3 with e
        rw [← e] at b6
        cases b6
    · intro z
      obtain ⟨o, es, ep, e, d, _⟩ := hns
      rw [z, hTp] at e
      injection e with e
      rw [← e] at d
      cases d
  have none0 : ∀ b : Addr, b ∉ frs [] := fun b z => by cases z
  have e0 : Env0 P w K mg (hidT s.heap H) callerA [] s H :=
    ⟨rfl, md, fun b o e => of_hidT e, Nat.le_of_eq (hidT_size _ _), trivial, fun b z => absurd z (none0 b), hok, .of_eq hg⟩
  have go := (F _ kin (keepNs hns) tabs).run callerA [] s H ⟨[.ref a], []⟩ [.ref a] [.ref a] _ _ rfl hr e0 (hbind s (.ref a)) (.cons rfl .nil) hsp
  refine codeAny_mono go ?_
  intro r s' h
  match r, h with
  | .error e, h =>
    obtain ⟨_, _, _, _, _, _, _, _, _, _, _, _, z⟩ := h
    exact z.elim
  | .ok (.ret u), h =>
    obtain ⟨v, H', os, bare, un, hok', rv, q⟩ := h
    have q' : v = .bl true := q
    subst q'
    have eu : u = Value.bool true := rv
    subst eu
    have stay : ∀ b o, s.heap.get? b = some o → ¬ isTb cs b → s'.heap.get? b = some o := by
      intro b o e nb
      rcases hO.kind b with z | ⟨z, _⟩ | ⟨_, ob, xs, z⟩
      · exact un.keep b o e z (none0 b) (fun z => by cases z)
      · exact absurd z nb
      · have z1 := (hok b _ z).1
        have z2 := (hok' b _ (un.frzs b ob _ z)).1
        rw [e] at z1
        injection z1 with z1
        rw [z1]
        exact z2
    have grew : ∀ p ∈ cs, ∃ more : Array Value, s'.heap.get? p.2 = some { cls := .none, data := .fields more } := by
      intro p hp
      obtain ⟨more, z⟩ := un.tbls p.2 #[] (hO.tab p.2 ⟨p, hp, rfl⟩)
      exact ⟨_, hok' p.2 _ z⟩
    refine ⟨rfl, ⟨?_, ?_⟩, os, bare⟩
    · intro b o e
      by_cases nb : isTb cs b
      · obtain ⟨p, hp, rfl⟩ := nb
        obtain ⟨more, hm⟩ := grew p hp
        rw [T.obj p hp] at e
        injection e with e
        subst e
        exact .inr (.inl ⟨((T.code p hp).tab (T.obj p hp)).isCodeTable, rfl, #[], more, rfl, by simpa using hm⟩)
      · exact .inl (stay b o e nb)
    · intro b o e
      by_cases nb : isTb cs b
      · obtain ⟨p, hp, rfl⟩ := nb
        obtain ⟨more, hm⟩ := grew p hp
        exact ⟨_, hm⟩
      · exact ⟨o, stay b o e nb⟩
  | .ok .next, h => exact h.elim
  | .ok .brk, h => exact h.elim
  | .ok .cont, h => exact h.elim
theorem end_call {cs : List (Addr × Addr)} (KX : K.In s.heap) (hns : s.heap.Ns mainGlobals mg) (hb : s.heap.Ns builtinsNs mb) (hbb : ∀ y : Str, y ≠ "__name__" → mb y = bootBuiltins y) (hlim : s.heap.NoLimit) (hg : s.gens = #[]) (T : TabsAt K mg cs s.heap) (hbm : BmAt mg s.heap)
    (ha : s.heap.get? a = some (scrO vs)) (hi : IntsAre vs ns) (hl : ns.length ≤ sizeLine) (hr : Room k callerA) (F : ∀ base : Heap, K.In base → base.Ns mainGlobals mg → (∀ p ∈ cs, LamX.TabB base mg p.1 p.2) → FnG P w K mg base k fa fd [x] sp) (hbind : ∀ (s : Shared) (u : Value), BindsTo s fd ⟨[u], []⟩ [(x, u)])
    (hsp : ∀ H : Hp, (∀ b, isTb cs b → H b = some (.tbl #[])) → SqL K H a (ns.map V.int) → sp [.ref a] H (fun v _ => v = .bl true) fun _ _ _ => False) :
    codeAny (model P w) callerA (.call (.ref fa) ⟨[.ref a], []⟩) (Won s) s := by
  classical
  have rv := vals_ints hi
  have na : ¬ isTb cs a := by
    rintro ⟨p, hp, rfl⟩
    rw [T.obj p hp] at ha
    injection ha with ha
    have z : Data.fields #[] = Data.seq vs.toArray _ := congrArg Obj.data ha
    cases z
  cases hk : K.lookup a with
  | some o =>
    have e := KX a o hk
    rw [ha] at e
    injection e with e
    subst e
    let H0 : Hp := fun b => if isTb cs b then some (.tbl #[]) else none
    have sq : SqL K H0 a (ns.map V.int) := .inr ⟨_, vs.toArray, _, hk, rfl, rfl, rfl, by rw [List.size_toArray, hi.length]; exact hl, by simpa using rv⟩
    have tb : ∀ b, isTb cs b → H0 b = some (.tbl #[]) := fun b h => if_pos h
    refine end_core (H := H0) KX hns hb hbb hlim hg T hbm ha hr F hbind ⟨fun b => ?_, tb⟩ ?_ (fun z => absurd (if_neg na) z) (hsp _ tb sq)
    · by_cases z : isTb cs b
      · exact .inr (.inl ⟨z, tb b z⟩)
      · exact .inl (if_neg z)
    · intro b u z
      by_cases q : isTb cs b
      · rw [tb b q] at z
        cases z
        obtain ⟨p, hp, rfl⟩ := q
        exact T.obj p hp
      · rw [show H0 b = none from if_neg q] at z; cases z
  | none =>
    let H0 : Hp := fun b => if b = a then some (.frz (scrO vs) (.lst (ns.map V.int))) else if isTb cs b then some (.tbl #[]) else none
    have tb : ∀ b, isTb cs b → H0 b = some (.tbl #[]) := fun b h => by
      have hne : b ≠ a := by rintro rfl; exact na h
      show (if b = a then some (HO.frz (scrO vs) (.lst (ns.map V.int))) else if isTb cs b then some (.tbl #[]) else none) = _
      rw [if_neg hne, if_pos h]
    have at_a : H0 a = some (.frz (scrO vs) (.lst (ns.map V.int))) := if_pos rfl
    refine end_core (H := H0) KX hns hb hbb hlim hg T hbm ha hr F hbind ⟨fun b => ?_, tb⟩ ?_ (fun _ => hk) (hsp _ tb (.inl (.inr ⟨scrO vs, at_a⟩)))
    · by_cases z : b = a
      · exact .inr (.inr ⟨z, _, _, by rw [z]; exact at_a⟩)
      · by_cases q : isTb cs b
        · exact .inr (.inl ⟨q, tb b q⟩)
        · exact .inl (by show (if b = a then some (HO.frz (scrO vs) (.lst (ns.map V.int))) else if isTb cs b then some (.tbl #[]) else none) = _; rw [if_neg z, if_neg q])
    · intro b u z
      by_cases eb : b = a
      · subst eb
        rw [at_a] at z
        cases z
        exact ⟨ha, by rw [List.length_map]; exact hl, vs, _, rv, ha⟩
      · by_cases q : isTb cs b
        · rw [tb b q] at z
          cases z
          obtain ⟨p, hp, rfl⟩ := q
          exact T.obj p hp
        · rw [show H0 b = none from by show (if b = a then some (HO.frz (scrO vs) (.lst (ns.map V.int))) else if isTb cs b then some (.tbl #[]) else none) = _; rw [if_neg eb, if_neg q]] at z; cases z
end
end Wu

/-! A law's def: the draws begin, the rest by its meaning. -/
namespace Wu
open PySem PySem.Spec PyProof.Rows L2

/-- what the beginning of the draws promises -/
def spBegun (K : PySem.W.Frag) : Sp := fun vs H Q _ => ∃ (a : Addr) (ns : List Int), vs = [.ref a] ∧ SqL K H a (ns.map V.int) ∧ ns.length ≤ 63 ∧ (∀ z ∈ ns, z.natAbs < 2 ^ 1048577) ∧
  ∀ (p g : Addr) (H' : Hp) (s : Dr), H p = none → H g = none → g ≠ p → Same H H' → H' p = some (.dK (drK s.mixed g s.turn)) → H' g = some (.lst (s.great.map V.int)) → s.Ok → Q (.ref p) H'
def spLaw (K : PySem.W.Frag) (tb : Addr → Prop) : Sp := fun vs H Q _ => ∃ (a : Addr) (ns : List Int), vs = [.ref a] ∧ (∀ b, tb b → H b = some (.tbl #[])) ∧ SqL K H a (ns.map V.int) ∧ ns.length ≤ 63 ∧ (∀ z ∈ ns, z.natAbs < 2 ^ 1048577) ∧ ∀ H', Q (.bl true) H'
theorem bits_lt {z : Int} (h : Builtin.Int.intBits z ≤ 1048576) : z.natAbs < 2 ^ 1048577 := by
  have h1 : z.natAbs < 2 ^ Builtin.Int.intBits z := by
    unfold Builtin.Int.intBits
    split
    · rename_i e; rw [show z = 0 by simpa using e]; decide
    · exact Nat.lt_log2_self
  exact Nat.lt_of_lt_of_le h1 (Nat.pow_le_pow_right (by decide) (by omega))
theorem mk3 {x : Int} {g : Addr} : mergeK [] (drK x g 0) = drK x g 0 := by
  simp only [drK, mergeK, List.foldl, putK, List.any, List.nil_append, List.append_nil, Bool.or_false, decide_eq_false n_mt, decide_eq_false n_gt, decide_eq_false n_mg, Bool.false_eq_true, if_false, List.cons_append]
/-- the slots behind the law's first statement -/
def envL (n : Nat) (ns : List Int) (s : Dr) : Env' := .val (.scr (ns.map D.int)) :: .own none (.dr s) :: List.replicate (n - 2) .und
noncomputable def Fm.top (ct : Ct) : Fm := ⟨fun b => by classical exact if ct.tb b then some (.tbl #[]) else none, fun _ => none, ct.tb, []⟩
theorem rp_ints {K : PySem.W.Frag} {ct : Ct} {B : Hp} : ∀ ns : List Int, RpL K ct B (ns.map V.int) (ns.map D.int)
  | [] => .nil
  | n :: ns => .cons (.int n) (rp_ints ns)
section
variable {P : Program} {w : World} {K : PySem.W.Frag} {mg : Str → Option Value} {base : Heap} {ct : Ct}
theorem fn_law {k n : Nat} {st : Stmt} {f : Addr} {fd : FuncData} {N : List Str} {bm : SM} {rest : List Stmt} {p0 p1 p2 p3 pos : Pos} (F : Fun K "law" "law" st f fd) (S : FnScope N ["_law_script"] (defScope st)) (hn : N.length = n) (h2 : 2 ≤ n)
    (hb : defBody st = .Assign [.Name "_law_draw" p0] (.Call (.Name "_law_begun" p1) [.Name "_law_script" p2] [] p3) pos :: rest)
    (hfirst : ∀ (cdv : Value) (A : Around) (outer : List Env) (s : Shared) (H : Hp) (E : XK), (A.deeper (envOfC "law" (defScope st) s.heap.objs.size f cdv)).guards = some [] →
      Room k (A.deeper (envOfC "law" (defScope st) s.heap.objs.size f cdv)) →
      PS (cxOf (L2.CX P w) P w K mg base N "law" (defScope st) f cdv A outer s H E) (.Assign [.Name "_law_draw" p0] (.Call (.Name "_law_begun" p1) [.Name "_law_script" p2] [] p3) pos) (tAsg (tFn (spBegun K) [] W0 (tCons (tVar 0) tNil)) (gName 1)))
    (hrest : ∀ (cdv : Value) (A : Around) (outer : List Env) (s : Shared) (H : Hp) (E : XK), fd.code = cdv → (A.deeper (envOfC "law" (defScope st) s.heap.objs.size f cdv)).guards = some [] →
      Room k (A.deeper (envOfC "law" (defScope st) s.heap.objs.size f cdv)) → Takes (cxOf (L2.CX P w) P w K mg base N "law" (defScope st) f cdv A outer s H E) (fun c d _ H => E c d H) →
      PSs (cxOf (L2.CX P w) P w K mg base N "law" (defScope st) f cdv A outer s H E) rest (tMS K ct (fun c d _ H => E c d H) bm))
    (hbp : ∀ B, ct.bp B) (plain : ∀ (ns : List Int) (s : Dr), ns.length ≤ 63 → s.Ok → ∃ E', bm (envL n ns s) = .ok (.rt (.bl true)) E') :
    FnG P w K mg base (k + 1) f fd ["_law_script"] (spLaw K ct.tb) := by
  refine fn_body F S (fun vs H Q E h => ?_) (fun cdv A outer s H vs Q E hcv hG hr h => ⟨_, by rw [hb]; exact pss_cons (hfirst cdv A outer s H E hG hr) (hrest cdv A outer s H E hcv hG hr (takes_of rfl rfl rfl rfl)), ?_⟩)
  · obtain ⟨a, ns, rfl, _⟩ := h; rfl
  · obtain ⟨a, ns, rfl, hT, hs, hl, hbit, hq⟩ := h
    have st0 : L2.start N [V.ref a] = some (V.ref a) :: List.replicate (N.length - 1) none := rfl
    refine ⟨.ref a, by rw [st0]; rfl, a, ns, rfl, hs, hl, hbit, fun p g H' d hp hg hgp sm h1 h2' ok => ?_⟩
    have sB : ∀ b o, H b = some o → ¬ ct.tb b → (off H' fun b => b = p ∨ b = g ∨ ct.tb b) b = some o := fun b o e nt => by
      rw [off_out (by rintro (z | z | z); exact absurd z (ne_of_none e hp); exact absurd z (ne_of_none e hg); exact nt z)]
      exact sm b o e
    have sL : SqL K (off H' fun b => b = p ∨ b = g ∨ ct.tb b) a (ns.map V.int) := by
      rcases hs with (h | ⟨o, h⟩) | h
      · exact .inl (.inl (sB _ _ h fun z => by rw [hT _ z] at h; cases h))
      · exact .inl (.inr ⟨o, sB _ _ h fun z => by rw [hT _ z] at h; cases h⟩)
      · exact .inr h
    have gT : ∀ b, (Fm.top ct).G b = none ∨ (ct.tb b ∧ (Fm.top ct).G b = some (.tbl #[])) := fun b => by
      by_cases z : ct.tb b
      · exact .inr ⟨z, if_pos z⟩
      · exact .inl (if_neg z)
    have g0 : SameT ct (Fm.top ct) (off H' fun b => b = p ∨ b = g ∨ ct.tb b) H' := by
      refine ⟨fun b o e => ?_, fun b h => ⟨#[], if_pos h⟩, fun b h => ⟨h, rfl⟩, hbp _⟩
      rcases gT b with z | ⟨z1, z2⟩
      · rw [z] at e; cases e
      · rw [z2] at e
        cases e
        refine .inr ⟨#[], #[], rfl, z1, sm b _ (hT b z1), True.intro, fun pos cv q => ?_⟩
        have q' : codeAmong pos [] = some cv := q
        simp [codeAmong] at q'
    have ntp : ¬ ct.tb p := fun z => by rw [hT p z] at hp; cases hp
    have ntg : ¬ ct.tb g := fun z => by rw [hT g z] at hg; cases hg
    have n1 : N.length - 1 = (n - 2) + 1 := by omega
    have eσ : (L2.start N [V.ref a]).set 1 (some (.ref p)) = some (.ref a) :: some (.ref p) :: List.replicate (n - 2) none := by
      rw [st0, n1, List.replicate_succ]; rfl
    show tMS K ct (fun c d x H => E c d H) bm _ ((L2.start N [V.ref a]).set 1 (some (.ref p))) H'
    rw [eσ]
    have rl : Rl K ct (Fm.top ct) (off H' fun b => b = p ∨ b = g ∨ ct.tb b) H' (some (.ref a) :: some (.ref p) :: List.replicate (n - 2) none) (envL n ns d) (fun j => if j = 1 then [p, g] else []) := by
      refine ⟨g0, off_same _ _, fun b o e => (by cases e), fun b z => off_in (.inr (.inr z)), fun b z => ⟨_, sm b _ (hT b z)⟩, by simp [envL], fun i sl e => ?_, fun i e => ?_, fun i j b hi hj => ?_, fun i b hi => ?_⟩
      · match i with
        | 0 =>
          have e' : sl = .val (.scr (ns.map D.int)) := (Option.some.inj e).symm
          subst e'
          exact ⟨_, rfl, rfl, .ref a, rfl, .nd (show Sq K ct _ a .scr _ from sL) (rp_ints ns)⟩
        | 1 =>
          have e' : sl = .own none (.dr d) := (Option.some.inj e).symm
          subst e'
          exact ⟨_, rfl, p, rfl, ntp, g, rfl, ok, h2', h1⟩
        | i + 2 =>
          have e' : (List.replicate (n - 2) Sl.und)[i]? = some sl := e
          rw [List.getElem?_replicate] at e'
          split at e'
          · rename_i hi
            cases e'
            exact ⟨none, by show (List.replicate (n - 2) none)[i]? = _; rw [List.getElem?_replicate, if_pos hi], rfl⟩
          · cases e'
      · match i with
        | 0 => rfl
        | 1 => cases e
        | i + 2 => rfl
      · by_cases z1 : i = 1
        · by_cases z2 : j = 1
          · rw [z1, z2]
          · rw [if_neg z2] at hj; cases hj
        · rw [if_neg z1] at hi; cases hi
      · by_cases z1 : i = 1
        · rw [if_pos z1] at hi
          rcases (by simpa using hi : b = p ∨ b = g) with rfl | rfl
          · exact ⟨off_in (.inl rfl), if_neg ntp⟩
          · exact ⟨off_in (.inr (.inl rfl)), if_neg ntg⟩
        · rw [if_neg z1] at hi; cases hi
    refine ⟨_, _, _, _, rl, ?_⟩
    obtain ⟨E', e⟩ := plain ns d hl ok
    rw [e]
    intro v σ' B' H2 fps' r' s' rp
    cases rp
    exact hq H2
end
end Wu

/-! repr of data. -/
namespace Wu
open PySem PySem.Spec PyProof.Rows L2

mutual
def D.sh : D → PyData
  | .non => .none
  | .bl b => .bool b
  | .int i => .int i
  | .str x => .str x
  | .nd .tup l => .tuple (shL l)
  | .nd .lst l => .list (shL l)
  | .nd .scr _ => .none
  | .nd .pr _ => .none
  | .nd (.dct _) _ => .dict []
  | .nd (.dtt _) _ => .none
  | .nd (.ob _ _) _ => .none
  | .nd (.exn _ _) _ => .none
def shL : List D → List PyData
  | [] => []
  | d :: l => d.sh :: shL l
end
mutual
def D.canSh : D → Bool
  | .non => true
  | .bl _ => true
  | .int _ => true
  | .str _ => true
  | .nd .tup l => canShL l
  | .nd .lst l => canShL l
  | .nd .scr _ => false
  | .nd .pr _ => false
  | .nd (.dct ks) _ => ks.isEmpty
  | .nd (.dtt _) _ => false
  | .nd (.ob _ _) _ => false
  | .nd (.exn _ _) _ => false
def canShL : List D → Bool
  | [] => true
  | d :: l => d.canSh && canShL l
end
section
variable {X : Cx} {ct : Ct} {pins : List (Addr × Obj)} {σ : L2.St} {B H : Hp} {s : Shared} {G : Heap}
mutual
theorem Rp.reads (I : Inv X pins σ H s) (sm : Same B H) (hG : ∀ b o, s.heap.get? b = some o → ((b == sysModules) = false ∨ o.cls ≠ .type "dict") → G.get? b = some o) : ∀ (d : D) (v : V) (u : Value), Rp X.K ct B v d → RelV v u → d.canSh = true → ∃ as, Reads G u d.sh as
  | .non, _, u, h, r, _ => by cases h; cases r; exact ⟨_, .none⟩
  | .bl b, _, u, h, r, _ => by cases h; cases r; exact ⟨_, .bool b⟩
  | .int i, _, u, h, r, _ => by cases h; obtain ⟨t, rfl⟩ := r; exact ⟨_, .int i t⟩
  | .str x, _, u, h, r, _ => by cases h; obtain ⟨t, rfl⟩ := r; exact ⟨_, .str x t⟩
  | .nd k l, v, u, h, r, q => by
    cases h with
    | @nd a _ xs _ h rr =>
      obtain rfl : u = Value.ref a := r
      cases k with
      | tup =>
        obtain ⟨its, rv, ⟨o, e1, e2, n, e3⟩, _⟩ := I.tuple (sqT_mono sm h.t)
        obtain ⟨as, rd⟩ := RpL.reads I sm hG l xs its rr rv q
        exact ⟨_, .tuple (hG _ _ e1 (.inr (by rw [e2]; decide))) e2 e3 (by simpa using rd)⟩
      | lst =>
        obtain ⟨its, rv, ⟨o, n, e1, e2, e4, e3⟩, _⟩ := I.list (SqL.of (sm _ _ h))
        obtain ⟨as, rd⟩ := RpL.reads I sm hG l xs its rr rv q
        exact ⟨_, .list (hG _ _ e1 (.inr (by rw [e2]; decide))) e2 e3 (by simpa using rd)⟩
      | scr => cases q
      | pr => cases q
      | dct ks =>
        have ek : ks = [] := List.isEmpty_iff.mp q
        subst ek
        obtain ⟨hl, hd⟩ := h
        obtain ⟨_, hsys, vs, rel, dof⟩ := dk_rd I.hok (rd_mono sm hd)
        obtain ⟨o, es, ep, h1, h2, h3, h4, h5, h6⟩ := dof
        cases rel
        have ee : es.toList = [] := by
          cases e : es.toList with
          | nil => rfl
          | cons x l => rw [e] at h5; cases h5
        exact ⟨_, .dict (as := []) (bs := []) (hG _ _ h1 (.inl hsys)) h2.1 h3 (by rw [ee]; exact .nil) (by rw [ee]; exact .nil)⟩
      | dtt ks => cases q
      | ob c fs => cases q
      | exn c fs => cases q
theorem RpL.reads (I : Inv X pins σ H s) (sm : Same B H) (hG : ∀ b o, s.heap.get? b = some o → ((b == sysModules) = false ∨ o.cls ≠ .type "dict") → G.get? b = some o) : ∀ (ds : List D) (vs : List V) (us : List Value), RpL X.K ct B vs ds → Vals vs us → canShL ds = true → ∃ as, ReadsAll G us (shL ds) as
  | [], _, us, h, r, _ => by cases h; cases r; exact ⟨_, .nil⟩
  | d :: ds, _, us, h, r, q => by
    cases h with
    | cons h1 h2 =>
      cases r with
      | cons r1 r2 =>
        have q' := Bool.and_eq_true_iff.mp (show (d.canSh && canShL ds) = true from q)
        obtain ⟨as, a1⟩ := Rp.reads I sm hG d _ _ h1 r1 q'.1
        obtain ⟨bs, a2⟩ := RpL.reads I sm hG ds _ _ h2 r2 q'.2
        exact ⟨_, .cons a1 a2⟩
end
end
def pRepr : List D → Option D
  | [d] => if d.canSh && d.sh.showable && decide (d.sh.shown.length ≤ sizeLine) && decide (d.sh.depth ≤ 60) then some (.str d.sh.shown) else none
  | _ => none
def rRepr (K : PySem.W.Frag) (ct : Ct) : List V → Hp → VK → Prop := fun xs H Q => ∃ (v : V) (d : D) (B : Hp), xs = [v] ∧ Same B H ∧ Rp K ct B v d ∧ d.canSh = true ∧ d.sh.showable = true ∧ d.sh.shown.length ≤ sizeLine ∧ d.sh.depth ≤ 60 ∧ Q (.str d.sh.shown) H
section
variable {X : Cx} {ct : Ct} {W : WX}
theorem call_reprD (hg : X.A.guards = some []) (hu : X.A.units + 64 < cLine) : CallR X (.builtin "repr") (rRepr X.K ct) := by
  intro pins s σ H vs us Q I r h
  obtain ⟨v, d, B, rfl, sm, rp, c1, c2, c3, c4, q⟩ := h
  cases r with
  | @cons _ u _ _ ru r0 =>
    cases r0
    cases d with
    | non => cases rp; cases ru; exact PySem.P.repr_of_none ⟨.str _, H, I.tok _, ⟨_, rfl⟩, q⟩
    | bl b =>
      cases rp; cases ru
      refine PySem.P.repr_of_bool ⟨.str _, H, I.tok _, ⟨_, rfl⟩, ?_⟩
      simpa [D.sh, PyData.shown] using q
    | int i =>
      cases rp; obtain ⟨t, rfl⟩ := ru
      refine PySem.P.repr_of_int (by simpa [D.sh, PyData.showable] using c2) ⟨.str _, H, I.tok _, ⟨_, rfl⟩, ?_⟩
      simpa [D.sh, PyData.shown] using q
    | str x =>
      cases rp; obtain ⟨t, rfl⟩ := ru
      simp only [D.sh, PyData.shown] at c3 q
      exact PySem.P.repr_of_str ⟨.str _, H, I.tok _, ⟨_, rfl⟩, q⟩ c3
    | nd k l =>
      obtain ⟨a, xs, rfl, _, _⟩ := id rp.ndI
      obtain rfl : u = Value.ref a := ru
      obtain ⟨G, g1, g2⟩ := restrict s.heap fun b => !(b == sysModules) || (match s.heap.get? b with | some o => !(o.cls == .type "dict") | none => true)
      have gk : ∀ b o, s.heap.get? b = some o → ((b == sysModules) = false ∨ o.cls ≠ .type "dict") → G.get? b = some o := by
        intro b o e z
        rw [g1 b]
        · exact e
        · rw [e]
          rcases z with z | z
          · simp [z]
          · have z2 : (o.cls == Value.type "dict") = false := by simpa using z
            simp [z2]
      have gb : ∀ b o, G.get? b = some o → s.heap.get? b = some o := by
        intro b o e
        by_cases hp : (!(b == sysModules) || (match s.heap.get? b with | some o => !(o.cls == Value.type "dict") | none => true)) = true
        · rw [← g1 b hp]; exact e
        · rw [g2 b (by simpa using hp)] at e; cases e
      obtain ⟨as, rd⟩ := Rp.reads (G := G) I sm gk (.nd k l) _ _ rp rfl c1
      refine PySem.WuRepr.call_repr (h₀ := G) (as := as) ?_ rd c2 c3 hg (by omega) gb fun h' u tk hk => ⟨.str _, H, I.kept (t' := tk) hk, ⟨_, rfl⟩, q⟩
      intro o e z
      have e' := gb _ _ e
      by_cases hp : (!(sysModules == sysModules) || (match s.heap.get? sysModules with | some o => !(o.cls == Value.type "dict") | none => true)) = true
      · rw [e'] at hp
        simp [z] at hp
      · rw [g2 _ (by simpa using hp)] at e; cases e
theorem ok_repr {K : PySem.W.Frag} : CallOk K ct (rRepr K ct) pRepr := by
  intro B H xs ds d Q s r e o
  unfold pRepr at e
  split at e
  · split at e
    · rename_i h
      obtain ⟨v, rfl, rv⟩ := r.one
      simp only [Bool.and_eq_true, decide_eq_true_eq] at h
      obtain ⟨⟨⟨h1, h2⟩, h3⟩, h4⟩ := h
      cases e
      exact ⟨v, _, B, rfl, s, rv, h1, h2, h3, h4, o.1 _ (.str _)⟩
    · cases e
  · cases e
theorem d_repr {a : Expr} {es : List Expr} {ms : M (List D)} {p pos : Pos} (hG : X.A.guards = some []) (hu : X.A.units + 64 < cLine) (hg : Gl X "repr") (hm : X.mg "repr" = none) (ha : Ad X ct W (a :: es) ms) (he : starEach (a :: es) X.env = (false, eval a X.env) :: starEach es X.env := by rfl)
    (hpl : (backTo pos (starEach es X.env)).any (·.1) = false := by rfl) : Ed X ct W (.Call (.Name "repr" p) (a :: es) [] pos) (mFn pRepr ms) :=
  d_callB (call_reprD hG hu) ok_repr hg hm (by decide +kernel) ha (by decide) (by decide) he hpl
end
end Wu

/-! try .. except X as e: caught = e. -/
namespace Wu
open PySem PySem.Spec PyProof.Rows L2

theorem exHO_ok {P : Program} {w : World} {H : Hp} {h : Heap} {a C : Addr} {d : Option Addr} {oe : Obj} {vs : Array Value} (e : h.get? a = some oe) (z : Zc (.ref C) d oe) (f : oe.data = .fields vs) : ObjOk P w H h a (exHO a C d) :=
  ⟨⟨oe, vs, e, z.1, z.2, f⟩, ⟨oe, e⟩, fun _ _ ⟨o, v, q, r⟩ k => ⟨o, v, k o q, r⟩⟩
/-- the test of a clause -/
def ClsT (X : Cx) (t : Expr) (mt : Value → Option Bool) : Prop :=
  ∀ {pins pn : List (Addr × Obj)} {σ : L2.St} {H : Hp} {s : Shared} {a : Addr} {cls : Value} {b : Bool} {Q : Bool → Shared → Prop} {E : Value → Shared → Prop}, Inv (X.suite a pn) pins σ H s → PySem.W.Looks (model X.prog X.w) s.heap (typeOf (.ref a)) cls → mt cls = some b →
    (∀ h', (∀ q o, s.heap.get? q = some o → h'.get? q = some o) → Q b { s with heap := h' }) →
    wpAny (model X.prog X.w) (X.A.mark (some (.ref a))) (eval t X.env) (fun c s1 => wpAny (model X.prog X.w) (X.A.mark (some (.ref a))) (excMatches (.ref a) c) Q E s1) E s
theorem names_ld {X : Cx} {x : Str} {c : Value} {np : Pos} (hc : Names X x c) {pins pn : List (Addr × Obj)} {σ : L2.St} {H : Hp} {s : Shared} {a : Addr} {Q : Value → Shared → Prop} {E : Value → Shared → Prop} (I : Inv (X.suite a pn) pins σ H s) (q : Q c s) :
    wpAny (model X.prog X.w) (X.A.mark (some (.ref a))) (eval (.Name x np) X.env) Q E s := by
  obtain ⟨hg, hd, hm | ⟨hm, hv, hn⟩⟩ := hc
  · exact ld_glob (X := X.suite a pn) I hg hm q hd
  · exact ld_blt (X := X.suite a pn) I hg hm hv q hn hd
theorem cls_one {X : Cx} {x : Str} {c : Value} {np : Pos} (hc : Names X x c) : ClsT X (.Name x np) (fun cls => PySem.W.exmOne X.K cls c) := by
  intro pins pn σ H s a cls b Q E I LT hx q
  exact names_ld hc I ((PySem.W.exm_one I.kIn LT hx).here (q s.heap fun _ _ z => z))
theorem cls_two {X : Cx} {x1 x2 : Str} {c1 c2 : Value} {p1 p2 tp : Pos} {kk : Nat} (n1 : Names X x1 c1) (n2 : Names X x2 c2) : ClsT X (.Tuple [.Name x1 p1, .Name x2 p2] kk tp) (fun cls => PySem.W.exmAny X.K cls [c1, c2]) := by
  intro pins pn σ H s a cls b Q E I LT hx q
  refine wpAny_Tuple (wpAny_items_cons (names_ld n1 I (wpAny_items_cons (names_ld n2 I (wpAny_items_nil ⟨by size_fits, ?_⟩)))))
  have kp : ∀ q o, s.heap.get? q = some o → (s.heap.push { cls := .type "tuple", data := .seq [c1, c2].toArray }).get? q = some o := fun _ _ z => Heap.get?_push_of_some _ z
  exact (PySem.W.exm_tup2 (I.kIn.keeps kp) (LT.keeps kp) (Heap.get?_push_size s.heap rfl) hx).here (q _ kp)
theorem flying_keeps {B h h' : Heap} {l : List Env} {a : Addr} {Z : Obj → Prop} (f : HandSPX.FlyingZ B l a Z h) (k : ∀ b o, h.get? b = some o → h'.get? b = some o) : HandSPX.FlyingZ B l a Z h' := by
  obtain ⟨k1, k2, k3, oe, vs, T, oT, ts, he, hz, hd, h1, hn, hne, hT, hdT, h3⟩ := f
  exact ⟨fun b o e => k b o (k1 b o e), k2, k3.of_keeps fun b o e _ => ⟨o, k b o e, rfl⟩, oe, vs, T, oT, ts, k _ _ he, hz, hd, h1, hn, hne, k _ _ hT, hdT, h3⟩
theorem up_keeps {h h' : Heap} (k : ∀ b o, h.get? b = some o → h'.get? b = some o) : h.UpToSlots h' := fun b o e _ => ⟨o.slots, k b o e⟩
section
variable {X : Cx} {pins : List (Addr × Obj)} {σ : L2.St} {H : Hp} {sI s' : Shared} {B : Heap} {a C : Addr} {d : Option Addr} {oe : Obj} {vs : Array Value}
/-- back on the ground, the exception tracked -/
theorem landed_t (I : Inv X pins σ H sI) (nb : ∀ b o, sI.heap.get? b = some o → b ∉ frs X.stack → B.get? b = some o) (st : B.StaysIn s'.heap) (up : sI.heap.UpToSlots s'.heap) (os : s'.os = sI.os) (ag : AllBare s'.gens)
    (nB : B.get? a = none) (nH : H a = none) (nf : a ∉ frs X.stack) (ha : s'.heap.get? a = some oe) (hz : Zc (.ref C) d oe) (hd : oe.data = .fields vs) : Inv X pins σ (upd H a (exHO a C d)) s' := by
  have nI : ∀ o, sI.heap.get? a ≠ some o := fun o e => by
    have := nb a o e nf
    rw [nB] at this; cases this
  have sl : ∀ b ∈ frs X.stack, ∀ o, sI.heap.get? b = some o → ∃ z, s'.heap.get? b = some { o with slots := z } := by
    intro b hb o e
    obtain ⟨_, o', e', hd'⟩ := I.stack.mem hb
    rw [e] at e'
    cases e'
    exact up b o e hd'
  have ground := I.inGround nb
  have hok : HOk X.prog X.w (upd H a (exHO a C d)) s'.heap := ground.laidN st nH (exHO_ok ha hz hd)
  have un : Un (frs X.stack) [] H (upd H a (exHO a C d)) sI.heap s'.heap := {
    keep := fun b o e _ hb _ => st b o (nb b o e hb)
    slot := fun b o e _ hb _ => sl b hb o e
    free := fun b o e n _ => by rw [upd_ne (fun z => nI o (by rw [← z]; exact e))]; exact n
    there := fun b o e _ => by
      by_cases hb : b ∈ frs X.stack
      · obtain ⟨z, q⟩ := sl b hb o e
        exact ⟨_, q⟩
      · exact ⟨o, st b o (nb b o e hb)⟩
    tups := fun b xs e => by rw [upd_ne (ne_of_none e nH)]; exact e
    frzs := fun b o u e => by rw [upd_ne (ne_of_none e nH)]; exact e
    tbls := fun b ps e => ⟨#[], by rw [upd_ne (ne_of_none e nH), e]; simp⟩ }
  exact I.call' (ch := []) os un hok ag (fun b z => nomatch z)
theorem to_suite (I : Inv X pins σ H s') (a : Addr) : Inv (X.suite a (X.pn ++ pins)) [] σ H s' :=
  ⟨I.ok.suite _ _, I.os, I.bare, I.base, I.loc, I.cell, I.free, I.freeC, fun p hp => I.pin p (by rw [List.append_nil] at hp; exact hp), I.hok, I.len⟩
theorem of_suite {pn' : List (Addr × Obj)} (I : Inv (X.suite a (X.pn ++ pins)) pn' σ H s') (ok : X.Ok) : Inv X pins σ H s' :=
  ⟨ok, I.os, I.bare, I.base, I.loc, I.cell, I.free, I.freeC, fun p hp => I.pin p (List.mem_append_left _ hp), I.hok, I.len⟩
end
/-- what such a clause wishes of an exception of the body -/
def wCatch (mt : Value → Option Bool) (i j : Nat) (Wout : WX) (D : Ends) : WX := fun cls d σ H =>
  ∃ b, mt cls = some b ∧ (b = true → ∃ C, cls = .ref C ∧ ∀ a, H a = none → D.nx (((σ.set i (some (.ref a))).set j (some (.ref a))).set i none) (upd H a (exHO a C d))) ∧ (b = false → Wout cls d σ H)
section
variable {X : Cx} {t : Expr} {mt : Value → Option Bool} {n m : Str} {i j : Nat} {body : List Stmt} {p1 p2 p3 pos pos' : Pos} {tb : WX → TS} {Wout : WX}
theorem ps_catch (hs : X.stack = X.env :: X.outer) (hf : X.env.frame = some X.env.locals) (hN : X.N.Nodup) (hi : X.N[i]? = some n) (hln : X.env.kindOf n = some .local) (hc : ClsT X t mt) (tk : Takes X Wout)
    (hb : ∀ (W : WX) (pn : List (Addr × Obj)) (xe : Value → Shared → Prop), Takes (X.tr pn xe) W → PassesOwn (model X.prog X.w) X.A X.env xe → PSs (X.tr pn xe) body (tb W))
    (hsu : ∀ (a : Addr) (pn : List (Addr × Obj)), PSs (X.suite a pn) [.Assign [.Name m p1] (.Name n p2) p3] (tAsg (tVar i) (gName j))) :
    PS X (.Try body [.ExceptHandler (some t) (some n) [.Assign [.Name m p1] (.Name n p2) p3] pos'] [] [] pos) (fun D σ H => tb (wCatch mt i j Wout D) D σ H) := by
  refine ⟨fun pins s σ H D I h => ?_⟩
  have ok := I.ok
  have hfr : X.A.frames = some (X.env :: X.outer) := ok.frames.trans (congrArg some hs)
  refine wpAny_Try_except ?_
  have run := (hb (wCatch mt i j Wout D) (X.pn ++ pins) (fun e s₁ => wpAny (model X.prog X.w) X.A (noteFrame e X.env) (fun _ s₂ => wpAny (model X.prog X.w) X.A (setFlight e none) (fun _ s₃ =>
    wpAny (model X.prog X.w) X.A (handleBy e X.env [.ExceptHandler (some t) (some n) [.Assign [.Name m p1] (.Name n p2) p3] pos']) (SP X pins D) X.xe s₃) X.xe s₂) X.xe s₁) ?take PassesOwn.looking).run [] s σ H D (I.toTry _) h
  case take =>
    rintro u s' ⟨a, B, sI, pins', σ', H', cls, d, rfl, J', nb, up, sky, na, os, ag, b, hb1, hyes, hno⟩
    have J : Inv X pins σ' H' sI := J'.ofTry ok
    have sky2 : Sky B (X.env :: X.outer) a (Zc cls d) X.env.locals s'.heap := hs ▸ sky
    refine Sky.land (Z := Zc cls d) Zc.steady hfr hf sky2 ?_
    intro h3 fl3 up3
    have J3 : Inv X pins σ' H' { s' with heap := h3 } := J.landed nb fl3.1 (up.trans up3) os ag
    obtain ⟨oe3, vs3, he3, hz3, hd3⟩ := fl3.there
    have nfr : a ∉ frs X.stack := by
      rw [hs]
      intro hm
      obtain ⟨_, o', e', hnf⟩ := fl3.2.2.1.mem hm
      rw [he3] at e'
      cases e'
      exact hnf _ hd3
    refine wpAny_handleBy_cons (codeAny_handlers_test ?_) (by intro q; cases q)
    have LT : PySem.W.Looks (model X.prog X.w) h3 (typeOf (.ref a)) cls := by
      intro A Q E s k q
      refine wpAny_typeOf_ref (k _ _ he3) ?_
      rw [hz3.1]
      exact q
    refine hc (to_suite J3 a) LT hb1 ?_
    intro h5 k5
    have fl5 := flying_keeps fl3 k5
    have up5 := (up.trans up3).trans (up_keeps k5)
    cases b with
    | true =>
      obtain ⟨C, ec, hy⟩ := hyes rfl
      subst ec
      refine codeAny_handlers_suite_as (HandSPX.lands_againZ fl5 ?_)
      intro h4 fl4 up4
      obtain ⟨oe4, vs4, he4, hz4, hd4⟩ := fl4.there
      have J4 : Inv X pins σ' (upd H' a (exHO a C d)) { s' with heap := h4 } := landed_t J nb fl4.1 (up5.trans up4) os ag fl4.2.1 na nfr he4 hz4 hd4
      refine store_ok (X := X.suite a (X.pn ++ pins)) (v := .ref a) (to_suite J4 a) hN hi (.inl hln) rfl ?_ (.inr hln)
      intro s5 S5
      have lenσ : i < σ'.length := by rw [J.len]; exact (List.getElem?_eq_some_iff.mp hi).1
      refine wpAny_mono ((hsu a (X.pn ++ pins)).run [] s5 _ _ { nx := fun σ6 H6 => D.nx (σ6.set i none) H6, rt := D.rt, bk := fun σ6 H6 => D.bk (σ6.set i none) H6, ct := fun σ6 H6 => D.ct (σ6.set i none) H6 } S5 ⟨.ref a, List.getElem?_set_self lenσ, hy a na⟩) ?_ (fun _ _ z => z.elim)
      intro f s6 hsp
      have fin : ∀ {σ6 : L2.St} {H6 : Hp} {Q : Shared → Prop}, Inv (X.suite a (X.pn ++ pins)) [] σ6 H6 s6 → (∀ s7, Inv X pins (σ6.set i none) H6 s7 → Q s7) →
          wpAny (model X.prog X.w) X.A (do bindName X.env n .none; unbindBehindTheSuite X.env n pos') (fun _ s7 => Q s7) X.xe s6 := fun {σ6 H6 Q} S6 hq => gone_ok (of_suite S6 ok) hN hi hln hq
      match f, hsp with
      | .next, ⟨σ6, H6, S6, q6⟩ => exact fin S6 fun s7 J7 => ⟨_, _, J7, q6⟩
      | .brk, ⟨σ6, H6, S6, q6⟩ => exact fin S6 fun s7 J7 => ⟨_, _, J7, q6⟩
      | .cont, ⟨σ6, H6, S6, q6⟩ => exact fin S6 fun s7 J7 => ⟨_, _, J7, q6⟩
      | .ret u, ⟨v6, σ6, H6, S6, r6, q6⟩ => exact fin S6 fun s7 J7 => ⟨_, _, _, J7, r6, q6⟩
    | false =>
      show wpAny _ X.A (handleBy (.ref a) X.env []) _ _ _
      refine wpAny_handleBy_nil ?_
      obtain ⟨k1, k2, k3, oe, vs, T, oT, ts, he, hz, hd, h1, hr⟩ := id fl5
      unfold PySem.passOn
      refine wpAny_bind (wpAny_field he hd h1 ?_)
      have nn : ¬ ((Value.ref T == Value.none) = true) := by simp
      rw [if_neg nn]
      have out : wpAny (model X.prog X.w) X.A (setFlight (.ref a) X.env.frame) (fun _ s4 => wpAny (model X.prog X.w) X.A (throw (.ref a) : Sem Flow) (SP X pins D) X.xe s4) X.xe { s' with heap := h5 } := by
        rw [hf]
        refine HandSPX.setFlight_upZ fl5 ?_
        intro h4 hh4 up4
        refine wpAny_throw (tk _ _ ?_)
        exact ⟨a, B, sI, pins, σ', H', cls, d, rfl, J, nb, up5.trans up4, .inr (.inr (by rw [hs]; exact hh4)), na, os, ag, hno rfl⟩
      first
        | exact wpAny_bind (wpAny_pure (wpAny_bind out))
        | exact wpAny_bind out
  refine wpAny_mono run ?_ (fun e s1 he => he)
  intro f s1 hsp
  match f, hsp with
  | .next, ⟨σ', H', J', q⟩ => exact wpAny_execs_nil ⟨σ', H', J'.ofTry ok, q⟩
  | .brk, ⟨σ', H', J', q⟩ => exact ⟨σ', H', J'.ofTry ok, q⟩
  | .cont, ⟨σ', H', J', q⟩ => exact ⟨σ', H', J'.ofTry ok, q⟩
  | .ret u, ⟨v, σ', H', J', r, q⟩ => exact ⟨v, σ', H', J'.ofTry ok, r, q⟩
end
end Wu

/-! try as a meaning; caught exceptions asked: isinstance, fields. -/
namespace Wu
open PySem PySem.Spec PyProof.Rows L2

section
variable {K : PySem.W.Frag} {ct : Ct} {F : Fm} {B H : Hp} {σ : L2.St} {E : Env'} {fps : Nat → List Addr}
/-- a slot that says nothing may be changed -/
theorem Rl.sig {i : Nat} {o : Option V} (r : Rl K ct F B H σ E fps) (h : ∀ s, E[i]? = some s → s = .und) : Rl K ct F B H (σ.set i o) E fps := by
  refine ⟨r.gs, r.bs, r.b0, r.nb, r.dm, by simpa using r.ln, fun j s e => ?_, r.e0, r.dj, r.fr⟩
  obtain ⟨v, h1, h2⟩ := r.en j s e
  by_cases hj : j = i
  · subst hj
    have hs := h s e
    subst hs
    exact ⟨o, List.getElem?_set_self (List.getElem?_eq_some_iff.mp h1).1, h2⟩
  · exact ⟨v, by rw [List.getElem?_set_ne (Ne.symm hj)]; exact h1, h2⟩
end
def Exn.dat (x : Exn) : D := .nd (.exn x.cls x.fs) x.vs
/-- try: body / except T as e: caught = e -/
def sTry (ck : Str → Option Bool) (i j : Nat) (bm : SM) : SM := fun E => match bm E with
  | .ex x E' => (match ck x.cls with
    | some true => .ok .nx ((E'.set j (.val x.dat)).set i .und)
    | some false => .ex x E'
    | none => .bad)
  | r => r
section
variable {X : Cx} {ct : Ct} {W : WX}
theorem s_try {t : Expr} {mt : Value → Option Bool} {ck : Str → Option Bool} {n m : Str} {i j : Nat} {body : List Stmt} {p1 p2 p3 pos pos' : Pos} {bm : SM} (hs : X.stack = X.env :: X.outer) (hf : X.env.frame = some X.env.locals) (hN : X.N.Nodup) (hi : X.N[i]? = some n) (hj : X.N[j]? = some m) (hij : i ≠ j) (hln : X.env.kindOf n = some .local) (hc : ClsT X t mt) (tk : Takes X W)
    (hck : ∀ c b, ck c = some b → mt (.ref (ct c)) = some b)
    (hb : ∀ (W : WX) (pn : List (Addr × Obj)) (xe : Value → Shared → Prop), Takes (X.tr pn xe) W → PassesOwn (model X.prog X.w) X.A X.env xe → Bd (X.tr pn xe) ct W body bm)
    (hsu : ∀ (a : Addr) (pn : List (Addr × Obj)), PSs (X.suite a pn) [.Assign [.Name m p1] (.Name n p2) p3] (tAsg (tVar i) (gName j))) :
    Sd X ct W (.Try body [.ExceptHandler (some t) (some n) [.Assign [.Name m p1] (.Name n p2) p3] pos'] [] [] pos) (sTry ck i j bm) := by
  refine PS.imp (ps_catch (tb := fun W => tMS X.K ct W bm) hs hf hN hi hln hc tk hb hsu) fun N σ H h => ?_
  obtain ⟨F, B, E, fps, rl, h⟩ := h
  have h' : PstS X.K ct W F B (sTry ck i j bm E) N := h
  unfold sTry at h'
  refine ⟨F, B, E, fps, rl, ?_⟩
  cases eb : bm E with
  | bad => rw [eb] at h'; exact h'
  | ok f E' =>
    rw [eb] at h'
    cases f with
    | nx => exact h'
    | rt d => exact h'
    | bk => exact h'
    | ct => exact h'
  | ex x E' =>
    rw [eb] at h'
    dsimp only at h'
    intro c dx σ' B' H' fps' r' s' xr
    obtain ⟨rfl, hl, hx⟩ := xr
    cases ec : ck x.cls with
    | none => rw [ec] at h'; exact h'.elim
    | some b =>
      rw [ec] at h'
      refine ⟨b, hck _ _ ec, fun eb => ⟨ct x.cls, rfl, fun a na => ?_⟩, fun eb => ?_⟩
      · subst eb
        obtain ⟨r1, s1⟩ := r'.laid (o := exHO a (ct x.cls) dx) na
        have rp : Rp X.K ct (upd B' a (exHO a (ct x.cls) dx)) (.ref a) x.dat := by
          rcases hx with ⟨hfs, hdx⟩ | ⟨d, xs, hdx, hd, rx⟩
          · have hv : x.vs = [] := List.eq_nil_of_length_eq_zero (by rw [← hl, hfs]; rfl)
            have : Rp X.K ct (upd B' a (exHO a (ct x.cls) dx)) (.ref a) (.nd (.exn x.cls x.fs) x.vs) := by
              rw [hv]
              exact .nd (xs := []) ⟨by rw [hfs]; rfl, .inr ⟨rfl, by rw [upd_same, hdx]⟩⟩ .nil
            exact this
          · exact .nd (xs := xs) ⟨by rw [hl, rx.len], .inl ⟨d, by rw [upd_same, hdx], rd_mono s1 hd⟩⟩ (rx.mono s1)
        have r2 := ((r1.setV (i := i) rp).setV (i := j) rp).unset i
        have e1 : (((E'.set i (.val x.dat)).set j (.val x.dat)).set i .und) = (E'.set j (.val x.dat)).set i .und := by
          rw [List.set_comm _ _ hij, List.set_set]
        rw [e1] at r2
        have r3 := r2.sig (i := i) (o := none) (fun s e => by
          by_cases hi : i < ((E'.set j (.val x.dat))).length
          · rw [List.getElem?_set_self hi] at e; exact (Option.some.inj e).symm
          · rw [List.getElem?_eq_none (by simpa using hi)] at e; cases e)
        exact h' _ _ _ _ r3 (s'.trans s1)
      · subst eb
        exact h' _ dx σ' B' H' fps' r' s' ⟨rfl, hl, hx⟩

/-! ### isinstance, fields -/
theorem inst_of {K : PySem.W.Frag} {pins : List (Addr × Obj)} {σ : L2.St} {B H : Hp} {s : Shared} {a : Addr} {c : Str} {fs : List Str} {xs : List V} (I : Inv X pins σ H s) (sm : Same B H) (h : Sq K ct B a (.exn c fs) xs) :
    ∃ ox od, PySem.W.InstAt s.heap a ox (ct c) od ∧ (xs = [] ∨ ∃ (o : Obj) (mA : Str → Option Value), od = some o ∧ (∀ f, PySem.W.lookIn f o = some (mA f)) ∧ ∀ f, RelO ((fs.zip xs).lookup f) (mA f)) := by
  obtain ⟨hl, ⟨dx, h1, h2⟩ | ⟨h1, h2⟩⟩ := h
  · have e1 : ObjOk X.prog X.w H s.heap a (exHO a (ct c) (some dx)) := I.hok a _ (sm _ _ h1)
    obtain ⟨⟨o, vs, g1, g2, g3, g4⟩, _, _⟩ := e1
    have e2 : ObjOk X.prog X.w H s.heap dx (.xd (fs.zip xs)) := rd_of I.hok (rd_mono sm h2)
    obtain ⟨mA, hns, hr⟩ := e2
    obtain ⟨od, ho, hlk⟩ := lookIn_ns hns
    refine ⟨o, some od, ⟨g1, g2, by unfold PySem.W.notCls; rw [g4] <;> rfl, by rw [g3]; exact ho⟩, .inr ⟨od, mA, rfl, fun f => hlk f, hr⟩⟩
  · have e1 : ObjOk X.prog X.w H s.heap a (exHO a (ct c) none) := I.hok a _ (sm _ _ h2)
    obtain ⟨⟨o, vs, g1, g2, g3, g4⟩, _, _⟩ := e1
    exact ⟨o, none, ⟨g1, g2, by unfold PySem.W.notCls; rw [g4] <;> rfl, by rw [g3]; trivial⟩, .inl h1⟩
def rIsx (K : PySem.W.Frag) (ct : Ct) : List V → Hp → VK → Prop := fun xs H Q => ∃ (a : Addr) (k : V) (cv : Value) (b : Bool) (B : Hp) (c : Str) (fs : List Str) (ys : List V), xs = [.ref a, k] ∧ ClsV k cv ∧ Same B H ∧ Sq K ct B a (.exn c fs) ys ∧ ExcC K (ct c) ∧ PySem.W.kitOne K (.ref (ct c)) cv = some b ∧ Q (.bl b) H
theorem call_isx : CallR X (.builtin "isinstance") (rIsx X.K ct) := by
  intro pins s σ H xs us Q I r h
  obtain ⟨a, k, cv, b, B, c, fs, ys, rfl, hk, sm, sq, C, e, q⟩ := h
  cases r with
  | cons rx rr =>
    cases rr with
    | cons rt rr =>
      cases rr
      cases rx
      have ec := hk.eq rt
      subst ec
      obtain ⟨ox, od, J, _⟩ := inst_of I sm sq
      have hcl : (PySem.W.clsIn X.K (ct c)).isSome = true := by
        obtain ⟨cd, hc, _⟩ := PySem.W.any_some C.hd
        rw [hc]; rfl
      exact PySem.W.kia_one (PySem.W.kitx_exc hcl C.hg C.hk C.hs C.ha C.hn C.ht C.hm) I.kIn J e (fun z => nomatch z) fun tk => ⟨.bl b, H, I.kept (t' := tk) fun _ _ z => z, rfl, q⟩
def mIsx (f : Str → Option Bool) (m : M D) : M D := m.bnd fun d => .opt (match d with
  | .nd (.exn c _) _ => (f c).map D.bl
  | _ => none)
theorem isx_imp {a : Expr} {k : V} {cv : Value} {f : Str → Option Bool} {ma : M D} (hk : ClsV k cv) (hf : ∀ c b, f c = some b → ExcC X.K (ct c) ∧ PySem.W.kitOne X.K (.ref (ct c)) cv = some b) :
    ∀ σ H Q, tM X.K ct W (mIsx f ma) σ H Q → tCB (rIsx X.K ct) (tCons (tM X.K ct W ma) (tCons (tC k) tNil)) σ H Q := by
  intro σ H Q h
  obtain ⟨F, B, E, fps, rl, h⟩ := h
  refine ⟨F, B, E, fps, rl, (Pst.bind h).imp ?_⟩
  rintro v H1 ⟨d, E1, B1, fps1, rl1, s1, r1, h1⟩
  obtain ⟨z, e, h2⟩ := opt_of h1
  split at e
  · rename_i c fs l
    obtain ⟨b, e1, e2⟩ := Option.map_eq_some_iff.mp e
    subst e2
    obtain ⟨a, xs, rfl, hx, rx⟩ := r1.ndI
    obtain ⟨C, hkit⟩ := hf c b e1
    exact ⟨a, k, cv, b, B1, c, fs, xs, rfl, hk, rl1.bs, hx, C, hkit, (out_of rl1 h2).1 _ (.bl _)⟩
  · cases e
/-- isinstance(e, C), C a class of the program -/
theorem d_isx {a : Expr} {x : Str} {C : Addr} {p p2 pos : Pos} {f : Str → Option Bool} {ma : M D} (hg : Gl X "isinstance") (hm : X.mg "isinstance" = none) (hgT : Gl X x) (hmT : X.mg x = some (.ref C)) (ha : Ed X ct W a ma)
    (hf : ∀ c b, f c = some b → ExcC X.K (ct c) ∧ PySem.W.kitOne X.K (.ref (ct c)) (.ref C) = some b) (hdb : (x == ("__debug__" : Str)) = false := by decide)
    (h1 : starEach [Expr.Name x p2] X.env = (false, eval (Expr.Name x p2) X.env) :: starEach [] X.env := by rfl) (he : starEach [a, Expr.Name x p2] X.env = (false, eval a X.env) :: starEach [Expr.Name x p2] X.env := by rfl)
    (hpl : (backTo pos (starEach [Expr.Name x p2] X.env)).any (·.1) = false := by rfl) : Ed X ct W (.Call (.Name "isinstance" p) [a, .Name x p2] [] pos) (mIsx f ma) :=
  PE.imp (pe_callB call_isx hg hm (by decide +kernel) (pa_cons ha (pa_cons (pe_glob (v := .ref C) hgT hmT rfl hdb) pa_nil h1) he) (by decide) (by decide) he hpl) (isx_imp (a := a) (.own C) hf)
/-- isinstance(e, T), T a built-in class -/
theorem d_isxT {a : Expr} {x : Str} {T : String} {p p2 pos : Pos} {f : Str → Option Bool} {ma : M D} (hg : Gl X "isinstance") (hm : X.mg "isinstance" = none) (hgT : Gl X x) (hmT : X.mg x = none) (hvT : bootBuiltins x = some (.type T)) (ha : Ed X ct W a ma)
    (hf : ∀ c b, f c = some b → ExcC X.K (ct c) ∧ PySem.W.kitOne X.K (.ref (ct c)) (.type T) = some b) (hn : x ≠ "__name__" := by decide) (hdb : (x == ("__debug__" : Str)) = false := by decide)
    (h1 : starEach [Expr.Name x p2] X.env = (false, eval (Expr.Name x p2) X.env) :: starEach [] X.env := by rfl) (he : starEach [a, Expr.Name x p2] X.env = (false, eval a X.env) :: starEach [Expr.Name x p2] X.env := by rfl)
    (hpl : (backTo pos (starEach [Expr.Name x p2] X.env)).any (·.1) = false := by rfl) : Ed X ct W (.Call (.Name "isinstance" p) [a, .Name x p2] [] pos) (mIsx f ma) :=
  PE.imp (pe_callB call_isx hg hm (by decide +kernel) (pa_cons ha (pa_cons (pe_bltn (v := .ty T) hgT hmT hvT rfl hn hdb) pa_nil h1) he) (by decide) (by decide) he hpl) (isx_imp (a := a) (.ty T) hf)
/-- e.f of a caught exception -/
def mXf (cs : Str → Bool) (f : Str) (m : M D) : M D := m.bnd fun d => .opt (match d with
  | .nd (.exn c fs) l => if cs c then fldZ fs l f else none
  | _ => none)
theorem d_xf {e : Expr} {f : Str} {pos : Pos} {m : M D} {cs : Str → Bool} (hC : ∀ c, cs c = true → XfC X.K (ct c) ∧ PySem.W.findIn X.K (.ref (ct c)) f = some none) (he : Ed X ct W e m) (hb : attributeBase e f X.env (eval e X.env) = eval e X.env := by rfl) :
    Ed X ct W (.Attribute e f pos) (mXf cs f m) := by
  refine ⟨fun pins s σ H Q I h => ?_⟩
  obtain ⟨F, B, E, fps, rl, h⟩ := h
  refine attr_of hb (thn (he.run pins s σ H _ I ⟨F, B, E, fps, rl, Pst.bind h⟩) ?_)
  rintro u s1 ⟨x, H1, I1, rx, d, E1, B1, fps1, rl1, sm1, r1, h1⟩
  obtain ⟨z, e1, h2⟩ := opt_of h1
  split at e1
  · rename_i c fs l
    split at e1
    · rename_i hc
      obtain ⟨T, hno⟩ := hC c hc
      obtain ⟨a, xs, rfl, hx, rxs⟩ := r1.ndI
      obtain rfl : u = Value.ref a := rx
      obtain ⟨v, e2, rv⟩ := RpL.fldZ rxs e1
      obtain ⟨ox, od, J, hn | ⟨o, mA, rfl, hlk, hr⟩⟩ := inst_of I1 rl1.bs hx
      · subst hn
        simp at e2
      · obtain ⟨u', hu, ru⟩ := RelO.some_of (v := v) (o := mA f) (by rw [← e2]; exact hr f)
        have el : PySem.W.lookIn f o = some (some u') := by rw [← hu]; exact hlk f
        exact HandSPX.exc_get I1.kIn J T.ga T.gg T.exC (PySem.W.findObj_own T.hdC hno rfl el) (handed_of ru) ⟨v, H1, I1.tok _, ru, (out_of rl1 h2).1 v rv⟩
    · cases e1
  · cases e1
end
end Wu

/-! Own exception classes over any plain built-in exception: made, told, raised. -/
namespace PySem
namespace WuX
open PySem.W PySem.Calls PyProof.Rows PySem.HandSPX
/-- classes of the program, then the built-in ones -/
def refsT (tl : List Value) : List Value → Bool
  | .ref _ :: r => refsT tl r
  | l => l == tl
theorem refsT_cases (tl : List Value) : ∀ l : List Value, refsT tl l = true → (∃ c r, l = .ref c :: r ∧ refsT tl r = true) ∨ l = tl := by
  intro l e
  cases l with
  | nil => exact .inr (beq_iff_eq.mp e)
  | cons a r =>
    cases a with
    | ref c => exact .inl ⟨c, r, rfl, e⟩
    | _ => exact .inr (beq_iff_eq.mp e)
section
variable {tl : List Value}
theorem refsT_pass (self : Value) (hp : refuseLoop self "__setattr__" tl = pure ()) : ∀ l : List Value, refsT tl l = true → refuseLoop self "__setattr__" l = pure ()
  | [], e => by rcases refsT_cases tl [] e with ⟨c, r, q, _⟩ | q; cases q; rw [q]; exact hp
  | a :: r, e => by
    rcases refsT_cases tl (a :: r) e with ⟨c, r', q, h⟩ | q
    · injection q with q1 q2
      rw [q1, refuseLoop_ref]
      exact refsT_pass self hp r (by rw [q2]; exact h)
    · rw [q]; exact hp
theorem refsT_has (X : String) : ∀ l : List Value, refsT tl l = true → l.contains (.type X) = tl.contains (.type X)
  | [], e => by rcases refsT_cases tl [] e with ⟨c, r, q, _⟩ | q; cases q; rw [q]
  | a :: r, e => by
    rcases refsT_cases tl (a :: r) e with ⟨c, r', q, h⟩ | q
    · injection q with q1 q2
      rw [q1, List.contains_cons, refsT_has X r (by rw [q2]; exact h)]
      rfl
    · rw [q]
theorem refsT_ne (ht : tl.contains (.type "object") = true) {l : List Value} (e : refsT tl l = true) : l.isEmpty = false := by
  have := refsT_has "object" l e
  rw [ht] at this
  cases l with
  | nil => cases this
  | cons _ _ => rfl
end
section
open Builtin Builtin.ObjectAttr
variable {prog : Program} {w : World} {A : Around} {R : Result → Shared → Prop} {hp : Heap} {g : Array GenState} {d : Drawn} {t : Nat} {os : OsState} {tl : List Value}
/-- the first field of an exception -/
theorem set_first {K : W.Frag} {name : Str} {tk : Tok} {v : Value} {x C : Addr} {fv : Array Value} {cd : ClassData} (tp : ∀ self, refuseLoop self "__setattr__" tl = pure ()) (to : tl.contains (.type "object") = true)
    (X : K.In hp) (hx : hp.get? x = some { cls := .ref C, data := .fields fv }) (hcd : W.clsIn K C = some cd) (hm : refsT tl cd.mro = true) (hh : cd.hasDict = true) (ha : W.findIn K (.ref C) name = some none)
    (hq : ∀ h' tk' dx, (∀ b o, b ≠ x → hp.get? b = some o → h'.get? b = some o) → hp.objs.size ≤ dx → dx ≠ x → h'.get? x = some { cls := .ref C, dict := some dx, data := .fields fv } →
      h'.Ns1 dx (fun y => if y = name then some v else none) → R (.ok (.ret .none)) ⟨h', g, d, tk', os⟩) :
    codeAny (model prog w) A (.call (.builtin "object.__setattr__") ⟨[.ref x, .str name tk, v], []⟩) R ⟨hp, g, d, t, os⟩ := by
  have inst : W.InstAt hp x { cls := .ref C, data := .fields fv } C none := ⟨hx, rfl, rfl, trivial⟩
  have nem := refsT_ne to hm
  have hob : cd.mro.contains (.type "object") = true := (refsT_has "object" _ hm).trans to
  have hxs : x ≠ hp.objs.size := Nat.ne_of_lt (Heap.lt_size hx)
  have isObj : W.Looks (model prog w) hp (isInstance (.ref x) (.type "object")) true := by
    refine inst.type.andThen (W.looks_mroIn X ?_)
    unfold W.mroIn
    rw [hcd, Option.bind_some, if_neg (by rw [nem]; decide), hob]
  have S := F.store_object
  refine codeAny_call_builtin S.slot.plain S.entry ?_
  refine @W.check_slot (model prog w) _ _ ⟨hp, g, d, t, os⟩ "object.__setattr__" "object" "__setattr__" (.ref x) [.str name tk, v] [] _ S.kind S.split isObj ?_ ?_
  · exact S.args (.ref x) (.str name tk) v
  have lm : W.Looks (model prog w) hp (mroOf (.ref C)) cd.mro := (W.looks_clsIn X hcd).andThen .now
  have ls : W.Looks (model prog w) hp (storeTaker? none) none := .now
  have lc : W.Looks (model prog w) hp (classData C) cd := W.looks_clsIn X hcd
  rw [W.osa_eq, refuse_eq]
  refine wpAny_bind (wpAny_bind (inst.type.at (wpAny_bind (lm.at ?_))))
  rw [refsT_pass _ (tp _) _ hm]
  refine wpAny_pure (wpAny_bind (inst.type.at (wpAny_bind ((W.looks_findIn X ha).at (wpAny_bind (ls.at ?_))))))
  show wpAny _ _ (storeInOwnDict (.ref x) (.ref C) (.str name tk) name v false) _ _ _
  obtain ⟨nm, bs, mro, ns, qn, hd, sn, sb, ab, col, del⟩ := cd
  dsimp only at hh
  subst hh
  unfold storeInOwnDict ownDictForStores
  repeat (first | with_reducible refine store_in_new ?_ ?_ | with_reducible refine wpAny_loadPart_at hx ?_ | with_reducible refine lc.at ?_ | wp_step)
  · exact ⟨_, #[], _, (Heap.get?_update_ne _ _ _ _ hxs.symm).trans (Heap.get?_push_at rfl rfl), rfl, fun e he => absurd he (by simp), fun _ => rfl⟩
  · intro h' tk' hn' hs
    have hx1 : (hp.push { cls := .type "dict", data := .dict #[] }).get? x = some { cls := .ref C, data := .fields fv } := Heap.get?_push_of_some _ hx
    refine hq h' tk' hp.objs.size ?_ (Nat.le_refl _) hxs.symm ?_ hn'
    · intro b o hb ho
      refine (hs.2 b (Nat.ne_of_lt (Heap.lt_size ho))).trans ?_
      exact (Heap.get?_update_ne _ _ _ _ hb).trans (Heap.get?_push_of_some _ ho)
    · refine (hs.2 x hxs).trans ?_
      exact Heap.get?_update_self _ hx1 rfl
end
end WuX
end PySem

/-! type.__call__ on an own exception class: the built-in class that makes it may stand anywhere among its bases; so may the one whose __init__ is called. -/
namespace PySem.WuX
open PySem PySem.W PySem.Calls PyProof.Rows PySem.HandSPX
/-- what is told of a built-in exception's __init__ -/
structure InitF (B initId : String) : Prop where
  slot : Slot B "__init__" initId
  entry : entryFor table initId = some Builtin.«BaseException.__init__»
  split : splitId initId = some (B, "__init__")
  kind : builtinKind initId = some .slot
  row : Manifest.signature? initId = some ⟨.positional, "*", B, .self, [⟨"args", .varPos, false⟩]⟩
  star : (B != "*") = true
theorem initF_of {B newId initId : String} {bm : List Value} (F : ExcBaseFacts B newId initId bm) : InitF B initId := ⟨F.init, F.initEntry, F.initSplit, F.initKind, F.initRow, F.noStar⟩
theorem init_KE : InitF "KeyError" "KeyError.__init__" := by
  constructor
  case slot =>
    refine .of (owner := "KeyError") (n := "__init__") ?_ (by decide +kernel) (by decide +kernel) (by decide +kernel) ?_ ?_
    · rw [typeLookup_type, builtinLookup_eq_fast]; kernel_rfl
    · first | exact .inl (by decide +kernel) | exact .inr (by decide +kernel)
    · rw [isSubtype_type]; kernel_rfl
  case entry => exact entryFor_alias (id' := "BaseException.__init__") (by rw [fastTable_eq_tree]; kernel_rfl) (by first | rfl | decide +kernel) (by decide +kernel) (by rw [fastTable_eq_tree]; kernel_rfl)
  case split => kernel_rfl
  case kind => kernel_rfl
  case row => kernel_rfl
  case star => decide +kernel
abbrev keTail : List Value := [.type "KeyError", .type "LookupError", .type "Exception", .type "BaseException", .type "object"]
theorem pass_KE (self : Value) : refuseLoop self "__setattr__" keTail = pure () := by kernel_rfl
theorem pass_VE (self : Value) : refuseLoop self "__setattr__" veTail = pure () := F.store_ValueError.passes self
section
variable {M : Model} {A : Around} {E : Value → Shared → Prop} {h : Heap} {g : Array GenState} {d : Drawn} {t : Nat} {os : OsState}
variable {nm q : Str} {C N : Addr} {bs bm bmB : List Value} {hdct : Bool} {sn : List Str} {sub : List Value} {ab : Bool} {col : Option Bool} {dd : Option Addr} {k0 k1 k2 k3 k5 : Option Value} {B newId initId : String}
/-- the bases hold B, and neither AttributeError nor NameError -/
structure Hold (B : String) (bm : List Value) : Prop where
  b : bm.contains (.type B) = true
  a : bm.contains (.type "AttributeError") = false
  n : bm.contains (.type "NameError") = false
theorem chk_new (F : ExcBaseFacts B newId initId bmB) (hT : Hold B bm) {rest : List Value} {Q : Unit → Shared → Prop} (hC : h.get? C = some (excClassObj nm q C N bs bm hdct sn sub ab col dd k0 k1 k2 k3 k5 newId))
    (hq : Q () ⟨h, g, d, t, os⟩) : wpAny M A (checkBuiltinCall newId ⟨.ref C :: rest, []⟩) Q E ⟨h, g, d, t, os⟩ := by
  have holds : (Value.ref C :: bm).contains (.type B) = true := by rw [List.contains_cons, hT.b, Bool.or_true]
  have hst := F.noStar
  simp only [checkBuiltinCall, F.newKind, F.newSplit, F.newRow]
  repeat (first | refine wpAny_loadPart_at hC ?_ | (refine wpAny_isSubtype_exc hC ?_; rw [holds]) | refine wpAny_staticBase_exc hC ?_ | refine wpAny_madeBy_exc hC ?_ | simp only [bne_self_eq_false, Bool.false_eq_true, if_false] | wp_step)
  exact hq
theorem chk_init (I : InitF B initId) (hb : bm.contains (.type B) = true) {e : Addr} {oe : Obj} {rest : List Value} {Q : Unit → Shared → Prop} (hC : h.get? C = some (excClassObj nm q C N bs bm hdct sn sub ab col dd k0 k1 k2 k3 k5 newId))
    (he : h.get? e = some oe) (hcls : oe.cls = .ref C) (hq : Q () ⟨h, g, d, t, os⟩) : wpAny M A (checkBuiltinCall initId ⟨.ref e :: rest, []⟩) Q E ⟨h, g, d, t, os⟩ := by
  have holds : (Value.ref C :: bm).contains (.type B) = true := by rw [List.contains_cons, hb, Bool.or_true]
  have hst := I.star
  simp only [checkBuiltinCall, I.kind, I.split, I.row]
  repeat (first | (with_reducible refine wpAny_loadPart_at he ?_; rw [hcls]) | with_reducible refine wpAny_loadPart_at hC ?_ | (with_reducible refine wpAny_isSubtype_exc hC ?_; rw [holds]) | wp_step)
  refine wpAny_onRaise ?_
  have star : ∀ (a b : String) (n : Nat), Bind.check ⟨.positional, "*", B, .self, [⟨"args", .varPos, false⟩]⟩ a b n (List.map (fun x => x.fst) ({ pos := Value.ref e :: rest } : Args).kw) = pure () := fun a b n => check_star_args _ _ _ _ _ _
  rw [star]
  exact wpAny_pure hq
end
section
variable {prog : Program} {w : World} {A : Around} {E : Value → Shared → Prop} {R : Result → Shared → Prop} {h : Heap} {g : Array GenState} {d : Drawn} {t : Nat} {os : OsState}
variable {nm q : Str} {C N : Addr} {bs bm bmB : List Value} {hdct : Bool} {sn : List Str} {sub : List Value} {ab : Bool} {col : Option Bool} {dd : Option Addr} {k0 k1 k2 k3 k5 : Option Value} {B B2 newId initId id2 : String}
theorem new_x (F : ExcBaseFacts B newId initId bmB) (hT : Hold B bm) {rest : List Value} (hC : h.get? C = some (excClassObj nm q C N bs bm hdct sn sub ab col dd k0 k1 k2 k3 k5 newId))
    (hq : R (.ok (.ret (.ref (h.objs.size + 1)))) ⟨(h.push (W.kdv_tup rest)).push (excO C h.objs.size), g, d, t, os⟩) (hrest : rest.length ≤ sizeLine) :
    codeAny (model prog w) A (.builtin newId ⟨.ref C :: rest, []⟩) R ⟨h, g, d, t, os⟩ := by
  have hends := F.ends
  have c1 : (Value.ref C :: bm).contains (.type B) = true := by rw [List.contains_cons, hT.b, Bool.or_true]
  have c2 : (Value.ref C :: bm).contains (.type "AttributeError") = false := by rw [List.contains_cons, hT.a]; rfl
  have c3 : (Value.ref C :: bm).contains (.type "NameError") = false := by rw [List.contains_cons, hT.n]; rfl
  refine codeAny_builtinAt F.entry ?_
  unfold Builtin.«BaseException.__new__»
  refine wpAt_bind ?_
  show wpAt _ _ _ (stack >>= _) _ _ _
  refine wpAt_bind (wpAt_stack fun p below => wpAt_of_wpAny ?_)
  wp_walk
  refine wpAt_of_wpAny ?_
  rw [F.owner]
  repeat (first | with_reducible refine wpAny_madeHere_exc F.canon hC ?_ | with_reducible refine wpAny_loadPart_at hC ?_ | (with_reducible refine wpAny_isSubtype_exc hC ?_; first | rw [c1] | rw [c2] | rw [c3]) | wp_step)
  show R _ _
  rw [Heap.size_push]
  exact hq
theorem tcall_x (F : ExcBaseFacts B newId initId bmB) (hT : Hold B bm) {rest : List Value} {fI : Addr} {Q : Fin → Shared → Prop} (hC : h.get? C = some (excClassObj nm q C N bs bm hdct sn sub ab col dd k0 k1 k2 k3 k5 newId))
    (hi : W.Looks (model prog w) h (typeLookup (.ref C) "__init__") (some (.ref fI))) (hb : ∀ self, W.Looks (model prog w) h (bindSpecial (.ref fI) self) (.ref fI, [self])) (hrest : rest.length ≤ sizeLine)
    (hq : codeAny (model prog w) A (.call (.ref fI) ⟨.ref (h.objs.size + 1) :: rest, []⟩) (fun r s' => match r with | .ok (.ret v) => v = .none ∧ Q (.done (.ret (.ref (h.objs.size + 1)))) s' | .ok _ => False | .error e => E e s')
      ⟨(h.push (W.kdv_tup rest)).push (excO C h.objs.size), g, d, t, os⟩) :
    wpAny (model prog w) A (Builtin.«type.__call__» ⟨.ref C :: rest, []⟩) Q E ⟨h, g, d, t, os⟩ := by
  repeat (first | with_reducible refine wpAny_loadPart_at hC ?_ | with_reducible refine wpAny_madeBy_exc hC ?_ | wp_step)
  refine codeAny_call_builtin_code (Code.quiet_builtin _ F.quiet) (chk_new F hT hC (new_x F hT hC ?_ hrest))
  show wpAny _ _ _ _ _ _
  have kp : ∀ b o, h.get? b = some o → ((h.push (W.kdv_tup rest)).push (excO C h.objs.size)).get? b = some o := by
    intro b o e
    exact Heap.get?_push_of_some _ (Heap.get?_push_of_some _ e)
  have hC1 := kp _ _ hC
  have new : ((h.push (W.kdv_tup rest)).push (excO C h.objs.size)).get? (h.objs.size + 1) = some (excO C h.objs.size) := by heap_get
  have self : (Value.ref C :: bm).contains (.ref C) = true := by simp
  have i1 := hi.keeps kp
  have b1 := (hb (.ref (h.objs.size + 1))).keeps kp
  unfold isInstance
  repeat (first | with_reducible refine wpAny_loadPart_at new ?_ | (with_reducible refine wpAny_isSubtype_exc hC1 ?_; rw [self]) | wp_step)
  show wpAny _ _ (typeLookup (.ref C) _) _ _ _
  refine i1.at (wpAny_holding (wpAny_bind (b1.at (wpAny_bind (wpAny_call (codeAny_mono hq ?_))))))
  intro r s' z
  rcases r with e | (v | _ | _ | _) <;> first | exact z | exact z.elim | skip
  obtain ⟨rfl, z⟩ := z
  first
    | exact wpAny_pure (wpAny_pure z)
    | (wp_walk; exact z)
theorem call_x (F : ExcBaseFacts B newId initId bmB) (hT : Hold B bm) {rest : List Value} {fI : Addr} (hC : h.get? C = some (excClassObj nm q C N bs bm hdct sn sub ab col dd k0 k1 k2 k3 k5 newId))
    (hi : W.Looks (model prog w) h (typeLookup (.ref C) "__init__") (some (.ref fI))) (hb : ∀ self, W.Looks (model prog w) h (bindSpecial (.ref fI) self) (.ref fI, [self])) (hrest : rest.length ≤ sizeLine)
    (hq : codeAny (model prog w) (A.under (.builtin "type.__call__" ⟨.ref C :: rest, []⟩)) (.call (.ref fI) ⟨.ref (h.objs.size + 1) :: rest, []⟩) (W.InitBack (h.objs.size + 1) R) ⟨(h.push (W.kdv_tup rest)).push (excO C h.objs.size), g, d, t, os⟩) :
    codeAny (model prog w) A (.call (.ref C) ⟨rest, []⟩) R ⟨h, g, d, t, os⟩ := by
  have f1 := tc_lookup
  have f2 := tc_bind (.ref C)
  have ty : (⟨h, g, d, t, os⟩ : Shared).TypeIs (.ref C) "type" := ⟨_, hC, rfl⟩
  refine codeAny_of_tree ?_
  show wpAny _ _ (callAny (.ref C) _) _ _ _
  repeat (any_goals (first | assumption | with_reducible refine wpAny_loadPart_at hC ?_ | wp_step))
  refine ⟨rfl, ?_⟩
  refine codeAny_call_builtin_at (Code.quiet_builtin _ (by decide +kernel)) entry_typeCall (wpAny_check_type_call_sub hC (tcall_x F hT hC hi hb hrest ?_))
  refine codeAny_mono hq ?_
  intro r s' z
  rcases r with e | (v | _ | _ | _) <;> exact z
theorem init_x (I : InitF B2 id2) (hb : bm.contains (.type B2) = true) {e t0 : Addr} {rest : List Value} (hC : h.get? C = some (excClassObj nm q C N bs bm hdct sn sub ab col dd k0 k1 k2 k3 k5 newId)) (he : h.get? e = some (excO C t0)) (hrest : rest.length ≤ sizeLine)
    (hq : ∀ h' t1, (∀ b o, b ≠ e → h.get? b = some o → h'.get? b = some o) → h'.get? e = some (excO C t1) → R (.ok (.ret .none)) ⟨h', g, d, t, os⟩) :
    codeAny (model prog w) A (.call (.builtin id2) ⟨.ref e :: rest, []⟩) R ⟨h, g, d, t, os⟩ := by
  refine codeAny_call_builtin I.slot.plain I.entry (chk_init I hb hC he rfl ?_)
  wp_walk
  refine hq _ h.objs.size ?_ ?_
  · intro b o hb ho
    rw [Heap.get?_update_other _ _ (Ne.symm hb)]
    exact Heap.get?_push_of_some _ ho
  · rw [Heap.get?_update_self _ (Heap.get?_push_of_some _ he) rfl]; rfl
end
end PySem.WuX

/-! Own exceptions: __init__ as a promise, C(..) as a value, raise C(..). -/
namespace Wu
open PySem PySem.Spec PyProof.Rows L2 PySem.WuX

/-- what the written part says of an own exception class over the built-in tail tl, made by nid -/
structure OxC (K : PySem.W.Frag) (C : Addr) (tl : List Value) (nid : String) : Prop where
  cls : ∃ nm q N bs bm sn sub ab col dd k0 k1 k2 k3 k5, K.lookup C = some (excClassObj nm q C N bs bm true sn sub ab col dd k0 k1 k2 k3 k5 nid) ∧ refsT tl bm = true
  sa : PySem.W.findIn K (.ref C) "__setattr__" = some (some (.builtin "object.__setattr__"))
  exC : PySem.W.subIn K (.ref C) (.type "BaseException") = some true
  tyC : PySem.W.typeIn K (.ref C) = some (.type "type")
  kC : PySem.W.keepIn K (.ref C) = true
/-- what is told of the built-in classes below -/
structure OxB (B nid iid0 : String) (bmB tl : List Value) : Prop where
  F : ExcBaseFacts B nid iid0 bmB
  hold : Hold B tl
  tp : ∀ self, refuseLoop self "__setattr__" tl = pure ()
  obj : tl.contains (.type "object") = true
theorem ox_VE : OxB "ValueError" "ValueError.__new__" "ValueError.__init__" PySem.HandSPX.veTail PySem.HandSPX.veTail := ⟨F.excBase_ValueError, ⟨by decide +kernel, by decide +kernel, by decide +kernel⟩, pass_VE, by decide +kernel⟩
theorem ox_KE : OxB "LookupError" "LookupError.__new__" "LookupError.__init__" [.type "LookupError", .type "Exception", .type "BaseException", .type "object"] keTail := ⟨F.excBase_LookupError, ⟨by decide +kernel, by decide +kernel, by decide +kernel⟩, pass_KE, by decide +kernel⟩
theorem OxB.hold' {B nid iid0 : String} {bmB tl bm : List Value} (b : OxB B nid iid0 bmB tl) (h : refsT tl bm = true) : Hold B bm := ⟨(refsT_has _ _ h).trans b.hold.b, (refsT_has _ _ h).trans b.hold.a, (refsT_has _ _ h).trans b.hold.n⟩
section
variable {X : Cx} {pins : List (Addr × Obj)} {σ : L2.St} {H : Hp} {s : Shared} {a C : Addr} {f : Str} {y : V} {u : Value} {Q : Unit → Shared → Prop} {E : Value → Shared → Prop} {A : Around} {B nid iid0 : String} {bmB tl : List Value}
/-- self.f = y, the first one -/
theorem ox_set (b : OxB B nid iid0 bmB tl) (T : OxC X.K C tl nid) (I : Inv X pins σ H s) (e : H a = some (exo a C none)) (hno : PySem.W.findIn X.K (.ref C) f = some none) (ry : RelV y u)
    (h : ∀ dx s', H dx = none → dx ≠ a → Inv X pins σ (upd (upd H dx (exd dx [(f, y)])) a (exo a C (some dx))) s' → Q () s') : wpAny (model X.prog X.w) A (setAttr (.ref a) f u) Q E s := by
  obtain ⟨nm, q, N, bs, bm, sn, sub, ab, col, dd, k0, k1, k2, k3, k5, hC, hbm⟩ := T.cls
  have hcl : PySem.W.clsIn X.K C = some { name := nm, bases := bs, mro := .ref C :: bm, ns := N, qualname := q, hasDict := true, slotNames := sn, subclasses := sub, abstract := ab, collection := col, hasDel := false } := by
    unfold PySem.W.clsIn
    rw [hC] <;> rfl
  obtain ⟨t1, ho⟩ := exo_at I.hok e
  obtain ⟨hp, g, d, t, os⟩ := s
  have inst : PySem.W.InstAt hp a { cls := .ref C, dict := none, data := .fields #[.ref t1, .none, .none, .none, .bool false, .none] } C none := ⟨ho, rfl, rfl, trivial⟩
  refine PySem.W.set_plain I.kIn inst T.sa (set_first b.tp b.obj I.kIn ho hcl (show refsT tl (.ref C :: bm) = true from hbm) rfl hno ?_)
  intro h' tk' dx k dn dne hx hn
  have hnd : H dx = none := I.hok.fresh dn
  have young : ∀ {b : Addr} {o : Obj}, hp.get? b = some o → b ≠ dx := fun {b o} z => Nat.ne_of_lt (Nat.lt_of_lt_of_le (Heap.lt_size z) dn)
  have na : ∀ {b : Addr}, H b = none → b ≠ a := fun {b} n z => by
    rw [z, e] at n
    cases n
  have un : Un X.fs [] H (upd (upd H dx (exd dx [(f, y)])) a (exo a C (some dx))) hp h' := by
    constructor
    case keep => exact fun b o z n _ _ => k b o (na n) z
    case slot => exact fun b o z n _ _ => ⟨o.slots, k b o (na n) z⟩
    case free => intro b o z n _; rw [upd_ne (na n), upd_ne (young z)]; exact n
    case there =>
      intro b o z _
      by_cases hb : b = a
      · exact ⟨_, by rw [hb]; exact hx⟩
      · exact ⟨o, k b o hb z⟩
    case tups => intro b xs z; rw [upd_ne (at_ne e z exo_tup), upd_ne (ne_of_none z hnd)]; exact z
    case frzs => intro b o v z; rw [upd_ne (at_ne e z exo_frz), upd_ne (ne_of_none z hnd)]; exact z
    case tbls => intro b ps z; exact ⟨#[], by rw [upd_ne (at_ne e z exo_tbl), upd_ne (ne_of_none z hnd), z]; simp⟩
  refine h dx _ hnd dne (I.un (t' := tk') un ?_)
  intro b o z
  by_cases hb : b = a
  · subst hb
    rw [upd_same] at z
    cases z
    exact exo_ok hx
  · rw [upd_ne hb] at z
    by_cases hd : b = dx
    · subst hd
      rw [upd_same] at z
      cases z
      exact exd_ok hn (relO_put (fs := []) ry fun g => True.intro)
    · rw [upd_ne hd] at z
      refine (I.hok b o z).stay ?_ ?_ ?_
      · intro c v hc w
        refine k c v ?_ w
        rcases hc with hc | hc
        · rw [hc]; exact hb
        · exact at_ne e hc exo_own
      · intro c hc; rw [upd_ne (at_ne e hc exo_own), upd_ne (ne_of_none hc hnd)]; exact hc
      · intro c xs hc; rw [upd_ne (at_ne e hc exo_tup), upd_ne (ne_of_none hc hnd)]; exact hc
/-- B.__init__(self, ..) -/
theorem ox_init {us : List Value} {B2 id2 : String} {Q : Value → Shared → Prop} (T : OxC X.K C tl nid) (IF : InitF B2 id2) (h2 : tl.contains (.type B2) = true) (I : Inv X pins σ H s) (e : H a = some (exo a C none)) (hl : us.length ≤ sizeLine) (h : ∀ s', Inv X pins σ H s' → Q .none s') :
    wpAny (model X.prog X.w) A (call (.builtin id2) (.ref a :: us)) Q E s := by
  obtain ⟨nm, q, N, bs, bm, sn, sub, ab, col, dd, k0, k1, k2, k3, k5, hC, hbm⟩ := T.cls
  obtain ⟨t1, ho⟩ := exo_at I.hok e
  obtain ⟨hp, g, d, t, os⟩ := s
  refine wpAny_call (init_x IF ((refsT_has _ _ hbm).trans h2) (I.kIn _ _ hC) ho hl ?_)
  intro h' t2 k hx
  have J := I.write (t' := t) (x := a) (e := a) (o := exo a C none) (by rw [e]; exact True.intro) (.inl rfl) k ⟨_, hx⟩ (exo_ok hx)
  have eu : upd H a (exo a C none) = H := by
    funext b
    by_cases hb : b = a
    · rw [hb, upd_same, e]
    · rw [upd_ne hb]
  rw [eu] at J
  exact h _ J
end
/-- the promise of such an __init__: one field -/
def spXI (K : PySem.W.Frag) (C : Addr) (f : Str) : Sp := fun vs H Q _ => ∃ (a : Addr) (y : V), vs = [.ref a, y] ∧ H a = some (exo a C none) ∧ ∀ dx, H dx = none → dx ≠ a → Q .non (upd (upd H dx (exd dx [(f, y)])) a (exo a C (some dx)))
/-- self.f = e -/
def tOxS (K : PySem.W.Frag) (tl : List Value) (nid : String) (f : Str) (to te : TE) : TS := fun D σ H => te σ H fun y H1 => to σ H1 fun x H2 => ∃ a C : Addr, x = .ref a ∧ OxC K C tl nid ∧ PySem.W.findIn K (.ref C) f = some none ∧ H2 a = some (exo a C none) ∧
  ∀ dx, H2 dx = none → dx ≠ a → D.nx σ (upd (upd H2 dx (exd dx [(f, y)])) a (exo a C (some dx)))
/-- B.__init__(self, ..) -/
def tOxI (K : PySem.W.Frag) (tl : List Value) (nid : String) (ta : TA) : TE := fun σ H Q => ta σ H fun vs H1 => ∃ (a C : Addr) (ws : List V), vs = .ref a :: ws ∧ ws.length ≤ 1000 ∧ OxC K C tl nid ∧ H1 a = some (exo a C none) ∧ Q .non H1
section
variable {X : Cx} {o e : Expr} {es : List Expr} {to te : TE} {ta : TA} {f : Str} {p p' p1 p2 pos : Pos} {B nid iid0 B2 id2 : String} {bmB tl : List Value}
theorem ps_oxs (b : OxB B nid iid0 bmB tl) (ho : PE X o to) (he : PE X e te) (hs : swapsWith e (some (.Attribute o f p')) pos.line X.env = pure false := by rfl) : PS X (.Assign [.Attribute o f p'] e pos) (tOxS X.K tl nid f to te) := by
  constructor
  intro pins s σ H D I h
  refine plainObj_wpAny_Assign_Attribute (thn (he.run pins s σ H _ I h) ?_) hs
  rintro v s1 ⟨y, H1, I1, r1, q1⟩
  refine thn (ho.run pins s1 σ H1 _ I1 q1) ?_
  rintro u s2 ⟨x, H2, I2, r2, a, C, ex, T, hno, ea, q⟩
  subst ex
  obtain rfl : u = Value.ref a := r2
  exact ox_set b T I2 ea hno r1 fun dx s' n ne J => ⟨σ, _, J, q dx n ne⟩
/-- W.__init__(self, ..), W a class of the program that has no __init__ of its own -/
theorem pe_oxi {w : Str} {Cw : Addr} {pl : Sem Bool} (IF : InitF B2 id2) (h2 : tl.contains (.type B2) = true) (hg : Gl X w) (hm : X.mg w = some (.ref Cw)) (sg : PySem.W.specialIn X.K (.ref Cw) "__getattribute__" = some (some (.builtin "type.__getattribute__")))
    (rd : PySem.W.readsIn X.K Cw (.type "type") = true) (vV : PySem.W.findCls X.K (.ref Cw) (.type "type") "__init__" = some (.val (.builtin id2))) (hh : PySem.W.handedIn (.builtin id2) = true) (ha : PA X (e :: es) ta) (hdb : (w == ("__debug__" : Str)) = false := by decide)
    (hc : eval (.Call (.Attribute (.Name w p1) "__init__" p2) (e :: es) [] pos) X.env = (do
      let ov ← eval (.Name w p1) X.env
      standAt p2.atName
      let (f, first) ← holding [ov] (getMethod ov "__init__" pl)
      callWith pos f first (backTo pos (starEach (e :: es) X.env)) (backToKw pos (keywordEach [] X.env))) := by rfl)
    (he : starEach (e :: es) X.env = (false, eval e X.env) :: starEach es X.env := by rfl) (hpl : (backTo pos (starEach es X.env)).any (·.1) = false := by rfl) :
    PE X (.Call (.Attribute (.Name w p1) "__init__" p2) (e :: es) [] pos) (tOxI X.K tl nid ta) := by
  constructor
  intro pins s σ H Q I h
  refine PySem.W.methodCall_KW (ld_glob I hg hm ?_ hdb) hc
  refine PySem.W.method_cls I.kIn sg (PySem.W.cls_value I.kIn rd vV hh ?_)
  show wpAny _ _ (callWith pos (Value.builtin id2) [] (backTo pos (starEach (e :: es) X.env)) []) _ _ _
  refine PyProof.Rows.callWith_method1 (thn (ha.run pos pins _ σ H _ (I.tok _) h) ?_) he hpl
  rintro us s1 ⟨vs, H1, I1, r1, a, C, ws, ev, hl, T, ea, q⟩
  subst ev
  cases r1 with
  | @cons _ u0 _ ur ra rw' =>
    obtain rfl : u0 = Value.ref a := ra
    refine ox_init T IF h2 I1 ea ?_ fun s' J => ⟨.non, H1, J, rfl, q⟩
    rw [← Paired.length rw', sizeLine_eq]
    omega
/-- T.__init__(self, ..), T a built-in class -/
theorem pe_oxT {w : Str} {pl : Sem Bool} (IF : InitF B2 id2) (h2 : tl.contains (.type B2) = true) (hg : Gl X w) (hm : X.mg w = none) (hv : bootBuiltins w = some (.type B2)) (ty : typeOf (.type B2) = pure (.type "type")) (hs : Manifest.isStub B2 = false)
    (vV : PySem.W.findCls X.K (.type B2) (.type "type") "__init__" = some (.val (.builtin id2))) (hh : PySem.W.handedIn (.builtin id2) = true) (ha : PA X (e :: es) ta) (hn : w ≠ "__name__" := by decide) (hdb : (w == ("__debug__" : Str)) = false := by decide)
    (hc : eval (.Call (.Attribute (.Name w p1) "__init__" p2) (e :: es) [] pos) X.env = (do
      let ov ← eval (.Name w p1) X.env
      standAt p2.atName
      let (f, first) ← holding [ov] (getMethod ov "__init__" pl)
      callWith pos f first (backTo pos (starEach (e :: es) X.env)) (backToKw pos (keywordEach [] X.env))) := by rfl)
    (he : starEach (e :: es) X.env = (false, eval e X.env) :: starEach es X.env := by rfl) (hpl : (backTo pos (starEach es X.env)).any (·.1) = false := by rfl) :
    PE X (.Call (.Attribute (.Name w p1) "__init__" p2) (e :: es) [] pos) (tOxI X.K tl nid ta) := by
  constructor
  intro pins s σ H Q I h
  refine PySem.W.methodCall_KW (ld_blt I hg hm hv ?_ hn hdb) hc
  obtain ⟨m, fr⟩ := I.fr
  refine PySem.W.method_type fr I.ok.mod.kin ty hs vV hh ?_
  show wpAny _ _ (callWith pos (Value.builtin id2) [] (backTo pos (starEach (e :: es) X.env)) []) _ _ _
  refine PyProof.Rows.callWith_method1 (thn (ha.run pos pins _ σ H _ (I.tok _) h) ?_) he hpl
  rintro us s1 ⟨vs, H1, I1, r1, a, C, ws, ev, hl, T, ea, q⟩
  subst ev
  cases r1 with
  | @cons _ u0 _ ur ra rw' =>
    obtain rfl : u0 = Value.ref a := ra
    refine ox_init T IF h2 I1 ea ?_ fun s' J => ⟨.non, H1, J, rfl, q⟩
    rw [← Paired.length rw', sizeLine_eq]
    omega
end
end Wu

/-! C(..) of an own exception class: as a value, raised. -/
namespace Wu
open PySem PySem.Spec PyProof.Rows L2 PySem.WuX

section
variable {X : Cx} {o e : Expr} {es : List Expr} {ta : TA} {f : Str} {p pos : Pos} {B nid iid0 : String} {bmB tl : List Value}
/-- C(e, ..): what is wanted behind the __init__ -/
def tOxM (C : Addr) (sp : Sp) (ta : TA) (K2 : Addr → Hp → Addr → Hp → List (Str × V) → Prop) : L2.St → Hp → Prop := fun σ H => ta σ H fun vs H1 => vs.length ≤ 1000 ∧ ∀ a, H1 a = none → sp (.ref a :: vs) (upd H1 a (exo a C none))
  (fun v H2 => v = .non ∧ ∃ (d : Addr) (fs : List (Str × V)), H2 a = some (exo a C (some d)) ∧ H2 d = some (exd d fs) ∧ H1 d = none ∧ K2 a H2 d H1 fs) (fun _ _ _ => False)
/-- the call, in common -/
theorem ox_run {CX : CXT} {x : Str} {C fI : Addr} {k : Nat} {fd : FuncData} {ps : List Str} {sp : Sp} {pins : List (Addr × Obj)} {s : Shared} {σ : L2.St} {H : Hp} {Qf : Value → Shared → Prop} {K2 : Addr → Hp → Addr → Hp → List (Str × V) → Prop} (b : OxB B nid iid0 bmB tl) (T : OxC X.K C tl nid)
    (iC : PySem.W.findIn X.K (.ref C) "__init__" = some (some (.ref fI))) (tI : PySem.W.typeIn X.K (.ref fI) = some (.type "function")) (F1 : FnOk X.prog X.w X.K X.mg X.base CX k fI fd ps sp) (hr : Room (k + 1) X.A) (hb : Binds X.K fd ps []) (hx : Passes CX X (fun _ _ _ => False)) (hg : Gl X x) (hm : X.mg x = some (.ref C)) (ha : PA X (e :: es) ta)
    (hdb : (x == ("__debug__" : Str)) = false) (he : starEach (e :: es) X.env = (false, eval e X.env) :: starEach es X.env) (hpl : (backTo pos (starEach es X.env)).any (·.1) = false) (I : Inv X pins σ H s) (h : tOxM C sp ta K2 σ H)
    (fin : ∀ {H1 H2 : Hp} {a d : Addr} {fs : List (Str × V)} {hp hp2 h2 : Heap} {g1 g2 : Array GenState} {d1 d2 : Drawn} {t1 t2 : Nat} {os1 os2 : OsState}, Inv X pins σ H1 ⟨hp, g1, d1, t1, os1⟩ → hp.objs.size ≤ a → (∀ b o, hp.get? b = some o → hp2.get? b = some o) → Un (frs X.stack) [] (upd H1 a (exo a C none)) H2 hp2 h2 →
      HOk X.prog X.w H2 h2 → os2 = os1 → AllBare g2 → H2 a = some (exo a C (some d)) → H2 d = some (exd d fs) → H1 d = none → K2 a H2 d H1 fs → Inv X pins σ H2 ⟨h2, g2, d2, t2, os2⟩ → Qf (.ref a) ⟨h2, g2, d2, t2, os2⟩) :
    wpAny (model X.prog X.w) X.A (eval (.Call (.Name x p) (e :: es) [] pos) X.env) Qf X.xe s := by
  obtain ⟨nm, q, N, bs, bm, sn, sub, ab, col, dd, k0, k1, k2, k3, k5, hC, hbm⟩ := T.cls
  refine wpAny_Call_Name_kw (ld_glob I hg hm ?_ hdb)
  refine PySem.W.callWith_K (h₀ := X.base) I.ok.mod.kin T.kC (thn (ha.run pos pins s σ H _ I h) ?_) he hpl
  rintro us s1 ⟨vs, H1, I1, r1, hz, q1⟩
  refine ⟨I1.kIn, ?_⟩
  show wpAny _ _ (call (.ref C) us) _ _ _
  obtain ⟨hp, g, dr, tk, os⟩ := s1
  have hsz : hp.objs.size ≤ hp.objs.size + 1 := Nat.le_succ _
  have hq := q1 (hp.objs.size + 1) (I1.hok.fresh hsz)
  have kk : ∀ b o, hp.get? b = some o → ((hp.push (PySem.W.kdv_tup us)).push (PySem.HandSPX.excO C hp.objs.size)).get? b = some o := by
    intro b o z
    exact Heap.get?_push_of_some _ (Heap.get?_push_of_some _ z)
  have new : ((hp.push (PySem.W.kdv_tup us)).push (PySem.HandSPX.excO C hp.objs.size)).get? (hp.objs.size + 1) = some (PySem.HandSPX.excO C hp.objs.size) := by heap_get
  have I2 : Inv X pins σ (upd H1 (hp.objs.size + 1) (exo (hp.objs.size + 1) C none)) ⟨(hp.push (PySem.W.kdv_tup us)).push (PySem.HandSPX.excO C hp.objs.size), g, dr, tk, os⟩ := I1.laid (t' := tk) kk hsz (exo_ok new)
  have r2 : Vals (V.ref (hp.objs.size + 1) :: vs) (Value.ref (hp.objs.size + 1) :: us) := .cons rfl r1
  have hl : (Value.ref (hp.objs.size + 1) :: us).length = ps.length := r2.length.symm.trans (F1.len _ _ _ _ hq)
  have hus : us.length ≤ sizeLine := by
    rw [← Paired.length r1, sizeLine_eq]
    omega
  have hbb := hb _ (Value.ref (hp.objs.size + 1) :: us) I2.kIn (by rw [List.append_nil]; exact hl)
  rw [List.append_nil] at hbb
  have run := F1.run _ X.stack _ _ ⟨Value.ref (hp.objs.size + 1) :: us, []⟩ _ _ _ (fun _ _ _ => False) (hr.make C us []) (I2.env0.make C us []) hbb r2 hq
  refine wpAny_call (call_x b.F (b.hold' hbm) (I1.kIn _ _ hC) (PySem.W.looks_findIn I1.kIn iC) (fun self => PySem.W.bind_fn I1.kIn self tI) hus (codeAny_mono run ?_))
  intro r s' hq'
  match r, hq' with
  | .error er, hq' => exact hx pins σ _ _ er s' I2 hq'
  | .ok (.ret u), hq' =>
    have J := I2.after hq'
    obtain ⟨v, H2, os2, bare2, un2, hok2, rv, ev, d, fs, ea, ed, hd1, q2⟩ := hq'
    subst ev
    obtain ⟨v', H2', J2, _, _⟩ := J
    obtain ⟨h2, g2, d2, t2, os'⟩ := s'
    have J3 : Inv X pins σ H2 ⟨h2, g2, d2, t2, os'⟩ := I2.call' (ch := []) os2 un2 hok2 bare2 (fun b z => nomatch z)
    exact ⟨rv, fin I1 hsz kk un2 hok2 os2 bare2 ea ed hd1 q2 J3⟩
  | .ok .next, hq' => exact False.elim hq'
  | .ok .brk, hq' => exact False.elim hq'
  | .ok .cont, hq' => exact False.elim hq'
variable {CX : CXT} {x : Str} {C fI : Addr} {k : Nat} {fd : FuncData} {ps : List Str} {sp : Sp}
/-- as a value -/
theorem pe_oxV (b : OxB B nid iid0 bmB tl) (T : OxC X.K C tl nid) (iC : PySem.W.findIn X.K (.ref C) "__init__" = some (some (.ref fI))) (tI : PySem.W.typeIn X.K (.ref fI) = some (.type "function")) (F1 : FnOk X.prog X.w X.K X.mg X.base CX k fI fd ps sp) (hr : Room (k + 1) X.A) (hb : Binds X.K fd ps [])
    (hx : Passes CX X (fun _ _ _ => False)) (hg : Gl X x) (hm : X.mg x = some (.ref C)) (ha : PA X (e :: es) ta) (hdb : (x == ("__debug__" : Str)) = false := by decide) (he : starEach (e :: es) X.env = (false, eval e X.env) :: starEach es X.env := by rfl) (hpl : (backTo pos (starEach es X.env)).any (·.1) = false := by rfl) :
    PE X (.Call (.Name x p) (e :: es) [] pos) (fun σ H Q => tOxM C sp ta (fun a H2 d _ fs => Q (.ref a) (upd (upd H2 a (exHO a C (some d))) d (.xd fs))) σ H) := by
  constructor
  intro pins s σ H Q I h
  refine ox_run b T iC tI F1 hr hb hx hg hm ha hdb he hpl I h ?_
  intro H1 H2 a d fs hp hp2 h2 g1 g2 d1 d2 t1 t2 os1 os2 I1 hsz kk un hok ho hbare ea ed hd1 q J
  obtain ⟨t0, hoe⟩ := exo_at hok ea
  obtain ⟨mA, hns, rel⟩ := exd_at hok ed
  have hda : d ≠ a := fun z => by
    obtain ⟨o, es, ep, e1, e2, _⟩ := hns
    rw [z, hoe] at e1
    have z2 := Option.some.inj e1
    subst z2
    cases e2
  have J1 := J.write (t' := t2) (x := a) (e := a) (o := exHO a C (some d)) (h' := h2) (by rw [ea]; exact True.intro) (.inl rfl) (fun _ _ _ z => z) ⟨_, hoe⟩ (exHO_ok hoe ⟨rfl, rfl⟩ rfl)
  have ed1 : upd H2 a (exHO a C (some d)) d = some (exd d fs) := by rw [upd_ne hda]; exact ed
  have hod : ∃ u, h2.get? d = some u := by
    obtain ⟨o, _, _, z, _⟩ := id hns
    exact ⟨o, z⟩
  have J2 := J1.write (t' := t2) (x := d) (e := d) (o := .xd fs) (h' := h2) (by rw [ed1]; exact True.intro) (.inl rfl) (fun _ _ _ z => z) hod ⟨mA, hns, rel⟩
  exact ⟨.ref a, _, J2, rfl, q⟩
/-- raised -/
theorem pmk_ox (b : OxB B nid iid0 bmB tl) (T : OxC X.K C tl nid) (iC : PySem.W.findIn X.K (.ref C) "__init__" = some (some (.ref fI))) (tI : PySem.W.typeIn X.K (.ref fI) = some (.type "function")) (F1 : FnOk X.prog X.w X.K X.mg X.base CX k fI fd ps sp) (hr : Room (k + 1) X.A) (hb : Binds X.K fd ps [])
    (hx : Passes CX X (fun _ _ _ => False)) (hg : Gl X x) (hm : X.mg x = some (.ref C)) (ha : PA X (e :: es) ta) (hdb : (x == ("__debug__" : Str)) = false := by decide) (he : starEach (e :: es) X.env = (false, eval e X.env) :: starEach es X.env := by rfl) (hpl : (backTo pos (starEach es X.env)).any (·.1) = false := by rfl) :
    PMk X (.Call (.Name x p) (e :: es) [] pos) (fun σ H Q => tOxM C sp ta (fun a H2 d _ fs => Q (.ref C) (some d) (upd (del H2 a) d (.xd fs))) σ H) := by
  intro pins s σ H Q I h
  refine ox_run b T iC tI F1 hr hb hx hg hm ha hdb he hpl I h ?_
  intro H1 H2 a d fs hp hp2 h2 g1 g2 d1 d2 t1 t2 os1 os2 I1 hsz kk un hok ho hbare ea ed hd1 q J
  exact mk_end (raises_own T.exC T.tyC) I1 hsz kk un hok ho hbare ea ed hd1 q
end
/-! ### over data -/
/-- C(e) -/
def mExn (c f : Str) (m : M D) : M D := m.bnd fun d => .ret (.nd (.exn c [f]) [d])
/-- raise C(e) -/
def sRaise (c f : Str) (m : M D) : SM := m.bnd fun d E => .ex ⟨c, [f], [d]⟩ E
section
variable {X : Cx} {ct : Ct} {W : WX} {e : Expr} {p pos rp : Pos} {B nid iid0 : String} {bmB tl : List Value} {CX : CXT} {x : Str} {fI : Addr} {k : Nat} {fd : FuncData} {ps : List Str} {m : M D}
theorem d_exn (c : Str) {f : Str} (b : OxB B nid iid0 bmB tl) (T : OxC X.K (ct c) tl nid) (iC : PySem.W.findIn X.K (.ref (ct c)) "__init__" = some (some (.ref fI))) (tI : PySem.W.typeIn X.K (.ref fI) = some (.type "function")) (F1 : FnOk X.prog X.w X.K X.mg X.base CX k fI fd ps (spXI X.K (ct c) f)) (hr : Room (k + 1) X.A) (hb : Binds X.K fd ps [])
    (hx : Passes CX X (fun _ _ _ => False)) (hg : Gl X x) (hm : X.mg x = some (.ref (ct c))) (he : Ed X ct W e m) (hdb : (x == ("__debug__" : Str)) = false := by decide) (hs : starEach [e] X.env = (false, eval e X.env) :: starEach [] X.env := by rfl) (hpl : (backTo pos (starEach [] X.env)).any (·.1) = false := by rfl) :
    Ed X ct W (.Call (.Name x p) [e] [] pos) (mExn c f m) := by
  refine PE.imp (pe_oxV b T iC tI F1 hr hb hx hg hm (pa_cons he pa_nil hs) hdb hs hpl) fun σ H Q h => ?_
  obtain ⟨F, B, E, fps, rl, h⟩ := h
  refine ⟨F, B, E, fps, rl, (Pst.bind h).imp ?_⟩
  rintro y H1 ⟨d, E1, B1, fps1, rl1, s1, r1, h1⟩
  refine ⟨by show 1 ≤ 1000; decide, fun a na => ⟨a, y, rfl, upd_same, fun dx hdx hne => ⟨rfl, dx, [(f, y)], upd_same, by rw [upd_ne hne, upd_same], by rw [upd_ne hne] at hdx; exact hdx, ?_⟩⟩⟩
  have hdx' : H1 dx = none := by rw [upd_ne hne] at hdx; exact hdx
  have eH : upd (upd (upd (upd (upd H1 a (exo a (ct c) none)) dx (exd dx [(f, y)])) a (exo a (ct c) (some dx))) a (exHO a (ct c) (some dx))) dx (.xd [(f, y)]) = upd (upd H1 dx (.xd [(f, y)])) a (exHO a (ct c) (some dx)) := by
    funext z
    by_cases z1 : z = dx
    · subst z1; rw [upd_same, upd_ne hne, upd_same]
    · by_cases z2 : z = a
      · subst z2; rw [upd_ne z1, upd_same, upd_same]
      · rw [upd_ne z1, upd_ne z2, upd_ne z2, upd_ne z1, upd_ne z2, upd_ne z2, upd_ne z1]
  dsimp only
  rw [eH]
  obtain ⟨q1, q2⟩ := rl1.laid (o := .xd [(f, y)]) hdx'
  obtain ⟨q3, q4⟩ := q1.laid (a := a) (o := exHO a (ct c) (some dx)) (by rw [upd_ne (Ne.symm hne)]; exact na)
  refine h1 _ _ _ _ q3 (q2.trans q4) (.nd (xs := [y]) ⟨rfl, .inl ⟨dx, upd_same, .inl ?_⟩⟩ (.cons ((r1.mono q2).mono q4) .nil))
  rw [upd_ne hne, upd_same]; rfl
theorem s_raise (c : Str) {f : Str} (b : OxB B nid iid0 bmB tl) (T : OxC X.K (ct c) tl nid) (iC : PySem.W.findIn X.K (.ref (ct c)) "__init__" = some (some (.ref fI))) (tI : PySem.W.typeIn X.K (.ref fI) = some (.type "function")) (F1 : FnOk X.prog X.w X.K X.mg X.base CX k fI fd ps (spXI X.K (ct c) f)) (hr : Room (k + 1) X.A) (hb : Binds X.K fd ps [])
    (hx : Passes CX X (fun _ _ _ => False)) (hcalm : X.calm = true) (tk : Takes X W) (hg : Gl X x) (hm : X.mg x = some (.ref (ct c))) (he : Ed X ct W e m) (hdb : (x == ("__debug__" : Str)) = false := by decide) (hs : starEach [e] X.env = (false, eval e X.env) :: starEach [] X.env := by rfl) (hpl : (backTo pos (starEach [] X.env)).any (·.1) = false := by rfl) :
    Sd X ct W (.Raise (some (.Call (.Name x p) [e] [] pos)) none rp) (sRaise c f m) := by
  refine PS.imp (ps_raise hcalm tk (pmk_ox b T iC tI F1 hr hb hx hg hm (pa_cons he pa_nil hs) hdb hs hpl)) fun N σ H h => ?_
  obtain ⟨F, B, E, fps, rl, h⟩ := h
  refine ⟨F, B, E, fps, rl, (PstS.bind (σ := σ) (Rr := Rp X.K ct) h).imp ?_⟩
  rintro y H1 ⟨d, E1, B1, fps1, rl1, s1, r1, h1⟩
  refine ⟨by show 1 ≤ 1000; decide, fun a na => ⟨a, y, rfl, upd_same, fun dx hdx hne => ⟨rfl, dx, [(f, y)], upd_same, by rw [upd_ne hne, upd_same], by rw [upd_ne hne] at hdx; exact hdx, ?_⟩⟩⟩
  have hdx' : H1 dx = none := by rw [upd_ne hne] at hdx; exact hdx
  have eH : upd (del (upd (upd (upd H1 a (exo a (ct c) none)) dx (exd dx [(f, y)])) a (exo a (ct c) (some dx))) a) dx (.xd [(f, y)]) = upd H1 dx (.xd [(f, y)]) := by
    funext z
    by_cases z1 : z = dx
    · subst z1; rw [upd_same, upd_same]
    · by_cases z2 : z = a
      · subst z2; rw [upd_ne z1, del_same, upd_ne z1, na]
      · rw [upd_ne z1, del_ne z2, upd_ne z2, upd_ne z1, upd_ne z2, upd_ne z1]
  dsimp only
  rw [eH]
  obtain ⟨q1, q2⟩ := rl1.laid (o := .xd [(f, y)]) hdx'
  exact h1 _ _ _ _ _ _ q1 q2 ⟨rfl, rfl, .inr ⟨dx, [y], rfl, .inl upd_same, .cons (r1.mono q2) .nil⟩⟩
end
end Wu

/-! Own exception classes without __init__; never-reached statements; stars, reversed lists, max and min of ints, d.get. -/
namespace Wu
open PySem PySem.Spec PyProof.Rows L2 PySem.WuX

section
variable {X : Cx} {ct : Ct} {W : WX} {e : Expr} {p pos : Pos} {x : Str} {m : M D}
/-- C(e), e not looked at -/
def mExn0 (c : Str) (m : M D) : M D := m.bnd fun _ => .ret (.nd (.exn c []) [])
theorem d_exn0 (c : Str) {bmB : List Value} {B nid iid : String} (F : ExcBaseFacts B nid iid bmB) (q : PySem.W.excIn X.K (ct c) bmB nid = true) (hm : X.mg x = some (.ref (ct c))) (kC : PySem.W.keepIn X.K (.ref (ct c)) = true) (hg : Gl X x) (he : Ed X ct W e m)
    (hs : starEach [e] X.env = (false, eval e X.env) :: starEach [] X.env := by rfl) (hdb : (x == ("__debug__" : Str)) = false := by decide) :
    Ed X ct W (.Call (.Name x p) [e] [] pos) (mExn0 c m) := by
  constructor
  intro pins s σ H Q I h
  refine wpAny_mono ((pe_exc1 (p := p) (pos := pos) F q hm kC hg he hs hdb).run pins s σ H (fun v H2 => ∃ a, v = .ref a ∧ H2 a = some (ExO (.ref (ct c)) a) ∧ Q (.ref a) (upd H2 a (exHO a (ct c) none))) I ?_) ?_ (fun _ _ z => z)
  · obtain ⟨F, B, E, fps, rl, h⟩ := h
    refine ⟨F, B, E, fps, rl, (Pst.bind h).imp ?_⟩
    rintro y H1 ⟨d, E1, B1, fps1, rl1, s1, r1, h1⟩ a na
    refine ⟨a, rfl, upd_same, ?_⟩
    have eH : upd (upd H1 a (ExO (.ref (ct c)) a)) a (exHO a (ct c) none) = upd H1 a (exHO a (ct c) none) := by
      funext b
      by_cases hb : b = a
      · rw [hb, upd_same, upd_same]
      · rw [upd_ne hb, upd_ne hb, upd_ne hb]
    rw [eH]
    exact (out_of rl1 h1).2 a _ na (.nd (xs := []) ⟨rfl, .inr ⟨rfl, upd_same⟩⟩ .nil)
  · rintro u s1 ⟨v, H2, J, r, a, rfl, ea, q2⟩
    cases r
    obtain ⟨⟨oe, vs, ho, hz, hd, _⟩, _, _⟩ := J.hok a _ ea
    obtain ⟨hp, g, d, t, os⟩ := s1
    have J1 := J.write (t' := t) (x := a) (e := a) (o := exHO a (ct c) none) (h' := hp) (by rw [ea]; exact True.intro) (.inl rfl) (fun _ _ _ z => z) ⟨_, ho⟩ (exHO_ok ho hz hd)
    exact ⟨.ref a, _, J1, rfl, q2⟩
/-- a statement that is never reached -/
def sNever : SM := fun _ => .bad
theorem s_never {st : Stmt} : Sd X ct W st sNever := ⟨fun pins s σ H N I h => by obtain ⟨F, B, E, fps, rl, h⟩ := h; exact h.elim⟩
theorem b_never {st : List Stmt} : Bd X ct W st sNever := ⟨fun pins s σ H N I h => by obtain ⟨F, B, E, fps, rl, h⟩ := h; exact h.elim⟩
theorem e_never {e : Expr} : Ed X ct W e (fun _ => .bad) := ⟨fun pins s σ H Q I h => by obtain ⟨F, B, E, fps, rl, h⟩ := h; exact h.elim⟩
end
end Wu

/-! Comparisons as tests. -/
namespace Wu
open PySem PySem.Spec PyProof.Rows L2
section
variable {X : Cx} {ct : Ct} {W : WX} {a b : Expr} {pos : Pos} {ma mb : M D}
theorem t_lt (ha : Ed X ct W a ma) (hb : Ed X ct W b mb) (hm : behindInMarks .Lt b = false := by rfl) : Td X ct W (.Compare a [.Lt] [b] pos) (mTest (mOp pLt ma mb)) := t_cmp op_lt ok_cmpI ha hb hm
theorem t_le (ha : Ed X ct W a ma) (hb : Ed X ct W b mb) (hm : behindInMarks .LtE b = false := by rfl) : Td X ct W (.Compare a [.LtE] [b] pos) (mTest (mOp pLe ma mb)) := t_cmp op_le ok_cmpI ha hb hm
theorem t_gt (ha : Ed X ct W a ma) (hb : Ed X ct W b mb) (hm : behindInMarks .Gt b = false := by rfl) : Td X ct W (.Compare a [.Gt] [b] pos) (mTest (mOp pGt ma mb)) := t_cmp op_gt ok_cmpI ha hb hm
theorem t_ge (ha : Ed X ct W a ma) (hb : Ed X ct W b mb) (hm : behindInMarks .GtE b = false := by rfl) : Td X ct W (.Compare a [.GtE] [b] pos) (mTest (mOp pGe ma mb)) := t_cmp op_ge ok_cmpI ha hb hm
theorem t_eq (hu : X.A.units + 64 < cLine) (ha : Ed X ct W a ma) (hb : Ed X ct W b mb) (hm : behindInMarks .Eq b = false := by first | exact nobehind _ (by decide) (by decide) | rfl) : Td X ct W (.Compare a [.Eq] [b] pos) (mTest (mOp pEq ma mb)) := t_cmp (op_eqA hu) ok_eq ha hb hm
theorem t_ne (hu : X.A.units + 64 < cLine) (ha : Ed X ct W a ma) (hb : Ed X ct W b mb) (hm : behindInMarks .NotEq b = false := by first | exact nobehind _ (by decide) (by decide) | rfl) : Td X ct W (.Compare a [.NotEq] [b] pos) (mTest (mOp pNe ma mb)) := t_cmp (op_neA hu) ok_ne ha hb hm
theorem t_isN {j pos'} (ha : Ed X ct W a ma) : Td X ct W (.Compare a [.Is] [.Constant .none j pos'] pos) (mTest (mIsN ma)) := by
  refine PT.imp (pt_cmp (pc_isN ha)) (test_imp (m := mIsN ma) ?_)
  intro σ H Q h
  obtain ⟨F, B, E, fps, rl, h⟩ := h
  refine ⟨F, B, E, fps, rl, (Pst.bind h).imp ?_⟩
  rintro v H1 ⟨d, E1, B1, fps1, rl1, s1, r1, h1⟩
  rw [r1.isN]
  exact h1 _ B1 H1 _ rl1 (Same.refl B1) (.bl _)
theorem t_notN {j pos'} (ha : Ed X ct W a ma) : Td X ct W (.Compare a [.IsNot] [.Constant .none j pos'] pos) (mTest (mNotN ma)) := by
  refine PT.imp (pt_cmp (pc_notN ha)) (test_imp (m := mNotN ma) ?_)
  intro σ H Q h
  obtain ⟨F, B, E, fps, rl, h⟩ := h
  refine ⟨F, B, E, fps, rl, (Pst.bind h).imp ?_⟩
  rintro v H1 ⟨d, E1, B1, fps1, rl1, s1, r1, h1⟩
  rw [r1.isN]
  exact h1 _ B1 H1 _ rl1 (Same.refl B1) (.bl _)
theorem tk0 : Takes X W0 := fun _ _ ⟨_, _, _, _, _, _, _, _, _, _, _, _, _, _, _, _, w⟩ => w.elim
end
end Wu

/-! The facts of a law's top, read by a Hook; the end of a law over them. -/
namespace Wu
open PySem PySem.Spec PyProof.Rows L2 He

/-! ### the package's exception classes -/
def ancE : Str → List Str := fun c =>
  if c = "Missing" then ["Missing", "KeyError", "LookupError", "Exception", "BaseException", "object"]
  else if c = "WindowError" then ["WindowError", "ValueError", "Exception", "BaseException", "object"]
  else [c, "WindowError", "ValueError", "Exception", "BaseException", "object"]
def below (c x : Str) : Bool := (ancE c).contains x
/-- which of the classes dom stand under x -/
def isD (dom : List Str) (x : Str) : Str → Option Bool := fun c => if dom.contains c then some (below c x) else none
def isD2 (dom : List Str) (xs : List Str) : Str → Option Bool := fun c => if dom.contains c then some (xs.any fun x => below c x) else none
def fldE : Str → Str := fun c =>
  if c = "Missing" then "name" else if c = "BadDeed" then "word" else if c = "BadStyle" then "given" else if c = "BadGoal" then "given"
  else if c = "TooMany" then "most" else if c = "BadQuestion" then "" else if c = "WindowError" then "" else "place"
def xsD (dom : List Str) (f : Str) : Str → Bool := fun c => dom.contains c && decide (fldE c = f)

/-! ### facts -/
section
variable (K : PySem.W.Frag)
def oxB (C : Addr) (tl : List Value) (nid : String) : Bool := (match K.lookup C with
  | some ⟨.type "type", _, .cls cd, sl⟩ => (match cd.mro, sl.toList with
    | .ref C' :: bm, [_, _, _, _, some (.builtin n), _] => C' == C && n == nid && !cd.hasDel && cd.hasDict && PySem.WuX.refsT tl bm
    | _, _ => false)
  | _ => false) && (decide (PySem.W.findIn K (.ref C) "__setattr__" = some (some (.builtin "object.__setattr__"))) && (decide (PySem.W.subIn K (.ref C) (.type "BaseException") = some true) &&
    (decide (PySem.W.typeIn K (.ref C) = some (.type "type")) && PySem.W.keepIn K (.ref C))))
def excB (D : Addr) : Bool := decide (PySem.W.findIn K (.ref D) "__getattribute__" = some (some (.builtin "BaseException.__getattribute__"))) && (decide (PySem.W.findIn K (.ref D) "__getattr__" = some none) &&
  (decide (PySem.W.subIn K (.ref D) (.type "BaseException") = some true) && (PySem.W.hasDictIn K D && (decide (PySem.W.findIn K (.ref D) "__class__" = some (some (.builtin "object.__class__"))) &&
  (decide (PySem.W.specialIn K (.builtin "object.__class__") "__get__" = some (some (.builtin "getset_descriptor.__get__"))) && (decide (PySem.W.takesIn K (.builtin "object.__class__") = some true) && decide (PySem.W.mroIn K D (.type "object") = some true)))))))
/-- a def's function object -/
def foK (a : Addr) : FuncData := match K.lookup a with
  | some ⟨_, _, .func fd, _⟩ => fd
  | _ => ⟨"", "", ⟨[], [], none, [], [], none, []⟩, .stmts [], ⟨.function, [], false, false, []⟩, 0, [], .none, .none, .none, .none, none, .none, .none, 0⟩
end
inductive Fk where
  | fa (f : Fa)
  | ox (x : Str) (ke : Bool)
  | ini (x : Str)
  | isx (dom : List Str) (x : Str)
  | isT (dom : List Str) (x : String)
  | isx2 (dom : List Str) (x y : Str)
  | ck1 (dom : List Str) (x : Str)
  | ck2 (dom : List Str) (x y : Str)
  | ei (x : Str)
  | xf (dom : List Str) (f : Str)
  | bas (x : Str) (id : String)
  | vvT (x : String) (id : String)
def cfB : Option PySem.W.CFound → String → Bool
  | some (.val (.builtin i)), id => i == id
  | _, _ => false
theorem cfB_ok {o : Option PySem.W.CFound} {id : String} (h : cfB o id = true) : o = some (.val (.builtin id)) := by
  unfold cfB at h
  split at h
  · have := of_decide_eq_true h; subst this; rfl
  · cases h
abbrev tlOf (ke : Bool) : List Value := if ke then PySem.WuX.keTail else PySem.HandSPX.veTail
abbrev nwOf (ke : Bool) : String := if ke then "LookupError.__new__" else "ValueError.__new__"
def Fk.ok (K : PySem.W.Frag) : Fk → Bool
  | .fa f => f.ok K
  | .ox x ke => oxB K (ga K x) (tlOf ke) (nwOf ke)
  | .ini x => decide (PySem.W.findIn K (.ref (ga K x)) "__init__" = some (some (.ref (ma K (ga K x) "__init__")))) && decide (PySem.W.typeIn K (.ref (ma K (ga K x) "__init__")) = some (.type "function"))
  | .isx dom x => dom.all fun c => excB K (ga K c) && decide (PySem.W.kitOne K (.ref (ga K c)) (.ref (ga K x)) = some (below c x))
  | .isx2 dom x y => dom.all fun c => excB K (ga K c) && decide (PySem.W.kitAny K (.ref (ga K c)) [.ref (ga K x), .ref (ga K y)] = some ([x, y].any fun x => below c x))
  | .isT dom x => dom.all fun c => excB K (ga K c) && decide (PySem.W.kitOne K (.ref (ga K c)) (.type x) = some (below c x))
  | .ck1 dom x => dom.all fun c => decide (PySem.W.exmOne K (.ref (ga K c)) (.ref (ga K x)) = some (below c x))
  | .ck2 dom x y => dom.all fun c => decide (PySem.W.exmAny K (.ref (ga K c)) [.ref (ga K x), .ref (ga K y)] = some ([x, y].any fun x => below c x))
  | .ei x => PySem.W.excIn K (ga K x) PySem.HandSPX.veTail "ValueError.__new__" && PySem.W.keepIn K (.ref (ga K x))
  | .xf dom f => dom.all fun c => !decide (fldE c = f) || (L2.xfB K (ga K c) && decide (PySem.W.findIn K (.ref (ga K c)) f = some none))
  | .bas x id => decide (PySem.W.specialIn K (.ref (ga K x)) "__getattribute__" = some (some (.builtin "type.__getattribute__"))) && (PySem.W.readsIn K (ga K x) (.type "type") && cfB (PySem.W.findCls K (.ref (ga K x)) (.type "type") "__init__") id)
  | .vvT x id => cfB (PySem.W.findCls K (.type x) (.type "type") "__init__") id
section
variable {K : PySem.W.Frag} {x y f : Str} {dom : List Str}
theorem excB_ok {D : Addr} (h : excB K D = true) : ExcC K D := by
  obtain ⟨h1, h⟩ := ba h
  obtain ⟨h2, h⟩ := ba h
  obtain ⟨h3, h⟩ := ba h
  obtain ⟨h4, h⟩ := ba h
  obtain ⟨h5, h⟩ := ba h
  obtain ⟨h6, h⟩ := ba h
  obtain ⟨h7, h8⟩ := ba h
  exact ⟨of_decide_eq_true h1, of_decide_eq_true h2, of_decide_eq_true h3, h4, of_decide_eq_true h5, of_decide_eq_true h6, of_decide_eq_true h7, of_decide_eq_true h8⟩
theorem ox_ok {ke : Bool} (c : (Fk.ox x ke).ok K = true) : OxC K (ga K x) (tlOf ke) (nwOf ke) := by
  obtain ⟨q, h⟩ := ba c
  obtain ⟨h2, h⟩ := ba h
  obtain ⟨h3, h⟩ := ba h
  obtain ⟨h4, h5⟩ := ba h
  refine ⟨?_, of_decide_eq_true h2, of_decide_eq_true h3, of_decide_eq_true h4, h5⟩
  generalize ga K x = C at q ⊢
  split at q
  · rename_i dd cd sl ho
    split at q
    · rename_i C' bm k0 k1 k2 k3 n k5 hm hs
      simp only [Bool.and_eq_true, beq_iff_eq, Bool.not_eq_true'] at q
      obtain ⟨⟨⟨⟨rfl, rfl⟩, hdel⟩, hdic⟩, ht⟩ := q
      obtain ⟨nm, bs, mro, ns, qn, hd, sn, sub, ab, col, del⟩ := cd
      dsimp only at hm hdel hdic
      subst hm hdel hdic
      have hsl : sl = #[k0, k1, k2, k3, some (.builtin (nwOf ke)), k5] := by
        obtain ⟨l⟩ := sl
        simp only at hs
        rw [hs]
      subst hsl
      exact ⟨nm, qn, ns, bs, bm, sn, sub, ab, col, dd, k0, k1, k2, k3, k5, ho, ht⟩
    · cases q
  · cases q
theorem in_ok (c : (Fk.ini x).ok K = true) : PySem.W.findIn K (.ref (ga K x)) "__init__" = some (some (.ref (ma K (ga K x) "__init__"))) := of_decide_eq_true (ba c).1
theorem ti_ok (c : (Fk.ini x).ok K = true) : PySem.W.typeIn K (.ref (ma K (ga K x) "__init__")) = some (.type "function") := of_decide_eq_true (ba c).2
theorem isD_in {c : Str} {b : Bool} (h : isD dom x c = some b) : c ∈ dom ∧ b = below c x := by
  unfold isD at h
  split at h
  · rename_i h1
    exact ⟨List.contains_iff_mem.mp h1, (Option.some.inj h).symm⟩
  · cases h
theorem isD2_in {xs : List Str} {c : Str} {b : Bool} (h : isD2 dom xs c = some b) : c ∈ dom ∧ b = xs.any fun x => below c x := by
  unfold isD2 at h
  split at h
  · rename_i h1
    exact ⟨List.contains_iff_mem.mp h1, (Option.some.inj h).symm⟩
  · cases h
theorem isx_ok (c : (Fk.isx dom x).ok K = true) : ∀ z b, isD dom x z = some b → ExcC K (ga K z) ∧ PySem.W.kitOne K (.ref (ga K z)) (.ref (ga K x)) = some b := fun z b h => by
  obtain ⟨hm, rfl⟩ := isD_in h
  obtain ⟨h1, h2⟩ := ba (List.all_eq_true.mp c z hm)
  exact ⟨excB_ok h1, of_decide_eq_true h2⟩
theorem isT_ok {t : String} (c : (Fk.isT dom t).ok K = true) : ∀ z b, isD dom t z = some b → ExcC K (ga K z) ∧ PySem.W.kitOne K (.ref (ga K z)) (.type t) = some b := fun z b h => by
  obtain ⟨hm, rfl⟩ := isD_in h
  obtain ⟨h1, h2⟩ := ba (List.all_eq_true.mp c z hm)
  exact ⟨excB_ok h1, of_decide_eq_true h2⟩
theorem isx2_ok (c : (Fk.isx2 dom x y).ok K = true) : ∀ z b, isD2 dom [x, y] z = some b → ExcC K (ga K z) ∧ PySem.W.kitAny K (.ref (ga K z)) [.ref (ga K x), .ref (ga K y)] = some b := fun z b h => by
  obtain ⟨hm, rfl⟩ := isD2_in h
  obtain ⟨h1, h2⟩ := ba (List.all_eq_true.mp c z hm)
  exact ⟨excB_ok h1, of_decide_eq_true h2⟩
theorem ck1_ok (c : (Fk.ck1 dom x).ok K = true) : ∀ z b, isD dom x z = some b → PySem.W.exmOne K (.ref (ga K z)) (.ref (ga K x)) = some b := fun z b h => by
  obtain ⟨hm, rfl⟩ := isD_in h
  exact of_decide_eq_true (List.all_eq_true.mp c z hm)
theorem ck2_ok (c : (Fk.ck2 dom x y).ok K = true) : ∀ z b, isD2 dom [x, y] z = some b → PySem.W.exmAny K (.ref (ga K z)) [.ref (ga K x), .ref (ga K y)] = some b := fun z b h => by
  obtain ⟨hm, rfl⟩ := isD2_in h
  exact of_decide_eq_true (List.all_eq_true.mp c z hm)
theorem ei_ok (c : (Fk.ei x).ok K = true) : PySem.W.excIn K (ga K x) PySem.HandSPX.veTail "ValueError.__new__" = true := (ba c).1
theorem kc_ok (c : (Fk.ei x).ok K = true) : PySem.W.keepIn K (.ref (ga K x)) = true := (ba c).2
theorem xf_ok (c : (Fk.xf dom f).ok K = true) : ∀ z, xsD dom f z = true → XfC K (ga K z) ∧ PySem.W.findIn K (.ref (ga K z)) f = some none := fun z h => by
  obtain ⟨h1, h2⟩ := ba h
  have h3 := List.all_eq_true.mp c z (List.contains_iff_mem.mp h1)
  rw [h2] at h3
  obtain ⟨h4, h5⟩ := ba (show (L2.xfB K (ga K z) && decide (PySem.W.findIn K (.ref (ga K z)) f = some none)) = true from h3)
  exact ⟨L2.xfB_ok h4, of_decide_eq_true h5⟩
theorem sg_ok {id : String} (c : (Fk.bas x id).ok K = true) : PySem.W.specialIn K (.ref (ga K x)) "__getattribute__" = some (some (.builtin "type.__getattribute__")) := of_decide_eq_true (ba c).1
theorem rd_ok {id : String} (c : (Fk.bas x id).ok K = true) : PySem.W.readsIn K (ga K x) (.type "type") = true := (ba (ba c).2).1
theorem vv_ok {id : String} (c : (Fk.bas x id).ok K = true) : PySem.W.findCls K (.ref (ga K x)) (.type "type") "__init__" = some (.val (.builtin id)) := cfB_ok (ba (ba c).2).2
theorem vvT_ok {t id : String} (c : (Fk.vvT t id).ok K = true) : PySem.W.findCls K (.type t) (.type "type") "__init__" = some (.val (.builtin id)) := cfB_ok c
/-- a def without defaults as the layer wants it -/
theorem fun_of {x qual : Str} {st : Stmt} {a : Addr} {fd : FuncData} (F : FunD K x qual (defArgs st) (defBody st) (defScope st) [] [] a fd) : L2.Fun K x qual st a (foK K a) := by
  obtain ⟨oc, od, dV, kV, doc, pm, an, cdv, ct, osl, rfl, lk, hcd, hD, _⟩ := F.ex
  have e : foK K a = PySem.W.fnOf x qual (defArgs st) (defBody st) (defScope st) dV kV doc pm an cdv ct := by unfold foK; rw [lk]
  rcases hD with ⟨_, rfl⟩ | ⟨e, _⟩
  · exact ⟨⟨oc, od, kV, doc, pm, an, cdv, ct, osl, e, by rw [e]; exact lk, hcd⟩, F.kp⟩
  · exact absurd rfl e
theorem binds_of {x qual : Str} {st : Stmt} {ps : List Str} {a : Addr} (F : L2.Fun K x qual st a (foK K a))
    (h : ∀ (kV doc pm : Value) (an : Option Addr) (cdv ct : Value) (us : List Value), us.length = ps.length → bindArgs (PySem.W.fnOf x qual (defArgs st) (defBody st) (defScope st) .none kV doc pm an cdv ct) ⟨us, []⟩ = pure (ps.zip us)) : Binds K (foK K a) ps [] := by
  obtain ⟨oc, od, kV, doc, pm, an, cdv, ct, osl, e, _⟩ := F.ex
  rw [e]
  exact .all (h kV doc pm an cdv ct)
theorem bindsTo_of {x qual : Str} {st : Stmt} {ps : List Str} {a : Addr} (F : L2.Fun K x qual st a (foK K a))
    (h : ∀ (kV doc pm : Value) (an : Option Addr) (cdv ct : Value) (us : List Value), us.length = ps.length → bindArgs (PySem.W.fnOf x qual (defArgs st) (defBody st) (defScope st) .none kV doc pm an cdv ct) ⟨us, []⟩ = pure (ps.zip us)) (s : Shared) (us : List Value) (hl : us.length = ps.length) : BindsTo s (foK K a) ⟨us, []⟩ (ps.zip us) := by
  obtain ⟨oc, od, kV, doc, pm, an, cdv, ct, osl, e, _⟩ := F.ex
  rw [e]
  exact .of_eq (h kV doc pm an cdv ct us hl)
end
/-! ### the Hook -/
def obsW (fa : List Fk) (fn : List DefD) (K : PySem.W.Frag) : AlD := ((fa.all fun f => f.ok K) && fn.all fun d => d.ok K, fn.map fun d => fnW K d.at_)
def SaysW (fa : List Fk) (fn : List DefD) (K : PySem.W.Frag) : Prop := obsW fa fn K = valD fn
def obsWG (n : Nat) (fa : List Fk) (fn : List DefD) (g : Addr → Option Obj) : AlD := obsW fa fn (frG g (cStatics :: asD g n))
def hookW (n : Nat) (fa : List Fk) (fn : List DefD) : PySem.W.Hook where
  α := AlD
  obs := fun s => obsWG n fa fn s.heap.get?
  val := fun _ => valD fn
  says := fun _ h => ∃ K : PySem.W.Frag, K.In h ∧ SaysW fa fn K
  of := fun _ _ e => ⟨_, frG_in, e⟩
  keeps := fun _ _ _ ⟨K, hK, c⟩ k => ⟨K, PySem.W.Frag.In.keeps hK k, c⟩
theorem obsWG_eq {n : Nat} {fa : List Fk} {fn : List DefD} {g : Addr → Option Obj} {s : Shared} (h : ∀ a, g a = s.heap.get? a) : obsWG n fa fn g = (hookW n fa fn).obs s := by
  have e : g = s.heap.get? := funext h
  rw [e] <;> rfl
section
variable {fa : List Fk} {fn : List DefD} {K : PySem.W.Frag}
theorem SaysW.fact (c : SaysW fa fn K) (i : Nat) {f : Fk} (h : fa[i]? = some f := by rfl) : f.ok K = true := by
  have c1 := (ba (show ((fa.all fun f => f.ok K) && fn.all fun d => d.ok K) = true from congrArg (fun z : AlD => z.1) c)).1
  exact List.all_eq_true.mp c1 f (List.mem_of_getElem? h)
theorem SaysW.def_ (c : SaysW fa fn K) (i : Nat) {d : DefD} (h : fn[i]? = some d := by rfl) : ∃ fd, FunD K d.name d.qual d.params d.body d.scope (d.dvs K) (d.kws K) (fAd K d.at_) fd := by
  have c2 := (ba (show ((fa.all fun f => f.ok K) && fn.all fun d => d.ok K) = true from congrArg (fun z : AlD => z.1) c)).2
  have e : fn.map (fun d => fnW K d.at_) = fn.map DefD.val := congrArg (fun z : AlD => z.2) c
  have e2 : (fn.map fun d => fnW K d.at_)[i]? = (fn.map DefD.val)[i]? := by rw [e]
  rw [List.getElem?_map, List.getElem?_map, h] at e2
  exact DefD.funD (Option.some.inj e2) (List.all_eq_true.mp c2 d (List.mem_of_getElem? h))
end
/-- a law from its head's facts -/
theorem walk_w {l : PySem.W.OpenLaw} {n k : Nat} {q : Program} {loose : List Str} {XP : (Str → Option Value) → Heap → Prop} {YP : World → Heap → Prop} {d : DefRec} {x : Str}
    (hn : l.most = some n) (hn2 : n ≤ sizeLine) (hn3 : n ≤ 63) (hdf : d.params.defaults = []) (hr : Room k callerA)
    (F : ∀ (w : World) (mg : Str → Option Value) (fa : Addr) (h : Heap), YP w h → h.Ns mainGlobals mg → mg d.name = some (.ref fa) →
      ∃ (K : PySem.W.Frag) (fd : FuncData) (cs : List (Addr × Addr)), K.In h ∧ TabsAt K mg cs h ∧ (∀ (s : Shared) (u : Value), BindsTo s fd ⟨[u], []⟩ [(x, u)]) ∧ ∀ base : Heap, K.In base → base.Ns mainGlobals mg → (∀ p ∈ cs, LamX.TabB base mg p.1 p.2) → FnG l.prog w K mg base k fa fd [x] (spLaw K (isTb cs))) :
    PySem.W.WalkO q loose XP YP l.row.toRowW d [] (fun f vs => PySem.call f vs) := by
  refine Att.attach_callB hn hdf ?_
  intro w s₀ s₁ mg mb fa o pm cd doc a vs ns G Y ho hd hcd hmg hobj hints hlen hbits hg
  obtain ⟨K, fd, cs, kin, hT, hb, hF⟩ := F w mg fa _ Y G.T.g hmg
  exact end_call kin G.T.g G.T.b G.T.builtins G.T.nolimit hg hT G.T.bmain hobj hints (Nat.le_trans hlen hn2) hr hF hb (fun H hH hS => ⟨a, ns, rfl, hH, hS, Nat.le_trans hlen hn3, fun z hz => bits_lt (hbits z hz), fun _ => rfl⟩)
end Wu

/-! Reversed copies, places of items, isinstance by several classes, try with a suite that returns. -/
namespace HT
open PySem PySem.Spec PyProof.Rows L2
section
variable {prog : Program} {w : World} {A : Around} {E : Value → Shared → Prop} {s : Shared}
theorem fm_congr {α β : Type} {f g : α → Option β} : ∀ {l : List α}, (∀ x ∈ l, f x = g x) → l.filterMap f = l.filterMap g
  | [], _ => rfl
  | x :: l, h => by
    rw [List.filterMap_cons, List.filterMap_cons, h x List.mem_cons_self, fm_congr fun y hy => h y (List.mem_cons_of_mem x hy)]
theorem pickDown (xs : Array Value) : ((List.range xs.size).filterMap fun (m : Nat) => xs[(((xs.size : Int) - 1) + (m : Int) * (-1)).toNat]?).toArray = xs.toList.reverse.toArray := by
  congr 1
  have e := PySem.W.krv_pick xs
  unfold slicePick at e
  rw [show sliceBounds none none (some (-1)) xs.size = (((xs.size : Int) - 1), -1, -1) from rfl] at e
  rw [PySem.W.krv_sliceRange] at e
  have e2 := congrArg Array.toList e
  simp only [List.filterMap_map] at e2
  rw [← e2]
  apply fm_congr
  intro m hm
  have := List.mem_range.mp hm
  have e3 : (((xs.size : Int) - 1) + (m : Int) * (-1)).toNat = xs.size - 1 - m := by omega
  rw [e3] <;> rfl
theorem getItem_tuple_down {t sl : Addr} {items : Array Value} {vs : Value} {Q : Value → Shared → Prop} (ht : IsTup s.heap t items) (hs : s.heap.IsSliceOf sl .none .none vs) (ps : IsPart vs (some (-1)))
    (h : Q (.ref s.heap.objs.size) { s with heap := s.heap.push { cls := .type "tuple", data := .seq items.toList.reverse.toArray } })
    (hsz : items.size ≤ sizeLine) : wpAny (model prog w) A (getItem (.ref t) (.ref sl)) Q E s := by
  have htake : sizeOk (.seq items.toList.reverse.toArray) := by
    show items.toList.reverse.toArray.size ≤ sizeLine
    rw [List.size_toArray, List.length_reverse, Array.length_toList]
    exact hsz
  obtain ⟨os, hos, hcs, hds⟩ := id hs
  have hTs : s.TypeIs (.ref sl) "slice" := ⟨os, hos, hcs⟩
  unfold getItem
  try with_reducible refine wpAny_holding ?_
  first | refine wpAny_bind (wpAny_pure ?_) | skip
  refine wpAny_bind (wpAny_sequenceKey ht.typeIs (by decide) ?_)
  refine wpAny_bind (wpAny_callSpecial?_slot (name := Str.ofString "__getitem__") ht.typeIs PyProof.Rows.slot_tuple_getitem
    (wpAny_call_entry PyProof.Rows.slot_tuple_getitem ht.typeIs entry_tuple_getitem ?_ (args_tuple_getitem _ _)))
  show wpAny _ _ (Builtin.Tuple.tupleItemsOf (.ref t) >>= _) _ _ s
  refine wpAny_bind (tupleItemsOf_ ht ?_)
  refine wpAny_bind (wpAny_typeOf hTs ?_)
  rw [if_pos (by decide)]
  have happ : ∀ {Q : Int × Int × Nat → Shared → Prop}, Q ((items.size : Int) - 1, -1, items.size) s → wpAny (model prog w) (A.in1) (Builtin.Slice.sliceApplied (.ref sl) (pure (items.size : Int))) Q (fun e s' => E e s') s := by
    intro Q hq
    unfold Builtin.Slice.sliceApplied Builtin.Slice.sliceFields
    refine wpAny_bind (wpAny_bind (wpAny_field hos hds (x := .none) rfl (wpAny_bind (wpAny_field hos hds (x := .none) rfl (wpAny_bind (wpAny_field hos hds (x := vs) rfl (wpAny_pure ?_)))))))
    refine wpAny_bind (slicePart_ ps ?_)
    show wpAny _ _ (if ((-1 : Int) == 0) = true then _ else _) _ _ s
    rw [if_neg (by decide)]
    refine wpAny_bind (slicePart_none (wpAny_bind (slicePart_none (wpAny_bind (wpAny_pure ?_)))))
    show wpAny _ _ (pure ((items.size : Int) - 1, (-1 : Int), Builtin.Slice.slicePlaces ((items.size : Int) - 1) (-1) (-1))) _ _ s
    have e : Builtin.Slice.slicePlaces ((items.size : Int) - 1) (-1) (-1) = items.size := by
      unfold Builtin.Slice.slicePlaces
      rw [if_neg (by decide)]
      split
      · rw [show (- -1 : Int) = 1 by decide, Int.ediv_one]; omega
      · omega
    rw [e]
    exact wpAny_pure hq
  refine wpAny_bind (happ ?_)
  have hno : ¬ ((((items.size : Int) - 1) == 0 && (-1 : Int) == 1 && items.size == items.size) = true) := by
    intro q
    rw [Bool.and_eq_true, Bool.and_eq_true] at q
    exact absurd q.1.2 (by decide)
  show wpAny _ _ (if (((items.size : Int) - 1) == 0 && (-1 : Int) == 1 && items.size == items.size) = true then _ else _) _ _ s
  rw [if_neg hno, pickDown]
  first
    | exact wpAny_bind (m := Builtin.Tuple.tupleExact _) (wpAny_newObj_type (wpAny_pure ⟨_, rfl, wpAny_pure h⟩) htake)
    | exact wpAny_bind (m := Builtin.Tuple.tupleExact _) (wpAny_newObj_type (wpAny_bind (wpAny_pure (wpAny_pure ⟨_, rfl, wpAny_pure h⟩))) htake)
    | exact wpAny_bind (wpAny_bind (m := Builtin.Tuple.tupleExact _) (wpAny_newObj_type (wpAny_pure (wpAny_pure ⟨_, rfl, wpAny_pure h⟩)) htake))
    | exact wpAny_bind (wpAny_bind (m := Builtin.Tuple.tupleExact _) (wpAny_newObj_type (wpAny_pure ⟨_, rfl, wpAny_pure h⟩) htake))
end
end HT
namespace Wu
open PySem PySem.Spec PyProof.Rows L2
section
variable {X : Cx} {ct : Ct} {W : WX}
/-! ### e[::-1] -/
def tRevA (K : PySem.W.Frag) (te : TE) : TE := fun σ H Q => te σ H fun x H1 => ∃ a xs, x = .ref a ∧ ((SqL K H1 a xs ∧ ∀ p, H1 p = none → Q (.ref p) (upd H1 p (.lst xs.reverse))) ∨ (SqT K H1 a xs ∧ Lay H1 xs.reverse Q))
theorem pe_revA {e : Expr} {te : TE} {k : Nat} {p1 p2 p3 pos : Pos} (he : PE X e te) : PE X (.Subscript e (.Slice none none (some (.UnaryOp .USub (.Constant (.int 1) k p1) p2)) p3) pos) (tRevA X.K te) := by
  refine ⟨fun pins s σ H Q I h => ?_⟩
  refine Subscript_ (thn (he.run pins s σ H _ I h) fun v s1 ⟨x, H1, I1, r1, q1⟩ => ?_)
  obtain ⟨a, xs, ex, q1⟩ := q1
  subst ex
  cases r1
  have hst : PO X (some (.UnaryOp .USub (.Constant (.int 1) k p1) p2)) (tPart (tUn (rU fun i => .int (-i)) (tC (.int 1)))) := po_some (pe_un un_neg pe_int)
  refine wpAny_Slice (thn (po_none.run pins s1 σ H1 (fun o H2 => o = none ∧ H2 = H1) I1 ⟨rfl, rfl⟩) fun vl s2 ⟨l, H2, I2, pl, el, e2⟩ => ?_)
  subst el e2
  refine thn (po_none.run pins s2 σ H2 (fun o H3 => o = none ∧ H3 = H2) I2 ⟨rfl, rfl⟩) fun vu s3 ⟨u, H3, I3, pu, eu, e3⟩ => ?_
  subst eu e3
  refine thn (hst.run pins s3 σ H3 (fun o H4 => o = some (-1) ∧ H4 = H3) I3 ⟨1, rfl, -1, rfl, rfl, rfl⟩) fun vs s4 ⟨o, H4, I4, ps, eo, e4⟩ => ?_
  subst eo e4
  have I5 : Inv X pins σ H4 { s4 with heap := s4.heap.push { cls := .type "slice", data := .fields #[vl, vu, vs] } } := I4.kept (t' := s4.toks) fun b ob q => Heap.get?_push_of_some _ q
  show wpAny (model X.prog X.w) X.A (subscriptTail e (.Slice none none (some (.UnaryOp .USub (.Constant (.int 1) k p1) p2)) p3) (.ref a) (.ref s4.heap.objs.size)) (EP X pins σ Q) X.xe { s4 with heap := s4.heap.push { cls := .type "slice", data := .fields #[vl, vu, vs] } }
  cases pl
  cases pu
  rcases q1 with ⟨hx, q⟩ | ⟨hx, q⟩
  · obtain ⟨its, r, ht, hz⟩ := I5.list hx
    have hlen := r.length
    refine tail_any (ops := [.ref a, .ref s4.heap.objs.size]) ht.isList.typeIs (PySem.slot_list_getitem.lookup) ?_ (by with_unfolding_all rfl)
    refine wpAny_getItem_list_slice ht.isList (Heap.IsSliceOf.new _ .none .none vs) .none .none ps (by decide) ?_ (by rw [List.size_toArray]; omega)
    rw [PySem.W.krv_pick]
    refine ⟨.ref _, _, I5.laid (t' := s4.toks) (o := .lst xs.reverse) (fun b ob q => Heap.get?_push_of_some _ q) (Nat.le_refl _) ?_, rfl, q _ (I5.hok.fresh (Nat.le_refl _))⟩
    exact ⟨by rw [List.length_reverse]; exact hz, _, 0, r.reverse, Heap.get?_push_size _ rfl⟩
  · obtain ⟨its, r, ht, hz⟩ := I5.tuple hx
    have hlen := r.length
    refine tail_any (ops := [.ref a, .ref s4.heap.objs.size]) ht.typeIs (PyProof.Rows.slot_tuple_getitem.lookup) ?_ (by with_unfolding_all rfl)
    refine HT.getItem_tuple_down ht (Heap.IsSliceOf.new _ .none .none vs) ps ?_ (by rw [List.size_toArray]; omega)
    exact laid_tup I5 q (by rw [List.length_reverse]; exact hz) r.reverse
def pRev : D → Option D
  | .nd .tup l => some (.nd .tup l.reverse)
  | .nd .lst l => some (.nd .lst l.reverse)
  | _ => none
def mRev (m : M D) : M D := m.bnd fun d => .opt (pRev d)
theorem d_rev {e : Expr} {k : Nat} {p1 p2 p3 pos : Pos} {m : M D} (he : Ed X ct W e m) : Ed X ct W (.Subscript e (.Slice none none (some (.UnaryOp .USub (.Constant (.int 1) k p1) p2)) p3) pos) (mRev m) := by
  refine PE.imp (pe_revA he) fun σ H Q h => ?_
  obtain ⟨F, B, E, fps, rl, h⟩ := h
  refine ⟨F, B, E, fps, rl, (Pst.bind h).imp ?_⟩
  rintro v H1 ⟨d, E1, B1, fps1, rl1, s1, r1, h1⟩
  obtain ⟨z, ez, h4⟩ := opt_of h1
  have o := out_of rl1 h4
  unfold pRev at ez
  split at ez
  · cases ez
    obtain ⟨p, xs, rfl, hx, rx⟩ := r1.ndI
    exact ⟨p, xs, rfl, .inr ⟨sqT_mono rl1.bs hx.t, lay_of o rl1.bs rx.rev⟩⟩
  · cases ez
    obtain ⟨p, xs, rfl, hx, rx⟩ := r1.ndI
    exact ⟨p, xs, rfl, .inl ⟨SqL.of (rl1.bs _ _ hx), fun t ht => o.2 t _ ht (new_lst (same_new rl1.bs ht) rx.rev)⟩⟩
  · cases ez
/-! ### t.index(x) -/
def rIndexT (K : PySem.W.Frag) : V → List V → Hp → VK → Prop := fun x xs H Q => ∃ (a : Addr) (y : V) (d : PyData) (ds : List PyData) (j : Nat) (z : PyData), x = V.ref a ∧ xs = [y] ∧ Dp K H (V.ref a) (.tuple ds) ∧ Dp K H y d ∧
  PyData.canLayAll0 ds = true ∧ d.canLay0 = true ∧ d.depth ≤ 60 ∧ ds[j]? = some z ∧ PyData.eqv z d = true ∧ (∀ (m : Nat) (z' : PyData), m < j → ds[m]? = some z' → PyData.eqv z' d = false) ∧ Q (.int (j : Nat)) H
theorem mt_indexT (hu : X.A.units + 64 < cLine) : MtR X "tuple.index" (rIndexT X.K) := by
  intro pins s σ H x xs v us Q I rx rxs h
  obtain ⟨a, y, d, ds, j, z, rfl, rfl, hl, hy, hxs, sd, sdd, hz, hzj, hno, q⟩ := h
  cases rx
  cases rxs with
  | cons ry rt =>
    rename_i uy ut
    cases rt
    obtain ⟨bs, r1⟩ := Dp.reads I d y uy hy ry
    have hroom : X.A.units + 1 + min (PyData.depthAll ds) d.depth < cLine := by
      have := Nat.min_le_right (PyData.depthAll ds) d.depth
      omega
    cases hl with
    | tup hs ha =>
      obtain ⟨its, rv, pl, hlen⟩ := I.tuple hs
      obtain ⟨⟨cls, dd, dt, sl⟩, ho, hc, n, hd⟩ := pl
      simp only at hc hd
      subst hc
      subst hd
      obtain ⟨as, h4⟩ := Dp.readsAll I ds _ its ha rv
      have hn : its.length = ds.length := SeqAt.ReadsAll.length ds its as h4
      have hmap : its.map (SeqAt.readOf s.heap) = ds := SeqAt.readsAll_map ds its as hxs h4
      obtain ⟨hjd, _⟩ := List.getElem?_eq_some_iff.mp hz
      have hjl : j < its.length := by omega
      have hj : j < its.toArray.size := by simpa using hjl
      have at_ : ∀ (m : Nat) (hm : m < its.toArray.size) (z' : PyData), ds[m]? = some z' → SeqAt.readOf s.heap its.toArray[m] = z' := by
        intro m hm z' hz'
        have hml : m < its.length := by simpa using hm
        rw [← hmap, List.getElem?_map, List.getElem?_eq_getElem hml] at hz'
        have e1 : SeqAt.readOf s.heap its[m] = z' := Option.some.inj (show some (SeqAt.readOf s.heap its[m]) = some z' from hz')
        simpa using e1
      refine call_meets PySem.F.slot_tuple_index ⟨_, ho, rfl⟩ PySem.F.entry_tuple_index (PySem.F.args_tuple_index_2 _ _)
        (TI.tuple_indexAt a its.toArray n dd sl uy (fun u => PyData.eqv (SeqAt.readOf s.heap u) d) j hj ?_ ?_) ⟨ho, SeqAt.items_eqAt (vs := its.toArray) (show ReadsAll s.heap its.toArray.toList ds as from h4) r1 hxs sd hroom, ?_⟩
      · show PyData.eqv (SeqAt.readOf s.heap its.toArray[j]) d = true
        rw [at_ j hj z hz]
        exact hzj
      · intro m hm hmj
        have hmd : m < ds.length := by
          have : m < its.length := by simpa using hm
          omega
        have hz' : ds[m]? = some ds[m] := List.getElem?_eq_getElem hmd
        show PyData.eqv (SeqAt.readOf s.heap its.toArray[m]) d = false
        rw [at_ m hm _ hz']
        exact hno m _ hmj hz'
      · exact ⟨.int (j : Nat), H, I.tok _, ⟨_, rfl⟩, q⟩
theorem NoD.dict {pins : List (Addr × Obj)} {σ : L2.St} {H : Hp} {s : Shared} {a : Addr} (I : Inv X pins σ H s) (h : NoD X.K H a) : ∃ ob, s.heap.get? a = some ob ∧ ob.dict = none := by
  rcases h with ⟨o, u, h1, h2⟩ | ⟨o, h1, h2⟩
  · exact ⟨o, (I.hok a _ h2).1, h1⟩
  · exact ⟨o, I.kIn a o h1, h2⟩
/-- t.m(..), t a tuple -/
def tBT (K : PySem.W.Frag) (r : V → List V → Hp → VK → Prop) (to : TE) (t : TA) : TE := fun σ H Q => to σ H fun x H1 => ∃ a xs, x = .ref a ∧ SqT K H1 a xs ∧ NoD K H1 a ∧ t σ H1 fun vs H2 => r x vs H2 Q
theorem pe_bt {o e : Expr} {es : List Expr} {to : TE} {t : TA} {name : Str} {apos cpos : Pos} {id : String} {r : V → List V → Hp → VK → Prop} (slot : Slot "tuple" name id) (hty : typeOf (.builtin id) = pure (.type "method_descriptor")) (hm : MtR X id r) (ho : PE X o to) (ha : PA X (e :: es) t)
    (hbase : attributeBase o name X.env (eval o X.env) = eval o X.env := by rfl)
    (hfew : ((backTo cpos (starEach (e :: es) X.env)).all (fun x => !x.1) && (backToKw cpos (keywordEach [] X.env)).all (fun x => x.1.isSome)
      && decide ((e :: es).length + ([] : List Keyword).length + (if ([] : List Keyword).isEmpty then 0 else 1) < 30)) = true := by rfl)
    (hline : (apos.endLine == cpos.line) = true := by rfl) (hs : starEach (e :: es) X.env = (false, eval e X.env) :: starEach es X.env := by rfl) (hplain : (backTo cpos (starEach es X.env)).any (·.1) = false := by rfl) :
    PE X (.Call (.Attribute o name apos) (e :: es) [] cpos) (tBT X.K r to t) := by
  refine ⟨fun pins s σ H Q I h => ?_⟩
  refine wpAny_Call_method_late hbase hfew hline rfl (thn (ho.run pins s σ H _ I h) fun v s1 ⟨x, H1, I1, r1, a, xs, ex, hx, hn, q1⟩ => ?_)
  subst ex
  cases r1
  obtain ⟨its, _, ht, _⟩ := I1.tuple hx
  refine ⟨"tuple", id, PySem.F.plainAttrs_tuple, slot, hty, ht.typeIs, fun b e => ?_, ?_⟩
  · cases e; exact hn.dict I1
  have hA := ha.run cpos pins s1 σ H1 _ I1 q1
  rw [hs] at hA ⊢
  refine Calls.callWith_builtin (by show (false || (backTo cpos (starEach es X.env)).any (·.1)) = false; rw [hplain] <;> rfl) (Calls.evalArgs_plain ?_)
  exact thn hA fun us s2 ⟨vs, H2, I2, r2, q2⟩ => hm pins s2 σ H2 (.ref a) vs _ us Q I2 rfl r2 q2
def D.lay (y : D) : Bool := y.isPy && y.py.canLay0 && decide (y.py.depth ≤ 60)
/-- the first place of y -/
def pIndex : D → D → Option D
  | .nd .tup l, y => if (isPyL l && PyData.canLayAll0 (pyL l)) && y.lay then ((pyL l).findIdx? fun z => PyData.eqv z y.py).map fun (j : Nat) => D.int (j : Int) else none
  | _, _ => none
/-- c: of which tuples it is asked -/
def mIndex (c : List D → Bool) (mo m : M D) : M D := mo.bnd fun o => match o with
  | .nd .tup l => if c l then m.bnd fun y => .opt (pIndex (.nd .tup l) y) else .bad
  | _ => .bad
def D.isStr : D → Bool
  | .str _ => true
  | _ => false
abbrev anyT : List D → Bool := fun _ => true
abbrev noStrs : List D → Bool := fun l => !(l.all D.isStr)
theorem RpL.strT {K : PySem.W.Frag} {B : Hp} : ∀ {xs : List V} {l : List D}, RpL K ct B xs l → strT xs = l.all D.isStr
  | _, _, .nil => rfl
  | _, _, .cons h r => by
    have e := r.strT
    unfold Wu.strT at e ⊢
    rw [List.all_cons, List.all_cons, e]
    cases h <;> rfl
theorem ex_any (h : ct.md = 1) {K : PySem.W.Frag} {B : Hp} {xs : List V} {l : List D} (r : RpL K ct B xs l) (e : anyT l = true) : exT ct.md xs = true := by unfold exT; rw [h]; rfl
theorem ex_no {K : PySem.W.Frag} {B : Hp} {xs : List V} {l : List D} (r : RpL K ct B xs l) (e : noStrs l = true) : exT ct.md xs = true := by unfold exT; rw [r.strT, show (!(l.all D.isStr)) = true from e, Bool.or_true]
theorem pyL_len : ∀ l : List D, (pyL l).length = l.length
  | [] => rfl
  | _ :: l => congrArg (· + 1) (pyL_len l)
theorem d_index (c : List D → Bool) {o e : Expr} {apos pos : Pos} {mo m : M D} (hc : ∀ {B : Hp} {xs : List V} {l : List D}, RpL X.K ct B xs l → c l = true → exT ct.md xs = true) (hu : X.A.units + 64 < cLine) (ho : Ed X ct W o mo) (he : Ed X ct W e m)
    (h1 : starEach [e] X.env = (false, eval e X.env) :: starEach [] X.env := by rfl)
    (hbase : attributeBase o "index" X.env (eval o X.env) = eval o X.env := by rfl)
    (hfew : ((backTo pos (starEach [e] X.env)).all (fun x => !x.1) && (backToKw pos (keywordEach [] X.env)).all (fun x => x.1.isSome)
      && decide ([e].length + ([] : List Keyword).length + (if ([] : List Keyword).isEmpty then 0 else 1) < 30)) = true := by rfl)
    (hline : (apos.endLine == pos.line) = true := by rfl) (hpl : (backTo pos (starEach [] X.env)).any (·.1) = false := by rfl) :
    Ed X ct W (.Call (.Attribute o "index" apos) [e] [] pos) (mIndex c mo m) := by
  refine PE.imp (pe_bt PySem.F.slot_tuple_index PySem.F.type_tuple_index (mt_indexT hu) ho (pa_cons he pa_nil h1) hbase hfew hline h1 hpl) fun σ H Q h => ?_
  obtain ⟨F, B, E, fps, rl, h⟩ := h
  refine ⟨F, B, E, fps, rl, (Pst.bind h).imp ?_⟩
  rintro v H1 ⟨d, E1, B1, fps1, rl1, s1, r1, h1⟩
  split at h1
  case h_2 => exact h1.elim
  rename_i l
  split at h1
  case isFalse => exact h1.elim
  rename_i hcl
  obtain ⟨a, xs, rfl, hx, rx⟩ := r1.ndI
  refine ⟨a, xs, rfl, sqT_mono rl1.bs hx.t, (hx.x (hc rx hcl)).mono rl1.bs, ?_⟩
  refine ⟨F, B1, E1, fps1, rl1, (Pst.bind h1).imp ?_⟩
  rintro y H2 ⟨dy, E2, B2, fps2, rl2, s2, r2, h2⟩
  obtain ⟨z, ez, h3⟩ := opt_of h2
  have ez' : (if (isPyL l && PyData.canLayAll0 (pyL l)) && dy.lay then ((pyL l).findIdx? fun z => PyData.eqv z dy.py).map fun (j : Nat) => D.int (j : Int) else none) = some z := ez
  split at ez'
  · rename_i hk
    obtain ⟨j, ej, rfl⟩ := Option.map_eq_some_iff.mp ez'
    obtain ⟨k1, k2⟩ := Bool.and_eq_true_iff.mp hk
    obtain ⟨k1, k3⟩ := Bool.and_eq_true_iff.mp k1
    obtain ⟨k2, k4⟩ := Bool.and_eq_true_iff.mp k2
    obtain ⟨k2, k5⟩ := Bool.and_eq_true_iff.mp k2
    obtain ⟨hj, g1, g2⟩ := List.findIdx?_eq_some_iff_getElem.mp ej
    refine ⟨a, y, dy.py, pyL l, j, (pyL l)[j], rfl, rfl, .tup (sqT_mono rl2.bs (sqT_mono s2 hx.t)) (RpL.dp (Same.trans s2 rl2.bs) l xs rx k1), Rp.dp rl2.bs dy y r2 k2, k3, k5, of_decide_eq_true k4, List.getElem?_eq_getElem hj, g1, fun m z' hm hz' => ?_, (out_of rl2 h3).1 _ (.int _)⟩
    obtain ⟨hm', e'⟩ := List.getElem?_eq_some_iff.mp hz'
    have := g2 m hm
    rw [e'] at this
    simpa using this
  · cases ez'
/-! ### -n -/
theorem d_neg {n : Int} {j : Nat} {p1 p2 : Pos} : Ed X ct W (.UnaryOp .USub (.Constant (.int n) j p1) p2) (mC (.int (-n))) := by
  refine PE.imp (pe_un un_neg pe_int) fun σ H Q h => ?_
  obtain ⟨F, B, E, fps, rl, h⟩ := h
  exact ⟨n, rfl, h _ B H _ rl (Same.refl B) (.int (-n))⟩
/-! ### try: body / except T: return constant -/
def sTryC (ck : Str → Option Bool) (d : D) (bm : SM) : SM := fun E => match bm E with
  | .ex x E' => (match ck x.cls with
    | some true => .ok (.rt d) E'
    | some false => .ex x E'
    | none => .bad)
  | r => r
theorem s_tryC {x : Str} {C : Addr} {ck : Str → Option Bool} {d : D} {v : V} {e : Expr} {body : List Stmt} {np p3 pos pos' : Pos} {bm : SM} (hs : X.stack = X.env :: X.outer) (hf : X.env.frame = some X.env.locals) (hc : Names X x (.ref C)) (tk : Takes X W)
    (hck : ∀ c b, ck c = some b → PySem.W.exmOne X.K (.ref (ct c)) (.ref C) = some b) (hd : ∀ B, Rp X.K ct B v d)
    (hb : ∀ (W : WX) (pn : List (Addr × Obj)) (xe : Value → Shared → Prop), Takes (X.tr pn xe) W → PassesOwn (model X.prog X.w) X.A X.env xe → Bd (X.tr pn xe) ct W body bm)
    (hsu : ∀ (a : Addr) (pn : List (Addr × Obj)), PE (X.suite a pn) e (tC v)) :
    Sd X ct W (.Try body [.ExceptHandler (some (.Name x np)) none [.Return (some e) p3] pos'] [] [] pos) (sTryC ck d bm) := by
  refine PS.imp (ps_try_only (tb := fun W => tMS X.K ct W bm) (ts := fun _ _ _ => tRet (tC v)) hs hf hc tk hb fun a oe cls d pn _ _ => pss_one (ps_ret (hsu a _))) fun N σ H h => ?_
  obtain ⟨F, B, E, fps, rl, h⟩ := h
  have h' : PstS X.K ct W F B (sTryC ck d bm E) N := h
  unfold sTryC at h'
  refine ⟨F, B, E, fps, rl, ?_⟩
  cases eb : bm E with
  | bad => rw [eb] at h'; exact h'
  | ok f E' =>
    rw [eb] at h'
    cases f with
    | nx => exact h'
    | rt d => exact h'
    | bk => exact h'
    | ct => exact h'
  | ex x E' =>
    rw [eb] at h'
    dsimp only at h'
    intro c dx σ' B' H' fps' r' s' xr
    obtain ⟨rfl, hl, hx⟩ := xr
    cases ec : ck x.cls with
    | none => rw [ec] at h'; exact h'.elim
    | some b =>
      rw [ec] at h'
      refine ⟨b, hck _ _ ec, fun eb a na => ?_, fun eb => ?_⟩
      · subst eb
        exact h' v σ' B' H' fps' r' s' (hd B')
      · subst eb
        exact h' _ dx σ' B' H' fps' r' s' ⟨rfl, hl, hx⟩
/-! ### isinstance(e, (C1, C2)) -/
def rIsx2 (K : PySem.W.Frag) (ct : Ct) : List V → Hp → VK → Prop := fun xs H Q => ∃ (a T C1 C2 : Addr) (b : Bool) (B : Hp) (c : Str) (fs : List Str) (ys : List V), xs = [.ref a, .ref T] ∧ SqT K H T [.ref C1, .ref C2] ∧ Same B H ∧ Sq K ct B a (.exn c fs) ys ∧ ExcC K (ct c) ∧ PySem.W.kitAny K (.ref (ct c)) [.ref C1, .ref C2] = some b ∧ Q (.bl b) H
theorem call_isx2 : CallR X (.builtin "isinstance") (rIsx2 X.K ct) := by
  intro pins s σ H xs us Q I r h
  obtain ⟨a, T, C1, C2, b, B, c, fs, ys, rfl, hT, sm, sq, C, e, q⟩ := h
  cases r with
  | cons rx rr =>
    cases rr with
    | cons rt rr =>
      cases rr
      cases rx
      cases rt
      obtain ⟨ox, od, J, _⟩ := inst_of I sm sq
      have hcl : (PySem.W.clsIn X.K (ct c)).isSome = true := by
        obtain ⟨cd, hc, _⟩ := PySem.W.any_some C.hd
        rw [hc]; rfl
      obtain ⟨its, rv, ⟨⟨cls, dd, dt, sl⟩, ho, hc, n, hd⟩, hz⟩ := I.tuple hT
      simp only at hc hd
      subst hc hd
      cases rv with
      | cons r1 rv =>
        cases rv with
        | cons r2 rv =>
          cases rv
          cases r1
          cases r2
          exact PySem.W.kia_tup (PySem.W.kitx_exc hcl C.hg C.hk C.hs C.ha C.hn C.ht C.hm) I.kIn J ho e (fun z => nomatch z) fun tk => ⟨.bl b, H, I.kept (t' := tk) fun _ _ z => z, rfl, q⟩
/-- isinstance(e, (C1, C2)), both of the program -/
theorem d_isx2 {a : Expr} {x1 x2 : Str} {C1 C2 : Addr} {p q1 q2 qt pos : Pos} {kt : Nat} {f : Str → Option Bool} {ma : M D} (hg : Gl X "isinstance") (hm : X.mg "isinstance" = none) (hg1 : Gl X x1) (hm1 : X.mg x1 = some (.ref C1)) (hg2 : Gl X x2) (hm2 : X.mg x2 = some (.ref C2)) (ha : Ed X ct W a ma)
    (hf : ∀ c b, f c = some b → ExcC X.K (ct c) ∧ PySem.W.kitAny X.K (.ref (ct c)) [.ref C1, .ref C2] = some b) (hd1 : (x1 == ("__debug__" : Str)) = false := by decide) (hd2 : (x2 == ("__debug__" : Str)) = false := by decide)
    (ht2 : starEach [Expr.Name x2 q2] X.env = (false, eval (Expr.Name x2 q2) X.env) :: starEach [] X.env := by rfl) (ht1 : starEach [Expr.Name x1 q1, Expr.Name x2 q2] X.env = (false, eval (Expr.Name x1 q1) X.env) :: starEach [Expr.Name x2 q2] X.env := by rfl)
    (h1 : starEach [Expr.Tuple [.Name x1 q1, .Name x2 q2] kt qt] X.env = (false, eval (Expr.Tuple [.Name x1 q1, .Name x2 q2] kt qt) X.env) :: starEach [] X.env := by rfl) (he : starEach [a, Expr.Tuple [.Name x1 q1, .Name x2 q2] kt qt] X.env = (false, eval a X.env) :: starEach [Expr.Tuple [.Name x1 q1, .Name x2 q2] kt qt] X.env := by rfl)
    (hpl : (backTo pos (starEach [Expr.Tuple [.Name x1 q1, .Name x2 q2] kt qt] X.env)).any (·.1) = false := by rfl) : Ed X ct W (.Call (.Name "isinstance" p) [a, .Tuple [.Name x1 q1, .Name x2 q2] kt qt] [] pos) (mIsx f ma) := by
  refine PE.imp (pe_callB (call_isx2 (ct := ct)) hg hm (by decide +kernel) (pa_cons ha (pa_cons (pe_tup (pa_cons (pe_glob (v := .ref C1) hg1 hm1 rfl hd1) (pa_cons (pe_glob (v := .ref C2) hg2 hm2 rfl hd2) pa_nil ht2) ht1)) pa_nil h1) he) (by decide) (by decide) he hpl) ?_
  intro σ H Q h
  obtain ⟨F, B, E, fps, rl, h⟩ := h
  refine ⟨F, B, E, fps, rl, (Pst.bind h).imp ?_⟩
  rintro v H1 ⟨d, E1, B1, fps1, rl1, s1, r1, h1⟩
  obtain ⟨z, e, h2⟩ := opt_of h1
  split at e
  · rename_i c fs l
    obtain ⟨b, e1, e2⟩ := Option.map_eq_some_iff.mp e
    subst e2
    obtain ⟨a, xs, rfl, hx, rx⟩ := r1.ndI
    obtain ⟨C, hkit⟩ := hf c b e1
    refine ⟨by show 2 ≤ sizeLine; decide, fun T hT => ?_⟩
    obtain ⟨rl2, s2⟩ := rl1.laid (o := .tup [.ref C1, .ref C2]) hT
    exact ⟨a, T, C1, C2, b, _, c, fs, xs, rfl, SqT.of upd_same, rl2.bs, Sq.mono s2 hx, C, hkit, h2 _ _ _ _ rl2 s2 (.bl b)⟩
  · cases e
end
/-! ### a def that calls itself: no promise at first -/
theorem fn_none {P : Program} {w : World} {K : PySem.W.Frag} {mg : Str → Option Value} {base : Heap} {ct : Ct} {k n : Nat} {f : Addr} {fd : FuncData} {ps : List Str} {sem : Sm} (hn : n = ps.length) (h : ∀ as, sem as = .bad) : FnG P w K mg base k f fd ps (spD K ct n sem) := by
  constructor
  · intro vs H Q E hs
    obtain ⟨_, _, _, _, e, _⟩ := hs
    rw [e, hn]
  · intro A outer s H args us vs Q E hG hr e0 hb hv hs
    obtain ⟨B, as, ar, fps, _, _, hq⟩ := hs
    rw [h as] at hq
    exact hq.elim
/-- the meaning of a def that calls itself, so many calls deep -/
def recSm (n : Nat) (m : Sm → SM) : Nat → Sm
  | 0 => fun _ => .bad
  | k + 1 => semOf n (m (recSm n m k))
end Wu

/-! A lambda handed to a def that calls it. -/
namespace Wu
open PySem PySem.Spec PyProof.Rows L2

/-! ### alike but for what is known -/
structure Ct.Sim (c c' : Ct) : Prop where
  f : c.f = c'.f
  md : c.md = c'.md
  tb : c.tb = c'.tb
  nm : c.nm = c'.nm
/-- the data B1 is known, the lambda at f was got -/
def Ct.kn (c : Ct) (B1 : Hp) (f : Addr) : Ct := { c with fv := f, bp := fun B => c.bp B ∧ Same B1 B, bm := fun s h => ⟨c.bm s h.1, h.2.trans s⟩ }
theorem Ct.sim_kn {c : Ct} {B1 : Hp} {f : Addr} : c.Sim (c.kn B1 f) := ⟨rfl, rfl, rfl, rfl⟩
theorem Ct.kn_sim {c : Ct} {B1 : Hp} {f : Addr} : (c.kn B1 f).Sim c := ⟨rfl, rfl, rfl, rfl⟩
section
variable {K : PySem.W.Frag} {ct ct' : Ct} {F : Fm} {B H : Hp} {σ : L2.St} {E : Env'} {fps : Nat → List Addr}
theorem Sq.sim (s : ct.Sim ct') {a : Addr} {k : Kd} {xs : List V} (h : Sq K ct B a k xs) : Sq K ct' B a k xs := by
  obtain ⟨f, m, t, n, v, b, bm⟩ := ct
  obtain ⟨f', m', t', n', v', b', bm'⟩ := ct'
  obtain ⟨h1, h2, h3, h4⟩ := s
  dsimp only at h1 h2 h3 h4
  subst h1 h2 h3 h4
  cases k <;> exact h
mutual
theorem Rp.sim (s : ct.Sim ct') : ∀ {v : V} {d : D}, Rp K ct B v d → Rp K ct' B v d
  | _, _, .non => .non
  | _, _, .bl b => .bl b
  | _, _, .int i => .int i
  | _, _, .str x => .str x
  | _, _, .nd h r => .nd (h.sim s) (RpL.sim s r)
theorem RpL.sim (s : ct.Sim ct') : ∀ {vs : List V} {ds : List D}, RpL K ct B vs ds → RpL K ct' B vs ds
  | _, _, .nil => .nil
  | _, _, .cons h r => .cons (Rp.sim s h) (RpL.sim s r)
end
theorem TabOr.sim (s : ct.Sim ct') {a : Addr} {o : HO} {x : Option HO} (h : TabOr ct B a o x) : TabOr ct' B a o x := by
  rcases h with h | ⟨p0, p1, h1, h2, h3, h4, h5⟩
  · exact .inl h
  · exact .inr ⟨p0, p1, h1, by rw [← s.tb]; exact h2, h3, h4, by rw [← s.nm]; exact h5⟩
theorem XR.sim (s : ct.Sim ct') {c : Value} {dx : Option Addr} {x : Exn} (h : XR K ct B c dx x) : XR K ct' B c dx x := by
  obtain ⟨h1, h2, h3⟩ := h
  refine ⟨by rw [h1]; show Value.ref (ct.f x.cls) = .ref (ct'.f x.cls); rw [s.f], h2, ?_⟩
  rcases h3 with h3 | ⟨a, xs, e1, e2, e3⟩
  · exact .inl h3
  · exact .inr ⟨a, xs, e1, e2, e3.sim s⟩
theorem Rl.bare (r : Rl K ct F B H σ E fps) : Rl K ct F B H [] [] (fun _ => []) :=
  ⟨r.gs, r.bs, r.b0, r.nb, r.dm, rfl, fun i s e => by simp at e, fun _ _ => rfl, fun _ _ _ z => (by cases z), fun _ _ z => (by cases z)⟩
theorem SameT.sim (s : ct.Sim ct') (hb : ct'.bp B) (g : SameT ct F B H) : SameT ct' F B H :=
  ⟨fun a o e => (g.go a o e).sim s, fun a h => g.tf a (by rw [s.tb]; exact h), fun a h => g.td a (by rw [s.tb]; exact h), hb⟩
theorem Rl.bareS (s : ct.Sim ct') (hb : ct'.bp B) (r : Rl K ct F B H σ E fps) : Rl K ct' F B H [] [] (fun _ => []) :=
  ⟨r.gs.sim s hb, r.bs, r.b0, r.nb, r.dm, rfl, fun i s e => by simp at e, fun _ _ => rfl, fun _ _ _ z => (by cases z), fun _ _ z => (by cases z)⟩
end

/-! ### the slots that a lambda sees -/
def hideS : Sl → Sl
  | .val d => .val d
  | _ => .und
def hideE (E : Env') : Env' := E.map hideS
section
variable {K : PySem.W.Frag} {ct : Ct} {F F2 : Fm} {B B2 H H2 : Hp} {σ σ2 : L2.St} {E E2 : Env'} {fps fps2 : Nat → List Addr}
theorem Rl.hide (r : Rl K ct F B H σ E fps) (r2 : Rl K ct F2 B2 H2 σ2 E2 fps2) (s : Same B B2) : Rl K ct (Fm.at ct H2 B2 [] fun _ => []) B2 H2 σ (hideE E) (fun _ => []) := by
  refine ⟨Fm.at_gs r2.gs (fun _ h => r2.tB h) (fun _ _ z => by cases z), r2.bs, Same.refl B2, fun _ _ => rfl, fun _ h => h, by unfold hideE; rw [List.length_map]; exact r.ln, fun i sl e => ?_, fun _ _ => rfl, fun _ _ _ z => (by cases z), fun _ _ z => (by cases z)⟩
  unfold hideE at e
  rw [List.getElem?_map] at e
  obtain ⟨s0, e1, e2⟩ := Option.map_eq_some_iff.mp e
  obtain ⟨o, h1, h2⟩ := r.en i s0 e1
  refine ⟨o, h1, ?_⟩
  subst e2
  cases s0 with
  | und => rfl
  | fn => rfl
  | own ix c => rfl
  | val d => obtain ⟨_, v, h3, h4⟩ := h2; exact ⟨rfl, v, h3, h4.mono s⟩
/-- behind what saw only data and nothing of the slots -/
theorem Rl.afterB {B' H' : Hp} {σ' : L2.St} {E' : Env'} {fps' : Nat → List Addr} (r : Rl K ct F B H σ E fps) (r' : Rl K ct (Fm.at ct H B [] fun _ => []) B' H' σ' E' fps') : Rl K ct F B' H' σ E fps ∧ Same B B' :=
  r.after r' rfl (fun b o e => ⟨o, e⟩) (fun b o e n => Fm.at_in e (fun ⟨_, z⟩ => by cases z) n)
end

/-! ### the lambda is made -/
/-- what the making of a lambda does to the abstract heap: the table at P knew its code object at c, or it is new -/
def Made (H : Hp) (P c : Addr) (q : Str) (ps : Array Value) (H1 : Hp) : Prop :=
  (H1 = H ∧ ∃ pos, codeAmong pos ps.toList = some (.ref c)) ∨
  (∃ qs : Array Value, H c = none ∧ TriplesOk qs.toList ∧ (∀ pos cv, codeAmong pos qs.toList = some cv → codeAmong pos ps.toList = some cv ∨ cv = .ref c) ∧ H1 = upd (upd H P (.tbl qs)) c (LamX.CodeO c q))
section
variable {X : Cx} {pins : List (Addr × Obj)} {σ : L2.St} {H : Hp} {s : Shared}
theorem lam_new {c P : Addr} {ps : Array Value} {params : Arguments} {body : Expr} {scope : Scope} {pos : Pos} {Q E : Value → Shared → Prop} (I : Inv X pins σ H s) (TB : LamX.TabB X.base X.mg c P) (hcode : X.env.code = .ref c)
    (hP : H P = some (.tbl ps)) (ht : TriplesOk ps.toList) (ha : ∀ (pos : Pos) (cv : Value), codeAmong pos ps.toList = some cv → ∃ c, cv = .ref c) (hdef : defaultsOf params X.env = ([], [])) (hfree : ∀ y ∈ scope.names, y.2 = .free → ∃ c, X.env.cells.lookup y.1 = some c)
    (h : ∀ (f d : Addr) (pm ctv : Value) (H1 : Hp) (s1 : Shared), Inv X pins σ H1 s1 → Made H P d (X.env.qual ++ "<lambda>") ps H1 →
      s1.heap.get? f = some (PySem.W.kla_obj "<lambda>" (X.env.qual ++ "<lambda>") params body scope (cloFrom X.env.cells scope.names []) pm d ctv) → H1 f = none → f ∉ frs X.stack → Q (.ref f) s1) :
    wpAny (model X.prog X.w) X.A (eval (.Lambda params body scope pos) X.env) Q E s := by
  refine PySem.W.kla_eval hdef ?_
  have atP : s.heap.get? P = some { cls := .none, data := .fields ps } := I.hok P _ hP
  have away : ∀ f, s.heap.objs.size ≤ f → f ∉ frs X.stack := by
    intro f hf z
    rcases List.mem_cons.mp (I.stkSub _ z) with e | e
    · exact absurd (Nat.lt_of_lt_of_le I.lt hf) (by rw [e]; exact Nat.lt_irrefl _)
    · exact I.nofs hf e
  have glob := I.mod.glob.keeps I.bk
  have blt : s.heap.BuiltinsAt X.mg P := TB.bm.keeps I.bk
  have chd := TB.code.keeps I.bk
  rcases hc : codeAmong pos ps.toList with _ | cv
  · refine PySem.W.kla_makeFunction (closure_ok hfree) I.ok.glob glob hcode chd atP ht hc TB.gP blt ?_
    intro d ctv h' tk hx hge hlt hrec htb
    obtain ⟨d', oc, vs, t, e2, hoc, hd, hv⟩ := hrec
    cases e2
    have nC : H d = none := I.hok.fresh hge
    have big : s.heap.objs.size ≤ h'.objs.size := by omega
    have J := LamX.inv_table (t' := tk) (q := X.env.qual ++ "<lambda>") (more := #[rawInt pos.line, rawInt pos.col, .ref d])
      (h' := h'.push (PySem.W.kla_obj "<lambda>" (X.env.qual ++ "<lambda>") params body scope (cloFrom X.env.cells scope.names []) ((X.mg "__name__").getD .none) d ctv)) I hP
      (fun b o hb e => Heap.get?_push_of_some _ (hx b o hb e)) (Heap.get?_push_of_some _ htb) hge ⟨oc, vs, t, Heap.get?_push_of_some _ hoc, hd, hv⟩
    have el : (ps ++ #[rawInt pos.line, rawInt pos.col, .ref d]).toList = ps.toList ++ [rawInt pos.line, rawInt pos.col, .ref d] := by simp
    refine h h'.objs.size d _ ctv _ _ J (.inr ⟨_, nC, ?_, ?_, rfl⟩) (Heap.get?_push_size _ rfl) ?_ (away _ big)
    · rw [el]; exact PySem.TriplesOk_snoc _ _ _ _ ht
    · intro p' cv' e
      rw [el] at e
      exact LamX.among_app _ ht e
    · have n1 : h'.objs.size ≠ d := by omega
      have n2 : h'.objs.size ≠ P := Nat.ne_of_gt (Nat.lt_of_lt_of_le (Heap.lt_size atP) big)
      rw [upd_ne n1, upd_ne n2]
      exact I.hok.fresh big
  · obtain ⟨d, rfl⟩ := ha pos cv hc
    refine PySem.W.kla_makeFunctionHit (closure_ok hfree) I.ok.glob glob hcode chd atP ht hc blt ?_
    intro ctv h' tk hx hsz
    have J : Inv X pins σ H { s with heap := h'.push (PySem.W.kla_obj "<lambda>" (X.env.qual ++ "<lambda>") params body scope (cloFrom X.env.cells scope.names []) ((X.mg "__name__").getD .none) d ctv), toks := tk } := I.kept fun b o e => Heap.get?_push_of_some _ (hx b o e)
    exact h h'.objs.size d _ ctv H _ J (.inl ⟨rfl, pos, hc⟩) (Heap.get?_push_size _ rfl) (I.hok.fresh hsz) (away _ hsz)
end
section
variable {K : PySem.W.Frag} {ct : Ct} {F : Fm} {B H H1 : Hp} {σ : L2.St} {E : Env'} {fps : Nat → List Addr} {P c : Addr} {ps : Array Value}
/-- the table of a lambda's maker -/
theorem Rl.table (r : Rl K ct F B H σ E fps) (h : ct.tb P) : ∃ ps, H P = some (.tbl ps) ∧ TriplesOk ps.toList ∧ ∀ (pos : Pos) (cv : Value), codeAmong pos ps.toList = some cv → ∃ c, cv = .ref c ∧ B c = some (LamX.CodeO c (ct.nm P)) := by
  obtain ⟨p0, e0⟩ := r.gs.tf P h
  rcases r.gs.go P _ e0 with ⟨_, z⟩ | ⟨_, p1, _, _, e3, e4, e5⟩
  · exact absurd rfl (z p0)
  · exact ⟨p1, e3, e4, e5⟩
theorem Rl.made (r : Rl K ct F B H σ E fps) (h : ct.tb P) (hP : H P = some (.tbl ps)) (hb : ∀ (pos : Pos) (cv : Value), codeAmong pos ps.toList = some cv → ∃ c, cv = .ref c ∧ B c = some (LamX.CodeO c (ct.nm P)))
    (m : Made H P c (ct.nm P) ps H1) : ∃ B1, Rl K ct F B1 H1 σ E fps ∧ Same B B1 ∧ B1 c = some (LamX.CodeO c (ct.nm P)) := by
  rcases m with ⟨rfl, pos, e⟩ | ⟨qs, nC, ht, hq, rfl⟩
  · obtain ⟨c', e1, e2⟩ := hb pos _ e
    cases e1
    exact ⟨B, r, Same.refl B, e2⟩
  · obtain ⟨r1, s1⟩ := r.laid (o := LamX.CodeO c (ct.nm P)) nC
    have nPc : P ≠ c := ne_of_none hP nC
    have eH : upd (upd H P (.tbl qs)) c (LamX.CodeO c (ct.nm P)) = upd (upd H c (LamX.CodeO c (ct.nm P))) P (.tbl qs) := by
      funext b
      by_cases h1 : b = c
      · subst h1; rw [upd_same, upd_ne nPc.symm, upd_same]
      · by_cases h2 : b = P
        · subst h2; rw [upd_ne h1, upd_same, upd_same]
        · rw [upd_ne h1, upd_ne h2, upd_ne h2, upd_ne h1]
    rw [eH]
    have hP1 : upd H c (LamX.CodeO c (ct.nm P)) P = some (.tbl ps) := by rw [upd_ne nPc]; exact hP
    have bP : upd B c (LamX.CodeO c (ct.nm P)) P = none := r1.tB h
    refine ⟨_, r1.move (Same.refl _) (fun a o e => ?_) (fun a o e => ?_) (fun _ _ => rfl) (fun a ha => ?_) (fun i b hb' => ?_) (fun i a ha => (r1.fr i a ha).1), s1, upd_same⟩
    · by_cases z : a = P
      · subst z
        obtain ⟨p0, e0⟩ := r.gs.tf a h
        rw [e] at e0
        cases e0
        rw [upd_same]
        refine .inr ⟨p0, qs, rfl, h, rfl, ht, fun pos cv e' => ?_⟩
        rcases hq pos cv e' with q | q
        · obtain ⟨c1, q1, q2⟩ := hb pos cv q
          exact ⟨c1, q1, s1 _ _ q2⟩
        · exact ⟨c, q, upd_same⟩
      · rw [upd_ne z]; exact r1.gs.go a o e
    · have z : a ≠ P := by rintro rfl; rw [bP] at e; cases e
      rw [upd_ne z]; exact r1.bs a o e
    · by_cases z : a = P
      · subst z; exact ⟨_, upd_same⟩
      · rw [upd_ne z]; exact r1.dm a ha
    · have z : b ≠ P := by rintro rfl; exact r1.nt hb' ps hP1
      rw [upd_ne z]
end

/-! ### the def that got it calls it -/
section
variable {X : Cx} {pins : List (Addr × Obj)} {σ : L2.St} {H : Hp} {s : Shared}
theorem pe_calls {Eg : XK} {Ng : List Str} {qg : Str} {sg : Scope} {g f c : Addr} {cdg pm ctv : Value} {params : Arguments} {body : Expr} {scope : Scope} {k i : Nat} {a : Str} {pn : List (Addr × Obj)} {xe : Value → Shared → Prop} {W : WX} {tb : XK → TE} {p1 p2 : Pos}
    (I : Inv X pins σ H s) (L : LamX.LamS X.env.scope scope) (hf : s.heap.get? f = some (PySem.W.kla_obj "<lambda>" (X.env.qual ++ "<lambda>") params body scope (cloFrom X.env.cells scope.names []) pm c ctv)) (hfn : H f = none) (hfr : f ∉ frs X.stack)
    (hbind : bindArgs (PySem.W.kla_fn "<lambda>" (X.env.qual ++ "<lambda>") params body scope (cloFrom X.env.cells scope.names []) pm (.ref c) ctv) ⟨[], []⟩ = pure [])
    (tk : Takes ((cxOf (L2.CX X.prog X.w) X.prog X.w X.K X.mg X.base Ng qg sg g cdg X.A X.stack s H Eg).tr pn xe) W) (hG : X.A.guards = some []) (hr : Room (k + 1) (X.A.deeper (envOfC qg sg s.heap.objs.size g cdg)))
    (hbody : ∀ (A : Around) (outer : List Env) (s : Shared) (H : Hp) (E : XK), (A.deeper (LamX.lamEnv X scope s.heap.objs.size f c)).guards = some [] → Room k (A.deeper (LamX.lamEnv X scope s.heap.objs.size f c)) → PE (LamX.lamCx X A outer s H E scope f c) body (tb E))
    (hN : Ng[i]? = some a) (hv : Vis sg a) (hd : (a == ("__debug__" : Str)) = false) (hcd : (a == ("__classdict__" : Str)) = false) :
    PE ((cxOf (L2.CX X.prog X.w) X.prog X.w X.K X.mg X.base Ng qg sg g cdg X.A X.stack s H Eg).tr pn xe) (.Call (.Name a p1) [] [] p2)
      (fun σZ HZ Q => σZ[i]? = some (some (.ref f)) ∧ HZ c = some (LamX.CodeO c (X.env.qual ++ "<lambda>")) ∧ tb (atS W σZ) σ HZ Q) := by
  constructor
  intro pinsZ sZ σZ HZ Q IZ ⟨hs, hc, ht⟩
  refine wpAny_Call_Name_kw (thn ((pe_var (pos := p1) (i := i) hN hv hd hcd).run pinsZ sZ σZ HZ (fun v H1 => v = .ref f ∧ H1 = HZ) IZ ⟨.ref f, hs, rfl, rfl⟩) ?_)
  rintro u s1 ⟨v, H1, I1, r1, rfl, rfl⟩
  have eu : u = Value.ref f := r1
  subst eu
  have of1 : s1.heap.get? f = some (PySem.W.kla_obj "<lambda>" (X.env.qual ++ "<lambda>") params body scope (cloFrom X.env.cells scope.names []) pm c ctv) := I1.base.keep f _ hf hfn hfr (fun z => nomatch (show f ∈ ([] : List Addr) from z))
  refine PySem.W.callWith_F0 ⟨_, _, _, _, of1⟩ ?_
  obtain ⟨⟨oc, vs, t, hoc, hdc, hvc⟩, _, _⟩ := I1.hok c _ hc
  have go : codeAny (model X.prog X.w) (X.A.deeper (envOfC qg sg s.heap.objs.size g cdg)) (.call (.ref f) ⟨[], []⟩) (CR (L2.CX X.prog X.w) (envOfC qg sg s.heap.objs.size g cdg :: X.stack) X.prog X.w H1 s1 Q (atS W σZ)) s1 := by
    refine PySem.W.kla_callFunE hr.depth of1 rfl L.co L.gen rfl ⟨c, oc, vs, t, rfl, hoc, hdc, hvc⟩ ?_
    rw [hbind]
    refine wpAny_pure (wpAny_newFunctionEnv (fun y hy => (L.own y hy).2) (fun y hy => absurd hy (by simp)) (fun h₁ hns hsb => ⟨I1.nolimit.fresh _ hsb, ?_⟩) L.kind)
    show codeAny _ _ (.expr body (LamX.lamEnv X scope s1.heap.objs.size f c)) _ _
    have kp : ∀ b o, s1.heap.get? b = some o → h₁.get? b = some o := fun b o e => hsb.extBut b o (Nat.ne_of_lt (Heap.lt_size e)) (Heap.get?_push_of_some _ e)
    have J := LamX.lam_start2 (E := atS W σZ) (f := f) (c' := c) (tk := s1.toks + ([] : List (Str × Value)).length) I L I1.env0 hr.hd I1.base hns kp
    refine PySem.W.kla_codeExpr (wpAny_mono ((hbody (X.A.deeper (envOfC qg sg s.heap.objs.size g cdg)) _ s1 H1 (atS W σZ) hG (hr.deeper _)).run [] _ _ H1 Q J ht) ?_ fun e s' hq => hq)
    rintro v s' ⟨w', H', J', rv, q⟩
    exact ⟨w', H', J'.os, J'.bare, J'.base, J'.hok, rv, q⟩
  refine wpAny_call (codeAny_mono go ?_)
  intro res s' hq
  match res, hq with
  | .error e, hq => exact passAt tk σZ pinsZ H1 s1 e s' I1 hq
  | .ok (.ret u), hq => exact I1.after hq
  | .ok .next, hq => exact False.elim hq
  | .ok .brk, hq => exact False.elim hq
  | .ok .cont, hq => exact False.elim hq
end

/-! ### meanings -/
/-- a call of what was got, where that call comes out as r -/
def mAct (r : R D) : M D := fun E => match E[0]? with
  | some Sl.fn => (match r with
    | .ok d _ => .ok d E
    | .ex x _ => .ex x E
    | .bad => .bad)
  | _ => .bad
def envF (n : Nat) : Env' := Sl.fn :: List.replicate (n - 1) Sl.und
/-- f(lambda: ..) -/
def mLam (n : Nat) (bm : R D → SM) (mb : M D) : M D := fun E => match bm (mb (hideE E)) (envF n) with
  | .ok (.rt d) _ => .ok d E
  | .ok .nx _ => .ok .non E
  | .ex x _ => .ex x E
  | _ => .bad
/-- what a def that gets a lambda promises -/
def FnL (P : Program) (w : World) (K : PySem.W.Frag) (mg : Str → Option Value) (base : Heap) (ct : Ct) (k : Nat) (f : Addr) (st : Stmt) (N : List Str) (x a : Str) (bm : R D → SM) : Prop :=
  ∀ (r : R D) (B1 : Hp) (l : Addr) (cdv : Value) (A : Around) (outer : List Env) (s : Shared) (H : Hp) (E : XK), (A.deeper (envOfC x (defScope st) s.heap.objs.size f cdv)).guards = some [] →
    Room k (A.deeper (envOfC x (defScope st) s.heap.objs.size f cdv)) → Takes (cxOf (L2.CX P w) P w K mg base N x (defScope st) f cdv A outer s H E) (fun c d _ H => E c d H) →
    (∀ (W : WX) (pn : List (Addr × Obj)) (xe : Value → Shared → Prop) (p1 p2 : Pos), Takes ((cxOf (L2.CX P w) P w K mg base N x (defScope st) f cdv A outer s H E).tr pn xe) W →
      Ed ((cxOf (L2.CX P w) P w K mg base N x (defScope st) f cdv A outer s H E).tr pn xe) (ct.kn B1 l) W (.Call (.Name a p1) [] [] p2) (mAct r)) →
    PSs (cxOf (L2.CX P w) P w K mg base N x (defScope st) f cdv A outer s H E) (defBody st) (tMS K (ct.kn B1 l) (fun c d _ H => E c d H) (bm r))
section
variable {X : Cx} {ct : Ct} {W : WX}
theorem d_lam {x a : Str} {g c P : Addr} {k kl n : Nat} {st : Stmt} {fd : FuncData} {N : List Str} {bm : R D → SM} {params : Arguments} {body : Expr} {scope : Scope} {mb : M D} {p lpos pos : Pos}
    (Fl : FnL X.prog X.w X.K X.mg X.base ct k g st N x a bm) (U : Fun X.K x x st g fd) (Sg : FnScope N [a] (defScope st)) (hn : N.length = n) (hN : N[0]? = some a) (hva : Vis (defScope st) a) (hk1 : kl + 1 ≤ k)
    (hG : X.A.guards = some []) (hr : Room (k + 1) X.A) (hg : Gl X x) (hm : X.mg x = some (.ref g)) (hk : PySem.W.keepIn X.K (.ref g) = true) (hb : Binds X.K fd [a] []) (tk : Takes X W)
    (TB : LamX.TabB X.base X.mg c P) (hcode : X.env.code = .ref c) (htb : ct.tb P) (hnm : ct.nm P = X.env.qual ++ "<lambda>") (L : LamX.LamS X.env.scope scope) (hdef : defaultsOf params X.env = ([], []))
    (hbind : ∀ (q : Str) (cl : List (Str × Addr)) (pm cv ctv : Value), bindArgs (PySem.W.kla_fn "<lambda>" q params body scope cl pm cv ctv) ⟨[], []⟩ = pure [])
    (hbody : ∀ (A : Around) (outer : List Env) (s : Shared) (H : Hp) (E : XK) (f d : Addr), (A.deeper (LamX.lamEnv X scope s.heap.objs.size f d)).guards = some [] → Room kl (A.deeper (LamX.lamEnv X scope s.heap.objs.size f d)) →
      Takes (LamX.lamCx X A outer s H E scope f d) (fun c d _ H => E c d H) → Ed (LamX.lamCx X A outer s H E scope f d) ct (fun c d _ H => E c d H) body mb)
    (hdb : (x == ("__debug__" : Str)) = false := by decide) (hd : (a == ("__debug__" : Str)) = false := by decide) (hcd : (a == ("__classdict__" : Str)) = false := by decide) :
    Ed X ct W (.Call (.Name x p) [.Lambda params body scope lpos] [] pos) (mLam n bm mb) := by
  obtain ⟨oc, od, kV, doc, pm, an, cdv, ctt, osl, hfd, lk, hcg⟩ := U.ex
  subst hfd
  constructor
  intro pins s σ H Q I ⟨F, B, E, fps, rl, h⟩
  obtain ⟨ps, hP, ht, ha⟩ := rl.table htb
  refine wpAny_Call_Name_kw (ld_glob I hg hm ?_ hdb)
  refine PySem.W.callWith_K (h₀ := X.base) I.ok.mod.kin hk ?_ (by rfl) (by rfl)
  show wpAny _ _ (spliced ((false, eval (.Lambda params body scope lpos) X.env) :: backTo pos (starEach [] X.env))) _ _ s
  refine Calls.spliced_cons (lam_new I TB hcode hP ht (fun p cv e => let ⟨c, e1, _⟩ := ha p cv e; ⟨c, e1⟩) hdef (L.has I.ok) ?_)
  intro f d pm' ctv H1 s1 I1 mk hf hfn hfr
  rw [← hnm] at mk
  obtain ⟨B1, rl1, sB, hd1⟩ := rl.made htb hP ha mk
  refine Calls.spliced_nil ⟨I1.kIn, ?_⟩
  have rc : codeAny (model X.prog X.w) X.A (.call (.ref g) ⟨[.ref f], []⟩) (CR (L2.CX X.prog X.w) X.stack X.prog X.w H1 s1 Q (atS W σ)) s1 := by
    refine LamX.run_ofS (N := N) (ps := [a]) (us := [.ref f]) (vs := [.ref f]) lk hcg Sg hr I1.env0 (hb s1 [.ref f] I1.kIn rfl) (.cons rfl .nil) rfl fun hr' => ?_
    refine ⟨_, Fl (mb (hideE E)) B1 f cdv X.A X.stack s1 H1 (atS W σ) hG hr' (takes_of rfl rfl rfl rfl) ?_, ?_⟩
    · intro W' pn xe p1 p2 tk'
      refine PE.imp (pe_calls (i := 0) (k := kl) (tb := fun E => tM X.K ct (fun c d _ H => E c d H) mb) I1 L hf hfn hfr (hbind _ _ _ _ _) tk' hG (hr'.mono hk1) (fun A outer s H E hG' hr2 => hbody A outer s H E f d hG' hr2 (takes_of rfl rfl rfl rfl)) hN hva hd hcd) ?_
      rintro σZ HZ QZ ⟨FZ, BZ, EZ, fpsZ, rz, hz⟩
      have e0 : EZ[0]? = some .fn := by
        cases q : EZ[0]? with
        | none => unfold mAct at hz; rw [q] at hz; exact hz.elim
        | some sl =>
          unfold mAct at hz
          rw [q] at hz
          cases sl with
          | fn => rfl
          | und => exact hz.elim
          | val d => exact hz.elim
          | own ix c => exact hz.elim
      unfold mAct at hz
      rw [e0] at hz
      obtain ⟨o, q1, _, q2⟩ := rz.en 0 _ e0
      have sBZ : Same B1 BZ := rz.gs.bp.2
      have rzb : Rl X.K ct FZ BZ HZ [] [] (fun _ => []) := rz.bareS Ct.kn_sim rz.gs.bp.1
      refine ⟨by rw [q1, q2]; rfl, by rw [← hnm]; exact rz.bs _ _ (sBZ _ _ hd1), Fm.at ct HZ BZ [] (fun _ => []), BZ, hideE E, fun _ => [], rl1.hide rzb sBZ, ?_⟩
      have aft : ∀ {B' H' : Hp} {E' : Env'} {fps' : Nat → List Addr}, Rl X.K ct (Fm.at ct HZ BZ [] fun _ => []) B' H' σ E' fps' → Same BZ B' → Rl X.K (ct.kn B1 f) FZ B' H' σZ EZ fpsZ := fun {B' H' E' fps'} r' s' =>
        (rz.afterB (show Rl X.K (ct.kn B1 f) (Fm.at (ct.kn B1 f) HZ BZ [] fun _ => []) B' H' [] [] (fun _ => []) from r'.bareS Ct.sim_kn ⟨r'.gs.bp, sBZ.trans s'⟩)).1
      cases hR : mb (hideE E) with
      | bad => rw [hR] at hz; exact hz.elim
      | ok v E' =>
        rw [hR] at hz
        exact fun v B' H' fps' r' s' rp => hz v B' H' _ (aft r' s') s' (rp.sim Ct.sim_kn)
      | ex x E' =>
        rw [hR] at hz
        exact fun c dx B' H' fps' r' s' xr => hz c dx B' H' _ (aft r' s') s' (xr.sim Ct.sim_kn)
    · have hn1 : 1 ≤ n := by
        have := (List.getElem?_eq_some_iff.mp hN).1
        omega
      have st0 : L2.start N [V.ref f] = some (V.ref f) :: List.replicate (n - 1) none := by
        unfold L2.start; rw [hn]; rfl
      have rl0 : Rl X.K (ct.kn B1 f) (Fm.at ct H1 B1 [] fun _ => []) B1 H1 (L2.start N [V.ref f]) (envF n) (fun _ => []) := by
        rw [st0]
        refine ⟨Fm.at_gs (F := F) (ct := ct.kn B1 f) (rl1.gs.sim Ct.sim_kn ⟨rl1.gs.bp, Same.refl B1⟩) (fun _ h => rl1.tB h) (fun _ _ z => by cases z), rl1.bs, Same.refl B1, fun _ _ => rfl, fun _ h => h, by simp [envF], fun i sl e => ?_, fun _ _ => rfl, fun _ _ _ z => (by cases z), fun _ _ z => (by cases z)⟩
        match i with
        | 0 =>
          have e' : sl = .fn := (Option.some.inj e).symm
          subst e'
          exact ⟨_, rfl, rfl, rfl⟩
        | i + 1 =>
          have e' : (List.replicate (n - 1) Sl.und)[i]? = some sl := e
          rw [List.getElem?_replicate] at e'
          split at e'
          · rename_i hi
            cases e'
            exact ⟨none, by show (List.replicate (n - 1) none)[i]? = _; rw [List.getElem?_replicate, if_pos hi], rfl⟩
          · cases e'
      refine ⟨_, B1, _, _, rl0, ?_⟩
      have aft : ∀ {B' H' : Hp} {σ' : L2.St} {E' : Env'} {fps' : Nat → List Addr}, Rl X.K (ct.kn B1 f) (Fm.at ct H1 B1 [] fun _ => []) B' H' σ' E' fps' → Rl X.K ct F B' H' σ E fps ∧ Same B1 B' := fun r' =>
        rl1.afterB (r'.bareS Ct.kn_sim r'.gs.bp.1)
      unfold mLam at h
      show (match bm (mb (hideE E)) (envF n) with
        | .ok .nx E' => _
        | .ok (.rt d) E' => _
        | .ok .bk E' => _
        | .ok .ct E' => _
        | .ex x E' => _
        | .bad => False)
      cases hR : bm (mb (hideE E)) (envF n) with
      | bad => rw [hR] at h; exact h.elim
      | ex x E' =>
        rw [hR] at h
        intro c dx σ' B' H' fps' r' s' xr
        obtain ⟨q1, q2⟩ := aft r'
        exact h c dx B' H' _ q1 (sB.trans q2) (xr.sim Ct.kn_sim)
      | ok fl E' =>
        rw [hR] at h
        cases fl with
        | nx =>
          intro σ' B' H' fps' r' s'
          obtain ⟨q1, q2⟩ := aft r'
          exact h .non B' H' _ q1 (sB.trans q2) .non
        | rt d =>
          intro v σ' B' H' fps' r' s' rp
          obtain ⟨q1, q2⟩ := aft r'
          exact h v B' H' _ q1 (sB.trans q2) (rp.sim Ct.kn_sim)
        | bk => exact h.elim
        | ct => exact h.elim
  refine wpAny_call (codeAny_mono rc ?_)
  intro res s' hq
  match res, hq with
  | .error e, hq => exact passAt tk σ pins H1 s1 e s' I1 hq
  | .ok (.ret u), hq => exact I1.after hq
  | .ok .next, hq => exact False.elim hq
  | .ok .brk, hq => exact False.elim hq
  | .ok .cont, hq => exact False.elim hq
end
end Wu

/-! Around lambdas: defs that are called from the def that got one; the tables at the law's call. -/
namespace Wu
open PySem PySem.Spec PyProof.Rows L2 He

section
variable {K : PySem.W.Frag} {ct ct' : Ct} {F : Fm} {B H : Hp} {σ : L2.St} {E : Env'} {fps : Nat → List Addr}
theorem OwAt.sim (s : ct.Sim ct') {a : Addr} {fp : List Addr} : ∀ {c : Ow}, OwAt K ct B H a fp c → OwAt K ct' B H a fp c
  | .nd .lst _, ⟨e, xs, h, r⟩ => ⟨e, xs, h, r.sim s⟩
  | .nd (.dct _) _, ⟨e, xs, l, h, r⟩ => ⟨e, xs, l, h, r.sim s⟩
  | .nd (.dtt _) _, ⟨e, xs, l, h, r⟩ => ⟨e, xs, l, h, r.sim s⟩
  | .nd (.ob _ _) _, ⟨dx, xs, e, l, h, h2, r⟩ => ⟨dx, xs, e, l, by rw [← s.f]; exact h, h2, r.sim s⟩
  | .nd .tup _, h => h.elim
  | .nd .scr _, h => h.elim
  | .nd .pr _, h => h.elim
  | .nd (.exn _ _) _, h => h.elim
  | .dr _, h => h
theorem Rl.sim (s : ct.Sim ct') (hb : ct'.bp B) (nf : ∀ i : Nat, E[i]? ≠ some .fn) (r : Rl K ct F B H σ E fps) : Rl K ct' F B H σ E fps := by
  refine ⟨r.gs.sim s hb, r.bs, r.b0, r.nb, r.dm, r.ln, fun i sl e => ?_, r.e0, r.dj, r.fr⟩
  obtain ⟨o, h1, h2⟩ := r.en i sl e
  refine ⟨o, h1, ?_⟩
  cases sl with
  | und => exact h2
  | fn => exact absurd e (nf i)
  | val d => obtain ⟨q1, v, q2, q3⟩ := h2; exact ⟨q1, v, q2, q3.sim s⟩
  | own ix c => obtain ⟨a, q1, q2, q3⟩ := h2; exact ⟨a, q1, q2, q3.sim s⟩
theorem slots_nf (as : List Ag) (i : Nat) : (slots as)[i]? ≠ some .fn := by
  rw [slots_get]
  cases as[i]? with
  | none => intro z; cases z
  | some a => cases a <;> (intro z; cases z)
end
section
variable {P : Program} {w : World} {K : PySem.W.Frag} {mg : Str → Option Value} {base : Heap} {ct : Ct} {k n : Nat} {f : Addr} {fd : FuncData} {ps : List Str} {sem : Sm}
/-- a def's promise where more is known -/
theorem FnG.kn {B1 : Hp} {l : Addr} (Fn : FnG P w K mg base k f fd ps (spD K ct n sem)) : FnG P w K mg base k f fd ps (spD K (ct.kn B1 l) n sem) := by
  refine Fn.imp fun vs H Q E h => ?_
  obtain ⟨B, as, ar, fps, hl, r, h⟩ := h
  refine ⟨B, as, ar, fps, hl, r.sim Ct.kn_sim r.gs.bp.1 (slots_nf as), ?_⟩
  have s1 : Same B1 B := r.gs.bp.2
  cases hz : sem as with
  | bad => rw [hz] at h; exact h.elim
  | ok d as' =>
    rw [hz] at h
    exact fun v B' H' fps' r' rp => h v B' H' fps' (r'.sim Ct.sim_kn ⟨r'.gs.bp, s1.trans r'.b0⟩ (slots_nf as')) (rp.sim Ct.sim_kn)
  | ex x as' =>
    rw [hz] at h
    exact fun c dx B' H' fps' r' xr => h c dx B' H' fps' (r'.sim Ct.sim_kn ⟨r'.gs.bp, s1.trans r'.b0⟩ (slots_nf as')) (xr.sim Ct.sim_kn)
theorem FnL.mono {k' : Nat} {st : Stmt} {N : List Str} {x a : Str} {bm : R D → SM} (Fl : FnL P w K mg base ct k f st N x a bm) (h : k ≤ k') : FnL P w K mg base ct k' f st N x a bm :=
  fun r B1 l cdv A outer s H E hG hr tk act => Fl r B1 l cdv A outer s H E hG (hr.mono h) tk act
end
theorem code_of {K : PySem.W.Frag} {x qual : Str} {st : Stmt} {p : Defn} (F : L2.Fun K x qual st (fAd K p) (foK K (fAd K p))) : (foK K (fAd K p)).code = .ref (codeOf K p) := by
  obtain ⟨oc, od, kV, doc, pm, an, cdv, ct, osl, e, lk, hcd⟩ := F.ex
  obtain ⟨c, rfl⟩ := codeIn_ref hcd
  have e2 : (foK K (fAd K p)).code = .ref c := by rw [e]
  rw [codeOf_eq lk e2]
  exact e2
/-! ### the Hook, tables left out -/
structure SaysWT (fa : List Fk) (fn : List DefD) (tf : List Defn) (h : Heap) (K : PySem.W.Frag) : Prop where
  t : SaysW fa fn K
  hd : ∀ p ∈ tf, PySem.W.codeHdIn K (cT K p).1 (cT K p).2 = true
  out : ∀ p ∈ tf, K.lookup (cT K p).2 = none
  empty : ∀ p ∈ tf, h.get? (cT K p).2 = some { cls := .none, data := .fields #[] }
abbrev AlW : Type := AlD × Bool
def obsWT (n : Nat) (fa : List Fk) (fn : List DefD) (tf : List Defn) (g : Addr → Option Obj) : AlW := (obsW fa fn (frT g (cStatics :: asD g n)), tabsB g tf (frT g (cStatics :: asD g n)))
theorem saysWT_of {n : Nat} {fa : List Fk} {fn : List DefD} {tf : List Defn} {h : Heap} (e : obsWT n fa fn tf h.get? = (valD fn, true)) : SaysWT fa fn tf h (frT h.get? (cStatics :: asD h.get? n)) := by
  have e1 : obsW fa fn (frT h.get? (cStatics :: asD h.get? n)) = valD fn := congrArg (fun z : AlW => z.1) e
  have e2 : tabsB h.get? tf (frT h.get? (cStatics :: asD h.get? n)) = true := congrArg (fun z : AlW => z.2) e
  generalize eK : frT h.get? (cStatics :: asD h.get? n) = K at e1 e2 ⊢
  have key : ∀ p ∈ tf, PySem.W.codeHdIn K (cT K p).1 (cT K p).2 = true ∧ ∃ o, h.get? (cT K p).2 = some o ∧ emptyTab o = true := by
    intro p hp
    obtain ⟨h3, h4⟩ := ba (List.all_eq_true.mp e2 p hp)
    cases q : h.get? (cT K p).2 with
    | none => rw [q] at h4; cases h4
    | some o => rw [q] at h4; exact ⟨h3, o, rfl, h4⟩
  refine ⟨e1, fun p hp => (key p hp).1, fun p hp => ?_, fun p hp => ?_⟩
  · obtain ⟨_, o, q, z⟩ := key p hp
    have := frT_none (as := cStatics :: asD h.get? n) q z
    rw [eK] at this
    exact this
  · obtain ⟨_, o, q, z⟩ := key p hp
    rw [q, emptyTab_eq z]
def hookWT (n : Nat) (fa : List Fk) (fn : List DefD) (tf : List Defn) : PySem.W.Hook where
  α := AlW
  obs := fun s => obsWT n fa fn tf s.heap.get?
  val := fun _ => (valD fn, true)
  says := fun _ h => ∃ K : PySem.W.Frag, K.In h ∧ SaysWT fa fn tf h K
  of := fun _ _ e => ⟨_, frT_in, saysWT_of e⟩
  keeps := fun _ _ _ ⟨K, hK, c⟩ k => ⟨K, PySem.W.Frag.In.keeps hK k, ⟨c.t, c.hd, c.out, fun p hp => k _ _ (c.empty p hp)⟩⟩
theorem obsWT_eq {n : Nat} {fa : List Fk} {fn : List DefD} {tf : List Defn} {g : Addr → Option Obj} {s : Shared} (h : ∀ a, g a = s.heap.get? a) : obsWT n fa fn tf g = (hookWT n fa fn tf).obs s := by
  have e : g = s.heap.get? := funext h
  rw [e] <;> rfl
theorem SaysWT.tabs {fa : List Fk} {fn : List DefD} {tf : List Defn} {h : Heap} {K : PySem.W.Frag} {mg : Str → Option Value} (c : SaysWT fa fn tf h K) (KX : K.In h) : TabsAt K mg (tf.map (cT K)) h := by
  refine ⟨fun p hp => ?_, fun p hp => ?_, fun p hp => ?_⟩
  · obtain ⟨q, hq, rfl⟩ := List.mem_map.mp hp; exact c.empty q hq
  · obtain ⟨q, hq, rfl⟩ := List.mem_map.mp hp; exact c.out q hq
  · obtain ⟨q, hq, rfl⟩ := List.mem_map.mp hp; exact PySem.W.codeHd_of_K KX (c.hd q hq)
end Wu

/-! x.extend(e), e a list or a tuple. -/
namespace Wu
open PySem PySem.Spec PySem.Calls PyProof PyProof.Rows L2
section
open PySem.AutoSeq1
theorem extend_tup (l : Addr) (items : Array Value) (n : Nat) (b : Addr) (items2 : Array Value) (n2 : Nat) (od : Option Addr) (sl : Array (Option Value)) (hs0 : ¬(!items.isEmpty && Builtin.List.listTooLong (items.size + items2.size)) = true) (hs1 : items.size ≤ sizeLine) (hs2 : items.size + items2.size ≤ sizeLine + 1) :
    Meets (Builtin.«list.extend» ⟨[.ref l, .ref b], []⟩) (fun _ R s => s.heap.get? l = some { cls := .type "list", dict := none, data := .seq items n, slots := #[] } ∧ s.heap.get? b = some { cls := .type "tuple", dict := od, data := .seq items2 n2, slots := sl } ∧ R (.ok (.ret Value.none)) { s with heap := s.heap.update l (Obj.mapSeq fun x => x ++ items2), toks := s.toks }) :=
  .of_wp fun prog w A R s h => by
    obtain ⟨hp, g, d, tk, os⟩ := s
    obtain ⟨hl, hb, h⟩ := h
    have f1 := idx_int
    have f2 := AutoSeq1.sub_tuple_tuple
    have f3 := AutoSeq1.sub_list_list
    have f4 := AutoSeq1.sub_tuple_list
    have f5 := AutoSeq1.sub_list_tuple
    have hz : (items ++ items2).size ≤ sizeLine + 1 := by rw [Array.size_append]; exact hs2
    wp_walk using (wpAny_updateSeq hl rfl (hz := hs1) (_hz' := hz)), wpAny_loadPart' hl, wpAny_loadPart' hb
    exact ⟨_, rfl, h⟩
end
section
variable {X : Cx}
def rExtA (K : PySem.W.Frag) : V → List V → Hp → VK → Prop := fun x vs H Q => rExtend x vs H Q ∨
  ∃ l b xs zs, x = .ref l ∧ vs = [.ref b] ∧ H l = some (.lst xs) ∧ SqT K H b zs ∧ xs.length + zs.length ≤ sizeLine ∧ Q .non (upd H l (.lst (xs ++ zs)))
theorem mt_extA : MtM X "list.extend" (rExtA X.K) := by
  intro pins s σ H x vs v us Q I rx rv h
  rcases h with h | h
  · exact mt_extend pins s σ H x vs v us Q I rx rv h
  obtain ⟨l, b, xs, zs, rfl, rfl, hH, hB, hz, q⟩ := h
  cases rx
  obtain ⟨u, rfl, ru⟩ := rv.one
  cases ru
  obtain ⟨z, its, n, r, hl, e⟩ := I.lstM hH
  obtain ⟨its2, r2, ⟨o, e2, hc, n2, hd⟩, hl2⟩ := I.tuple hB
  obtain ⟨oc, od, dt, osl⟩ := o
  dsimp only at hc hd
  subst hc hd
  have l2 := r2.length
  have hsz : its.toArray.size + its2.toArray.size ≤ sizeLine := by rw [List.size_toArray, List.size_toArray]; omega
  have short : ¬ (!its.toArray.isEmpty && Builtin.List.listTooLong (its.toArray.size + its2.toArray.size)) = true := by
    rw [notLongL hsz, Bool.and_false]
    exact Bool.false_ne_true
  refine call_meets F.slot_list_extend ⟨_, e, rfl⟩ F.entry_list_extend (F.args_list_extend_2 _ _) (extend_tup l its.toArray n b its2.toArray n2 od osl short (by rw [List.size_toArray]; omega) (by omega)) ⟨e, e2, ?_⟩
  refine ⟨.non, _, I.lset (its' := its ++ its2) hH e (by simp) (r.append r2) ?_, rfl, q⟩
  rw [List.length_append]
  omega
end
def extL : D → Option (List D)
  | .nd .lst r => some r
  | .nd .tup r => some r
  | _ => none
def sExtA (i : Nat) (m : M D) : SM := fun E => if isOwnL E i then (m.bnd fun d E => match E[i]?, extL d with
  | some (.own ix (.nd .lst l)), some r => if l.length + r.length ≤ sizeLine then .ok .nx (E.set i (.own ix (.nd .lst (l ++ r)))) else .bad
  | _, _ => .bad) E else .bad
section
variable {X : Cx} {ct : Ct} {W : WX}
theorem s_extA (i : Nat) {x : Str} {e : Expr} {m : M D} {p1 p2 pos spos : Pos} (he : Ed X ct W e m) (hN : X.N[i]? = some x := by rfl)
    (hv : Vis X.env.scope x := by first | exact Or.inl rfl | exact Or.inr (Or.inl rfl) | exact Or.inr (Or.inr rfl)) (hd : (x == ("__debug__" : Str)) = false := by decide) (hcd : (x == ("__classdict__" : Str)) = false := by decide)
    (h1 : starEach [e] X.env = (false, eval e X.env) :: starEach [] X.env := by rfl)
    (hbase : attributeBase (.Name x p1) "extend" X.env (eval (.Name x p1) X.env) = eval (.Name x p1) X.env := by rfl)
    (hfew : ((backTo pos (starEach [e] X.env)).all (fun x => !x.1) && (backToKw pos (keywordEach [] X.env)).all (fun x => x.1.isSome)
      && decide ([e].length + ([] : List Keyword).length + (if ([] : List Keyword).isEmpty then 0 else 1) < 30)) = true := by rfl)
    (hline : (p2.endLine == pos.line) = true := by rfl) (hpl : (backTo pos (starEach [] X.env)).any (·.1) = false := by rfl)
    (hs : swapsWith (.Call (.Attribute (.Name x p1) "extend" p2) [e] [] pos) none spos.line X.env = pure false := by rfl) :
    Sd X ct W (.Expr (.Call (.Attribute (.Name x p1) "extend" p2) [e] [] pos) spos) (sExtA i m) := by
  refine PS.imp (ps_expr (pe_bm PySem.F.plainAttrs_list PySem.F.slot_list_extend PySem.F.type_list_extend mt_extA (pe_var hN hv hd hcd) (pa_cons he pa_nil h1) hbase hfew hline h1 hpl) hs) fun N σ H h => ?_
  obtain ⟨F, B, E, fps, rl, h⟩ := h
  have h' : PstS X.K ct W F B (sExtA i m E) N := h
  unfold sExtA at h'
  split at h'
  case isFalse => exact h'.elim
  rename_i ho
  unfold isOwnL at ho
  split at ho
  case h_2 => cases ho
  rename_i ix c e0
  obtain ⟨a, xs, k1, k2, k3, k4⟩ := own_lst rl e0
  refine ⟨.ref a, k1, .inl ⟨rfl, xs, SqL.of k3⟩, F, B, E, fps, rl, (PstS.bind (σ := σ) (Rr := Rp X.K ct) h').imp ?_⟩
  rintro v H1 ⟨d, E1, B1, fps1, rl1, s1, r1, h2⟩
  split at h2
  · rename_i ix1 l r e1 e2
    split at h2
    · rename_i hl
      obtain ⟨a1, xs1, q1, q2, q3, q4⟩ := own_lst rl1 e1
      have : a1 = a := by
        rw [k1] at q1
        injection (Option.some.inj (Option.some.inj q1)) with z
        exact z.symm
      subst this
      have fin : ∀ {ys : List V}, RpL X.K ct B1 ys r → N.nx σ (upd H1 a1 (.lst (xs1 ++ ys))) := fun {ys} rb => h2 σ B1 _ fps1 (rl1.chg e1 q1 (by rw [q2]; simp) q2 ⟨rfl, _, upd_same, q4.app rb⟩) (Same.refl B1)
      unfold extL at e2
      split at e2
      · cases e2
        obtain ⟨b, ys, rfl, hb, rb⟩ := r1.ndI
        exact .inl ⟨a1, b, xs1, ys, rfl, rfl, q3, rl1.bs _ _ hb, by rw [q4.len, rb.len]; exact hl, fin rb⟩
      · cases e2
        obtain ⟨b, ys, rfl, hb, rb⟩ := r1.ndI
        exact .inr ⟨a1, b, xs1, ys, rfl, rfl, q3, sqT_mono rl1.bs hb.t, by rw [q4.len, rb.len]; exact hl, fin rb⟩
      · cases e2
    · exact h2.elim
  · exact h2.elim
end
end Wu

/-! dict(pairs), x.get(k, y) of an owned dict, three names at once. -/
namespace Wu
open PySem PySem.Spec PyProof.Rows L2

/-! ### dict(pairs) -/
def pairD : D → Option (Key × D)
  | .nd .tup [k, v] => k.key.map fun k => (k, v)
  | _ => none
def pairsD : List D → Option (List (Key × D))
  | [] => some []
  | d :: l => (pairD d).bind fun p => (pairsD l).map (p :: ·)
/-- pairs put one behind the other -/
def foldZ {α : Type} : List (Key × α) → List Key × List α → List Key × List α
  | [], a => a
  | p :: l, a => foldZ l (putZ a.1 a.2 p.1 p.2)
def nDictP (m : M D) : M Nk := m.bnd fun d => match d with
  | .nd .lst l => (match pairsD l with
    | some ps => .ret (.dct (foldZ ps ([], [])).1, (foldZ ps ([], [])).2)
    | none => .bad)
  | _ => .bad
theorem fold_zip : ∀ (l : List (Key × V)) (a : List Key × List V), a.1.length = a.2.length → mergeK (a.1.zip a.2) l = (foldZ l a).1.zip (foldZ l a).2 ∧ (foldZ l a).1.length = (foldZ l a).2.length
  | [], a, h => ⟨rfl, h⟩
  | p :: l, a, h => by
    obtain ⟨h1, h2⟩ := putZ_zip (k := p.1) (v := p.2) h
    obtain ⟨h3, h4⟩ := fold_zip l (putZ a.1 a.2 p.1 p.2) h2
    refine ⟨?_, h4⟩
    show mergeK (putK (a.1.zip a.2) p.1 p.2) l = _
    rw [h1, h3]; rfl
section
variable {K : PySem.W.Frag} {ct : Ct} {B H : Hp}
theorem putZ_ks {κ α β : Type} [DecidableEq κ] {ks : List κ} {l : List α} {r : List β} {k : κ} {v : α} {u : β} : (putZ ks l k v).1 = (putZ ks r k u).1 := by
  unfold putZ; split <;> rfl
/-- values and data in step -/
inductive Rz2 (K : PySem.W.Frag) (ct : Ct) (B : Hp) : List (Key × V) → List (Key × D) → Prop
  | nil : Rz2 K ct B [] []
  | cons {k : Key} {v : V} {d : D} {l : List (Key × V)} {r : List (Key × D)} : Rp K ct B v d → Rz2 K ct B l r → Rz2 K ct B ((k, v) :: l) ((k, d) :: r)
theorem fold_rp : ∀ {l : List (Key × V)} {r : List (Key × D)} {ks : List Key} {vs : List V} {ds : List D}, Rz2 K ct B l r → RpL K ct B vs ds → (foldZ l (ks, vs)).1 = (foldZ r (ks, ds)).1 ∧ RpL K ct B (foldZ l (ks, vs)).2 (foldZ r (ks, ds)).2
  | _, _, ks, vs, ds, .nil, h => ⟨rfl, h⟩
  | _, _, ks, vs, ds, .cons (k := k) (v := v) (d := d) (l := l) (r := r) q t, h => by
    have e : (putZ ks vs k v).1 = (putZ ks ds k d).1 := putZ_ks
    have r' := h.putZ (k := k) (ks := ks) q
    have i := fold_rp (ks := (putZ ks vs k v).1) t r'
    have e1 : foldZ ((k, v) :: l) (ks, vs) = foldZ l ((putZ ks vs k v).1, (putZ ks vs k v).2) := rfl
    have e2 : foldZ ((k, d) :: r) (ks, ds) = foldZ r ((putZ ks vs k v).1, (putZ ks ds k d).2) := by rw [e]; rfl
    rw [e1, e2]
    exact i
theorem pairs_rp (s : Same B H) : ∀ {ys : List V} {l : List D} {ps : List (Key × D)}, RpL K ct B ys l → pairsD l = some ps → ∃ as kvs, ys = as.map V.ref ∧ Paired (fun p (kv : Key × V) => SqT K H p [kV kv.1, kv.2]) as kvs ∧ Rz2 K ct B kvs ps
  | _, _, ps, .nil, e => by cases e; exact ⟨[], [], rfl, .nil, .nil⟩
  | _, _, ps, .cons (v := v) (d := d) (ds := ds) h t, e => by
    obtain ⟨p, e1, e2⟩ := Option.bind_eq_some_iff.mp (show (pairD d).bind _ = some ps from e)
    obtain ⟨qs, e3, rfl⟩ := Option.map_eq_some_iff.mp e2
    obtain ⟨as, kvs, rfl, h2, h3⟩ := pairs_rp s t e3
    unfold pairD at e1
    split at e1
    · rename_i k0 v0
      obtain ⟨k, e4, rfl⟩ := Option.map_eq_some_iff.mp e1
      obtain ⟨a, xs, rfl, hq, rx⟩ := h.ndI
      cases rx with
      | cons r1 r2 =>
        cases r2 with
        | cons r3 r4 =>
          cases r4
          rename_i y z
          have ek := r1.key e4
          subst ek
          exact ⟨a :: as, (k, z) :: kvs, rfl, .cons (sqT_mono s hq.t) h2, .cons r3 h3⟩
    · cases e1
end
section
variable {X : Cx} {ct : Ct} {W : WX}
theorem n_dictP {e : Expr} {p pos : Pos} {m : M D} (hc : X.calm = true) (hg : Gl X "dict") (hm : X.mg "dict" = none) (he : Ed X ct W e m)
    (hs : starEach [e] X.env = (false, eval e X.env) :: starEach [] X.env := by rfl) (hpl : (backTo pos (starEach [] X.env)).any (·.1) = false := by rfl) : Nd X ct W (.Call (.Name "dict" p) [e] [] pos) (nDictP m) := by
  refine PE.imp (pe_callTy (T := "dict") (call_dictP hc) hg hm (by decide +kernel) (pa_cons he pa_nil hs) (by decide) (by decide) hs hpl) fun σ H Q h => ?_
  obtain ⟨F, B, E, fps, rl, h⟩ := h
  refine ⟨F, B, E, fps, rl, (PstN.of h).imp ?_⟩
  rintro v H1 ⟨d, E1, B1, fps1, rl1, s1, r1, h1⟩
  split at h1
  · rename_i l
    cases ep : pairsD l with
    | none => rw [ep] at h1; exact h1.elim
    | some ps =>
      rw [ep] at h1
      obtain ⟨a, ys, rfl, hb, ry⟩ := r1.ndI
      obtain ⟨as, kvs, rfl, h2, h3⟩ := pairs_rp rl1.bs ry ep
      refine ⟨a, as, kvs, rfl, SqL.of (rl1.bs _ _ hb), h2, fun q hq => ?_⟩
      obtain ⟨z1, z2⟩ := fold_zip kvs ([], []) rfl
      obtain ⟨z3, z4⟩ := fold_rp (ks := []) h3 (.nil (K := X.K) (ct := ct) (B := B1))
      have z1' : mergeK [] kvs = (foldZ kvs ([], [])).1.zip (foldZ kvs ([], [])).2 := z1
      rw [z1', z3]
      obtain ⟨q1, q2⟩ := rl1.nw (n := (.dct (foldZ ps ([], [])).1, (foldZ ps ([], [])).2)) hq ⟨rfl, (foldZ kvs ([], [])).2, by rw [← z3]; exact z2, upd_same, z4⟩
      exact h1 q B1 _ fps1 q1 (Same.refl B1) q2
  · exact h1.elim
/-! ### x.get(k, y) -/
def mOget (i : Nat) (mk md : M D) : M D := fun E => match (E.getD i .und).peek with
  | some (.nd (.dct _) _) => (mk.bnd fun k => md.bnd fun d E1 => match (E1.getD i .und).peek, k.key with
    | some (.nd (.dct ks) l), some k => .ok ((valZ ks l k).getD d) E1
    | _, _ => .bad) E
  | _ => .bad
theorem d_oget (i : Nat) {x : Str} {e f : Expr} {p apos pos : Pos} {mk md : M D} (hu : X.A.units + 64 < cLine) (he : Ed X ct W e mk) (hf : Ed X ct W f md) (m : M2 X (.Name x p) "get" apos e f pos) (hN : X.N[i]? = some x := by rfl)
    (hv : Vis X.env.scope x := by first | exact Or.inl rfl | exact Or.inr (Or.inl rfl) | exact Or.inr (Or.inr rfl)) (hd : (x == ("__debug__" : Str)) = false := by decide) (hcd : (x == ("__classdict__" : Str)) = false := by decide) :
    Ed X ct W (.Call (.Attribute (.Name x p) "get" apos) [e, f] [] pos) (mOget i mk md) := by
  refine PE.imp (pe_dget2 (by omega) (pe_var hN hv hd hcd) he hf m) fun σ H Q h => ?_
  obtain ⟨F, B, E, fps, rl, h⟩ := h
  have h' : Pst X.K ct (Rp X.K ct) W F B σ (mOget i mk md E) Q := h
  unfold mOget at h'
  split at h'
  case h_2 => exact h'.elim
  rename_i ks0 l0 e0
  obtain ⟨a, ha, hc⟩ := rl.peek e0
  have isd : IsD H a := by
    rcases hc with ⟨l, xs, z, _⟩ | ⟨ks, l, xs, _, _, hx, _⟩
    · cases z
    · exact .inl ⟨_, .inl hx⟩
  refine ⟨.ref a, ha, a, rfl, isd, F, B, E, fps, rl, (Pst.bind h').imp ?_⟩
  rintro y H1 ⟨k, E1, B1, fps1, rl1, s1, r1, h1⟩
  refine ⟨F, B1, E1, fps1, rl1, (Pst.bind h1).imp ?_⟩
  rintro z H2 ⟨d, E2, B2, fps2, rl2, s2, r2, h2⟩
  split at h2
  case h_2 => exact h2.elim
  rename_i ks l kk e1 e2
  obtain ⟨a1, ha1, hc1⟩ := rl2.peek e1
  have ea : a1 = a := by
    rw [ha] at ha1
    injection (Option.some.inj (Option.some.inj ha1)) with z
    exact z.symm
  subst ea
  rcases hc1 with ⟨l', xs, z, _⟩ | ⟨ks', l', xs, q, hl, hx, rx⟩
  · cases z
  · cases q
    refine ⟨valV (ks.zip xs) kk, .inl ⟨_, kk, .inl hx, (r1.mono s2).key e2, rfl⟩, ?_⟩
    obtain ⟨v1, v2⟩ := RpL.valZ (k := kk) (ks := ks) rx
    cases ev : valZ ks l kk with
    | none =>
      rw [v2 ev]
      rw [ev] at h2
      exact h2 z B2 H2 fps2 rl2 (Same.refl B2) r2
    | some dv =>
      obtain ⟨v, q1, q2⟩ := v1 dv ev
      rw [q1]
      rw [ev] at h2
      exact h2 v B2 H2 fps2 rl2 (Same.refl B2) q2
/-- .. of a dict as data -/
def mDget (mo mk md : M D) : M D := mo.bnd fun o => match o with
  | .nd (.dct ks) l => mk.bnd fun k => md.bnd fun d => match k.key with
    | some k => .ret ((valZ ks l k).getD d)
    | none => .bad
  | _ => .bad
theorem d_dget {o e f : Expr} {apos pos : Pos} {mo mk md : M D} (hu : X.A.units + 64 < cLine) (ho : Ed X ct W o mo) (he : Ed X ct W e mk) (hf : Ed X ct W f md) (m : M2 X o "get" apos e f pos) : Ed X ct W (.Call (.Attribute o "get" apos) [e, f] [] pos) (mDget mo mk md) := by
  refine PE.imp (pe_dget2 (by omega) ho he hf m) fun σ H Q h => ?_
  obtain ⟨F, B, E, fps, rl, h⟩ := h
  refine ⟨F, B, E, fps, rl, (Pst.bind h).imp ?_⟩
  rintro x H0 ⟨d0, E0, B0, fps0, rl0, s0, r0, h0⟩
  split at h0
  case h_2 => exact h0.elim
  rename_i ks l
  obtain ⟨a, xs, rfl, ⟨hl, hx⟩, rx⟩ := r0.ndI
  refine ⟨a, rfl, .inl ⟨_, rd_mono rl0.bs hx⟩, F, B0, E0, fps0, rl0, (Pst.bind h0).imp ?_⟩
  rintro y H1 ⟨k, E1, B1, fps1, rl1, s1, r1, h1⟩
  refine ⟨F, B1, E1, fps1, rl1, (Pst.bind h1).imp ?_⟩
  rintro z H2 ⟨d, E2, B2, fps2, rl2, s2, r2, h2⟩
  obtain ⟨kk, e2⟩ : ∃ kk, k.key = some kk := by
    cases q : k.key with
    | some kk => exact ⟨kk, rfl⟩
    | none => rw [q] at h2; exact h2.elim
  rw [e2] at h2
  replace h2 : Pst X.K ct (Rp X.K ct) W F B2 σ (.ok ((valZ ks l kk).getD d) E2) Q := h2
  have hx2 : Rd H2 a (.dK (ks.zip xs)) := rd_mono rl2.bs (rd_mono (s1.trans s2) hx)
  refine ⟨valV (ks.zip xs) kk, .inl ⟨_, kk, hx2, (r1.mono s2).key e2, rfl⟩, ?_⟩
  obtain ⟨v1, v2⟩ := RpL.valZ (k := kk) (ks := ks) (rx.mono (s1.trans s2))
  cases ev : valZ ks l kk with
  | none =>
    rw [v2 ev]
    rw [ev] at h2
    exact h2 z B2 H2 fps2 rl2 (Same.refl B2) r2
  | some dv =>
    obtain ⟨v, q1, q2⟩ := v1 dv ev
    rw [q1]
    rw [ev] at h2
    exact h2 v B2 H2 fps2 rl2 (Same.refl B2) q2
/-! ### three names at once, all new -/
def sPar3 (i j l : Nat) (a b c : M Nk) : SM := a.bnd fun x => b.bnd fun y => c.bnd fun z E => .ok .nx (((E.set i (.own none (.nd x.1 x.2))).set j (.own none (.nd y.1 y.2))).set l (.own none (.nd z.1 z.2)))
theorem NwAt.ne {K : PySem.W.Frag} {F : Fm} {B H : Hp} {fps : Nat → List Addr} {i : Nat} {a b : Addr} {n m : Nk} (h : NwAt K ct F B H fps b m) (hne : b ≠ a) : NwAt K ct F B H (fun j => if j = i then [a] else fps j) b m := by
  refine ⟨h.ow, h.fG, h.fB, h.fD, fun j z => ?_⟩
  have z' : b ∈ (if j = i then [a] else fps j) := z
  split at z'
  · exact hne (by simpa using z')
  · exact h.ff j z'
theorem NwAt.low {K : PySem.W.Frag} {F : Fm} {B H : Hp} {fps : Nat → List Addr} {a b : Addr} {o : HO} {m : Nk} (h : NwAt K ct (F.plus a o) B H fps b m) : NwAt K ct F B H fps b m ∧ b ≠ a := by
  have hne : b ≠ a := fun z => h.fD (.inr z)
  exact ⟨⟨h.ow, by have := h.fG; rw [show (F.plus a o).G b = upd F.G a o b from rfl, upd_ne hne] at this; exact this, h.fB, fun z => h.fD (.inl z), h.ff⟩, hne⟩
theorem s_par3 {i j l : Nat} {x y z : Str} {a b c : Expr} {ma mb mc : M Nk} {px py pz pt pos : Pos} {kt k2 pt2} (hc : X.calm = true) (hN : X.N.Nodup) (hi : X.N[i]? = some x) (hj : X.N[j]? = some y) (hl : X.N[l]? = some z) (hij : i ≠ j) (hil : i ≠ l) (hjl : j ≠ l)
    (hx : X.env.scope.names.lookup x = some .local) (hy : X.env.scope.names.lookup y = some .local) (hz : X.env.scope.names.lookup z = some .local) (ha : Nd X ct W a ma) (hb : Nd X ct W b mb) (hcc : Nd X ct W c mc)
    (hw : swappedStores [.Tuple [.Name x px, .Name y py, .Name z pz] kt pt] (.Tuple [a, b, c] k2 pt2) X.env = pure (some [x, y, z]))
    (hs : swapsWithSole [.Tuple [.Name x px, .Name y py, .Name z pz] kt pt] (.Tuple [a, b, c] k2 pt2) pos.line X.env = pure false := by rfl)
    (h1 : starEach [c] X.env = (false, eval c X.env) :: starEach [] X.env := by rfl) (h2 : starEach [b, c] X.env = (false, eval b X.env) :: starEach [c] X.env := by rfl) (h3 : starEach [a, b, c] X.env = (false, eval a X.env) :: starEach [b, c] X.env := by rfl) :
    Sd X ct W (.Assign [.Tuple [.Name x px, .Name y py, .Name z pz] kt pt] (.Tuple [a, b, c] k2 pt2) pos) (sPar3 i j l ma mb mc) := by
  refine ⟨fun pins s σ H N I h => ?_⟩
  have li : i < σ.length := by rw [I.len]; exact (List.getElem?_eq_some_iff.mp hi).1
  have lj : j < σ.length := by rw [I.len]; exact (List.getElem?_eq_some_iff.mp hj).1
  have ll : l < σ.length := by rw [I.len]; exact (List.getElem?_eq_some_iff.mp hl).1
  refine (ps_par3 hc hN hi hj hl hij hil hjl hx hy hz (pa_cons ha (pa_cons hb (pa_cons hcc pa_nil h1) h2) h3) hw hs).run pins s σ H N I ?_
  obtain ⟨F, B, E, fps, rl, h⟩ := h
  have h' : PstS X.K ct W F B (R.bind (ma E) fun x => M.bnd mb fun y => M.bnd mc fun z E => .ok .nx (((E.set i (.own none (.nd x.1 x.2))).set j (.own none (.nd y.1 y.2))).set l (.own none (.nd z.1 z.2)))) N := h
  refine ⟨F, B, E, fps, rl, (PstN.thenS (σ := σ) h').imp ?_⟩
  rintro v1 H1 ⟨n1, E1, B1, fps1, a1, rl1, s1, rfl, nw1, g1⟩
  obtain ⟨o1, ho1, rh1, back1⟩ := nw1.hold rl1
  refine ⟨F.plus a1 o1, B1, E1, fps1, rh1, ?_⟩
  have g1' : PstS X.K ct W F B1 (R.bind (mb E1) fun y => M.bnd mc fun z E => .ok .nx (((E.set i (.own none (.nd n1.1 n1.2))).set j (.own none (.nd y.1 y.2))).set l (.own none (.nd z.1 z.2)))) N := g1
  cases eb : mb E1 with
  | bad => rw [eb] at g1'; exact g1'
  | ex x E2 =>
    rw [eb] at g1'
    exact fun c dx B2 H2 fp r s q => g1' c dx σ B2 H2 fp (back1 r s).1 s q
  | ok n2 E2 =>
    rw [eb] at g1'
    intro a2 B2 H2 fps2 r2 s2 nw2
    obtain ⟨o2, ho2, rh2, back2⟩ := nw2.hold r2
    refine ⟨(F.plus a1 o1).plus a2 o2, B2, E2, fps2, rh2, ?_⟩
    have g2 : PstS X.K ct W F B1 (R.bind (mc E2) fun z E => .ok .nx (((E.set i (.own none (.nd n1.1 n1.2))).set j (.own none (.nd n2.1 n2.2))).set l (.own none (.nd z.1 z.2)))) N := g1'
    cases ec : mc E2 with
    | bad => rw [ec] at g2; exact g2
    | ex x E3 =>
      rw [ec] at g2
      intro c dx B3 H3 fp r s q
      obtain ⟨k1, _⟩ := back2 r s
      exact g2 c dx σ B3 H3 fp (back1 k1 (s2.trans s)).1 (s2.trans s) q
    | ok n3 E3 =>
      rw [ec] at g2
      intro a3 B3 H3 fps3 r3 s3 nw3
      obtain ⟨nw3', ne32⟩ := nw3.low
      obtain ⟨nw3'', ne31⟩ := nw3'.low
      obtain ⟨k2, nw2'⟩ := back2 r3 s3
      obtain ⟨nw2'', ne21⟩ := nw2'.low
      obtain ⟨k1, nw1'⟩ := back1 k2 (s2.trans s3)
      refine ⟨_, _, _, rfl, ?_⟩
      have le := k1.ln
      have t1 := k1.setN (i := i) nw1' (by rw [← le]; exact li)
      have t2 := t1.setN (i := j) (nw2''.ne (i := i) (n := n1) ne21) (by rw [List.length_set, ← le]; exact lj)
      have t3 := t2.setN (i := l) ((nw3''.ne (i := i) (n := n1) ne31).ne (i := j) (n := n2) ne32) (by rw [List.length_set, List.length_set, ← le]; exact ll)
      exact g2 _ B3 H3 _ t3 (s2.trans s3)
end
end Wu

/-! x.index(y), x.count(y) of lists of flat things. -/
namespace Wu
open PySem PySem.Spec PyProof.Rows L2
section
variable {X : Cx}
def rCount (K : PySem.W.Frag) : V → List V → Hp → VK → Prop := fun x xs H Q => ∃ (a : Addr) (ys : List V) (y : V), x = V.ref a ∧ xs = [y] ∧ SqL K H a ys ∧ flatV y = true ∧ ys.all flatV = true ∧ Q (.int ((ys.countP fun z => eqV z y : Nat) : Int)) H
theorem count_eqU {y : V} : ∀ {ys : List V} {us : List Value}, Vals ys us → ys.all flatV = true → us.countP (eqU y) = ys.countP fun z => eqV z y
  | _, _, .nil, _ => rfl
  | _, _, .cons (a := z) (b := u) h t, f => by
    obtain ⟨f1, f2⟩ := Bool.and_eq_true_iff.mp (show (flatV z && _) = true from f)
    rw [List.countP_cons, List.countP_cons, count_eqU t f2, eqU_of h f1]
theorem mt_count : MtR X "list.count" (rCount X.K) := by
  intro pins s σ H x xs v us Q I rx rxs h
  obtain ⟨a, ys, y, rfl, rfl, hs, fy, fys, q⟩ := h
  cases rx
  cases rxs with
  | cons ry rt =>
    rename_i uy ut
    cases rt
    obtain ⟨its, rv, ⟨⟨cls, dd, data, sl⟩, n, ho, hc, hdn, hd⟩, hlen⟩ := I.list hs
    simp only at hc hd
    subst hc hd
    refine call_meets PySem.F.slot_list_count ⟨_, ho, rfl⟩ PySem.F.entry_list_count (PySem.F.args_list_count_2 _ _) (SeqAt.list_countAt a its.toArray n dd sl uy (eqU y)) ⟨ho, fun u' hu' => mem_eqAt ry fy rv fys u' (by simpa using hu'), ?_⟩
    refine ⟨.int ((ys.countP fun z => eqV z y : Nat) : Int), H, I.tok _, ⟨s.toks, ?_⟩, q⟩
    rw [← count_eqU rv fys]
end
def pIndexL : D → D → Option D
  | .nd .lst l, y => (fvL l).bind fun vs => (y.fv).bind fun v => (vs.findIdx? fun z => eqV z v).map fun (j : Nat) => D.int (j : Int)
  | _, _ => none
def pCountL : D → D → Option D
  | .nd .lst l, y => (fvL l).bind fun vs => (y.fv).map fun v => D.int ((vs.countP fun z => eqV z v : Nat) : Int)
  | _, _ => none
def mLst1 (g : D → D → Option D) (mo m : M D) : M D := mo.bnd fun o => match o with
  | .nd .lst l => m.bnd fun y => .opt (g (.nd .lst l) y)
  | _ => .bad
section
variable {K : PySem.W.Frag} {ct : Ct} {B : Hp}
theorem RpL.fvs : ∀ {xs : List V} {l : List D} {vs : List V}, RpL K ct B xs l → fvL l = some vs → xs = vs ∧ vs.all flatV = true
  | _, _, vs, .nil, e => by cases e; exact ⟨rfl, rfl⟩
  | _, _, vs, .cons (v := v) (d := d) (ds := ds) h t, e => by
    unfold fvL at e
    rw [List.mapM_cons] at e
    obtain ⟨w, e1, e2⟩ := Option.bind_eq_some_iff.mp e
    obtain ⟨ws, e3, e4⟩ := Option.bind_eq_some_iff.mp e2
    cases e4
    obtain ⟨h1, h2⟩ := h.fv e1
    obtain ⟨h3, h4⟩ := t.fvs e3
    exact ⟨by rw [h1, h3], by rw [List.all_cons, h2, h4]; rfl⟩
end
section
variable {X : Cx} {ct : Ct} {W : WX}
theorem d_indexL {o e : Expr} {apos pos : Pos} {mo m : M D} (ho : Ed X ct W o mo) (he : Ed X ct W e m) (h1 : starEach [e] X.env = (false, eval e X.env) :: starEach [] X.env := by rfl)
    (hbase : attributeBase o "index" X.env (eval o X.env) = eval o X.env := by rfl)
    (hfew : ((backTo pos (starEach [e] X.env)).all (fun x => !x.1) && (backToKw pos (keywordEach [] X.env)).all (fun x => x.1.isSome)
      && decide ([e].length + ([] : List Keyword).length + (if ([] : List Keyword).isEmpty then 0 else 1) < 30)) = true := by rfl)
    (hline : (apos.endLine == pos.line) = true := by rfl) (hpl : (backTo pos (starEach [] X.env)).any (·.1) = false := by rfl) :
    Ed X ct W (.Call (.Attribute o "index" apos) [e] [] pos) (mLst1 pIndexL mo m) := by
  refine PE.imp (pe_bm PySem.F.plainAttrs_list PySem.F.slot_list_index PySem.F.type_list_index mt_index ho (pa_cons he pa_nil h1) hbase hfew hline h1 hpl) fun σ H Q h => ?_
  obtain ⟨F, B, E, fps, rl, h⟩ := h
  refine ⟨F, B, E, fps, rl, (Pst.bind h).imp ?_⟩
  rintro x H1 ⟨d, E1, B1, fps1, rl1, s1, r1, h1'⟩
  split at h1'
  case h_2 => exact h1'.elim
  rename_i l
  obtain ⟨a, xs, rfl, hb, rx⟩ := r1.ndI
  refine ⟨.inl ⟨rfl, xs, SqL.of (rl1.bs _ _ hb)⟩, F, B1, E1, fps1, rl1, (Pst.bind h1').imp ?_⟩
  rintro y H2 ⟨dy, E2, B2, fps2, rl2, s2, r2, h2⟩
  obtain ⟨z, ez, h3⟩ := opt_of h2
  obtain ⟨vs, e1, ez2⟩ := Option.bind_eq_some_iff.mp (show (fvL l).bind _ = some z from ez)
  obtain ⟨v, e2, ez3⟩ := Option.bind_eq_some_iff.mp ez2
  obtain ⟨j, e3, rfl⟩ := Option.map_eq_some_iff.mp ez3
  obtain ⟨rfl, f1⟩ := rx.fvs e1
  obtain ⟨rfl, f2⟩ := r2.fv e2
  obtain ⟨hj, hjt, hno⟩ := List.findIdx?_eq_some_iff_getElem.mp e3
  refine ⟨a, xs, y, j, xs[j], rfl, rfl, SqL.of (rl2.bs _ _ (s2 _ _ hb)), f2, f1, List.getElem?_eq_getElem hj, hjt, fun m z' hm hz => ?_, (out_of rl2 h3).1 _ (.int _)⟩
  have hml : m < xs.length := by omega
  rw [List.getElem?_eq_getElem hml] at hz
  cases hz
  simpa using hno m hm
theorem d_countL {o e : Expr} {apos pos : Pos} {mo m : M D} (ho : Ed X ct W o mo) (he : Ed X ct W e m) (h1 : starEach [e] X.env = (false, eval e X.env) :: starEach [] X.env := by rfl)
    (hbase : attributeBase o "count" X.env (eval o X.env) = eval o X.env := by rfl)
    (hfew : ((backTo pos (starEach [e] X.env)).all (fun x => !x.1) && (backToKw pos (keywordEach [] X.env)).all (fun x => x.1.isSome)
      && decide ([e].length + ([] : List Keyword).length + (if ([] : List Keyword).isEmpty then 0 else 1) < 30)) = true := by rfl)
    (hline : (apos.endLine == pos.line) = true := by rfl) (hpl : (backTo pos (starEach [] X.env)).any (·.1) = false := by rfl) :
    Ed X ct W (.Call (.Attribute o "count" apos) [e] [] pos) (mLst1 pCountL mo m) := by
  refine PE.imp (pe_bm PySem.F.plainAttrs_list PySem.F.slot_list_count PySem.F.type_list_count mt_count ho (pa_cons he pa_nil h1) hbase hfew hline h1 hpl) fun σ H Q h => ?_
  obtain ⟨F, B, E, fps, rl, h⟩ := h
  refine ⟨F, B, E, fps, rl, (Pst.bind h).imp ?_⟩
  rintro x H1 ⟨d, E1, B1, fps1, rl1, s1, r1, h1'⟩
  split at h1'
  case h_2 => exact h1'.elim
  rename_i l
  obtain ⟨a, xs, rfl, hb, rx⟩ := r1.ndI
  refine ⟨.inl ⟨rfl, xs, SqL.of (rl1.bs _ _ hb)⟩, F, B1, E1, fps1, rl1, (Pst.bind h1').imp ?_⟩
  rintro y H2 ⟨dy, E2, B2, fps2, rl2, s2, r2, h2⟩
  obtain ⟨z, ez, h3⟩ := opt_of h2
  obtain ⟨vs, e1, ez2⟩ := Option.bind_eq_some_iff.mp (show (fvL l).bind _ = some z from ez)
  obtain ⟨v, e2, rfl⟩ := Option.map_eq_some_iff.mp ez2
  obtain ⟨rfl, f1⟩ := rx.fvs e1
  obtain ⟨rfl, f2⟩ := r2.fv e2
  exact ⟨a, xs, y, rfl, rfl, SqL.of (rl2.bs _ _ (s2 _ _ hb)), f2, f1, (out_of rl2 h3).1 _ (.int _)⟩
end
end Wu

/-! Plain reckoning over meanings: calls, loops, draws. -/
namespace Wu
open PySem PySem.Spec PyProof.Rows L2

theorem M.bnd_ok {α β : Type} {m : M α} {k : α → M β} {E E' : Env'} {a : α} (h : m E = .ok a E') : (m.bnd k) E = k a E' := by
  unfold M.bnd; rw [h]; rfl
theorem M.bnd_ex {α β : Type} {m : M α} {k : α → M β} {E E' : Env'} {x : Exn} (h : m E = .ex x E') : (m.bnd k) E = .ex x E' := by
  unfold M.bnd; rw [h]; rfl

/-! ### draws -/
theorem mapIdx_id_of {α : Type} {f : Nat → α → α} {l : List α} (h : ∀ i x, l[i]? = some x → f i x = x) : l.mapIdx f = l := by
  apply List.ext_getElem?
  intro i
  rw [List.getElem?_mapIdx]
  cases e : l[i]? with
  | none => rfl
  | some x => simp [h i x e]
theorem scatter_next {E : Env'} {i : Nat} {ix : Option Nat} {c c' : Ow} {n : D} (h : E[i]? = some (.own ix c)) :
    scatter E [.inr i, .inl n] [.o c', .v n] = E.set i (.own ix c') := by
  unfold scatter
  apply List.ext_getElem?
  intro j
  rw [List.getElem?_mapIdx, List.getElem?_set]
  by_cases hj : i = j
  · subst hj
    rw [if_pos rfl, h]
    have hl : i < E.length := (List.getElem?_eq_some_iff.mp h).1
    rw [if_pos hl]
    simp [scat1, lookR]
  · rw [if_neg hj]
    cases e : E[j]? with
    | none => rfl
    | some s => cases s <;> simp [scat1, lookR, hj]
/-- the next draw -/
theorem call_next {E E' : Env'} {i : Nat} {ix : Option Nat} {s : Dr} {n : Int} {a : M D} (ha : a E = .ok (.int n) E') (h : E[i]? = some (.own ix (.dr s))) (h' : E'[i]? = some (.own ix (.dr s))) (h0 : 0 < n) (h1 : n.natAbs.log2 < 9000) :
    mCall 2 semNext (mrR i (mrE a mrNil)) E = .ok (.int (s.draw n)) (E'.set i (.own ix (.dr (s.next n)))) := by
  have e1 : mrR i (mrE a mrNil) E = .ok [.inr i, .inl (.int n)] E' := by
    unfold mrR
    rw [h]
    show (M.bnd (mrE a mrNil) _) E = _
    rw [M.bnd_ok (show mrE a mrNil E = .ok [.inl (.int n)] E' by unfold mrE; rw [M.bnd_ok ha]; rfl)]
    rfl
  unfold mCall
  rw [M.bnd_ok e1]
  have e2 : gather E' [.inr i, .inl (.int n)] = some [.o (.dr s), .v (.int n)] := by
    simp only [gather, h', Option.map]
  have e3 : semNext [.o (.dr s), .v (.int n)] = .ok (.int (s.draw n)) [.o (.dr (s.next n)), .v (.int n)] := by
    simp only [semNext]; rw [if_pos ⟨h0, h1⟩]
  simp only [e2, e3, rOk, shapes, List.any, isRef, Bool.or_false, Bool.not_false, Bool.and_true, List.length, if_true, Bool.and_self, beq_self_eq_true, Nat.reduceAdd, Nat.reduceBEq]
  rw [scatter_next h']

/-! ### statements one behind the other -/
theorem sSeq_ok {a b : SM} {E E' : Env'} (h : a E = .ok .nx E') : sSeq a b E = b E' := by unfold sSeq; rw [h]
theorem sSeq_ex {a b : SM} {E E' : Env'} {x : Exn} (h : a E = .ex x E') : sSeq a b E = .ex x E' := by unfold sSeq; rw [h]
theorem sSeq_rt {a b : SM} {E E' : Env'} {d : D} (h : a E = .ok (.rt d) E') : sSeq a b E = .ok (.rt d) E' := by unfold sSeq; rw [h]
theorem sFor_ok {mi : M (List D)} {g : GM} {b : SM} {E E' : Env'} {ds : List D} (h : mi E = .ok ds E') : sFor mi g b E = loopD g b ds E' := M.bnd_ok h
theorem sIf_ok {c : M Bool} {a b : SM} {E E' : Env'} {k : Bool} (h : c E = .ok k E') : sIf c a b E = if k then a E' else b E' := by
  unfold sIf; rw [M.bnd_ok h]; cases k <;> rfl
theorem sSet_ok {i : Nat} {m : M D} {E E' : Env'} {d : D} (h : m E = .ok d E') : sSet i m E = .ok .nx (E'.set i (.val d)) := M.bnd_ok h
/-! ### loops -/
/-- behind one turn -/
def After (Q : R Fl → Prop) (I : Env' → Prop) : R Fl → Prop
  | .ok .nx E => I E
  | .ok .ct E => I E
  | .ok .bk E => Q (.ok .nx E)
  | .ok (.rt v) E => Q (.ok (.rt v) E)
  | .ex x E => Q (.ex x E)
  | .bad => False
theorem loop_inv {g : GM} {body : SM} {ds : List D} {E : Env'} (Q : R Fl → Prop) (I : List D → Env' → Prop) (h0 : I [] E)
    (step : ∀ pre d post E, ds = pre ++ d :: post → I pre E → ∃ E1 r, g d E = some E1 ∧ body E1 = r ∧ After Q (I (pre ++ [d])) r)
    (hend : ∀ E, I ds E → Q (.ok .nx E)) : Q (loopD g body ds E) := by
  have key : ∀ post pre E, ds = pre ++ post → I pre E → Q (loopD g body post E) := by
    intro post
    induction post with
    | nil => intro pre E e h; simp at e; subst e; exact hend _ h
    | cons d post ih =>
      intro pre E e h
      obtain ⟨E1, r, e1, e2, h1⟩ := step pre d post E e h
      unfold loopD
      simp only [e1, e2]
      cases r with
      | ok f E2 =>
        cases f with
        | nx => exact ih (pre ++ [d]) E2 (by simp [e]) h1
        | ct => exact ih (pre ++ [d]) E2 (by simp [e]) h1
        | bk => exact h1
        | rt v => exact h1
      | ex x E2 => exact h1
      | bad => exact h1.elim
  exact key ds [] E rfl h0
end Wu

/-! Plain reckoning: the meanings unfolded step by step. -/
namespace Wu
open PySem PySem.Spec PyProof.Rows L2
section
variable {α β : Type}
@[simp] theorem ev_bnd (m : M α) (k : α → M β) (E : Env') : (m.bnd k) E = (m E).bind k := rfl
@[simp] theorem ev_bok (a : α) (E : Env') (k : α → M β) : (R.ok a E).bind k = k a E := rfl
@[simp] theorem ev_bex (x : Exn) (E : Env') (k : α → M β) : (R.ex x E : R α).bind k = .ex x E := rfl
@[simp] theorem ev_bbad (k : α → M β) : (R.bad : R α).bind k = .bad := rfl
@[simp] theorem ev_ret (a : α) (E : Env') : M.ret a E = .ok a E := rfl
@[simp] theorem ev_some (a : α) (E : Env') : M.opt (some a) E = .ok a E := rfl
@[simp] theorem ev_none (E : Env') : (M.opt none : M α) E = .bad := rfl
@[simp] theorem ev_bad (E : Env') : (M.bad : M α) E = .bad := rfl
end
@[simp] theorem ev_c (d : D) (E : Env') : mC d E = .ok d E := rfl
@[simp] theorem ev_nil (E : Env') : mNil E = .ok [] E := rfl
@[simp] theorem ev_cons (m : M D) (ms : M (List D)) (E : Env') : mCons m ms E = (m E).bind fun d => ms.bnd fun ds => .ret (d :: ds) := rfl
@[simp] theorem ev_fn (g : List D → Option D) (ms : M (List D)) (E : Env') : mFn g ms E = (ms E).bind fun ds => .opt (g ds) := rfl
@[simp] theorem ev_op (g : D → D → Option D) (a b : M D) (E : Env') : mOp g a b E = (a E).bind fun x => b.bnd fun y => .opt (g x y) := rfl
def tst : D → M Bool
  | .bl b => .ret b
  | _ => .bad
@[simp] theorem ev_test (m : M D) (E : Env') : mTest m E = (m E).bind tst := rfl
@[simp] theorem ev_tst (b : Bool) (E : Env') : tst (.bl b) E = .ok b E := rfl
@[simp] theorem ev_and (a b : M Bool) (E : Env') : mAnd a b E = (a E).bind fun c => if c then b else .ret false := rfl
@[simp] theorem ev_or (a b : M Bool) (E : Env') : mOr a b E = (a E).bind fun c => if c then .ret true else b := rfl
@[simp] theorem ev_not (a : M Bool) (E : Env') : mNot a E = (a E).bind fun c => .ret (!c) := rfl
@[simp] theorem ev_if (c : M Bool) (a b : M D) (E : Env') : mIf c a b E = (c E).bind fun k => if k then a else b := rfl
def andK (b : M D) : D → M D
  | .bl c => if c then b else .ret (.bl false)
  | _ => .bad
@[simp] theorem ev_andV (a b : M D) (E : Env') : mAndV a b E = (a E).bind (andK b) := rfl
@[simp] theorem ev_andK (b : M D) (c : Bool) (E : Env') : andK b (.bl c) E = if c then b E else .ok (.bl false) E := by cases c <;> rfl
def orK (b : M D) : D → M D
  | .bl c => if c then .ret (.bl true) else b
  | _ => .bad
@[simp] theorem ev_orV (a b : M D) (E : Env') : mOrV a b E = (a E).bind (orK b) := rfl
@[simp] theorem ev_orK (b : M D) (c : Bool) (E : Env') : orK b (.bl c) E = if c then .ok (.bl true) E else b E := by cases c <;> rfl
def notK : D → M D
  | .bl c => .ret (.bl (!c))
  | _ => .bad
@[simp] theorem ev_notV (a : M D) (E : Env') : mNotV a E = (a E).bind notK := rfl
@[simp] theorem ev_notK (c : Bool) (E : Env') : notK (.bl c) E = .ok (.bl (!c)) E := rfl
@[simp] theorem ev_isi (T : Tn) (m : M D) (E : Env') : mIsi T m E = (m E).bind fun d => .opt (pIsi T d) := rfl
@[simp] theorem ev_isN (m : M D) (E : Env') : mIsN m E = (m E).bind fun d => .ret (.bl d.isNon) := rfl
@[simp] theorem ev_notN (m : M D) (E : Env') : mNotN m E = (m E).bind fun d => .ret (.bl (!d.isNon)) := rfl
@[simp] theorem ev_seq (m : M D) (E : Env') : mSeq m E = (m E).bind fun d => .opt (items1 d) := rfl
theorem ev_range (m : M (List D)) (E : Env') : mRange m E = (m E).bind fun d => .opt (pRange d) := rfl
@[simp] theorem ev_enum (m : M D) (E : Env') : mEnum m E = (m E).bind fun d => .opt (pEnum d) := rfl
@[simp] theorem ev_sl (m : M D) (lo hi : Option (M D)) (E : Env') : mSl m lo hi E = (m E).bind fun d => (mPart lo).bnd fun a => (mPart hi).bnd fun b => .opt (pSl a b d) := rfl
def prtK : D → M (Option Int)
  | .int i => .ret (some i)
  | _ => .bad
@[simp] theorem ev_part0 (E : Env') : mPart none E = .ok none E := rfl
@[simp] theorem ev_part (m : M D) (E : Env') : mPart (some m) E = (m E).bind prtK := rfl
@[simp] theorem ev_prtK (i : Int) (E : Env') : prtK (.int i) E = .ok (some i) E := rfl
@[simp] theorem ev_rev (m : M D) (E : Env') : mRev m E = (m E).bind fun d => .opt (pRev d) := rfl
def chK (g' : D → D → Option D) (y : D) (c : M D) : D → M D
  | .bl k => if k then c.bnd fun w => .opt (g' y w) else .ret (.bl false)
  | _ => .bad
@[simp] theorem ev_chain (g g' : D → D → Option D) (a b c : M D) (E : Env') : mChain g g' a b c E = (a E).bind fun x => b.bnd fun y => (M.opt (g x y)).bnd (chK g' y c) := rfl
@[simp] theorem ev_chK (g' : D → D → Option D) (y : D) (c : M D) (k : Bool) (E : Env') : chK g' y c (.bl k) E = if k then (c E).bind (fun w => .opt (g' y w)) else .ok (.bl false) E := by cases k <;> rfl
@[simp] theorem ev_ite {α : Type} (c : Prop) [Decidable c] (a b : M α) (E : Env') : (if c then a else b) E = if c then a E else b E := by split <;> rfl
/-! ### statements -/
@[simp] theorem ev_sNil (E : Env') : sNil E = .ok .nx E := rfl
@[simp] theorem ev_sRet (m : M D) (E : Env') : sRet m E = (m E).bind fun d E => .ok (.rt d) E := rfl
@[simp] theorem ev_sSet (i : Nat) (m : M D) (E : Env') : sSet i m E = (m E).bind fun d E => .ok .nx (E.set i (.val d)) := rfl
@[simp] theorem ev_sExpr (m : M D) (E : Env') : sExpr m E = (m E).bind fun _ E => .ok .nx E := rfl
@[simp] theorem ev_sIf (c : M Bool) (a b : SM) (E : Env') : sIf c a b E = (c E).bind fun k => if k then a else b := rfl
def sqK (b : SM) : R Fl → R Fl
  | .ok .nx E' => b E'
  | r => r
@[simp] theorem ev_sSeq (a b : SM) (E : Env') : sSeq a b E = sqK b (a E) := rfl
@[simp] theorem ev_sqnx (b : SM) (E : Env') : sqK b (.ok .nx E) = b E := rfl
@[simp] theorem ev_sqrt (b : SM) (d : D) (E : Env') : sqK b (.ok (.rt d) E) = .ok (.rt d) E := rfl
@[simp] theorem ev_sqex (b : SM) (x : Exn) (E : Env') : sqK b (.ex x E) = .ex x E := rfl
@[simp] theorem ev_sqbad (b : SM) : sqK b .bad = .bad := rfl
@[simp] theorem ev_sRaise (c f : Str) (m : M D) (E : Env') : sRaise c f m E = (m E).bind fun d E => .ex ⟨c, [f], [d]⟩ E := rfl
@[simp] theorem ev_sFor (mi : M (List D)) (g : GM) (body : SM) (E : Env') : sFor mi g body E = (mi E).bind fun ds => loopD g body ds := rfl
def asK (g : GM) (d : D) : SM := fun E => match g d E with
  | some E' => .ok .nx E'
  | none => .bad
@[simp] theorem ev_sAsg (m : M D) (g : GM) (E : Env') : sAsg m g E = (m E).bind (asK g) := rfl
theorem asK_of {g : GM} {d : D} {E E' : Env'} (h : g d E = some E') : asK g d E = .ok .nx E' := by unfold asK; rw [h]
/-! ### names -/
theorem ev_var {i : Nat} {E : Env'} {d : D} (h : E[i]? = some (.val d)) : mVar i E = .ok d E := by unfold mVar; rw [h]
@[simp] theorem ev_v0 (d : D) (E : Env') : mVar 0 (.val d :: E) = .ok d (.val d :: E) := rfl
@[simp] theorem ev_v1 (a : Sl) (d : D) (E : Env') : mVar 1 (a :: .val d :: E) = .ok d (a :: .val d :: E) := rfl
@[simp] theorem ev_v2 (a b : Sl) (d : D) (E : Env') : mVar 2 (a :: b :: .val d :: E) = .ok d (a :: b :: .val d :: E) := rfl
@[simp] theorem ev_v3 (a b c : Sl) (d : D) (E : Env') : mVar 3 (a :: b :: c :: .val d :: E) = .ok d (a :: b :: c :: .val d :: E) := rfl
@[simp] theorem ev_v4 (a b c e : Sl) (d : D) (E : Env') : mVar 4 (a :: b :: c :: e :: .val d :: E) = .ok d (a :: b :: c :: e :: .val d :: E) := rfl
@[simp] theorem ev_v5 (a b c e f : Sl) (d : D) (E : Env') : mVar 5 (a :: b :: c :: e :: f :: .val d :: E) = .ok d (a :: b :: c :: e :: f :: .val d :: E) := rfl
@[simp] theorem ev_v6 (a b c e f g : Sl) (d : D) (E : Env') : mVar 6 (a :: b :: c :: e :: f :: g :: .val d :: E) = .ok d (a :: b :: c :: e :: f :: g :: .val d :: E) := rfl
@[simp] theorem ev_v7 (a b c e f g h : Sl) (d : D) (E : Env') : mVar 7 (a :: b :: c :: e :: f :: g :: h :: .val d :: E) = .ok d (a :: b :: c :: e :: f :: g :: h :: .val d :: E) := rfl
@[simp] theorem ev_v8 (a b c e f g h i : Sl) (d : D) (E : Env') : mVar 8 (a :: b :: c :: e :: f :: g :: h :: i :: .val d :: E) = .ok d (a :: b :: c :: e :: f :: g :: h :: i :: .val d :: E) := rfl
@[simp] theorem ev_v9 (a b c e f g h i j : Sl) (d : D) (E : Env') : mVar 9 (a :: b :: c :: e :: f :: g :: h :: i :: j :: .val d :: E) = .ok d (a :: b :: c :: e :: f :: g :: h :: i :: j :: .val d :: E) := rfl
@[simp] theorem ev_v10 (a b c e f g h i j k : Sl) (d : D) (E : Env') : mVar 10 (a :: b :: c :: e :: f :: g :: h :: i :: j :: k :: .val d :: E) = .ok d (a :: b :: c :: e :: f :: g :: h :: i :: j :: k :: .val d :: E) := rfl
@[simp] theorem ev_v11 (a b c e f g h i j k l : Sl) (d : D) (E : Env') : mVar 11 (a :: b :: c :: e :: f :: g :: h :: i :: j :: k :: l :: .val d :: E) = .ok d (a :: b :: c :: e :: f :: g :: h :: i :: j :: k :: l :: .val d :: E) := rfl
/-! ### values -/
@[simp] theorem pLe_int (i j : Int) : pLe (.int i) (.int j) = some (.bl (decide (i ≤ j))) := rfl
@[simp] theorem pLt_int (i j : Int) : pLt (.int i) (.int j) = some (.bl (decide (i < j))) := rfl
@[simp] theorem pGt_int (i j : Int) : pGt (.int i) (.int j) = some (.bl (decide (j < i))) := rfl
@[simp] theorem pGe_int (i j : Int) : pGe (.int i) (.int j) = some (.bl (decide (j ≤ i))) := rfl
@[simp] theorem pAdd_int (i j : Int) : pAdd (.int i) (.int j) = some (.int (i + j)) := rfl
@[simp] theorem pSub_int (i j : Int) : pSub (.int i) (.int j) = some (.int (i - j)) := rfl
@[simp] theorem pLen_tup (l : List D) : pLen [.nd .tup l] = some (.int l.length) := rfl
@[simp] theorem pLen_lst (l : List D) : pLen [.nd .lst l] = some (.int l.length) := rfl
@[simp] theorem pTuple_lst (l : List D) : pTuple [.nd .lst l] = some (.nd .tup l) := rfl
@[simp] theorem pTuple_tup (l : List D) : pTuple [.nd .tup l] = some (.nd .tup l) := rfl
@[simp] theorem pList_tup (l : List D) : pList [.nd .tup l] = some (.nd .lst l) := rfl
@[simp] theorem pList_lst (l : List D) : pList [.nd .lst l] = some (.nd .lst l) := rfl
@[simp] theorem pInt_int (i : Int) : pInt [.int i] = some (.int i) := rfl
@[simp] theorem items_tup (l : List D) : items1 (.nd .tup l) = some l := rfl
@[simp] theorem items_lst (l : List D) : items1 (.nd .lst l) = some l := rfl
@[simp] theorem items_str (x : Str) : items1 (.str x) = some (signs x) := rfl
@[simp] theorem pEnum_tup (l : List D) : pEnum (.nd .tup l) = some (numD l) := rfl
@[simp] theorem pEq_str (x y : Str) : pEq (.str x) (.str y) = some (.bl (decide (x = y))) := rfl
@[simp] theorem pNe_str (x y : Str) : pNe (.str x) (.str y) = some (.bl (!decide (x = y))) := rfl
@[simp] theorem pEq_int (i j : Int) : pEq (.int i) (.int j) = some (.bl (decide (i = j))) := by
  show some (D.bl (i == j)) = _
  congr 2
@[simp] theorem pNe_int (i j : Int) : pNe (.int i) (.int j) = some (.bl (!decide (i = j))) := by
  show some (D.bl (!(i == j))) = _
  congr 2
@[simp] theorem pEq_tup0 (l : List D) : pEq (.nd .tup l) (.nd .tup []) = some (.bl l.isEmpty) := by cases l <;> rfl
@[simp] theorem pNe_tup0 (l : List D) : pNe (.nd .tup l) (.nd .tup []) = some (.bl (!l.isEmpty)) := by cases l <;> rfl
@[simp] theorem pEq_lst0 (l : List D) : pEq (.nd .lst l) (.nd .lst []) = some (.bl l.isEmpty) := by cases l <;> rfl
@[simp] theorem pNe_lst0 (l : List D) : pNe (.nd .lst l) (.nd .lst []) = some (.bl (!l.isEmpty)) := by cases l <;> rfl
@[simp] theorem pTup_nil : pTup [] = some (.nd .tup []) := rfl
@[simp] theorem pLst_nil : pLst [] = some (.nd .lst []) := rfl
@[simp] theorem pTup_1 (a : D) : pTup [a] = some (.nd .tup [a]) := rfl
@[simp] theorem pTup_2 (a b : D) : pTup [a, b] = some (.nd .tup [a, b]) := rfl
@[simp] theorem pTup_3 (a b c : D) : pTup [a, b, c] = some (.nd .tup [a, b, c]) := rfl
@[simp] theorem pLst_1 (a : D) : pLst [a] = some (.nd .lst [a]) := rfl
@[simp] theorem pLst_2 (a b : D) : pLst [a, b] = some (.nd .lst [a, b]) := rfl
@[simp] theorem pLst_3 (a b c : D) : pLst [a, b, c] = some (.nd .lst [a, b, c]) := rfl
@[simp] theorem sub_ss : Tn.str.sub .str = true := rfl
/-! ### calls of defs with data alone -/
theorem scat_v {E : Env'} {l : List AR} {as : List Ag} (h : ∀ x ∈ l, ∃ d, x = .inl d) : scatter E l as = E := by
  unfold scatter
  apply mapIdx_id_of
  intro i x _
  have e : ∀ (l : List AR) (as : List Ag), (∀ x ∈ l, ∃ d, x = .inl d) → lookR l as i = none := by
    intro l
    induction l with
    | nil => intro as _; cases as <;> rfl
    | cons y l ih =>
      intro as h
      obtain ⟨d, rfl⟩ := h y List.mem_cons_self
      cases as with
      | nil => rfl
      | cons a as => exact ih as fun x hx => h x (List.mem_cons_of_mem _ hx)
  cases x with
  | own ix c => simp only [scat1, e l as h]
  | und => rfl
  | fn => rfl
  | val d => rfl
/-- what a call with data gives -/
def zR (E : Env') : Rz → R D
  | .ok d _ => .ok d E
  | .ex x _ => .ex x E
  | .bad => .bad
theorem call1 {f : Sm} {a : M D} {E E' : Env'} {x : D} (ha : a E = .ok x E') (hs : ∀ d as, f [.v x] = .ok d as → as.length = 1) (hx : ∀ d as, f [.v x] = .ex d as → as.length = 1) : mCall 1 f (mrE a mrNil) E = zR E' (f [.v x]) := by
  have e : mrE a mrNil E = .ok [.inl x] E' := by unfold mrE; rw [M.bnd_ok ha]; rfl
  unfold mCall
  rw [M.bnd_ok e]
  have g : gather E' [.inl x] = some [.v x] := rfl
  simp only [g, rOk, List.length, Bool.true_and]
  cases ef : f [.v x] with
  | ok d as =>
    obtain ⟨b, rfl⟩ := List.length_eq_one_iff.mp (hs d as ef)
    simp [shapes, zR, scat_v]
  | ex d as =>
    obtain ⟨b, rfl⟩ := List.length_eq_one_iff.mp (hx d as ef)
    simp [shapes, zR, scat_v]
  | bad => simp [zR]
theorem call1_ok {f : Sm} {a : M D} {E E' : Env'} {x d : D} (ha : a E = .ok x E') (hf : f [.v x] = .ok d [.v x]) : mCall 1 f (mrE a mrNil) E = .ok d E' := by
  rw [call1 ha (fun d' as e => by rw [hf] at e; cases e; rfl) (fun d' as e => by rw [hf] at e; cases e), hf]; rfl
theorem call1_ex {f : Sm} {a : M D} {E E' : Env'} {x : D} {e : Exn} (ha : a E = .ok x E') (hf : f [.v x] = .ex e [.v x]) : mCall 1 f (mrE a mrNil) E = .ex e E' := by
  rw [call1 ha (fun d' as e => by rw [hf] at e; cases e) (fun d' as e => by rw [hf] at e; cases e; rfl), hf]; rfl
theorem call2 {f : Sm} {a b : M D} {E E' E'' : Env'} {x y : D} (ha : a E = .ok x E') (hb : b E' = .ok y E'') (hs : ∀ d as, f [.v x, .v y] = .ok d as → as.length = 2) (hx : ∀ d as, f [.v x, .v y] = .ex d as → as.length = 2) : mCall 2 f (mrE a (mrE b mrNil)) E = zR E'' (f [.v x, .v y]) := by
  have e : mrE a (mrE b mrNil) E = .ok [.inl x, .inl y] E'' := by
    unfold mrE; rw [M.bnd_ok ha, M.bnd_ok (show (M.bnd b _) E' = .ok [.inl y] E'' by rw [M.bnd_ok hb]; rfl)]; rfl
  unfold mCall
  rw [M.bnd_ok e]
  have g : gather E'' [.inl x, .inl y] = some [.v x, .v y] := rfl
  simp only [g, rOk, List.length, Bool.true_and]
  cases ef : f [.v x, .v y] with
  | ok d as =>
    obtain ⟨b, c, rfl⟩ : ∃ b c, as = [b, c] := by
      match as, hs d as ef with
      | [b, c], _ => exact ⟨b, c, rfl⟩
    simp [shapes, zR, scat_v]
  | ex d as =>
    obtain ⟨b, c, rfl⟩ : ∃ b c, as = [b, c] := by
      match as, hx d as ef with
      | [b, c], _ => exact ⟨b, c, rfl⟩
    simp [shapes, zR, scat_v]
  | bad => simp [zR]
theorem call2_ok {f : Sm} {a b : M D} {E E' E'' : Env'} {x y d : D} (ha : a E = .ok x E') (hb : b E' = .ok y E'') (hf : f [.v x, .v y] = .ok d [.v x, .v y]) : mCall 2 f (mrE a (mrE b mrNil)) E = .ok d E'' := by
  rw [call2 ha hb (fun d' as e => by rw [hf] at e; cases e; rfl) (fun d' as e => by rw [hf] at e; cases e), hf]; rfl
theorem call2_ex {f : Sm} {a b : M D} {E E' E'' : Env'} {x y : D} {e : Exn} (ha : a E = .ok x E') (hb : b E' = .ok y E'') (hf : f [.v x, .v y] = .ex e [.v x, .v y]) : mCall 2 f (mrE a (mrE b mrNil)) E = .ex e E'' := by
  rw [call2 ha hb (fun d' as e => by rw [hf] at e; cases e) (fun d' as e => by rw [hf] at e; cases e; rfl), hf]; rfl
/-- a def's answer, its arguments data -/
theorem sem_rt {n : Nat} {bm : SM} {ds : List D} {d : D} {E : Env'} (h : bm (env0 n (ds.map Ag.v)) = .ok (.rt d) E) : semOf n bm (ds.map Ag.v) = .ok d (ds.map Ag.v) := by
  have e : ∀ (l : List D) (i : Nat), backN E i (l.map Ag.v) = some (l.map Ag.v) := by
    intro l
    induction l with
    | nil => intro i; rfl
    | cons a l ih => intro i; simp [backN, b1, ih]
  unfold semOf
  rw [h]
  simp only [endZ, finZ, e]
theorem sem_ex {n : Nat} {bm : SM} {ds : List D} {x : Exn} {E : Env'} (h : bm (env0 n (ds.map Ag.v)) = .ex x E) : semOf n bm (ds.map Ag.v) = .ex x (ds.map Ag.v) := by
  have e : ∀ (l : List D) (i : Nat), backN E i (l.map Ag.v) = some (l.map Ag.v) := by
    intro l
    induction l with
    | nil => intro i; rfl
    | cons a l ih => intro i; simp [backN, b1, ih]
  unfold semOf
  rw [h]
  simp only [endZ, finX, e]
/-! ### comprehensions over one name -/
theorem wipe_set {E : Env'} {i : Nat} {s : Sl} : wipeE [i] (E.set i s) = wipeE [i] E := by
  unfold wipeE
  apply List.ext_getElem?
  intro j
  rw [List.getElem?_mapIdx, List.getElem?_mapIdx, List.getElem?_set]
  by_cases h : i = j
  · subst h
    rw [if_pos rfl]
    by_cases hl : i < E.length
    · rw [if_pos hl, List.getElem?_eq_getElem hl]; simp
    · rw [if_neg hl, List.getElem?_eq_none (by omega)]
  · rw [if_neg h]
theorem wipe_wipe {E : Env'} {is : List Nat} : wipeE is (wipeE is E) = wipeE is E := by
  unfold wipeE
  apply List.ext_getElem?
  intro j
  rw [List.getElem?_mapIdx, List.getElem?_mapIdx]
  cases E[j]? with
  | none => rfl
  | some s => simp only [Option.map_some]; split <;> rfl
theorem rest_wipe {E : Env'} {is : List Nat} : restE is E (wipeE is E) = E := by
  unfold restE wipeE
  apply List.ext_getElem?
  intro j
  rw [List.getElem?_mapIdx]
  cases e : E[j]? with
  | none => rfl
  | some s =>
    simp only [Option.map_some]
    split
    · rfl
    · rename_i h
      rw [List.getD_eq_getElem?_getD, List.getElem?_mapIdx, e]
      simp [h]
theorem compD_of {i : Nat} {t : M Bool} {m : M D} {E : Env'} (tb : D → Bool) (y : D → D) : ∀ ds : List D, (∀ d ∈ ds, t ((wipeE [i] E).set i (.val d)) = .ok (tb d) ((wipeE [i] E).set i (.val d))) → (∀ d ∈ ds, tb d = true → m ((wipeE [i] E).set i (.val d)) = .ok (y d) ((wipeE [i] E).set i (.val d))) →
    compD (gN i) t m [i] ds (wipeE [i] E) = some ((ds.filter tb).map y, wipeE [i] E)
  | [], _, _ => rfl
  | d :: ds, ht, hm => by
    have ih := compD_of (i := i) (t := t) (m := m) (E := E) tb y ds (fun x hx => ht x (List.mem_cons_of_mem _ hx)) (fun x hx => hm x (List.mem_cons_of_mem _ hx))
    unfold compD
    simp only [gN, ht d List.mem_cons_self]
    cases e : tb d with
    | true =>
      simp only [hm d List.mem_cons_self e, wipe_set, wipe_wipe, ih, Option.map_some, List.filter_cons, e, if_true, List.map_cons]
    | false =>
      simp only [wipe_set, wipe_wipe, ih, List.filter_cons, e, Bool.false_eq_true, if_false]
theorem lc_of {mi : M (List D)} {i : Nat} {t : M Bool} {m : M D} {E : Env'} {ds : List D} (tb : D → Bool) (y : D → D) (hi : mi E = .ok ds E) (hf : (E.getD i .und).free = true) (hl : ds.length ≤ sizeLine)
    (ht : ∀ d ∈ ds, t ((wipeE [i] E).set i (.val d)) = .ok (tb d) ((wipeE [i] E).set i (.val d))) (hm : ∀ d ∈ ds, tb d = true → m ((wipeE [i] E).set i (.val d)) = .ok (y d) ((wipeE [i] E).set i (.val d))) :
    mLc mi (gN i) t m [i] E = .ok (.nd .lst ((ds.filter tb).map y)) E := by
  unfold mLc
  rw [M.bnd_ok hi]
  simp only [List.all_cons, List.all_nil, Bool.and_true, hf, decide_eq_true hl, if_true, compD_of tb y ds ht hm, rest_wipe]
end Wu

/-! Plain reckoning: lists of texts, slices, places; data that can be shown. -/
namespace Wu
open PySem PySem.Spec PyProof.Rows L2

/-! ### texts -/
def sds (xs : List Str) : List D := xs.map D.str
theorem sds_of {l : List D} (h : l.all D.isStr = true) : ∃ xs, l = sds xs := by
  induction l with
  | nil => exact ⟨[], rfl⟩
  | cons d l ih =>
    rw [List.all_cons, Bool.and_eq_true_iff] at h
    obtain ⟨xs, rfl⟩ := ih h.2
    cases d with
    | str x => exact ⟨x :: xs, rfl⟩
    | non => cases h.1
    | bl b => cases h.1
    | int i => cases h.1
    | nd k l => cases h.1
@[simp] theorem sds_all (xs : List Str) : (sds xs).all D.isStr = true := by
  induction xs with
  | nil => rfl
  | cons x xs ih => simpa [sds, D.isStr] using ih
@[simp] theorem sds_len (xs : List Str) : (sds xs).length = xs.length := by simp [sds]
theorem fvL_sds (xs : List Str) : fvL (sds xs) = some (xs.map V.str) := by
  unfold fvL sds
  induction xs with
  | nil => rfl
  | cons x xs ih =>
    rw [List.map_cons, List.mapM_cons, ih]
    rfl
theorem inV_sds (x : Str) (xs : List Str) : inV (.str x) (xs.map V.str) = decide (x ∈ xs) := by
  unfold inV
  induction xs with
  | nil => rfl
  | cons y xs ih =>
    rw [List.map_cons, List.any_cons, ih]
    show ((y == x) || decide (x ∈ xs)) = _
    by_cases h : y = x
    · subst h; simp
    · have h' : ¬ x = y := fun z => h z.symm
      simp [h, h']
@[simp] theorem pIn_tup (x : Str) (xs : List Str) : pInA false (.str x) (.nd .tup (sds xs)) = some (.bl (decide (x ∈ xs))) := by
  show (pInS false (.str x) (.nd .tup (sds xs))) = _
  simp only [pInS, D.fv, Option.bind_some, fvL_sds, Bool.false_eq_true, if_false, inV_sds]
@[simp] theorem pIn_lst (x : Str) (xs : List Str) : pInA false (.str x) (.nd .lst (sds xs)) = some (.bl (decide (x ∈ xs))) := by
  show (pInS false (.str x) (.nd .lst (sds xs))) = _
  simp only [pInS, D.fv, Option.bind_some, fvL_sds, Bool.false_eq_true, if_false, inV_sds]
@[simp] theorem pNin_tup (x : Str) (xs : List Str) : pInA true (.str x) (.nd .tup (sds xs)) = some (.bl (!decide (x ∈ xs))) := by
  show (pInS true (.str x) (.nd .tup (sds xs))) = _
  simp only [pInS, D.fv, Option.bind_some, fvL_sds, if_true, inV_sds]
@[simp] theorem pNin_lst (x : Str) (xs : List Str) : pInA true (.str x) (.nd .lst (sds xs)) = some (.bl (!decide (x ∈ xs))) := by
  show (pInS true (.str x) (.nd .lst (sds xs))) = _
  simp only [pInS, D.fv, Option.bind_some, fvL_sds, if_true, inV_sds]
/-- a sign among those of a text -/
@[simp] theorem pIn_sign (c : Nat) (z : Str) : pInA false (.str ⟨#[c]⟩) (.str z) = some (.bl (decide (c ∈ z.cps.toList))) := by
  show (pInS false (.str ⟨#[c]⟩) (.str z)) = _
  simp only [pInS]
  rw [if_pos (by rfl)]
  rfl
@[simp] theorem pNin_sign (c : Nat) (z : Str) : pInA true (.str ⟨#[c]⟩) (.str z) = some (.bl (!decide (c ∈ z.cps.toList))) := by
  show (pInS true (.str ⟨#[c]⟩) (.str z)) = _
  simp only [pInS]
  rw [if_pos (by rfl)]
  rfl
theorem mem_signs {x : Str} {d : D} (h : d ∈ signs x) : ∃ c ∈ x.cps.toList, d = .str ⟨#[c]⟩ := by
  obtain ⟨c, h1, h2⟩ := List.mem_map.mp h
  exact ⟨c, h1, h2.symm⟩
theorem signs_len (x : Str) : (signs x).length = x.length := by unfold signs; rw [List.length_map, Array.length_toList]; rfl
/-! ### == of texts in lists -/
def txt (xs : List Str) : Bool := xs.all PyData.strOk
theorem pyL_sds (xs : List Str) : pyL (sds xs) = xs.map PyData.str := by
  induction xs with
  | nil => rfl
  | cons x xs ih =>
    show PyData.str x :: pyL (sds xs) = _
    rw [ih]; rfl
theorem isPy_sds (xs : List Str) : isPyL (sds xs) = true := by
  induction xs with
  | nil => rfl
  | cons x xs ih =>
    show (true && isPyL (sds xs)) = true
    rw [ih]; rfl
theorem lay_sds {xs : List Str} (h : txt xs = true) : PyData.canLayAll0 (xs.map PyData.str) = true := by
  induction xs with
  | nil => rfl
  | cons x xs ih =>
    have h' : PyData.strOk x = true ∧ txt xs = true := Bool.and_eq_true_iff.mp h
    show (PyData.strOk x && PyData.canLayAll0 (xs.map PyData.str)) = true
    rw [h'.1, ih h'.2]; rfl
theorem dep_sds (xs : List Str) : PyData.depthAll (xs.map PyData.str) = 0 := by
  induction xs with
  | nil => rfl
  | cons x xs ih =>
    show max 0 (PyData.depthAll (xs.map PyData.str)) = 0
    rw [ih]; rfl
theorem eqv_sds : ∀ xs ys : List Str, PyData.eqvAll (xs.map PyData.str) (ys.map PyData.str) = decide (xs = ys)
  | [], [] => rfl
  | [], _ :: _ => rfl
  | _ :: _, [] => rfl
  | x :: xs, y :: ys => by
    show ((x == y) && PyData.eqvAll (xs.map PyData.str) (ys.map PyData.str)) = _
    rw [eqv_sds xs ys]
    by_cases h : x = y
    · subst h
      by_cases h2 : xs = ys
      · subst h2; simp
      · simp [h2]
    · simp [h]
theorem shp_lst {xs : List Str} (h : txt xs = true) : (D.nd .lst (sds xs)).shp = true := by
  show (isPyL (sds xs) && (PyData.canLayAll0 (pyL (sds xs)) && decide (PyData.depth (.list (pyL (sds xs))) ≤ 64))) = true
  rw [isPy_sds, pyL_sds, lay_sds h]
  show (decide (PyData.depthAll (xs.map PyData.str) + 1 ≤ 64)) = true
  rw [dep_sds]; rfl
theorem pEq_sds {xs ys : List Str} (h : txt xs = true) (h' : txt ys = true) : pEq (.nd .lst (sds xs)) (.nd .lst (sds ys)) = some (.bl (decide (xs = ys))) := by
  unfold pEq emp2
  cases xs with
  | nil => cases ys <;> rfl
  | cons x xs => cases ys with
    | nil => rfl
    | cons y ys =>
      simp only [sds, List.map_cons, List.isEmpty_cons, Bool.or_self, Bool.false_eq_true, if_false]
      rw [show (D.nd .lst (D.str x :: xs.map D.str)) = D.nd .lst (sds (x :: xs)) from rfl, show (D.nd .lst (D.str y :: ys.map D.str)) = D.nd .lst (sds (y :: ys)) from rfl, shp_lst h, shp_lst h']
      have e : D.eqb (.nd .lst (sds (x :: xs))) (.nd .lst (sds (y :: ys))) = decide (x :: xs = y :: ys) := by
        show PyData.eqvAll (pyL (sds (x :: xs))) (pyL (sds (y :: ys))) = _
        rw [pyL_sds, pyL_sds, eqv_sds]
      rw [e]; rfl
/-! ### places, slices -/
theorem atI_nat {α : Type} (l : List α) (k : Nat) : atI l (k : Int) = l[k]? := by
  unfold atI ixN
  rw [if_pos (by omega)]
  by_cases h : k < l.length
  · rw [if_pos (by omega)]; simp
  · rw [if_neg (by omega), List.getElem?_eq_none (by omega)]; rfl
theorem pIx_tup (l : List D) (k : Nat) : pIxA (.nd .tup l) (.int (k : Int)) = l[k]? := atI_nat l k
theorem pIx_lst (l : List D) (k : Nat) : pIxA (.nd .lst l) (.int (k : Int)) = l[k]? := atI_nat l k
@[simp] theorem pIx_tup0 (l : List D) : pIxA (.nd .tup l) (.int 0) = l[0]? := atI_nat l 0
@[simp] theorem pIx_tup1 (l : List D) : pIxA (.nd .tup l) (.int 1) = l[1]? := atI_nat l 1
@[simp] theorem pIx_lst0 (l : List D) : pIxA (.nd .lst l) (.int 0) = l[0]? := atI_nat l 0
@[simp] theorem pIx_lst1 (l : List D) : pIxA (.nd .lst l) (.int 1) = l[1]? := atI_nat l 1
theorem cut_to (l : List D) (k : Nat) : cutD l none (some (k : Int)) = l.take k := by
  unfold cutD
  rw [HT.sIx_none, HT.sIx_nat, List.drop_zero, Nat.sub_zero, List.take_eq_take_iff]
  omega
theorem cut_from (l : List D) (k : Nat) : cutD l (some (k : Int)) none = l.drop k := by
  unfold cutD
  rw [HT.sIx_none, HT.sIx_nat]
  by_cases h : k ≤ l.length
  · rw [Nat.min_eq_left h, List.take_of_length_le (by rw [List.length_drop]; omega)]
  · rw [Nat.min_eq_right (by omega), List.drop_of_length_le (by omega), List.take_nil]; exact (List.drop_of_length_le (by omega)).symm
@[simp] theorem pSl_to (l : List D) (k : Nat) : pSl none (some (k : Int)) (.nd .tup l) = some (.nd .tup (l.take k)) := by show some (D.nd .tup (cutD l none (some (k : Int)))) = _; rw [cut_to]
@[simp] theorem pSl_from (l : List D) (k : Nat) : pSl (some (k : Int)) none (.nd .tup l) = some (.nd .tup (l.drop k)) := by show some (D.nd .tup (cutD l (some (k : Int)) none)) = _; rw [cut_from]
@[simp] theorem pSlL_to (l : List D) (k : Nat) : pSl none (some (k : Int)) (.nd .lst l) = some (.nd .lst (l.take k)) := by show some (D.nd .lst (cutD l none (some (k : Int)))) = _; rw [cut_to]
@[simp] theorem pSlL_from (l : List D) (k : Nat) : pSl (some (k : Int)) none (.nd .lst l) = some (.nd .lst (l.drop k)) := by show some (D.nd .lst (cutD l (some (k : Int)) none)) = _; rw [cut_from]
theorem bools_map {α : Type} (f : α → Bool) (l : List α) : bools (l.map fun x => D.bl (f x)) = some (l.map f) := by
  induction l with
  | nil => rfl
  | cons x l ih => show (bools (l.map fun x => D.bl (f x))).map (f x :: ·) = _; rw [ih]; rfl
theorem pAll_map {α : Type} (f : α → Bool) (l : List α) : pAll [.nd .lst (l.map fun x => D.bl (f x))] = some (.bl (l.all f)) := by
  simp only [pAll, bools_map, Option.map_some]
  congr 2
  induction l with
  | nil => rfl
  | cons x l ih => simp [ih]
end Wu
namespace Wu
open PySem PySem.Spec PyProof.Rows L2
/-! ### data that the laws draw -/
mutual
def D.fine : D → Bool
  | .non => true
  | .bl _ => true
  | .int i => decide (i.natAbs.log2 < 1920)
  | .str x => decide (x.length ≤ 1000) && x.cps.toList.all fun c => decide (c < 128)
  | .nd .tup l => fineL l
  | .nd .lst l => fineL l
  | .nd (.dct ks) l => ks.isEmpty && l.isEmpty
  | .nd .scr _ => false
  | .nd .pr _ => false
  | .nd (.dtt _) _ => false
  | .nd (.ob _ _) _ => false
  | .nd (.exn _ _) _ => false
def fineL : List D → Bool
  | [] => true
  | d :: l => d.fine && fineL l
end
theorem fineL_mem : ∀ {l : List D}, fineL l = true → ∀ d ∈ l, d.fine = true
  | [], _, d, h => by cases h
  | a :: l, h, d, hd => by
    obtain ⟨h1, h2⟩ := Bool.and_eq_true_iff.mp (show (a.fine && fineL l) = true from h)
    rcases List.mem_cons.mp hd with rfl | hd
    · exact h1
    · exact fineL_mem h2 d hd
theorem fineL_of : ∀ {l : List D}, (∀ d ∈ l, d.fine = true) → fineL l = true
  | [], _ => rfl
  | a :: l, h => by
    show (a.fine && fineL l) = true
    rw [h a List.mem_cons_self, fineL_of fun d hd => h d (List.mem_cons_of_mem _ hd)]; rfl
theorem fine_str {x : Str} (h : (D.str x).fine = true) : x.length ≤ 1000 ∧ ∀ c ∈ x.cps.toList, c < 128 := by
  obtain ⟨h1, h2⟩ := Bool.and_eq_true_iff.mp h
  exact ⟨of_decide_eq_true h1, fun c hc => of_decide_eq_true (List.all_eq_true.mp h2 c hc)⟩
theorem fine_ok {x : Str} (h : (D.str x).fine = true) : PyData.strOk x = true := by
  unfold PyData.strOk
  rw [← Array.all_toList, List.all_eq_true]
  intro c hc
  have := (fine_str h).2 c hc
  exact decide_eq_true (by omega)
theorem fine_txt {xs : List Str} (h : fineL (sds xs) = true) : txt xs = true := by
  unfold txt
  rw [List.all_eq_true]
  intro x hx
  exact fine_ok (fineL_mem h (.str x) (List.mem_map_of_mem hx))
theorem size_big {n : Nat} (h : n ≤ 1000) : n ≤ sizeLine := Nat.le_trans h (by decide)
theorem pRange1 {i : Int} (h0 : 0 ≤ i) (h1 : i ≤ 1000000) : pRange [.int i] = some (rangeD 0 i.toNat) := by
  have a : -(2 ^ 62 : Int) ≤ i := Int.le_trans (by decide) h0
  have b : i < (2 ^ 62 : Int) := Int.lt_of_le_of_lt h1 (by decide)
  exact if_pos ⟨a, b⟩
theorem pRangeN {n : Nat} (h : n ≤ 1000000) : pRange [.int (n : Int)] = some (rangeD 0 n) := by
  rw [pRange1 (by omega) (by omega), Int.toNat_natCast]
theorem opt_eq {α : Type} {o : Option α} {a : α} (h : o = some a) (E : Env') : M.opt o E = .ok a E := by rw [h]; rfl
theorem mRange1 {m : M (List D)} {i : Int} {E E' : Env'} (h : m E = .ok [.int i] E') (h0 : 0 ≤ i) (h1 : i ≤ 1000000) : mRange m E = .ok (rangeD 0 i.toNat) E' :=
  (M.bnd_ok (k := fun ds => M.opt (pRange ds)) h).trans (opt_eq (pRange1 h0 h1) E')
theorem mRangeN {m : M (List D)} {n : Nat} {E E' : Env'} (h : m E = .ok [.int (n : Int)] E') (h1 : n ≤ 1000000) : mRange m E = .ok (rangeD 0 n) E' :=
  (M.bnd_ok (k := fun ds => M.opt (pRange ds)) h).trans (opt_eq (pRangeN h1) E')
end Wu

namespace Law
open PySem PySem.Spec PyProof.Rows L2 Wu He
abbrev domL : List Str := ["WindowError", "BadFrame", "BadState", "Missing"]
def m_is_integer : SM := sRet (mAndV (mIsi .int (mVar 0)) (mAndV (mNotV (mIsi .bool (mVar 0))) (mChain pLe pLe (mVar 1) (mVar 0) (mVar 2))))
def f_is_integer : Sm := semOf 3 (m_is_integer)
def m_is_name : SM := sSeq (sIf (mOr (mNot (mTest (mIsi .str (mVar 0)))) (mNot (mTest (mChain pLe pLe (mC (.int 1)) (mFn pLen (mCons (mVar 0) (mNil))) (mC (.int 8)))))) (sRet (mC (.bl false))) (sNil)) (sRet (mFn pAll (mCons (mLc (mSeq (mVar 0)) (gN 1) (mYes) (mOp (pInA false) (mVar 1) (mC (.str "abcdefghijklmnopqrstuvwxyz"))) [1]) (mNil))))
def f_is_name : Sm := semOf 2 (m_is_name)
def m_is_shown : SM := sSeq (sIf (mOr (mNot (mTest (mIsi .tuple (mVar 0)))) (mNot (mTest (mChain pLe pLe (mC (.int 1)) (mFn pLen (mCons (mVar 0) (mNil))) (mFn pLen (mCons (mVar 1) (mNil))))))) (sRet (mC (.bl false))) (sNil)) (sSeq (sIf (mNot (mTest (mFn pAll (mCons (mLc (mSeq (mVar 0)) (gN 2) (mYes) (mIsi .str (mVar 2)) [2]) (mNil))))) (sRet (mC (.bl false))) (sNil)) (sRet (mOp pEq (mFn pList (mCons (mVar 0) (mNil))) (mLc (mSeq (mVar 1)) (gN 2) (mTest (mOp (pInA false) (mVar 2) (mVar 0))) (mVar 2) [2]))))
def f_is_shown : Sm := semOf 3 (m_is_shown)
def m_is_window : SM := sRet (mAndV (mIsi .tuple (mVar 0)) (mAndV (mOp pEq (mFn pLen (mCons (mVar 0) (mNil))) (mC (.int 2))) (mAndV (mCall 1 f_is_name (mrE (mOp pIxA (mVar 0) (mC (.int 0))) (mrNil))) (mCall 2 f_is_shown (mrE (mOp pIxA (mVar 0) (mC (.int 1))) (mrE (mVar 1) (mrNil)))))))
def f_is_window : Sm := semOf 2 (m_is_window)
def m_need_frame_b1 : SM := sIf (mOr (mNot (mTest (mCall 1 f_is_name (mrE (mVar 4) (mrNil))))) (mTest (mOp (pInA false) (mVar 4) (mSl (mVar 1) none (some (mVar 3)))))) (sRaise "BadFrame" "place" (mFn pTup (mCons (mC (.str "part")) (mCons (mVar 3) (mNil))))) (sNil)
def m_need_frame_b2 : SM := sIf (mOr (mNot (mTest (mCall 2 f_is_window (mrE (mVar 5) (mrE (mVar 1) (mrNil)))))) (mTest (mOp (pInA false) (mOp pIxA (mVar 5) (mC (.int 0))) (mLc (mSeq (mSl (mVar 2) none (some (mVar 3)))) (gN 6) (mYes) (mOp pIxA (mVar 6) (mC (.int 0))) [6])))) (sRaise "BadFrame" "place" (mFn pTup (mCons (mC (.str "window")) (mCons (mVar 3) (mNil))))) (sNil)
def m_need_frame : SM := sSeq (sIf (mOr (mNot (mTest (mIsi .tuple (mVar 0)))) (mOr (mTest (mOp pNe (mFn pLen (mCons (mVar 0) (mNil))) (mC (.int 2)))) (mNot (mTest (mIsi .tuple (mOp pIxA (mVar 0) (mC (.int 0)))))))) (sRaise "BadFrame" "place" (mFn pTup (mNil))) (sNil)) (sSeq (sAsg (mVar 0) (gT [1, 2])) (sSeq (sIf (mOr (mNot (mTest (mIsi .tuple (mVar 2)))) (mOr (mNot (mTest (mChain pLe pLe (mC (.int 1)) (mFn pLen (mCons (mVar 1) (mNil))) (mC (.int 8))))) (mTest (mOp pGt (mFn pLen (mCons (mVar 2) (mNil))) (mC (.int 12)))))) (sRaise "BadFrame" "place" (mFn pTup (mNil))) (sNil)) (sSeq (sFor (mEnum (mVar 1)) (gT [3, 4]) (m_need_frame_b1)) (sSeq (sFor (mEnum (mVar 2)) (gT [3, 5]) (m_need_frame_b2)) (sRet (mVar 0))))))
def f_need_frame : Sm := semOf 7 (m_need_frame)
def m_Views___init__ : SM := sSeq (sFldO 0 "Views" "plan" (mCall 1 f_need_frame (mrE (mVar 1) (mrNil)))) (sSeq (sFldO 0 "Views" "parts" (mOp pIxA (mVar 1) (mC (.int 0)))) (sSeq (sFldO 0 "Views" "window_parts" (mDat (nDc (mSeq (mOp pIxA (mVar 1) (mC (.int 1)))) (gN 3) (mYes) (mOp pIxA (mVar 3) (mC (.int 0))) (mOp pIxA (mVar 3) (mC (.int 1))) [3]))) (sFDict 0 "Views" "part_windows" (mSeq (mOp pIxA (mVar 1) (mC (.int 0)))) (gN 2) (mVar 2) (mFn pTuple (mCons (mLc (mSeq (mOp pIxA (mVar 1) (mC (.int 1)))) (gN 3) (mTest (mOp (pInA false) (mVar 2) (mOp pIxA (mVar 3) (mC (.int 1))))) (mOp pIxA (mVar 3) (mC (.int 0))) [3]) (mNil))))))
def f_Views___init__ : Sm := semOf 4 (m_Views___init__)
def m_Views_need_part : SM := sSeq (sIf (mOr (mNot (mTest (mIsi .str (mVar 1)))) (mTest (mOp (pInA true) (mVar 1) (mFld "Views" "part_windows" (mVar 0))))) (sRaise "Missing" "name" (mVar 1)) (sNil)) (sRet (mVar 1))
def f_Views_need_part : Sm := semOf 2 (m_Views_need_part)
def m_Views_need_window : SM := sSeq (sIf (mOr (mNot (mTest (mIsi .str (mVar 1)))) (mTest (mOp (pInA true) (mVar 1) (mFld "Views" "window_parts" (mVar 0))))) (sRaise "Missing" "name" (mVar 1)) (sNil)) (sRet (mVar 1))
def f_Views_need_window : Sm := semOf 2 (m_Views_need_window)
def m_is_edit : SM := sSeq (sIf (mOr (mNot (mTest (mIsi .tuple (mVar 1)))) (mOr (mTest (mOp pNe (mFn pLen (mCons (mVar 1) (mNil))) (mC (.int 2)))) (mNot (mTest (mCall 3 f_is_integer (mrE (mOp pIxA (mVar 1) (mC (.int 0))) (mrE (mC (.int 0)) (mrE (mC (.int 999)) (mrNil))))))))) (sRet (mC (.bl false))) (sNil)) (sRet (mAndV (mIsi .str (mOp pIxA (mVar 1) (mC (.int 1)))) (mOp (pInA false) (mOp pIxA (mVar 1) (mC (.int 1))) (mFld "Views" "part_windows" (mVar 0)))))
def f_is_edit : Sm := semOf 2 (m_is_edit)
def m_stands_well : SM := sSeq (sIf (mTest (mOp (pInA false) (mOp pIxA (mVar 0) (mC (.int 0))) (mLc (mSeq (mOp pAdd (mVar 1) (mVar 2))) (gN 4) (mYes) (mOp pIxA (mVar 4) (mC (.int 0))) [4]))) (sRet (mC (.bl false))) (sNil)) (sSeq (sIf (mTest (mFn pAny (mCons (mLc (mSeq (mVar 1)) (gN 4) (mTest (mOp pEq (mOp pIxA (mVar 4) (mC (.int 1))) (mOp pIxA (mVar 0) (mC (.int 1))))) (mOp pLt (mOp pIxA (mVar 0) (mC (.int 0))) (mOp pIxA (mVar 4) (mC (.int 0)))) [4]) (mNil)))) (sRet (mC (.bl false))) (sNil)) (sRet (mOrV (mVar 3) (mNotV (mFn pAny (mCons (mLc (mSeq (mVar 2)) (gN 4) (mTest (mOp pEq (mOp pIxA (mVar 4) (mC (.int 1))) (mOp pIxA (mVar 0) (mC (.int 1))))) (mOp pGt (mOp pIxA (mVar 0) (mC (.int 0))) (mOp pIxA (mVar 4) (mC (.int 0)))) [4]) (mNil)))))))
def f_stands_well : Sm := semOf 5 (m_stands_well)
def m_need_good_b1 : SM := sIf (mOr (mNot (mTest (mCall 2 f_is_edit (mrE (mVar 0) (mrE (mVar 5) (mrNil)))))) (mNot (mTest (mCall 4 f_stands_well (mrE (mVar 5) (mrE (mSl (mVar 2) none (some (mVar 4))) (mrE (mFn pTup (mNil)) (mrE (mC (.bl true)) (mrNil))))))))) (sRaise "BadState" "place" (mFn pTup (mCons (mC (.str "done")) (mCons (mVar 4) (mNil))))) (sNil)
def m_need_good_b2 : SM := sIf (mOr (mNot (mTest (mCall 2 f_is_edit (mrE (mVar 0) (mrE (mVar 5) (mrNil)))))) (mNot (mTest (mCall 4 f_stands_well (mrE (mVar 5) (mrE (mVar 2) (mrE (mSl (mVar 3) none (some (mVar 4))) (mrE (mC (.bl false)) (mrNil))))))))) (sRaise "BadState" "place" (mFn pTup (mCons (mC (.str "undone")) (mCons (mVar 4) (mNil))))) (sNil)
def m_need_good : SM := sSeq (sIf (mOr (mNot (mTest (mIsi .tuple (mVar 1)))) (mOr (mTest (mOp pNe (mFn pLen (mCons (mVar 1) (mNil))) (mC (.int 2)))) (mNot (mTest (mIsi .tuple (mOp pIxA (mVar 1) (mC (.int 0)))))))) (sRaise "BadState" "place" (mFn pTup (mNil))) (sNil)) (sSeq (sIf (mOr (mNot (mTest (mIsi .tuple (mOp pIxA (mVar 1) (mC (.int 1)))))) (mTest (mOp pGt (mOp pAdd (mFn pLen (mCons (mOp pIxA (mVar 1) (mC (.int 0))) (mNil))) (mFn pLen (mCons (mOp pIxA (mVar 1) (mC (.int 1))) (mNil)))) (mC (.int 40))))) (sRaise "BadState" "place" (mFn pTup (mNil))) (sNil)) (sSeq (sAsg (mVar 1) (gT [2, 3])) (sSeq (sFor (mEnum (mVar 2)) (gT [4, 5]) (m_need_good_b1)) (sSeq (sFor (mEnum (mVar 3)) (gT [4, 5]) (m_need_good_b2)) (sRet (mVar 1))))))
def f_need_good : Sm := semOf 6 (m_need_good)
def m_edits_among : SM := sRet (mFn pTuple (mCons (mLc (mSeq (mVar 0)) (gN 2) (mTest (mOp (pInA false) (mOp pIxA (mVar 2) (mC (.int 1))) (mVar 1))) (mVar 2) [2]) (mNil)))
def f_edits_among : Sm := semOf 3 (m_edits_among)
def m_content : SM := sSeq (sSet 3 (mMake "Views" 2 f_Views___init__ (mCons (mVar 0) (mNil)))) (sSeq (sExpr (mCall 2 f_need_good (mrE (mVar 3) (mrE (mVar 1) (mrNil))))) (sSeq (sExpr (mMeth "Views" "need_part" 2 f_Views_need_part (mVar 3) (mCons (mVar 2) (mNil)))) (sRet (mFn pTuple (mCons (mLc (mSeq (mOp pIxA (mVar 1) (mC (.int 0)))) (gN 4) (mTest (mOp pEq (mOp pIxA (mVar 4) (mC (.int 1))) (mVar 2))) (mOp pIxA (mVar 4) (mC (.int 0))) [4]) (mNil))))))
def f_content : Sm := semOf 5 (m_content)
def m_seen : SM := sSeq (sSet 3 (mMake "Views" 2 f_Views___init__ (mCons (mVar 0) (mNil)))) (sSeq (sExpr (mCall 2 f_need_good (mrE (mVar 3) (mrE (mVar 1) (mrNil))))) (sSeq (sSet 4 (mOp pIxA (mFld "Views" "window_parts" (mVar 3)) (mMeth "Views" "need_window" 2 f_Views_need_window (mVar 3) (mCons (mVar 2) (mNil))))) (sRet (mFn pTup (mCons (mCall 2 f_edits_among (mrE (mOp pIxA (mVar 1) (mC (.int 0))) (mrE (mVar 4) (mrNil)))) (mCons (mCall 2 f_edits_among (mrE (mOp pIxA (mVar 1) (mC (.int 1))) (mrE (mVar 4) (mrNil)))) (mNil)))))))
def f_seen : Sm := semOf 5 (m_seen)
def m__law_titles_b1 : SM := sSet 4 (mOp pAdd (mVar 4) (mOp pIxA (mVar 6) (mCall 2 semNext (mrR 0 (mrE (mC (.int 26)) (mrNil))))))
def m__law_titles : SM := sSeq (sAsg (mFn pTup (mCons (mC (.str "abcdefghijklmnopqrstuvwxyz")) (mCons (mCall 2 semNext (mrR 0 (mrE (mC (.int 26)) (mrNil)))) (mNil)))) (gT [6, 7])) (sSeq (sSet 2 (mCall 2 semNext (mrR 0 (mrE (mC (.int 4)) (mrNil))))) (sSeq (sIf (mTest (mOp pEq (mVar 2) (mC (.int 3)))) (sSeq (sSet 8 (mFn pLst (mCons (mC (.str "edit")) (mCons (mC (.str "undo")) (mCons (mC (.str "redo")) (mCons (mC (.str "done")) (mCons (mC (.str "undone")) (mCons (mC (.str "parts")) (mCons (mC (.str "window")) (mCons (mC (.str "none")) (mCons (mC (.str "never")) (mCons (mC (.str "alone")) (mCons (mC (.str "content")) (mCons (mC (.str "no")) (mNil))))))))))))))) (sRet (mSl (mOp pAdd (mSl (mVar 8) (some (mOp pMod (mVar 7) (mC (.int 12)))) none) (mSl (mVar 8) none (some (mOp pMod (mVar 7) (mC (.int 12)))))) none (some (mVar 1))))) (sNil)) (sSeq (sSet 3 (mLc (mRange (mCons (mVar 1) mNil)) (gN 9) (mYes) (mOp pIxA (mVar 6) (mOp pMod (mFn pInt (mCons (mOp pAdd (mVar 7) (mOp pMul (mC (.int 7)) (mVar 9))) (mNil))) (mC (.int 26)))) [9])) (sSeq (sSet 4 (mC (.str ""))) (sSeq (sFor (mRange (mCons (mCall 2 semNext (mrR 0 (mrE (mC (.int 8)) (mrNil)))) mNil)) (gN 5) (m__law_titles_b1)) (sSeq (sIf (mTest (mOp pEq (mVar 2) (mC (.int 0)))) (sRet (mVar 3)) (sNil)) (sRet (mLc (mSeq (mVar 3)) (gN 10) (mYes) (mIf (mTest (mOp pEq (mVar 2) (mC (.int 1)))) (mOp pAdd (mVar 4) (mVar 10)) (mOp pAdd (mVar 10) (mVar 4))) [10]))))))))
def f__law_titles : Sm := semOf 11 (m__law_titles)
def m__law_shown : SM := sSeq (sSet 3 (mCall 2 semNext (mrR 0 (mrE (mC (.int 8)) (mrNil))))) (sSeq (sIf (mAnd (mTest (mOp pEq (mVar 3) (mC (.int 0)))) (mTest (mOp pNe (mVar 2) (mFn pLst (mNil))))) (sRet (mOp pIxA (mOp pIxA (mVar 2) (mCall 2 semNext (mrR 0 (mrE (mFn pLen (mCons (mVar 2) (mNil))) (mrNil))))) (mC (.int 1)))) (sNil)) (sSeq (sIf (mTest (mOp pEq (mVar 3) (mC (.int 1)))) (sRet (mFn pTup (mCons (mOp pIxA (mVar 1) (mCall 2 semNext (mrR 0 (mrE (mFn pLen (mCons (mVar 1) (mNil))) (mrNil))))) (mNil)))) (sNil)) (sSeq (sIf (mTest (mOp pEq (mVar 3) (mC (.int 2)))) (sRet (mFn pTuple (mCons (mVar 1) (mNil)))) (sNil)) (sSeq (sSet 4 (mFn pTuple (mCons (mLc (mSeq (mVar 1)) (gN 5) (mTest (mOp pEq (mCall 2 semNext (mrR 0 (mrE (mC (.int 2)) (mrNil)))) (mC (.int 0)))) (mVar 5) [5]) (mNil)))) (sRet (mIf (mTest (mOp pNe (mVar 4) (mFn pTup (mNil)))) (mVar 4) (mFn pTup (mCons (mOp pIxA (mVar 1) (mC (.int 0))) (mNil)))))))))
def f__law_shown : Sm := semOf 6 (m__law_shown)
def m__law_frame_b1 : SM := sApp 6 (mView (mFn pTup (mCons (mVar 4) (mCons (mCall 3 f__law_shown (mrR 0 (mrE (mVar 3) (mrE (mVar 6) (mrNil))))) (mNil)))))
def m__law_frame : SM := sSeq (sSet 3 (mCall 2 f__law_titles (mrR 0 (mrE (mOp pAdd (mC (.int 1)) (mCall 2 semNext (mrR 0 (mrE (mVar 1) (mrNil))))) (mrNil))))) (sSeq (sPar2 5 6 (pD (mCall 2 f__law_titles (mrR 0 (mrE (mCall 2 semNext (mrR 0 (mrE (mOp pAdd (mVar 2) (mC (.int 1))) (mrNil)))) (mrNil))))) (pN (nLst (mNil)))) (sSeq (sFor (mSeq (mVar 5)) (gN 4) (m__law_frame_b1)) (mPre 6 (sRet (mFn pTup (mCons (mFn pTuple (mCons (mVar 3) (mNil))) (mCons (mFn pTuple (mCons (mVar 6) (mNil))) (mNil))))))))
def f__law_frame : Sm := semOf 7 (m__law_frame)
def m__law_mixture_b1 : SM := sSeq (sSet 4 (mView (mCall 2 semNext (mrR 0 (mrE (mFn pLen (mCons (mVar 2) (mNil))) (mrNil)))))) (sSeq (sApp 3 (mOp pIxA (mOix 2 (mVar 4)) (mC (.int 0)))) (sSeq (sOset 2 (mVar 4) (mSl (mOix 2 (mVar 4)) (some (mC (.int 1))) none)) (mPre 2 (sOwn 2 (nLc (mSeq (mVar 2)) (gN 5) (mTest (mOp pNe (mVar 5) (mFn pLst (mNil)))) (mVar 5) [5])))))
def m__law_mixture : SM := sSeq (sPar2 2 3 (pN (nLc (mSeq (mVar 1)) (gN 5) (mTest (mOp pGt (mFn pLen (mCons (mVar 5) (mNil))) (mC (.int 0)))) (mFn pList (mCons (mVar 5) (mNil))) [5])) (pN (nLst (mNil)))) (sSeq (loopW (mViewB (mTest (mOp pNe (mVar 2) (mFn pLst (mNil))))) (m__law_mixture_b1) 1000000) (mPre 3 (sRet (mVar 3))))
def f__law_mixture : Sm := semOf 6 (m__law_mixture)
def m__law_state_b1 : SM := sSeq (sSet 4 (mOp pIxA (mOp pIxA (mVar 1) (mC (.int 0))) (mCall 2 semNext (mrR 0 (mrE (mFn pLen (mCons (mOp pIxA (mVar 1) (mC (.int 0))) (mNil))) (mrNil)))))) (sSeq (sOset 5 (mVar 4) (mOp pAdd (mOix 5 (mVar 4)) (mFn pLst (mCons (mFn pTup (mCons (mVar 6) (mCons (mVar 4) (mNil)))) (mNil))))) (sSet 6 (mOp pAdd (mOp pAdd (mVar 6) (mC (.int 1))) (mFn pMax2 (mCons (mC (.int 0)) (mCons (mOp pSub (mCall 2 semNext (mrR 0 (mrE (mC (.int 6)) (mrNil)))) (mC (.int 3))) (mNil)))))))
def m__law_state_b2 : SM := sSeq (sSet 9 (mCall 2 semNext (mrR 0 (mrE (mOp pAdd (mFn pLen (mCons (mOix 5 (mVar 4)) (mNil))) (mC (.int 1))) (mrNil))))) (sSeq (sApp 7 (mSl (mOix 5 (mVar 4)) none (some (mVar 9)))) (sApp 8 (mRev (mSl (mOix 5 (mVar 4)) (some (mVar 9)) none))))
def m__law_state : SM := sSeq (sPar2 5 6 (pN (nDictP (mLc (mSeq (mOp pIxA (mVar 1) (mC (.int 0)))) (gN 4) (mYes) (mFn pTup (mCons (mVar 4) (mCons (mFn pLst (mNil)) (mNil)))) [4]))) (pD (mCall 2 semNext (mrR 0 (mrE (mC (.int 3)) (mrNil)))))) (sSeq (sFor (mRange (mCons (mCall 2 semNext (mrR 0 (mrE (mOp pAdd (mVar 2) (mC (.int 1))) (mrNil)))) mNil)) (gN 3) (m__law_state_b1)) (sSeq (sPar2 7 8 (pN (nLst (mNil))) (pN (nLst (mNil)))) (sSeq (sFor (mSeq (mOp pIxA (mVar 1) (mC (.int 0)))) (gN 4) (m__law_state_b2)) (mPre 7 (mPre 8 (sRet (mFn pTup (mCons (mFn pTuple (mCons (mCall 2 f__law_mixture (mrR 0 (mrE (mVar 7) (mrNil)))) (mNil))) (mCons (mFn pTuple (mCons (mCall 2 f__law_mixture (mrR 0 (mrE (mVar 8) (mrNil)))) (mNil))) (mNil))))))))))
def f__law_state : Sm := semOf 10 (m__law_state)
def m__law_among : SM := sRet (mLc (mSeq (mVar 0)) (gN 2) (mTest (mOp (pInA false) (mOp pIxA (mVar 2) (mC (.int 1))) (mVar 1))) (mVar 2) [2])
def f__law_among : Sm := semOf 3 (m__law_among)
def m__law_refused (dom : List Str) (r : R D) : SM := sSeq (sSet 1 (mC .non)) (sSeq (sTry (isD2 dom ["Missing", "WindowError"]) 2 1 (sExpr (mAct r))) (sSeq (sSet 3 (mFn pLst (mCons (mIsx (isD dom "BadFrame") (mVar 1)) (mCons (mIsx (isD dom "BadState") (mVar 1)) (mCons (mIsx (isD dom "Missing") (mVar 1)) (mNil)))))) (sRet (mIf (mTest (mOp pEq (mLst1 pCountL (mVar 3) (mC (.bl true))) (mC (.int 1)))) (mLst1 pIndexL (mVar 3) (mC (.bl true))) (mC (.int 9))))))
def m__law_order_right (dom : List Str) : SM := sSeq (sOwn 3 (nLst (mCons (mLam 4 (m__law_refused dom) (mCall 3 f_content (mrE (mFn pTup (mNil)) (mrE (mC .non) (mrE (mC .non) (mrNil)))))) (mNil)))) (sSeq (sApp 3 (mLam 4 (m__law_refused dom) (mCall 3 f_seen (mrE (mOp pAdd (mVar 0) (mFn pTup (mCons (mFn pTup (mNil)) (mNil)))) (mrE (mVar 1) (mrE (mVar 2) (mrNil))))))) (sSeq (sApp 3 (mLam 4 (m__law_refused dom) (mCall 3 f_content (mrE (mVar 0) (mrE (mFn pTup (mCons (mOp pIxA (mVar 1) (mC (.int 0))) (mNil))) (mrE (mC .non) (mrNil))))))) (sSeq (sApp 3 (mLam 4 (m__law_refused dom) (mCall 3 f_seen (mrE (mVar 0) (mrE (mFn pTup (mCons (mOp pIxA (mVar 1) (mC (.int 1))) (mCons (mOp pIxA (mVar 1) (mC (.int 0))) (mCons (mFn pTup (mNil)) (mNil))))) (mrE (mC (.str "zzzzzzzzz")) (mrNil))))))) (sSeq (sApp 3 (mLam 4 (m__law_refused dom) (mCall 3 f_content (mrE (mVar 0) (mrE (mVar 1) (mrE (mC (.str "zzzzzzzzz")) (mrNil))))))) (sSeq (sApp 3 (mLam 4 (m__law_refused dom) (mCall 3 f_seen (mrE (mVar 0) (mrE (mVar 1) (mrE (mC .non) (mrNil))))))) (mPre 3 (sRet (mOp pEq (mVar 3) (mFn pLst (mCons (mC (.int 0)) (mCons (mC (.int 0)) (mCons (mC (.int 1)) (mCons (mC (.int 1)) (mCons (mC (.int 2)) (mCons (mC (.int 2)) (mNil))))))))))))))))
def f__law_order_right (dom : List Str) : Sm := semOf 4 (m__law_order_right dom)
def m_law_b1 (dom : List Str) : SM := sSeq (sSet 8 (mFn pTuple (mCons (mLc (mSeq (mOp pIxA (mVar 4) (mC (.int 0)))) (gN 11) (mTest (mOp pEq (mOp pIxA (mVar 11) (mC (.int 1))) (mVar 7))) (mOp pIxA (mVar 11) (mC (.int 0))) [11]) (mNil)))) (sIf (mTest (mOp pNe (mFn pRepr (mCons (mCall 3 f_content (mrE (mVar 3) (mrE (mVar 4) (mrE (mVar 7) (mrNil))))) (mNil))) (mFn pRepr (mCons (mVar 8) (mNil))))) (sRet (mC (.bl false))) (sNil))
def m_law_b2 (dom : List Str) : SM := sSeq (sSet 8 (mFn pTup (mCons (mFn pTuple (mCons (mCall 2 f__law_among (mrE (mOp pIxA (mVar 4) (mC (.int 0))) (mrE (mVar 10) (mrNil)))) (mNil))) (mCons (mFn pTuple (mCons (mCall 2 f__law_among (mrE (mOp pIxA (mVar 4) (mC (.int 1))) (mrE (mVar 10) (mrNil)))) (mNil))) (mNil))))) (sIf (mTest (mOp pNe (mFn pRepr (mCons (mCall 3 f_seen (mrE (mVar 3) (mrE (mVar 4) (mrE (mVar 9) (mrNil))))) (mNil))) (mFn pRepr (mCons (mVar 8) (mNil))))) (sRet (mC (.bl false))) (sNil))
def m_law_b3 (dom : List Str) : SM := sSeq (sFor (mSeq (mOp pIxA (mVar 3) (mC (.int 0)))) (gN 7) (m_law_b1 dom)) (sFor (mSeq (mOp pIxA (mVar 3) (mC (.int 1)))) (gT [9, 10]) (m_law_b2 dom))
def m_law_b4 (dom : List Str) : SM := sSeq (sSet 3 (mCall 3 f__law_frame (mrR 1 (mrE (mC (.int 8)) (mrE (mC (.int 12)) (mrNil)))))) (sSeq (sSet 4 (mCall 3 f__law_state (mrR 1 (mrE (mVar 3) (mrE (mOp pIxA (mFn pLst (mCons (mC (.int 40)) (mCons (mC (.int 10)) (mNil)))) (mCall 2 semNext (mrR 1 (mrE (mC (.int 2)) (mrNil))))) (mrNil)))))) (sSeq (sSet 5 (mFn pRepr (mCons (mFn pLst (mCons (mVar 3) (mCons (mVar 4) (mNil)))) (mNil)))) (sSeq (sFor (mRange (mCons (mC (.int 2)) mNil)) (gN 6) (m_law_b3 dom)) (sIf (mOr (mNot (mTest (mCall 3 (f__law_order_right dom) (mrE (mVar 3) (mrE (mVar 4) (mrE (mOp pIxA (mOp pIxA (mVar 3) (mC (.int 0))) (mC (.int 0))) (mrNil))))))) (mTest (mOp pNe (mFn pRepr (mCons (mFn pLst (mCons (mVar 3) (mCons (mVar 4) (mNil)))) (mNil))) (mVar 5)))) (sRet (mC (.bl false))) (sNil)))))
def m_law (dom : List Str) : SM := sSeq (sFor (mRange (mCons (mOp pAdd (mC (.int 3)) (mOp pDiv (mFn pMin2 (mCons (mC (.int 60)) (mCons (mFn pLen (mCons (mVar 0) (mNil))) (mNil)))) (mC (.int 5)))) mNil)) (gN 2) (m_law_b4 dom)) (sRet (mC (.bl true)))
end Law

/-! Frames: what need_frame tells. -/
namespace Law
open PySem PySem.Spec PyProof.Rows L2 Wu He
def LT : Str := "abcdefghijklmnopqrstuvwxyz"
def signOk (c : Nat) : Bool := decide (c ∈ LT.cps.toList)
def nameB (x : Str) : Bool := (decide (1 ≤ x.length) && decide (x.length ≤ 8)) && x.cps.toList.all signOk
def isName : D → Bool
  | .str x => nameB x
  | _ => false
theorem lc_signs {x : Str} : (((Wu.signs x).filter fun _ => true).map fun d => match d with | .str z => D.bl (signOk (z.cps.getD 0 0)) | _ => .non) = (x.cps.toList.map fun c => D.bl (signOk c)) := by
  unfold Wu.signs
  rw [List.filter_eq_self.mpr (fun _ _ => rfl), List.map_map]
  rfl
theorem is_name_ok (d : D) (h : d.fine = true) : f_is_name [.v d] = .ok (.bl (isName d)) [.v d] := by
  cases d with
  | str x =>
    have hl : x.length ≤ sizeLine := size_big (fine_str h).1
    refine sem_rt (ds := [.str x]) (E := [.val (.str x), .und]) ?_
    show m_is_name [.val (.str x), .und] = _
    have e := lc_of (mi := mSeq (mVar 0)) (i := 1) (t := mYes) (m := mOp (pInA false) (mVar 1) (mC (.str LT))) (E := [.val (.str x), .und]) (ds := Wu.signs x) (fun _ => true) (fun d => match d with | .str z => D.bl (signOk (z.cps.getD 0 0)) | _ => .non) rfl rfl (by rw [signs_len]; exact hl) (fun d _ => rfl) (fun d hd _ => by
      obtain ⟨c, _, rfl⟩ := mem_signs hd
      show (mOp (pInA false) (mVar 1) (mC (.str LT))) [.val (.str x), .val (.str ⟨#[c]⟩)] = .ok _ [.val (.str x), .val (.str ⟨#[c]⟩)]
      simp [signOk])
    rw [lc_signs] at e
    unfold m_is_name
    have hc1 : ((1 : Int) ≤ (x.length : Int)) ↔ 1 ≤ x.length := by omega
    have hc2 : ((x.length : Int) ≤ 8) ↔ x.length ≤ 8 := by omega
    by_cases h1 : 1 ≤ x.length
    · by_cases h2 : x.length ≤ 8
      · simp only [ev_sSeq, ev_sIf, ev_or, ev_not, ev_test, ev_isi, ev_v0, ev_bok, pIsi, D.tn, Option.map_some, ev_some, Tn.sub, ev_tst, ev_ret, Bool.not_true, ev_ite, Bool.false_eq_true, if_false, ev_chain, ev_c, ev_bnd, ev_fn, ev_cons, ev_nil, pLen, hl, if_true, pLe_int, hc1, hc2, h1, h2, decide_true, ev_chK, ev_sNil, ev_sqnx, ev_sRet]
        rw [show (D.str (Str.ofString "abcdefghijklmnopqrstuvwxyz")) = D.str LT from rfl, e]
        have e4 := pAll_map signOk x.cps.toList
        simp [isName, nameB, h1, h2, e4]
      · simp [pIsi, D.tn, Tn.sub, pLen, hl, hc1, hc2, h1, h2, isName, nameB]
    · simp [pIsi, D.tn, Tn.sub, pLen, hl, hc1, hc2, h1, isName, nameB]
  | non => exact sem_rt (ds := [.non]) (E := [.val .non, .und]) rfl
  | bl b => exact sem_rt (ds := [.bl b]) (E := [.val (.bl b), .und]) rfl
  | int i => exact sem_rt (ds := [.int i]) (E := [.val (.int i), .und]) rfl
  | nd k l =>
    refine sem_rt (ds := [.nd k l]) (E := [.val (.nd k l), .und]) ?_
    cases k with
    | tup => rfl
    | lst => rfl
    | dct ks => rfl
    | scr => cases h
    | pr => cases h
    | dtt ks => cases h
    | ob c fs => cases h
    | exn c fs => cases h
/-! ### what a window shows -/
def toStrs : List D → Option (List Str)
  | [] => some []
  | .str x :: l => (toStrs l).map (x :: ·)
  | _ :: _ => none
theorem toStrs_sds (xs : List Str) : toStrs (sds xs) = some xs := by
  induction xs with
  | nil => rfl
  | cons x xs ih => show (toStrs (sds xs)).map (x :: ·) = _; rw [ih]; rfl
theorem toStrs_no {l : List D} (h : l.all D.isStr = false) : toStrs l = none := by
  induction l with
  | nil => cases h
  | cons d l ih =>
    cases d with
    | str x =>
      show (toStrs l).map (x :: ·) = none
      rw [ih (by simpa [D.isStr] using h)]; rfl
    | non => rfl
    | bl b => rfl
    | int i => rfl
    | nd k l => rfl
def shownS (ps xs : List Str) : Bool := (decide (1 ≤ xs.length) && decide (xs.length ≤ ps.length)) && decide (xs = ps.filter fun p => decide (p ∈ xs))
def isShown (ps : List Str) : D → Bool
  | .nd .tup l => match toStrs l with
    | some xs => shownS ps xs
    | none => false
  | _ => false
theorem toStrs_some {l : List D} {xs : List Str} (h : toStrs l = some xs) : l = sds xs := by
  cases e : l.all D.isStr with
  | false => rw [toStrs_no e] at h; cases h
  | true =>
    obtain ⟨ys, rfl⟩ := sds_of e
    rw [toStrs_sds] at h
    cases h; rfl
theorem isShown_len {ps : List Str} {l : List D} (h : ¬ (1 ≤ l.length ∧ l.length ≤ ps.length)) : isShown ps (.nd .tup l) = false := by
  show (match toStrs l with
    | some xs => shownS ps xs
    | none => false) = false
  cases e : toStrs l with
  | none => rfl
  | some xs =>
    have := toStrs_some e
    subst this
    rw [sds_len] at h
    show shownS ps xs = false
    unfold shownS
    by_cases h1 : 1 ≤ xs.length
    · by_cases h2 : xs.length ≤ ps.length
      · exact absurd ⟨h1, h2⟩ h
      · simp [h2]
    · simp [h1]
theorem all_isStr (l : List D) : ((l.filter fun _ => true).map fun d => D.bl (D.isStr d)) = l.map fun d => D.bl (D.isStr d) := by
  rw [List.filter_eq_self.mpr (fun _ _ => rfl)]
theorem fine_isi_str (d : D) (h : d.fine = true) : pIsi .str d = some (.bl d.isStr) := by
  cases d with
  | nd k l => cases k <;> first | rfl | cases h
  | _ => rfl
theorem is_shown_ok (d : D) (ps : List Str) (h : d.fine = true) (hp : fineL (sds ps) = true) (hl : ps.length ≤ 1000) : f_is_shown [.v d, .v (.nd .tup (sds ps))] = .ok (.bl (isShown ps d)) [.v d, .v (.nd .tup (sds ps))] := by
  cases d with
  | nd k l =>
    refine sem_rt (ds := [.nd k l, .nd .tup (sds ps)]) (E := [.val (.nd k l), .val (.nd .tup (sds ps)), .und]) ?_
    show m_is_shown [.val (.nd k l), .val (.nd .tup (sds ps)), .und] = _
    cases k with
    | lst => rfl
    | dct ks => rfl
    | scr => cases h
    | pr => cases h
    | dtt ks => cases h
    | ob c fs => cases h
    | exn c fs => cases h
    | tup =>
      have hf : fineL l = true := h
      have hc1 : ((1 : Int) ≤ (l.length : Int)) ↔ 1 ≤ l.length := by omega
      have hc2 : ((l.length : Int) ≤ ((sds ps).length : Int)) ↔ l.length ≤ ps.length := by rw [sds_len]; omega
      unfold m_is_shown
      by_cases h1 : 1 ≤ l.length
      · by_cases h2 : l.length ≤ ps.length
        · have e := lc_of (mi := mSeq (mVar 0)) (i := 2) (t := mYes) (m := mIsi .str (mVar 2)) (E := [.val (.nd .tup l), .val (.nd .tup (sds ps)), .und]) (ds := l) (fun _ => true) (fun d => .bl d.isStr) rfl rfl (size_big (by omega)) (fun d _ => rfl) (fun d hd _ => by
            show (mIsi .str (mVar 2)) [.val (.nd .tup l), .val (.nd .tup (sds ps)), .val d] = .ok _ [.val (.nd .tup l), .val (.nd .tup (sds ps)), .val d]
            simp [fine_isi_str d (fineL_mem hf d hd)])
          rw [all_isStr] at e
          simp only [ev_sSeq, ev_sIf, ev_or, ev_not, ev_test, ev_isi, ev_v0, ev_v1, ev_bok, pIsi, D.tn, Option.map_some, ev_some, Tn.sub, ev_tst, ev_ret, Bool.not_true, ev_ite, Bool.false_eq_true, if_false, ev_chain, ev_c, ev_bnd, ev_fn, ev_cons, ev_nil, pLen, if_true, pLe_int, hc1, hc2, h1, h2, decide_true, ev_chK, ev_sNil, ev_sqnx, ev_sRet, e, pAll_map]
          cases hs : l.all D.isStr with
          | false => simp [isShown, toStrs_no hs]
          | true =>
            obtain ⟨xs, rfl⟩ := sds_of hs
            have e2 := lc_of (mi := mSeq (mVar 1)) (i := 2) (t := mTest (mOp (pInA false) (mVar 2) (mVar 0))) (m := mVar 2) (E := [.val (.nd .tup (sds xs)), .val (.nd .tup (sds ps)), .und]) (ds := sds ps) (fun d => match d with | .str p => decide (p ∈ xs) | _ => false) (fun d => d) rfl rfl (size_big (by rw [sds_len]; omega)) (fun d hd => by
              obtain ⟨p, _, rfl⟩ := List.mem_map.mp hd
              show (mTest (mOp (pInA false) (mVar 2) (mVar 0))) [.val (.nd .tup (sds xs)), .val (.nd .tup (sds ps)), .val (.str p)] = .ok _ [.val (.nd .tup (sds xs)), .val (.nd .tup (sds ps)), .val (.str p)]
              simp) (fun d hd _ => rfl)
            have e3 : (((sds ps).filter fun d => match d with | .str p => decide (p ∈ xs) | _ => false).map fun d => d) = sds (ps.filter fun p => decide (p ∈ xs)) := by
              unfold sds
              rw [List.map_id', List.filter_map]
              rfl
            rw [e3] at e2
            have tx : txt xs = true := fine_txt hf
            have tp : txt (ps.filter fun p => decide (p ∈ xs)) = true := by
              unfold txt
              rw [List.all_eq_true]
              intro x hx
              exact List.all_eq_true.mp (fine_txt hp) x (List.mem_filter.mp hx).1
            simp only [ev_bok, ev_ret, ev_tst, Bool.not_true, ev_ite, Bool.false_eq_true, if_false, ev_sNil, ev_sqnx, ev_op, ev_fn, ev_cons, ev_nil, ev_v0, ev_bnd, pList_tup, ev_some, e2, pEq_sds tx tp, ev_sRet]
            rw [sds_len] at h1 h2
            simp [isShown, toStrs_sds, shownS, h1, h2]
        · simp [pIsi, D.tn, Tn.sub, pLen, hc1, hc2, h1, h2, isShown_len (ps := ps) (l := l) (by omega)]
      · simp [pIsi, D.tn, Tn.sub, pLen, hc1, h1, isShown_len (ps := ps) (l := l) (by omega)]
  | non => exact sem_rt (ds := [.non, .nd .tup (sds ps)]) (E := [.val .non, .val (.nd .tup (sds ps)), .und]) rfl
  | bl b => exact sem_rt (ds := [.bl b, .nd .tup (sds ps)]) (E := [.val (.bl b), .val (.nd .tup (sds ps)), .und]) rfl
  | int i => exact sem_rt (ds := [.int i, .nd .tup (sds ps)]) (E := [.val (.int i), .val (.nd .tup (sds ps)), .und]) rfl
  | str x => exact sem_rt (ds := [.str x, .nd .tup (sds ps)]) (E := [.val (.str x), .val (.nd .tup (sds ps)), .und]) rfl
/-! ### windows -/
def isWin (ps : List Str) : D → Bool
  | .nd .tup [n, s] => isName n && isShown ps s
  | _ => false
theorem isWin_len {ps : List Str} {l : List D} (h : l.length ≠ 2) : isWin ps (.nd .tup l) = false := by
  match l with
  | [] => rfl
  | [_] => rfl
  | [_, _] => exact absurd rfl h
  | _ :: _ :: _ :: _ => rfl
theorem is_window_ok (d : D) (ps : List Str) (h : d.fine = true) (hp : fineL (sds ps) = true) (hl : ps.length ≤ 1000) : f_is_window [.v d, .v (.nd .tup (sds ps))] = .ok (.bl (isWin ps d)) [.v d, .v (.nd .tup (sds ps))] := by
  refine sem_rt (ds := [d, .nd .tup (sds ps)]) (E := [.val d, .val (.nd .tup (sds ps))]) ?_
  show m_is_window [.val d, .val (.nd .tup (sds ps))] = _
  cases d with
  | non => rfl
  | bl b => rfl
  | int i => rfl
  | str x => rfl
  | nd k l =>
    cases k with
    | lst => rfl
    | dct ks => rfl
    | scr => cases h
    | pr => cases h
    | dtt ks => cases h
    | ob c fs => cases h
    | exn c fs => cases h
    | tup =>
      by_cases h2 : l.length = 2
      · match l, h2 with
        | [n, s], _ =>
          have hn : n.fine = true := fineL_mem h n (by simp)
          have hs : s.fine = true := fineL_mem h s (by simp)
          have e1 : mCall 1 f_is_name (mrE (mOp pIxA (mVar 0) (mC (.int 0))) mrNil) [.val (.nd .tup [n, s]), .val (.nd .tup (sds ps))] = .ok (.bl (isName n)) [.val (.nd .tup [n, s]), .val (.nd .tup (sds ps))] :=
            call1_ok (x := n) rfl (is_name_ok n hn)
          have e2 : mCall 2 f_is_shown (mrE (mOp pIxA (mVar 0) (mC (.int 1))) (mrE (mVar 1) mrNil)) [.val (.nd .tup [n, s]), .val (.nd .tup (sds ps))] = .ok (.bl (isShown ps s)) [.val (.nd .tup [n, s]), .val (.nd .tup (sds ps))] :=
            call2_ok (x := s) (y := .nd .tup (sds ps)) rfl rfl (is_shown_ok s ps hs hp hl)
          unfold m_is_window
          simp only [ev_sRet, ev_andV, ev_isi, ev_v0, ev_bok, pIsi, D.tn, Option.map_some, Tn.sub, ev_some, ev_andK, if_true, ev_op, ev_fn, ev_cons, ev_nil, ev_bnd, ev_c, ev_ret, pLen_tup, pEq_int, List.length_cons, List.length_nil, Nat.zero_add, Nat.reduceAdd, Int.cast_ofNat_Int, decide_true, e1, e2]
          simp only [isWin]
          cases isName n <;> simp
      · have h3 : ¬ ((l.length : Int) = 2) := by omega
        simp [m_is_window, pIsi, D.tn, Tn.sub, h3, isWin_len h2]
end Law

/-! Plain reckoning: loops that look for the first of its kind. -/
namespace Wu
open PySem PySem.Spec PyProof.Rows L2
def firstBad (bad : Nat → Bool) (n : Nat) : Option Nat := (List.range n).find? bad
theorem first_some {bad : Nat → Bool} {n k : Nat} (h1 : k < n) (h2 : bad k = true) (h3 : ∀ m, m < k → bad m = false) : firstBad bad n = some k := by
  unfold firstBad
  rw [List.find?_range_eq_some]
  exact ⟨h2, List.mem_range.mpr h1, fun j hj => by rw [h3 j hj]; rfl⟩
theorem first_none {bad : Nat → Bool} {n : Nat} (h : ∀ m, m < n → bad m = false) : firstBad bad n = none := by
  unfold firstBad
  rw [List.find?_eq_none]
  intro x hx
  rw [h x (List.mem_range.mp hx)]
  exact Bool.false_ne_true
theorem first_none_inv {bad : Nat → Bool} {n : Nat} (h : firstBad bad n = none) : ∀ m, m < n → bad m = false := by
  unfold firstBad at h
  rw [List.find?_eq_none] at h
  intro m hm
  have := h m (List.mem_range.mpr hm)
  simpa using this
theorem first_congr {p q : Nat → Bool} {n : Nat} (h : ∀ m, m < n → (∀ j, j < m → p j = false) → p m = q m) : firstBad p n = firstBad q n := by
  cases e : firstBad p n with
  | none =>
    have hp := first_none_inv e
    exact (first_none fun m hm => by rw [← h m hm fun j hj => hp j (by omega)]; exact hp m hm).symm
  | some k =>
    unfold firstBad at e
    rw [List.find?_range_eq_some] at e
    obtain ⟨h1, h2, h3⟩ := e
    have hk := List.mem_range.mp h2
    have hp : ∀ j, j < k → p j = false := fun j hj => by simpa using h3 j hj
    refine (first_some hk (by rw [← h k hk hp]; exact h1) fun m hm => ?_).symm
    rw [← h m (by omega) fun j hj => hp j (by omega)]
    exact hp m hm
theorem numD_at {l pre post : List D} {d : D} (h : numD l = pre ++ d :: post) : ∃ x, l[pre.length]? = some x ∧ d = .nd .pr [.int (pre.length : Int), x] := by
  have e : (numD l)[pre.length]? = some d := by rw [h]; simp
  have hl : pre.length < l.length := by
    have := (List.getElem?_eq_some_iff.mp e).1
    rw [numD_len] at this
    exact this
  have e2 : l[pre.length]? = some l[pre.length] := List.getElem?_eq_getElem hl
  refine ⟨_, e2, ?_⟩
  rw [numD_get e2] at e
  exact (Option.some.inj e).symm
/-- an exception, or a value handed back -/
def outR (E : Env') : Exn ⊕ D → R Fl
  | .inl x => .ex x E
  | .inr d => .ok (.rt d) E
/-- behind the search -/
def Srch (o : Option Nat) (env : Sl → Sl → Env') (out : Nat → Exn ⊕ D) (r : R Fl) : Prop := match o with
  | some k => ∃ E, r = outR E (out k)
  | none => ∃ a b, r = .ok .nx (env a b)
/-- for k, d in enumerate(l): if bad: raise or return -/
theorem enum_first {l : List D} {i j : Nat} {body : SM} {bad : Nat → Bool} {env : Sl → Sl → Env'} {out : Nat → Exn ⊕ D} (hg : ∀ a b (k : Nat) d, gT [i, j] (.nd .pr [.int (k : Int), d]) (env a b) = some (env (.val (.int (k : Int))) (.val d)))
    (hb : ∀ (k : Nat) d, l[k]? = some d → (∀ m, m < k → bad m = false) → ∃ E, body (env (.val (.int (k : Int))) (.val d)) = if bad k then outR E (out k) else .ok .nx (env (.val (.int (k : Int))) (.val d))) (a b : Sl) :
    Srch (firstBad bad l.length) env out (loopD (gT [i, j]) body (numD l) (env a b)) := by
  refine loop_inv (Srch (firstBad bad l.length) env out) (fun pre E => (∀ m, m < pre.length → bad m = false) ∧ ∃ a b, E = env a b) ⟨fun m hm => absurd hm (Nat.not_lt_zero m), a, b, rfl⟩ ?_ ?_
  · rintro pre d post E hd ⟨hbad, a, b, rfl⟩
    obtain ⟨x, hx, rfl⟩ := numD_at hd
    obtain ⟨E, e⟩ := hb pre.length x hx hbad
    refine ⟨_, _, hg a b pre.length x, e, ?_⟩
    have hl := (List.getElem?_eq_some_iff.mp hx).1
    cases hk : bad pre.length with
    | true =>
      have hf := first_some hl hk hbad
      rw [if_pos rfl]
      cases ho : out pre.length with
      | inl x =>
        show Srch (firstBad bad l.length) env out (R.ex x E)
        rw [hf]
        exact ⟨E, by rw [ho]; rfl⟩
      | inr v =>
        show Srch (firstBad bad l.length) env out (R.ok (Fl.rt v) E)
        rw [hf]
        exact ⟨E, by rw [ho]; rfl⟩
    | false =>
      rw [if_neg Bool.false_ne_true]
      refine ⟨fun m hm => ?_, _, _, rfl⟩
      rw [List.length_append, List.length_singleton] at hm
      by_cases h : m < pre.length
      · exact hbad m h
      · rw [show m = pre.length by omega]; exact hk
  · rintro E ⟨h, a', b', rfl⟩
    rw [numD_len] at h
    rw [first_none h]
    exact ⟨a', b', rfl⟩
end Wu

/-! Frames: what need_frame tells. -/
namespace Law
open PySem PySem.Spec PyProof.Rows L2 Wu He
def badPart (ps : List D) (k : Nat) : Bool := match ps[k]? with
  | some (.str x) => !nameB x || (match toStrs (ps.take k) with
    | some xs => decide (x ∈ xs)
    | none => false)
  | _ => true
theorem isName_inv {d : D} (h : isName d = true) : ∃ x, d = .str x ∧ nameB x = true := by
  cases d with
  | str x => exact ⟨x, rfl, h⟩
  | _ => cases h
theorem badPart_no {ps : List D} {k : Nat} {d : D} (h : ps[k]? = some d) (hn : isName d = false) : badPart ps k = true := by
  unfold badPart
  rw [h]
  cases d with
  | str x => have : nameB x = false := hn; simp [this]
  | _ => rfl
theorem badPart_str {ps : List D} {k : Nat} {x : Str} {xs : List Str} (h : ps[k]? = some (.str x)) (hn : nameB x = true) (ht : ps.take k = sds xs) : badPart ps k = decide (x ∈ xs) := by
  unfold badPart
  rw [h, ht, toStrs_sds]
  simp [hn]
theorem take_names {ps : List D} : ∀ {k : Nat}, k ≤ ps.length → (∀ m, m < k → badPart ps m = false) → ∃ xs, ps.take k = sds xs ∧ (∀ x ∈ xs, nameB x = true) ∧ xs.Nodup
  | 0, _, _ => ⟨[], by simp [sds], by simp, .nil⟩
  | k + 1, hl, h => by
    obtain ⟨xs, h1, h2, h3⟩ := take_names (k := k) (by omega) fun m hm => h m (by omega)
    have hk : ps[k]? = some ps[k] := List.getElem?_eq_getElem (by omega)
    have hb := h k (by omega)
    cases hn : isName ps[k] with
    | false => rw [badPart_no hk hn] at hb; cases hb
    | true =>
      obtain ⟨x, ex, hx⟩ := isName_inv hn
      rw [ex] at hk
      rw [badPart_str hk hx h1] at hb
      refine ⟨xs ++ [x], ?_, ?_, ?_⟩
      · rw [List.take_add_one, h1, hk]
        simp [sds]
      · intro y hy
        rcases List.mem_append.mp hy with hy | hy
        · exact h2 y hy
        · rw [List.mem_singleton.mp hy]; exact hx
      · rw [List.nodup_append]
        refine ⟨h3, by simp, fun a ha b hb' => ?_⟩
        rw [List.mem_singleton.mp hb']
        intro z
        subst z
        exact absurd ha (of_decide_eq_false hb)
def BF (p : D) : Exn := ⟨"BadFrame", ["place"], [p]⟩
def place (w : Str) (k : Nat) : D := .nd .tup [.str w, .int (k : Int)]
theorem b1_ok {th w : D} {ps : List D} {k : Nat} {d : D} {s5 s6 : Sl} (hf : fineL ps = true) (h : ps[k]? = some d) (hb : ∀ m, m < k → badPart ps m = false) :
    m_need_frame_b1 [.val th, .val (.nd .tup ps), .val w, .val (.int (k : Int)), .val d, s5, s6] = if badPart ps k then .ex (BF (place "part" k)) [.val th, .val (.nd .tup ps), .val w, .val (.int (k : Int)), .val d, s5, s6] else .ok .nx [.val th, .val (.nd .tup ps), .val w, .val (.int (k : Int)), .val d, s5, s6] := by
  have hk := (List.getElem?_eq_some_iff.mp h).1
  have hd : d.fine = true := fineL_mem hf d (List.mem_of_getElem? h)
  have e1 : mCall 1 f_is_name (mrE (mVar 4) mrNil) [.val th, .val (.nd .tup ps), .val w, .val (.int (k : Int)), .val d, s5, s6] = .ok (.bl (isName d)) [.val th, .val (.nd .tup ps), .val w, .val (.int (k : Int)), .val d, s5, s6] := call1_ok (x := d) rfl (is_name_ok d hd)
  unfold m_need_frame_b1
  simp only [ev_sIf, ev_or, ev_not, ev_test, e1, ev_bok, ev_tst, ev_ret]
  cases hn : isName d with
  | false =>
    rw [badPart_no h hn]
    simp [BF, place]
  | true =>
    obtain ⟨x, rfl, hx⟩ := isName_inv hn
    obtain ⟨xs, ht, _⟩ := take_names (k := k) (by omega) hb
    rw [badPart_str h hx ht]
    simp only [Bool.not_true, Bool.false_eq_true, if_false, ev_ite, ev_test, ev_op, ev_v4, ev_bok, ev_bnd, ev_sl, ev_v1, ev_part0, ev_part, ev_v3, ev_prtK, pSl_to, ev_some, ht, pIn_tup, ev_tst]
    by_cases hm : x ∈ xs
    · simp [hm, BF, place]
    · simp [hm]
/-! ### windows, one behind the other -/
def headS : D → Option Str
  | .nd .tup (.str x :: _) => some x
  | _ => none
def heads : List D → Option (List Str)
  | [] => some []
  | w :: l => (headS w).bind fun x => (heads l).map (x :: ·)
def badWin (ps : List Str) (ws : List D) (k : Nat) : Bool := match ws[k]? with
  | some w => !isWin ps w || (match headS w, heads (ws.take k) with
    | some x, some xs => decide (x ∈ xs)
    | _, _ => false)
  | none => true
theorem isWin_inv {ps : List Str} {w : D} (h : isWin ps w = true) : ∃ x s, w = .nd .tup [.str x, s] ∧ nameB x = true ∧ isShown ps s = true := by
  unfold isWin at h
  split at h
  · rename_i n s
    obtain ⟨h1, h2⟩ := Bool.and_eq_true_iff.mp h
    obtain ⟨x, rfl, hx⟩ := isName_inv h1
    exact ⟨x, s, rfl, hx, h2⟩
  · cases h
theorem badWin_no {ps : List Str} {ws : List D} {k : Nat} {w : D} (h : ws[k]? = some w) (hn : isWin ps w = false) : badWin ps ws k = true := by
  unfold badWin; rw [h]; dsimp only; rw [hn]; rfl
theorem badWin_ok {ps : List Str} {ws : List D} {k : Nat} {w : D} {x : Str} {xs : List Str} (h : ws[k]? = some w) (hw : isWin ps w = true) (hx : headS w = some x) (hh : heads (ws.take k) = some xs) : badWin ps ws k = decide (x ∈ xs) := by
  unfold badWin; rw [h]; dsimp only; rw [hx, hh, hw]; simp
theorem heads_app {l r : List D} {xs ys : List Str} (h : heads l = some xs) (h' : heads r = some ys) : heads (l ++ r) = some (xs ++ ys) := by
  induction l generalizing xs with
  | nil => cases h; exact h'
  | cons w l ih =>
    obtain ⟨x, h1, h2⟩ := Option.bind_eq_some_iff.mp (show (headS w).bind _ = some xs from h)
    obtain ⟨zs, h3, rfl⟩ := Option.map_eq_some_iff.mp h2
    show (headS w).bind _ = _
    rw [h1]
    show (heads (l ++ r)).map (x :: ·) = _
    rw [ih h3]; rfl
theorem take_wins {ps : List Str} {ws : List D} : ∀ {k : Nat}, k ≤ ws.length → (∀ m, m < k → badWin ps ws m = false) → (∀ w ∈ ws.take k, isWin ps w = true) ∧ ∃ xs, heads (ws.take k) = some xs ∧ xs.length = k ∧ xs.Nodup
  | 0, _, _ => ⟨by simp, [], by simp [heads], rfl, .nil⟩
  | k + 1, hl, h => by
    obtain ⟨h1, xs, h2, h3, h5⟩ := take_wins (k := k) (by omega) fun m hm => h m (by omega)
    have hk : ws[k]? = some ws[k] := List.getElem?_eq_getElem (by omega)
    have hb := h k (by omega)
    cases hn : isWin ps ws[k] with
    | false => rw [badWin_no hk hn] at hb; cases hb
    | true =>
      obtain ⟨x, s, ew, _, _⟩ := isWin_inv hn
      have hx : headS ws[k] = some x := by rw [ew]; rfl
      rw [badWin_ok hk hn hx h2] at hb
      have e : ws.take (k + 1) = ws.take k ++ [ws[k]] := by rw [List.take_add_one, hk]; rfl
      have hh : heads [ws[k]] = some [x] := by show (headS ws[k]).bind _ = _; rw [hx]; rfl
      refine ⟨fun w hw => ?_, xs ++ [x], by rw [e]; exact heads_app h2 hh, by simp [h3], ?_⟩
      · rw [e] at hw
        rcases List.mem_append.mp hw with hw | hw
        · exact h1 w hw
        · rw [List.mem_singleton.mp hw]; exact hn
      · rw [List.nodup_append]
        refine ⟨h5, by simp, fun a ha b hb' => ?_⟩
        rw [List.mem_singleton.mp hb']
        intro z
        subst z
        exact absurd ha (of_decide_eq_false hb)
def headD (d : D) : D := match headS d with
  | some x => .str x
  | none => .non
theorem map_heads {ps : List Str} {l : List D} {xs : List Str} (h : heads l = some xs) : ((l.filter fun _ => true).map headD) = sds xs := by
  rw [List.filter_eq_self.mpr (fun _ _ => rfl)]
  induction l generalizing xs with
  | nil => cases h; rfl
  | cons w l ih =>
    obtain ⟨x, h1, h2⟩ := Option.bind_eq_some_iff.mp (show (headS w).bind _ = some xs from h)
    obtain ⟨zs, h3, rfl⟩ := Option.map_eq_some_iff.mp h2
    rw [List.map_cons, ih h3, show headD w = .str x from by unfold headD; rw [h1]]; rfl
theorem b2_ok {th : D} {ps : List Str} {ws : List D} {k : Nat} {d : D} {s4 : Sl} (hp : fineL (sds ps) = true) (hl : ps.length ≤ 1000) (hw : ws.length ≤ 1000) (hf : fineL ws = true) (h : ws[k]? = some d) (hb : ∀ m, m < k → badWin ps ws m = false) :
    m_need_frame_b2 [.val th, .val (.nd .tup (sds ps)), .val (.nd .tup ws), .val (.int (k : Int)), s4, .val d, .und] = if badWin ps ws k then .ex (BF (place "window" k)) [.val th, .val (.nd .tup (sds ps)), .val (.nd .tup ws), .val (.int (k : Int)), s4, .val d, .und] else .ok .nx [.val th, .val (.nd .tup (sds ps)), .val (.nd .tup ws), .val (.int (k : Int)), s4, .val d, .und] := by
  have hk := (List.getElem?_eq_some_iff.mp h).1
  have hd : d.fine = true := fineL_mem hf d (List.mem_of_getElem? h)
  have e1 : mCall 2 f_is_window (mrE (mVar 5) (mrE (mVar 1) mrNil)) [.val th, .val (.nd .tup (sds ps)), .val (.nd .tup ws), .val (.int (k : Int)), s4, .val d, .und] = .ok (.bl (isWin ps d)) [.val th, .val (.nd .tup (sds ps)), .val (.nd .tup ws), .val (.int (k : Int)), s4, .val d, .und] := call2_ok (x := d) (y := .nd .tup (sds ps)) rfl rfl (is_window_ok d ps hd hp hl)
  unfold m_need_frame_b2
  simp only [ev_sIf, ev_or, ev_not, ev_test, e1, ev_bok, ev_tst, ev_ret]
  cases hn : isWin ps d with
  | false =>
    rw [badWin_no h hn]
    simp [BF, place]
  | true =>
    obtain ⟨hall, xs, hh, _⟩ := take_wins (k := k) (by omega) hb
    obtain ⟨x, s, rfl, _, _⟩ := isWin_inv hn
    have e2 := lc_of (mi := mSeq (mSl (mVar 2) none (some (mVar 3)))) (i := 6) (t := mYes) (m := mOp pIxA (mVar 6) (mC (.int 0))) (E := [.val th, .val (.nd .tup (sds ps)), .val (.nd .tup ws), .val (.int (k : Int)), s4, .val (.nd .tup [.str x, s]), .und]) (ds := ws.take k) (fun _ => true) headD
      (by simp) rfl (size_big (by rw [List.length_take]; omega)) (fun d _ => rfl) (fun d hd _ => by
        obtain ⟨y, t, rfl, _, _⟩ := isWin_inv (hall d hd)
        show (mOp pIxA (mVar 6) (mC (.int 0))) [.val th, .val (.nd .tup (sds ps)), .val (.nd .tup ws), .val (.int (k : Int)), s4, .val (.nd .tup [.str x, s]), .val (.nd .tup [.str y, t])] = .ok _ [.val th, .val (.nd .tup (sds ps)), .val (.nd .tup ws), .val (.int (k : Int)), s4, .val (.nd .tup [.str x, s]), .val (.nd .tup [.str y, t])]
        simp [headD, headS])
    rw [map_heads (ps := ps) hh] at e2
    rw [badWin_ok h hn rfl hh]
    simp only [Bool.not_true, Bool.false_eq_true, if_false, ev_ite, ev_test, ev_op, ev_v5, ev_bok, ev_bnd, ev_c, pIx_tup0, List.getElem?_cons_zero, ev_some, e2, pIn_lst, ev_tst]
    by_cases hm : x ∈ xs
    · simp [hm, BF, place]
    · simp [hm]
/-! ### the whole -/
def frameErr (d : D) : Option D := match d with
  | .nd .tup [.nd .tup ps, .nd .tup ws] =>
    if (decide (1 ≤ ps.length) && decide (ps.length ≤ 8)) && decide (ws.length ≤ 12) then
      match firstBad (badPart ps) ps.length with
      | some k => some (place "part" k)
      | none => match toStrs ps with
        | none => none
        | some xs => match firstBad (badWin xs ws) ws.length with
          | some k => some (place "window" k)
          | none => none
    else some (.nd .tup [])
  | _ => some (.nd .tup [])
def needR (d : D) : Rz := match frameErr d with
  | none => .ok d [.v d]
  | some p => .ex (BF p) [.v d]
theorem parts_names {ps : List D} (h : firstBad (badPart ps) ps.length = none) : ∃ xs, ps = sds xs ∧ (∀ x ∈ xs, nameB x = true) ∧ xs.Nodup := by
  obtain ⟨xs, h1, h2, h3⟩ := take_names (ps := ps) (k := ps.length) (Nat.le_refl _) (first_none_inv h)
  rw [List.take_length] at h1
  exact ⟨xs, h1, h2, h3⟩
theorem bad_shape {d : D} (h : ∀ ps ws, d ≠ .nd .tup [.nd .tup ps, .nd .tup ws]) : frameErr d = some (.nd .tup []) := by
  unfold frameErr
  split
  · exact absurd rfl (h _ _)
  · rfl
def isTup : D → Bool
  | .nd .tup _ => true
  | _ => false
theorem fine_isi_tup (d : D) (h : d.fine = true) : pIsi .tuple d = some (.bl (isTup d)) := by
  cases d with
  | nd k l => cases k <;> first | rfl | cases h
  | _ => rfl
theorem isTup_tup (l : List D) : isTup (.nd .tup l) = true := rfl
theorem isTup_no {d : D} (h : ¬ ∃ ps, d = .nd .tup ps) : isTup d = false := by
  cases d with
  | nd k l => cases k <;> first | rfl | exact absurd ⟨_, rfl⟩ h
  | _ => rfl
theorem need_frame_ok (d : D) (h : d.fine = true) : f_need_frame [.v d] = needR d := by
  have raise0 : ∀ {E : Env'}, m_need_frame (env0 7 [.v d]) = .ex (BF (.nd .tup [])) E → (∀ ps ws, d ≠ .nd .tup [.nd .tup ps, .nd .tup ws]) → f_need_frame [.v d] = needR d := by
    intro E e hs
    unfold needR
    rw [bad_shape hs]
    exact sem_ex (ds := [d]) e
  cases d with
  | non => exact raise0 rfl (fun _ _ z => by cases z)
  | bl b => exact raise0 rfl (fun _ _ z => by cases z)
  | int i => exact raise0 rfl (fun _ _ z => by cases z)
  | str x => exact raise0 rfl (fun _ _ z => by cases z)
  | nd k l =>
    cases k with
    | lst => exact raise0 rfl (fun _ _ z => by cases z)
    | dct ks => exact raise0 rfl (fun _ _ z => by cases z)
    | scr => cases h
    | pr => cases h
    | dtt ks => cases h
    | ob c fs => cases h
    | exn c fs => cases h
    | tup =>
      by_cases h2 : l.length = 2
      · match l, h2 with
        | [p, w], _ =>
          have fp : p.fine = true := fineL_mem h p (by simp)
          have fw : w.fine = true := fineL_mem h w (by simp)
          by_cases hp : ∃ ps, p = .nd .tup ps
          · obtain ⟨ps, rfl⟩ := hp
            by_cases hw : ∃ ws, w = .nd .tup ws
            · obtain ⟨ws, rfl⟩ := hw
              have fps : fineL ps = true := fp
              have fws : fineL ws = true := fw
              have hc1 : ((1 : Int) ≤ (ps.length : Int)) ↔ 1 ≤ ps.length := by omega
              have hc2 : ((ps.length : Int) ≤ 8) ↔ ps.length ≤ 8 := by omega
              have hc3 : ((12 : Int) < (ws.length : Int)) ↔ ¬ ws.length ≤ 12 := by omega
              by_cases hok : (1 ≤ ps.length ∧ ps.length ≤ 8) ∧ ws.length ≤ 12
              · obtain ⟨⟨k1, k2⟩, k3⟩ := hok
                have k3' : ¬ ((12 : Int) < (ws.length : Int)) := by omega
                have k1' : (1 : Int) ≤ (ps.length : Int) := by omega
                have k2' : (ps.length : Int) ≤ 8 := by omega
                have eE : ∀ r, (sqK (sSeq (sFor (mEnum (mVar 2)) (gT [3, 5]) m_need_frame_b2) (sRet (mVar 0))) (loopD (gT [3, 4]) m_need_frame_b1 (numD ps) [.val (.nd .tup [.nd .tup ps, .nd .tup ws]), .val (.nd .tup ps), .val (.nd .tup ws), .und, .und, .und, .und])) = r → m_need_frame (env0 7 [.v (.nd .tup [.nd .tup ps, .nd .tup ws])]) = r := by
                  intro r e
                  rw [← e]
                  show m_need_frame [.val (.nd .tup [.nd .tup ps, .nd .tup ws]), .und, .und, .und, .und, .und, .und] = _
                  simp [m_need_frame, pIsi, D.tn, Tn.sub, asK_of (show gT [1, 2] (.nd .tup [.nd .tup ps, .nd .tup ws]) [.val (.nd .tup [.nd .tup ps, .nd .tup ws]), .und, .und, .und, .und, .und, .und] = some [.val (.nd .tup [.nd .tup ps, .nd .tup ws]), .val (.nd .tup ps), .val (.nd .tup ws), .und, .und, .und, .und] from rfl), k1', k2', k3']
                have s1 := enum_first (l := ps) (i := 3) (j := 4) (body := m_need_frame_b1) (bad := badPart ps) (env := fun a b => [.val (.nd .tup [.nd .tup ps, .nd .tup ws]), .val (.nd .tup ps), .val (.nd .tup ws), a, b, .und, .und]) (out := fun k => .inl (BF (place "part" k))) (fun _ _ _ _ => rfl) (fun k d hd hb => ⟨_, b1_ok fps hd hb⟩) .und .und
                have hF : frameErr (.nd .tup [.nd .tup ps, .nd .tup ws]) = (match firstBad (badPart ps) ps.length with
                    | some k => some (place "part" k)
                    | none => match toStrs ps with
                      | none => none
                      | some xs => match firstBad (badWin xs ws) ws.length with
                        | some k => some (place "window" k)
                        | none => none) := by
                  show (if _ then _ else _) = _
                  rw [if_pos (by simp [k1, k2, k3])]
                cases hb : firstBad (badPart ps) ps.length with
                | some k =>
                  rw [hb] at s1 hF
                  obtain ⟨E, e⟩ := s1
                  unfold needR
                  rw [hF]
                  exact sem_ex (ds := [.nd .tup [.nd .tup ps, .nd .tup ws]]) (eE (.ex (BF (place "part" k)) E) (by rw [e]; rfl))
                | none =>
                  rw [hb] at s1 hF
                  obtain ⟨a, b, e⟩ := s1
                  obtain ⟨xs, rfl, hxn, hnd⟩ := parts_names hb
                  rw [toStrs_sds] at hF
                  dsimp only at hF
                  rw [sds_len] at k2
                  have s2 := enum_first (l := ws) (i := 3) (j := 5) (body := m_need_frame_b2) (bad := badWin xs ws) (env := fun c d => [.val (.nd .tup [.nd .tup (sds xs), .nd .tup ws]), .val (.nd .tup (sds xs)), .val (.nd .tup ws), c, b, d, .und]) (out := fun k => .inl (BF (place "window" k))) (fun _ _ _ _ => rfl) (fun k d hd hb => ⟨_, b2_ok fps (by omega) (by omega) fws hd hb⟩) a .und
                  cases hb2 : firstBad (badWin xs ws) ws.length with
                  | some k =>
                    rw [hb2] at s2 hF
                    obtain ⟨E, e2⟩ := s2
                    unfold needR
                    rw [hF]
                    refine sem_ex (ds := [.nd .tup [.nd .tup (sds xs), .nd .tup ws]]) (eE (.ex (BF (place "window" k)) E) ?_)
                    rw [e]
                    simp only [ev_sqnx, ev_sSeq, ev_sFor, ev_enum, ev_v2, ev_bok, pEnum_tup, ev_some]
                    rw [e2]; rfl
                  | none =>
                    rw [hb2] at s2 hF
                    obtain ⟨c, d, e2⟩ := s2
                    unfold needR
                    rw [hF]
                    refine sem_rt (ds := [.nd .tup [.nd .tup (sds xs), .nd .tup ws]]) (E := [.val (.nd .tup [.nd .tup (sds xs), .nd .tup ws]), .val (.nd .tup (sds xs)), .val (.nd .tup ws), c, b, d, .und]) (eE _ ?_)
                    rw [e]
                    simp only [ev_sqnx, ev_sSeq, ev_sFor, ev_enum, ev_v2, ev_bok, pEnum_tup, ev_some]
                    rw [e2]; rfl
              · have hF : frameErr (.nd .tup [.nd .tup ps, .nd .tup ws]) = some (.nd .tup []) := by
                  show (if _ then _ else _) = _
                  rw [if_neg]
                  simp only [Bool.and_eq_true, decide_eq_true_eq]
                  exact hok
                unfold needR
                rw [hF]
                refine sem_ex (ds := [.nd .tup [.nd .tup ps, .nd .tup ws]]) (E := [.val (.nd .tup [.nd .tup ps, .nd .tup ws]), .val (.nd .tup ps), .val (.nd .tup ws), .und, .und, .und, .und]) ?_
                show m_need_frame [.val (.nd .tup [.nd .tup ps, .nd .tup ws]), .und, .und, .und, .und, .und, .und] = _
                by_cases k1 : 1 ≤ ps.length
                · by_cases k2 : ps.length ≤ 8
                  · have k3 : ¬ ws.length ≤ 12 := fun z => hok ⟨⟨k1, k2⟩, z⟩
                    simp [m_need_frame, pIsi, D.tn, Tn.sub, asK_of (show gT [1, 2] (.nd .tup [.nd .tup ps, .nd .tup ws]) [.val (.nd .tup [.nd .tup ps, .nd .tup ws]), .und, .und, .und, .und, .und, .und] = some [.val (.nd .tup [.nd .tup ps, .nd .tup ws]), .val (.nd .tup ps), .val (.nd .tup ws), .und, .und, .und, .und] from rfl), hc1, hc2, hc3, k1, k2, k3, BF]
                  · simp [m_need_frame, pIsi, D.tn, Tn.sub, asK_of (show gT [1, 2] (.nd .tup [.nd .tup ps, .nd .tup ws]) [.val (.nd .tup [.nd .tup ps, .nd .tup ws]), .und, .und, .und, .und, .und, .und] = some [.val (.nd .tup [.nd .tup ps, .nd .tup ws]), .val (.nd .tup ps), .val (.nd .tup ws), .und, .und, .und, .und] from rfl), hc1, hc2, hc3, k1, k2, BF]
                · simp [m_need_frame, pIsi, D.tn, Tn.sub, asK_of (show gT [1, 2] (.nd .tup [.nd .tup ps, .nd .tup ws]) [.val (.nd .tup [.nd .tup ps, .nd .tup ws]), .und, .und, .und, .und, .und, .und] = some [.val (.nd .tup [.nd .tup ps, .nd .tup ws]), .val (.nd .tup ps), .val (.nd .tup ws), .und, .und, .und, .und] from rfl), hc1, hc2, hc3, k1, BF]
            · refine raise0 (E := [.val (.nd .tup [.nd .tup ps, w]), .val (.nd .tup ps), .val w, .und, .und, .und, .und]) ?_ (fun _ ws z => by cases z; exact hw ⟨_, rfl⟩)
              show m_need_frame [.val (.nd .tup [.nd .tup ps, w]), .und, .und, .und, .und, .und, .und] = _
              simp [m_need_frame, fine_isi_tup w fw, isTup_no hw, fine_isi_tup (.nd .tup [.nd .tup ps, w]) h, isTup_tup, fine_isi_tup (.nd .tup ps) fp, asK_of (show gT [1, 2] (.nd .tup [.nd .tup ps, w]) [.val (.nd .tup [.nd .tup ps, w]), .und, .und, .und, .und, .und, .und] = some [.val (.nd .tup [.nd .tup ps, w]), .val (.nd .tup ps), .val w, .und, .und, .und, .und] from rfl), BF]
          · refine raise0 (E := [.val (.nd .tup [p, w]), .und, .und, .und, .und, .und, .und]) ?_ (fun ps _ z => by cases z; exact hp ⟨_, rfl⟩)
            show m_need_frame [.val (.nd .tup [p, w]), .und, .und, .und, .und, .und, .und] = _
            simp [m_need_frame, fine_isi_tup p fp, isTup_no hp, fine_isi_tup (.nd .tup [p, w]) h, isTup_tup, BF]
      · have h3 : ¬ ((l.length : Int) = 2) := by omega
        refine raise0 (E := [.val (.nd .tup l), .und, .und, .und, .und, .und, .und]) ?_ (fun _ _ z => by cases z; exact h2 rfl)
        show m_need_frame [.val (.nd .tup l), .und, .und, .und, .und, .und, .und] = _
        simp [m_need_frame, pIsi, D.tn, Tn.sub, h3, BF]
end Law

/-! Plain reckoning: repr of what the laws draw. -/
namespace Wu
open PySem PySem.Spec PyProof.Rows L2
mutual
/-- no less than the length of what repr tells -/
def D.wt : D → Nat
  | .non => 5
  | .bl _ => 5
  | .int _ => 1921
  | .str x => 10 * x.length + 2
  | .nd _ l => wtL l + 3
def wtL : List D → Nat
  | [] => 0
  | d :: l => d.wt + 2 + wtL l
end
mutual
def D.dp : D → Nat
  | .non => 0
  | .bl _ => 0
  | .int _ => 0
  | .str _ => 0
  | .nd _ l => dpL l + 1
def dpL : List D → Nat
  | [] => 0
  | d :: l => max d.dp (dpL l)
end
theorem wtL_app (l r : List D) : wtL (l ++ r) = wtL l + wtL r := by
  induction l with
  | nil => simp [wtL]
  | cons d l ih => show d.wt + 2 + wtL (l ++ r) = d.wt + 2 + wtL l + wtL r; rw [ih]; omega
theorem dpL_app (l r : List D) : dpL (l ++ r) = max (dpL l) (dpL r) := by
  induction l with
  | nil => simp [dpL]
  | cons d l ih => show max d.dp (dpL (l ++ r)) = max (max d.dp (dpL l)) (dpL r); rw [ih]; omega
theorem wt_mem {l : List D} {d : D} (h : d ∈ l) : d.wt + 2 ≤ wtL l := by
  induction l with
  | nil => cases h
  | cons a l ih =>
    show d.wt + 2 ≤ a.wt + 2 + wtL l
    rcases List.mem_cons.mp h with rfl | h
    · omega
    · have := ih h; omega
theorem dp_mem {l : List D} {d : D} (h : d ∈ l) : d.dp ≤ dpL l := by
  induction l with
  | nil => cases h
  | cons a l ih =>
    show d.dp ≤ max a.dp (dpL l)
    rcases List.mem_cons.mp h with rfl | h
    · omega
    · have := ih h; omega
mutual
theorem fine_show : ∀ d : D, d.fine = true → d.canSh = true ∧ d.sh.showable = true ∧ d.sh.shown.length ≤ d.wt ∧ d.sh.depth ≤ d.dp
  | .non, _ => ⟨rfl, rfl, by decide, Nat.le_refl 0⟩
  | .bl b, _ => ⟨rfl, rfl, by cases b <;> decide, Nat.le_refl 0⟩
  | .int i, h => ⟨rfl, h, int_text_len_1921 (of_decide_eq_true h), Nat.le_refl 0⟩
  | .str x, h => ⟨rfl, rfl, PySem.StrLaws.reprText_len x fun c hc => Nat.lt_trans ((fine_str h).2 c hc) (by decide), Nat.le_refl 0⟩
  | .nd .tup l, h => by
    obtain ⟨h1, h2, h3, h4⟩ := fineL_show l h
    refine ⟨h1, h2, ?_, Nat.succ_le_succ h4⟩
    have := tupleText_len_le (PyData.shownAll (shL l))
    show (tupleText (PyData.shownAll (shL l))).length ≤ wtL l + 3
    omega
  | .nd .lst l, h => by
    obtain ⟨h1, h2, h3, h4⟩ := fineL_show l h
    refine ⟨h1, h2, ?_, Nat.succ_le_succ h4⟩
    have := listText_len_le (PyData.shownAll (shL l))
    show (listText (PyData.shownAll (shL l))).length ≤ wtL l + 3
    omega
  | .nd (.dct ks) l, h => by
    obtain ⟨h1, h2⟩ := Bool.and_eq_true_iff.mp h
    refine ⟨h1, rfl, ?_, ?_⟩
    · show (dictText []).length ≤ wtL l + 3
      exact Nat.le_trans (show 2 ≤ 3 by decide) (by omega)
    · show 0 + 1 ≤ dpL l + 1
      omega
  | .nd .scr _, h => by cases h
  | .nd .pr _, h => by cases h
  | .nd (.dtt _) _, h => by cases h
  | .nd (.ob _ _) _, h => by cases h
  | .nd (.exn _ _) _, h => by cases h
theorem fineL_show : ∀ l : List D, fineL l = true → canShL l = true ∧ PyData.showableAll (shL l) = true ∧ ((PyData.shownAll (shL l)).map (·.length)).sum + 2 * (PyData.shownAll (shL l)).length ≤ wtL l ∧ PyData.depthAll (shL l) ≤ dpL l
  | [], _ => ⟨rfl, rfl, Nat.le_refl 0, Nat.le_refl 0⟩
  | d :: l, h => by
    obtain ⟨k1, k2⟩ := Bool.and_eq_true_iff.mp (show (d.fine && fineL l) = true from h)
    obtain ⟨a1, a2, a3, a4⟩ := fine_show d k1
    obtain ⟨b1, b2, b3, b4⟩ := fineL_show l k2
    refine ⟨?_, ?_, ?_, ?_⟩
    · show (d.canSh && canShL l) = true
      rw [a1, b1]; rfl
    · show (d.sh.showable && PyData.showableAll (shL l)) = true
      rw [a2, b2]; rfl
    · show ((d.sh.shown :: PyData.shownAll (shL l)).map (·.length)).sum + 2 * (d.sh.shown :: PyData.shownAll (shL l)).length ≤ d.wt + 2 + wtL l
      simp only [List.map_cons, List.sum_cons, List.length_cons]
      omega
    · show max d.sh.depth (PyData.depthAll (shL l)) ≤ max d.dp (dpL l)
      omega
end
/-- what repr tells -/
def rep (d : D) : D := .str d.sh.shown
theorem repr_ok {d : D} (h : d.fine = true) (hw : d.wt ≤ sizeLine) (hd : d.dp ≤ 60) : pRepr [d] = some (rep d) := by
  obtain ⟨h1, h2, h3, h4⟩ := fine_show d h
  show (if (d.canSh && d.sh.showable && decide (d.sh.shown.length ≤ sizeLine) && decide (d.sh.depth ≤ 60)) = true then some (D.str d.sh.shown) else none) = _
  rw [h1, h2, decide_eq_true (Nat.le_trans h3 hw), decide_eq_true (Nat.le_trans h4 hd)]
  rfl
end Wu

/-! Draws: names, frames. -/
namespace Wu
open PySem PySem.Spec PyProof.Rows L2
@[simp] theorem ev_mrNil (E : Env') : mrNil E = .ok [] E := rfl
@[simp] theorem ev_mrE (a : M D) (ms : M (List AR)) (E : Env') : mrE a ms E = (a E).bind fun d => ms.bnd fun l => .ret (.inl d :: l) := rfl
theorem gather_v (E : Env') : ∀ xs : List D, gather E (xs.map Sum.inl) = some (xs.map Ag.v)
  | [] => rfl
  | x :: xs => by
    show (gather E (xs.map Sum.inl)).map (.v x :: ·) = _
    rw [gather_v E xs]; rfl
theorem shapes_v : ∀ xs : List D, shapes (xs.map Sum.inl) (xs.map Ag.v) = true
  | [] => rfl
  | _ :: xs => shapes_v xs
theorem rOk_v : ∀ xs : List D, rOk (xs.map Sum.inl) = true
  | [] => rfl
  | _ :: xs => rOk_v xs
theorem any_v (i : Nat) : ∀ xs : List D, (xs.map (Sum.inl : D → AR)).any (isRef i) = false
  | [] => rfl
  | _ :: xs => by rw [List.map_cons, List.any_cons, any_v i xs]; rfl
theorem look_v (j : Nat) : ∀ (xs : List D) (as : List Ag), lookR (xs.map Sum.inl) as j = none
  | [], as => by cases as <;> rfl
  | _ :: xs, [] => rfl
  | _ :: xs, _ :: as => look_v j xs as
theorem scat_r {E : Env'} {i : Nat} {ix : Option Nat} {c c' : Ow} {xs : List D} (h : E[i]? = some (.own ix c)) : scatter E (.inr i :: xs.map Sum.inl) (.o c' :: xs.map Ag.v) = E.set i (.own ix c') := by
  unfold scatter
  apply List.ext_getElem?
  intro j
  rw [List.getElem?_mapIdx, List.getElem?_set]
  by_cases hj : i = j
  · subst hj
    rw [if_pos rfl, h, if_pos (List.getElem?_eq_some_iff.mp h).1]
    simp [scat1, lookR]
  · rw [if_neg hj]
    cases e : E[j]? with
    | none => rfl
    | some s => cases s <;> simp [scat1, lookR, hj, look_v]
/-- a def called with the draws and data -/
theorem callD {n : Nat} {f : Sm} {i : Nat} {ix ix0 : Option Nat} {c0 : Ow} {s s' : Dr} {ms : M (List AR)} {E E' : Env'} {xs : List D} {d : D} (h0 : E[i]? = some (.own ix0 c0)) (hms : ms E = .ok (xs.map Sum.inl) E') (h : E'[i]? = some (.own ix (.dr s))) (hn : n = xs.length + 1)
    (hf : f (.o (.dr s) :: xs.map Ag.v) = .ok d (.o (.dr s') :: xs.map Ag.v)) : mCall n f (mrR i ms) E = .ok d (E'.set i (.own ix (.dr s'))) := by
  have e1 : mrR i ms E = .ok (.inr i :: xs.map Sum.inl) E' := by
    unfold mrR
    rw [h0]
    show (M.bnd ms _) E = _
    rw [M.bnd_ok hms]; rfl
  unfold mCall
  rw [M.bnd_ok e1]
  have e2 : gather E' (.inr i :: xs.map Sum.inl) = some (.o (.dr s) :: xs.map Ag.v) := by
    simp only [gather, h, gather_v, Option.map_some]
  have e3 : (rOk (.inr i :: xs.map (Sum.inl : D → AR)) && (.inr i :: xs.map (Sum.inl : D → AR)).length == n) = true := by
    show ((!((xs.map Sum.inl).any (isRef i)) && rOk (xs.map Sum.inl)) && _) = true
    rw [any_v, rOk_v, hn]
    simp
  have e4 : shapes (.inr i :: xs.map Sum.inl) (.o (.dr s') :: xs.map Ag.v) = true := shapes_v xs
  rw [if_pos e3, e2]
  simp only [hf, e4, if_true]
  rw [scat_r h]
theorem sem_rtD {n : Nat} {bm : SM} {s s' : Dr} {ds : List D} {d : D} {E : Env'} (h : bm (env0 n (.o (.dr s) :: ds.map Ag.v)) = .ok (.rt d) E) (hE : E[0]? = some (.own (some 0) (.dr s'))) : semOf n bm (.o (.dr s) :: ds.map Ag.v) = .ok d (.o (.dr s') :: ds.map Ag.v) := by
  have e : ∀ (l : List D) (i : Nat), backN E i (l.map Ag.v) = some (l.map Ag.v) := by
    intro l
    induction l with
    | nil => intro i; rfl
    | cons a l ih => intro i; simp [backN, b1, ih]
  unfold semOf
  rw [h]
  have e2 : backN E 0 (.o (.dr s) :: ds.map Ag.v) = some (.o (.dr s') :: ds.map Ag.v) := by
    show (b1 E 0 (.o (.dr s))).bind _ = _
    have : b1 E 0 (.o (.dr s)) = some (.o (.dr s')) := by unfold b1; rw [hE]; rfl
    rw [this]
    show (backN E (0 + 1) (ds.map Ag.v)).map _ = _
    rw [e]; rfl
  simp only [endZ, finZ, e2]
end Wu
namespace Law
open PySem PySem.Spec PyProof.Rows L2 Wu He
def letter (j : Nat) : Str := ⟨#[97 + j]⟩
theorem lt_at (j : Nat) (h : j < 26) : LT.cps.toList[j]? = some (97 + j) := by
  have : ∀ j : Fin 26, LT.cps.toList[j.1]? = some (97 + j.1) := by decide +kernel
  exact this ⟨j, h⟩
theorem sign_lt (j : Nat) (h : j < 26) : signOk (97 + j) = true := by
  have : ∀ j : Fin 26, signOk (97 + j.1) = true := by decide +kernel
  exact this ⟨j, h⟩
theorem ix_lt (i : Int) (h0 : 0 ≤ i) (h1 : i < 26) : pIxA (.str LT) (.int i) = some (.str (letter i.toNat)) := by
  obtain ⟨k, rfl⟩ := Int.eq_ofNat_of_zero_le h0
  show (if LT.length ≤ sizeLine then (atI LT.cps.toList (k : Int)).map fun c => D.str ⟨#[c]⟩ else none) = _
  rw [if_pos (by decide +kernel), Wu.atI_nat, lt_at k (by omega)]
  rfl
/-- letters alone -/
def lets (x : Str) : Prop := x.cps.toList.all signOk = true
theorem b1_titles {s : Dr} {a1 a2 a3 a5 : D} {st : Str} {b7 : D} {r8 r9 r10 : Sl} (hs : s.Ok) (hl : st.length ≤ 7) (hc : lets st) : ∃ s' j, s'.Ok ∧ j < 26 ∧ m__law_titles_b1 [.own (some 0) (.dr s), .val a1, .val a2, .val a3, .val (.str st), .val a5, .val (.str LT), .val b7, r8, r9, r10] =
    .ok .nx [.own (some 0) (.dr s'), .val a1, .val a2, .val a3, .val (.str (st ++ letter j)), .val a5, .val (.str LT), .val b7, r8, r9, r10] := by
  obtain ⟨h0, h1⟩ := s.draw_lt (n := 26) (by decide)
  refine ⟨s.next 26, (s.draw 26).toNat, hs.next (by decide), by omega, ?_⟩
  have e := call_next (E := [.own (some 0) (.dr s), .val a1, .val a2, .val a3, .val (.str st), .val a5, .val (.str LT), .val b7, r8, r9, r10]) (a := mC (.int 26)) (i := 0) rfl rfl rfl (by decide) (by decide)
  unfold m__law_titles_b1
  have hz : st.length + (letter (s.draw 26).toNat).length ≤ sizeLine := Nat.le_trans (show _ ≤ 7 + 1 from Nat.add_le_add hl (Nat.le_refl 1)) (by decide)
  simp only [ev_sSet, ev_op, ev_v4, ev_bok, ev_bnd, ev_v6, e, List.set_cons_zero, ix_lt _ h0 h1, ev_some, pAdd, hz, if_true, List.set_cons_succ]
theorem let_app {x : Str} {j : Nat} (hx : lets x) (hj : j < 26) : lets (x ++ letter j) ∧ lets (letter j ++ x) ∧ (x ++ letter j).length = x.length + 1 ∧ (letter j ++ x).length = x.length + 1 := by
  have e1 : (x ++ letter j).cps.toList = x.cps.toList ++ [97 + j] := by show (x.cps ++ #[97 + j]).toList = _; simp
  have e2 : (letter j ++ x).cps.toList = (97 + j) :: x.cps.toList := by show (#[97 + j] ++ x.cps).toList = _; simp
  have l1 : (x ++ letter j).length = x.length + 1 := by show (x.cps ++ #[97 + j]).size = _; simp [Str.length]
  have l2 : (letter j ++ x).length = x.length + 1 := by show (#[97 + j] ++ x.cps).size = x.cps.size + 1; simp; omega
  unfold lets at hx ⊢
  refine ⟨by rw [e1, List.all_append, hx]; simp [sign_lt j hj], by rw [e2, List.all_cons, hx, sign_lt j hj]; rfl, l1, l2⟩
theorem stem_loop {a1 a2 a3 b7 : D} {r8 r9 r10 : Sl} {ds : List D} (hd : ds.length ≤ 7) : ∀ {s : Dr} {x5 : Sl}, s.Ok → ∃ s' st t, s'.Ok ∧ st.length ≤ 7 ∧ lets st ∧ loopD (gN 5) m__law_titles_b1 ds [.own (some 0) (.dr s), .val a1, .val a2, .val a3, .val (.str ""), x5, .val (.str LT), .val b7, r8, r9, r10] =
    .ok .nx [.own (some 0) (.dr s'), .val a1, .val a2, .val a3, .val (.str st), t, .val (.str LT), .val b7, r8, r9, r10] := by
  intro s x5 hs
  refine loop_inv (fun r => ∃ s' st t, s'.Ok ∧ st.length ≤ 7 ∧ lets st ∧ r = .ok .nx [.own (some 0) (.dr s'), .val a1, .val a2, .val a3, .val (.str st), t, .val (.str LT), .val b7, r8, r9, r10])
    (fun pre E => ∃ s' st t, s'.Ok ∧ st.length = pre.length ∧ lets st ∧ E = [.own (some 0) (.dr s'), .val a1, .val a2, .val a3, .val (.str st), t, .val (.str LT), .val b7, r8, r9, r10]) ⟨s, "", x5, hs, rfl, rfl, rfl⟩ ?_ ?_
  · rintro pre d post E hds ⟨s', st, t, ok, hl, hc, rfl⟩
    have hpl : pre.length + 1 ≤ ds.length := by rw [hds]; simp
    obtain ⟨s2, j, ok2, hj, e⟩ := b1_titles (s := s') (a1 := a1) (a2 := a2) (a3 := a3) (a5 := d) (st := st) (b7 := b7) (r8 := r8) (r9 := r9) (r10 := r10) ok (by omega) hc
    obtain ⟨h1, _, h3, _⟩ := let_app hc hj
    exact ⟨_, _, rfl, e, s2, _, _, ok2, by rw [h3, hl]; simp, h1, rfl⟩
  · rintro E ⟨s', st, t, ok, hl, hc, rfl⟩
    exact ⟨s', st, t, ok, by omega, hc, rfl⟩
def rowX (q n : Nat) : List Str := (List.range n).map fun k => letter ((q + 7 * k) % 26)
def wordsX : List Str := ["edit", "undo", "redo", "done", "undone", "parts", "window", "none", "never", "alone", "content", "no"]
/-- names, all of them different -/
structure Names (n : Nat) (xs : List Str) : Prop where
  len : xs.length = n
  nd : xs.Nodup
  nm : ∀ x ∈ xs, nameB x = true
theorem words_ok (k : Nat) (h : k < 12) : Names 12 (wordsX.drop k ++ wordsX.take k) := by
  have : ∀ k : Fin 12, (wordsX.drop k.1 ++ wordsX.take k.1).length = 12 ∧ (wordsX.drop k.1 ++ wordsX.take k.1).Nodup ∧ ∀ x ∈ wordsX.drop k.1 ++ wordsX.take k.1, nameB x = true := by decide +kernel
  obtain ⟨h1, h2, h3⟩ := this ⟨k, h⟩
  exact ⟨h1, h2, h3⟩
theorem Names.take {m n : Nat} {xs : List Str} (h : Names m xs) (hn : n ≤ m) : Names n (xs.take n) :=
  ⟨by rw [List.length_take, h.len]; omega, h.nd.sublist (List.take_sublist n xs), fun x hx => h.nm x (List.mem_of_mem_take hx)⟩
theorem nameB_of {x : Str} (h1 : 1 ≤ x.length) (h2 : x.length ≤ 8) (h3 : lets x) : nameB x = true := by
  unfold nameB
  rw [decide_eq_true h1, decide_eq_true h2, h3]; rfl
theorem row_ok {q n : Nat} (hn : n ≤ 12) (g : Nat → Str) (hg : ∀ i j, i < 26 → j < 26 → g i = g j → i = j) (hm : ∀ i, i < 26 → nameB (g i) = true) : Names n ((List.range n).map fun k => g ((q + 7 * k) % 26)) := by
  refine ⟨by simp, ?_, fun x hx => ?_⟩
  · rw [List.nodup_iff_pairwise_ne, List.pairwise_map]
    refine List.Pairwise.imp_of_mem ?_ (List.nodup_iff_pairwise_ne.mp List.nodup_range)
    intro a b ha hb hab e
    have ha' := List.mem_range.mp ha
    have hb' := List.mem_range.mp hb
    have := hg _ _ (Nat.mod_lt _ (by decide)) (Nat.mod_lt _ (by decide)) e
    omega
  · obtain ⟨k, _, rfl⟩ := List.mem_map.mp hx
    exact hm _ (Nat.mod_lt _ (by decide))
theorem let_inj {i j : Nat} (h : letter i = letter j) : i = j := by
  have : (letter i).cps.toList = (letter j).cps.toList := by rw [h]
  simp [letter] at this
  exact this
theorem app_inj {x : Str} {i j : Nat} (h : x ++ letter i = x ++ letter j) : i = j := by
  have e : (x ++ letter i).cps.toList = (x ++ letter j).cps.toList := by rw [h]
  have e1 : ∀ j, (x ++ letter j).cps.toList = x.cps.toList ++ [97 + j] := fun j => by show (x.cps ++ #[97 + j]).toList = _; simp
  rw [e1, e1] at e
  have := List.append_cancel_left e
  simp at this
  exact this
theorem pre_inj {x : Str} {i j : Nat} (h : letter i ++ x = letter j ++ x) : i = j := by
  have e : (letter i ++ x).cps.toList = (letter j ++ x).cps.toList := by rw [h]
  have e1 : ∀ j, (letter j ++ x).cps.toList = (97 + j) :: x.cps.toList := fun j => by show (#[97 + j] ++ x.cps).toList = _; simp
  rw [e1, e1] at e
  simp at e
  exact e
theorem cmul7 (k : Int) : CMul 7 k := by unfold CMul; left; constructor <;> decide
theorem LT_eq : (Str.ofString "abcdefghijklmnopqrstuvwxyz") = LT := rfl
theorem titles_ok {s : Dr} {n : Nat} (hs : s.Ok) (hn : n ≤ 12) : ∃ s' xs, s'.Ok ∧ Names n xs ∧ f__law_titles [.o (.dr s), .v (.int (n : Int))] = .ok (.nd .lst (sds xs)) [.o (.dr s'), .v (.int (n : Int))] := by
  have hE0 : env0 11 [.o (.dr s), .v (.int (n : Int))] = [.own (some 0) (.dr s), .val (.int (n : Int)), .und, .und, .und, .und, .und, .und, .und, .und, .und] := rfl
  obtain ⟨q0, q1⟩ := s.draw_lt (n := 26) (by decide)
  obtain ⟨m0, m1⟩ := (s.next 26).draw_lt (n := 4) (by decide)
  have ok1 := hs.next (n := 26) (by decide)
  have ok2 := ok1.next (n := 4) (by decide)
  have c1 := call_next (E := [.own (some 0) (.dr s), .val (.int (n : Int)), .und, .und, .und, .und, .und, .und, .und, .und, .und]) (a := mC (.int 26)) (i := 0) rfl rfl rfl (by decide) (by decide)
  have c2 := call_next (E := [.own (some 0) (.dr (s.next 26)), .val (.int (n : Int)), .und, .und, .und, .und, .val (.str LT), .val (.int (s.draw 26)), .und, .und, .und]) (a := mC (.int 4)) (i := 0) rfl rfl rfl (by decide) (by decide)
  obtain ⟨q, hq⟩ := Int.eq_ofNat_of_zero_le q0
  rw [hq] at c1 c2 q1
  have st1 : sAsg (mFn pTup (mCons (mC (.str LT)) (mCons (mCall 2 semNext (mrR 0 (mrE (mC (.int 26)) (mrNil)))) (mNil)))) (gT [6, 7]) [.own (some 0) (.dr s), .val (.int (n : Int)), .und, .und, .und, .und, .und, .und, .und, .und, .und] = .ok .nx [.own (some 0) (.dr (s.next 26)), .val (.int (n : Int)), .und, .und, .und, .und, .val (.str LT), .val (.int (q : Int)), .und, .und, .und] := by
    simp only [ev_sAsg, ev_fn, ev_cons, ev_c, ev_bok, ev_bnd, c1, ev_nil, ev_ret, pTup_2, ev_some, List.set_cons_zero]
    exact asK_of rfl
  have st2 : sSet 2 (mCall 2 semNext (mrR 0 (mrE (mC (.int 4)) (mrNil)))) [.own (some 0) (.dr (s.next 26)), .val (.int (n : Int)), .und, .und, .und, .und, .val (.str LT), .val (.int (q : Int)), .und, .und, .und] = .ok .nx [.own (some 0) (.dr ((s.next 26).next 4)), .val (.int (n : Int)), .val (.int ((s.next 26).draw 4)), .und, .und, .und, .val (.str LT), .val (.int (q : Int)), .und, .und, .und] := by
    simp only [ev_sSet, c2, ev_bok, List.set_cons_zero, List.set_cons_succ]
  generalize hmd : (s.next 26).draw 4 = md at *
  generalize hs2 : (s.next 26).next 4 = s2 at *
  by_cases h3 : md = 3
  · -- the system's words
    subst h3
    have hk : q % 12 < 12 := Nat.mod_lt _ (by decide)
    refine ⟨s2, (wordsX.drop (q % 12) ++ wordsX.take (q % 12)).take n, ok2, (words_ok _ hk).take hn, ?_⟩
    refine sem_rtD (n := 11) (ds := [.int (n : Int)]) (E := [.own (some 0) (.dr s2), .val (.int (n : Int)), .val (.int 3), .und, .und, .und, .val (.str LT), .val (.int (q : Int)), .val (.nd .lst (sds wordsX)), .und, .und]) ?_ rfl
    show m__law_titles _ = _
    rw [show env0 11 (Ag.o (.dr s) :: [D.int (n : Int)].map Ag.v) = _ from hE0]
    unfold m__law_titles
    rw [LT_eq, sSeq_ok st1, sSeq_ok st2]
    have hm : ((q : Int) % 12) = ((q % 12 : Nat) : Int) := by omega
    have hz : ((sds wordsX).drop (q % 12)).length + ((sds wordsX).take (q % 12)).length ≤ sizeLine := by
      rw [List.length_drop, List.length_take]
      refine Nat.le_trans (show _ ≤ 24 from ?_) (by decide)
      have : (sds wordsX).length = 12 := rfl
      omega
    have e : (sds wordsX).drop (q % 12) ++ (sds wordsX).take (q % 12) = sds (wordsX.drop (q % 12) ++ wordsX.take (q % 12)) := by simp [sds]
    have e2 : (sds (wordsX.drop (q % 12) ++ wordsX.take (q % 12))).take n = sds ((wordsX.drop (q % 12) ++ wordsX.take (q % 12)).take n) := by simp [sds]
    have hW : ∀ s2 : Dr, sSet 8 (mFn pLst (mCons (mC (.str "edit")) (mCons (mC (.str "undo")) (mCons (mC (.str "redo")) (mCons (mC (.str "done")) (mCons (mC (.str "undone")) (mCons (mC (.str "parts")) (mCons (mC (.str "window")) (mCons (mC (.str "none")) (mCons (mC (.str "never")) (mCons (mC (.str "alone")) (mCons (mC (.str "content")) (mCons (mC (.str "no")) (mNil)))))))))))))) [.own (some 0) (.dr s2), .val (.int (n : Int)), .val (.int 3), .und, .und, .und, .val (.str LT), .val (.int (q : Int)), .und, .und, .und] = .ok .nx [.own (some 0) (.dr s2), .val (.int (n : Int)), .val (.int 3), .und, .und, .und, .val (.str LT), .val (.int (q : Int)), .val (.nd .lst (sds wordsX)), .und, .und] := fun _ => rfl
    have hC : ∀ s2 : Dr, mTest (mOp pEq (mVar 2) (mC (.int 3))) [.own (some 0) (.dr s2), .val (.int (n : Int)), .val (.int 3), .und, .und, .und, .val (.str LT), .val (.int (q : Int)), .und, .und, .und] = .ok true [.own (some 0) (.dr s2), .val (.int (n : Int)), .val (.int 3), .und, .und, .und, .val (.str LT), .val (.int (q : Int)), .und, .und, .und] := fun _ => rfl
    refine sSeq_rt ?_
    rw [sIf_ok (hC s2), if_pos rfl, sSeq_ok (hW s2)]
    simp only [ev_sRet, ev_sl, ev_op, ev_v8, ev_bok, ev_bnd, ev_part, ev_v7, ev_c, pMod, hm, ev_some, ev_prtK, ev_part0, pSlL_from, pSlL_to, pAdd, hz, if_true, ev_v1, e, e2, show ((0 : Int) < 12) from by decide]
  · have h3' : decide (md = 3) = false := decide_eq_false h3
    -- the row of letters
    have eR := lc_of (mi := mRange (mCons (mVar 1) mNil)) (i := 9) (t := mYes) (m := mOp pIxA (mVar 6) (mOp pMod (mFn pInt (mCons (mOp pAdd (mVar 7) (mOp pMul (mC (.int 7)) (mVar 9))) (mNil))) (mC (.int 26)))) (E := [.own (some 0) (.dr s2), .val (.int (n : Int)), .val (.int md), .und, .und, .und, .val (.str LT), .val (.int (q : Int)), .und, .und, .und]) (ds := rangeD 0 n) (fun _ => true) (fun d => match d with | .int k => .str (letter ((q + 7 * k.toNat) % 26)) | _ => .non)
      (mRangeN rfl (by omega)) rfl (size_big (by simp [rangeD]; omega)) (fun d _ => rfl) (fun d hd _ => by
        obtain ⟨k, hk, rfl⟩ := List.mem_map.mp hd
        have hm : ((q : Int) + 7 * (0 + (k : Int))) % 26 = (((q + 7 * k) % 26 : Nat) : Int) := by omega
        have hx := ix_lt (((q + 7 * k) % 26 : Nat) : Int) (by omega) (by omega)
        show (mOp pIxA (mVar 6) (mOp pMod (mFn pInt (mCons (mOp pAdd (mVar 7) (mOp pMul (mC (.int 7)) (mVar 9))) (mNil))) (mC (.int 26)))) [.own (some 0) (.dr s2), .val (.int (n : Int)), .val (.int md), .und, .und, .und, .val (.str LT), .val (.int (q : Int)), .und, .val (.int (0 + (k : Int))), .und] = .ok _ [.own (some 0) (.dr s2), .val (.int (n : Int)), .val (.int md), .und, .und, .und, .val (.str LT), .val (.int (q : Int)), .und, .val (.int (0 + (k : Int))), .und]
        simp only [ev_op, ev_v6, ev_bok, ev_bnd, ev_fn, ev_cons, ev_v7, ev_c, ev_v9, pMul, cmul7, if_true, ev_some, pAdd_int, ev_nil, ev_ret, pInt_int, pMod, show ((0 : Int) < 26) from by decide, hm, hx]
        show R.ok (D.str (letter (((q + 7 * k) % 26 : Nat) : Int).toNat)) _ = R.ok (D.str (letter ((q + 7 * (0 + (k : Int)).toNat) % 26))) _
        rw [Int.toNat_natCast, show (0 + (k : Int)).toNat = k by omega])
    have eR2 : ((((rangeD 0 n).filter fun _ => true).map fun d => match d with | .int k => D.str (letter ((q + 7 * k.toNat) % 26)) | _ => .non)) = sds (rowX q n) := by
      rw [List.filter_eq_self.mpr (fun _ _ => rfl)]
      unfold rangeD rowX sds
      rw [List.map_map, List.map_map]
      apply List.map_congr_left
      intro k _
      show D.str (letter ((q + 7 * (0 + (k : Int)).toNat) % 26)) = _
      simp
    rw [eR2] at eR
    obtain ⟨t0, t1⟩ := s2.draw_lt (n := 8) (by decide)
    have c3 := call_next (E := [.own (some 0) (.dr s2), .val (.int (n : Int)), .val (.int md), .val (.nd .lst (sds (rowX q n))), .val (.str ""), .und, .val (.str LT), .val (.int (q : Int)), .und, .und, .und]) (a := mC (.int 8)) (i := 0) rfl rfl rfl (by decide) (by decide)
    obtain ⟨s3, st, t, ok3, hsl, hsc, eL⟩ := stem_loop (a1 := .int (n : Int)) (a2 := .int md) (a3 := .nd .lst (sds (rowX q n))) (b7 := .int (q : Int)) (r8 := .und) (r9 := .und) (r10 := .und) (ds := rangeD 0 (s2.draw 8).toNat) (by simp [rangeD]; omega) (s := s2.next 8) (x5 := .und) (ok2.next (by decide))
    have pre : ∀ r, sSeq (sIf (mTest (mOp pEq (mVar 2) (mC (.int 0)))) (sRet (mVar 3)) (sNil)) (sRet (mLc (mSeq (mVar 3)) (gN 10) (mYes) (mIf (mTest (mOp pEq (mVar 2) (mC (.int 1)))) (mOp pAdd (mVar 4) (mVar 10)) (mOp pAdd (mVar 10) (mVar 4))) [10])) [.own (some 0) (.dr s3), .val (.int (n : Int)), .val (.int md), .val (.nd .lst (sds (rowX q n))), .val (.str st), t, .val (.str LT), .val (.int (q : Int)), .und, .und, .und] = r → m__law_titles (env0 11 (Ag.o (.dr s) :: [D.int (n : Int)].map Ag.v)) = r := by
      intro r hr
      rw [show env0 11 (Ag.o (.dr s) :: [D.int (n : Int)].map Ag.v) = _ from hE0]
      unfold m__law_titles
      rw [LT_eq, sSeq_ok st1, sSeq_ok st2]
      rw [sSeq_ok (E' := [.own (some 0) (.dr s2), .val (.int (n : Int)), .val (.int md), .und, .und, .und, .val (.str LT), .val (.int (q : Int)), .und, .und, .und]) (by simp only [ev_sIf, ev_test, ev_op, ev_v2, ev_bok, ev_bnd, ev_c, pEq_int, h3', ev_some, ev_tst, Bool.false_eq_true, if_false, ev_sNil])]
      rw [sSeq_ok (E' := [.own (some 0) (.dr s2), .val (.int (n : Int)), .val (.int md), .val (.nd .lst (sds (rowX q n))), .und, .und, .val (.str LT), .val (.int (q : Int)), .und, .und, .und]) (by rw [ev_sSet, eR]; rfl)]
      have st5 : sSet 4 (mC (.str "")) [.own (some 0) (.dr s2), .val (.int (n : Int)), .val (.int md), .val (.nd .lst (sds (rowX q n))), .und, .und, .val (.str LT), .val (.int (q : Int)), .und, .und, .und] = .ok .nx [.own (some 0) (.dr s2), .val (.int (n : Int)), .val (.int md), .val (.nd .lst (sds (rowX q n))), .val (.str ""), .und, .val (.str LT), .val (.int (q : Int)), .und, .und, .und] := rfl
      rw [sSeq_ok st5]
      rw [sSeq_ok (E' := [.own (some 0) (.dr s3), .val (.int (n : Int)), .val (.int md), .val (.nd .lst (sds (rowX q n))), .val (.str st), t, .val (.str LT), .val (.int (q : Int)), .und, .und, .und]) (by
        rw [sFor_ok (ds := rangeD 0 (s2.draw 8).toNat) (E' := [.own (some 0) (.dr (s2.next 8)), .val (.int (n : Int)), .val (.int md), .val (.nd .lst (sds (rowX q n))), .val (.str ""), .und, .val (.str LT), .val (.int (q : Int)), .und, .und, .und])]
        · exact eL
        · refine mRange1 ?_ t0 (by omega)
          simp only [ev_cons, c3, ev_bok, ev_bnd, ev_nil, ev_ret, List.set_cons_zero])]
      exact hr
    by_cases hm0 : md = 0
    · subst hm0
      refine ⟨s3, rowX q n, ok3, row_ok hn letter (fun i j _ _ h => let_inj h) (fun i hi => nameB_of (by show 1 ≤ 1; decide) (by show 1 ≤ 8; decide) (by show (List.all [97 + i] signOk) = true; simp [sign_lt i hi])), ?_⟩
      refine sem_rtD (n := 11) (ds := [.int (n : Int)]) (E := [.own (some 0) (.dr s3), .val (.int (n : Int)), .val (.int 0), .val (.nd .lst (sds (rowX q n))), .val (.str st), t, .val (.str LT), .val (.int (q : Int)), .und, .und, .und]) (pre _ ?_) rfl
      simp
    · have hm0' : decide (md = 0) = false := decide_eq_false hm0
      have eF : ∀ (g : Nat → Str) (hg : ∀ k, k < 26 → (if md = 1 then st ++ letter k else letter k ++ st) = g k), mLc (mSeq (mVar 3)) (gN 10) (mYes) (mIf (mTest (mOp pEq (mVar 2) (mC (.int 1)))) (mOp pAdd (mVar 4) (mVar 10)) (mOp pAdd (mVar 10) (mVar 4))) [10] [.own (some 0) (.dr s3), .val (.int (n : Int)), .val (.int md), .val (.nd .lst (sds (rowX q n))), .val (.str st), t, .val (.str LT), .val (.int (q : Int)), .und, .und, .und] =
          .ok (.nd .lst (sds ((List.range n).map fun k => g ((q + 7 * k) % 26)))) [.own (some 0) (.dr s3), .val (.int (n : Int)), .val (.int md), .val (.nd .lst (sds (rowX q n))), .val (.str st), t, .val (.str LT), .val (.int (q : Int)), .und, .und, .und] := by
        intro g hg
        rw [lc_of (mi := mSeq (mVar 3)) (i := 10) (t := mYes) (m := mIf (mTest (mOp pEq (mVar 2) (mC (.int 1)))) (mOp pAdd (mVar 4) (mVar 10)) (mOp pAdd (mVar 10) (mVar 4))) (E := [.own (some 0) (.dr s3), .val (.int (n : Int)), .val (.int md), .val (.nd .lst (sds (rowX q n))), .val (.str st), t, .val (.str LT), .val (.int (q : Int)), .und, .und, .und]) (ds := sds (rowX q n)) (fun _ => true) (fun d => match d with | .str z => .str (if md = 1 then st ++ z else z ++ st) | _ => .non) rfl rfl (size_big (by simp [rowX]; omega)) (fun d _ => rfl) (fun d hd _ => ?_)]
        · have e5 : (((sds (rowX q n)).filter fun _ => true).map fun d => match d with | .str z => D.str (if md = 1 then st ++ z else z ++ st) | _ => .non) = sds ((List.range n).map fun k => g ((q + 7 * k) % 26)) := by
            rw [List.filter_eq_self.mpr (fun _ _ => rfl)]
            unfold rowX sds
            rw [List.map_map, List.map_map, List.map_map]
            apply List.map_congr_left
            intro k _
            show D.str (if md = 1 then st ++ letter ((q + 7 * k) % 26) else letter ((q + 7 * k) % 26) ++ st) = D.str (g ((q + 7 * k) % 26))
            rw [hg _ (Nat.mod_lt _ (by decide))]
          rw [e5]
        · obtain ⟨z, hz, rfl⟩ := List.mem_map.mp hd
          obtain ⟨k, hk, rfl⟩ := List.mem_map.mp hz
          have z1 : st.length + (letter ((q + 7 * k) % 26)).length ≤ sizeLine := Nat.le_trans (show _ ≤ 7 + 1 from Nat.add_le_add hsl (Nat.le_refl 1)) (by decide)
          have z2 : (letter ((q + 7 * k) % 26)).length + st.length ≤ sizeLine := by rw [Nat.add_comm]; exact z1
          show (mIf (mTest (mOp pEq (mVar 2) (mC (.int 1)))) (mOp pAdd (mVar 4) (mVar 10)) (mOp pAdd (mVar 10) (mVar 4))) [.own (some 0) (.dr s3), .val (.int (n : Int)), .val (.int md), .val (.nd .lst (sds (rowX q n))), .val (.str st), if 5 ∈ [10] then .und else t, .val (.str LT), .val (.int (q : Int)), .und, .und, .val (.str (letter ((q + 7 * k) % 26)))] = .ok _ [.own (some 0) (.dr s3), .val (.int (n : Int)), .val (.int md), .val (.nd .lst (sds (rowX q n))), .val (.str st), if 5 ∈ [10] then .und else t, .val (.str LT), .val (.int (q : Int)), .und, .und, .val (.str (letter ((q + 7 * k) % 26)))]
          by_cases h1 : md = 1
          · simp [h1, pAdd, z1]
          · simp [h1, pAdd, z2]
      by_cases hm1 : md = 1
      · refine ⟨s3, _, ok3, row_ok (q := q) hn (fun i => st ++ letter i) (fun i j _ _ h => app_inj h) (fun i hi => ?_), ?_⟩
        · obtain ⟨h1, _, h3, _⟩ := let_app hsc hi
          exact nameB_of (by omega) (by omega) h1
        · refine sem_rtD (n := 11) (ds := [.int (n : Int)]) (E := [.own (some 0) (.dr s3), .val (.int (n : Int)), .val (.int md), .val (.nd .lst (sds (rowX q n))), .val (.str st), t, .val (.str LT), .val (.int (q : Int)), .und, .und, .und]) (pre _ ?_) rfl
          simp only [ev_sSeq, ev_sIf, ev_test, ev_op, ev_v2, ev_bok, ev_bnd, ev_c, pEq_int, hm0', ev_some, ev_tst, Bool.false_eq_true, if_false, ev_sNil, ev_ite, ev_sqnx, ev_sRet, eF (fun i => st ++ letter i) (fun k _ => by rw [if_pos hm1])]
      · refine ⟨s3, _, ok3, row_ok (q := q) hn (fun i => letter i ++ st) (fun i j _ _ h => pre_inj h) (fun i hi => ?_), ?_⟩
        · obtain ⟨_, h1, _, h3⟩ := let_app hsc hi
          exact nameB_of (by omega) (by omega) h1
        · refine sem_rtD (n := 11) (ds := [.int (n : Int)]) (E := [.own (some 0) (.dr s3), .val (.int (n : Int)), .val (.int md), .val (.nd .lst (sds (rowX q n))), .val (.str st), t, .val (.str LT), .val (.int (q : Int)), .und, .und, .und]) (pre _ ?_) rfl
          simp only [ev_sSeq, ev_sIf, ev_test, ev_op, ev_v2, ev_bok, ev_bnd, ev_c, pEq_int, hm0', ev_some, ev_tst, Bool.false_eq_true, if_false, ev_sNil, ev_ite, ev_sqnx, ev_sRet, eF (fun i => letter i ++ st) (fun k _ => by rw [if_neg hm1])]
end Law

/-! Draws: frames. -/
namespace Law
open PySem PySem.Spec PyProof.Rows L2 Wu He
/-- what a window shows of the parts -/
def Shw (ps xs : List Str) : Prop := xs ≠ [] ∧ xs.Sublist ps
def winD (w : Str × List Str) : D := .nd .tup [.str w.1, .nd .tup (sds w.2)]
def frameD (ps : List Str) (ws : List (Str × List Str)) : D := .nd .tup [.nd .tup (sds ps), .nd .tup (ws.map winD)]
structure Frm (ps : List Str) (ws : List (Str × List Str)) : Prop where
  p1 : 1 ≤ ps.length
  p8 : ps.length ≤ 8
  pn : ∀ x ∈ ps, nameB x = true
  pd : ps.Nodup
  w12 : ws.length ≤ 12
  wn : ∀ w ∈ ws, nameB w.1 = true
  wd : (ws.map (·.1)).Nodup
  ws : ∀ w ∈ ws, Shw ps w.2
theorem sub_filter {ps xs : List Str} (h : xs.Sublist ps) (hd : ps.Nodup) : ps.filter (fun p => decide (p ∈ xs)) = xs := by
  induction h with
  | slnil => rfl
  | @cons l1 l2 a h ih =>
    have hn := List.nodup_cons.mp hd
    rw [List.filter_cons_of_neg (by simpa using fun z => hn.1 (h.subset z)), ih hn.2]
  | @cons_cons l1 l2 a h ih =>
    have hn := List.nodup_cons.mp hd
    rw [List.filter_cons_of_pos (by simp)]
    congr 1
    rw [← ih hn.2]
    apply List.filter_congr
    intro x hx
    have hxa : x ≠ a := fun z => hn.1 (z ▸ hx)
    rw [ih hn.2]
    simp [hxa]
theorem Shw.ok {ps xs : List Str} (h : Shw ps xs) (hd : ps.Nodup) : shownS ps xs = true := by
  unfold shownS
  rw [sub_filter h.2 hd, decide_eq_true rfl, decide_eq_true h.2.length_le, decide_eq_true (show 1 ≤ xs.length from List.length_pos_iff.mpr h.1)]; rfl
theorem nd_at {α : Type} {l : List α} (h : l.Nodup) {i j : Nat} (hi : i < l.length) (hj : j < l.length) (e : l[i] = l[j]) : i = j := by
  rcases Nat.lt_trichotomy i j with q | q | q
  · exact absurd e (List.pairwise_iff_getElem.mp (List.nodup_iff_pairwise_ne.mp h) i j hi hj q)
  · exact q
  · exact absurd e.symm (List.pairwise_iff_getElem.mp (List.nodup_iff_pairwise_ne.mp h) j i hj hi q)
theorem headS_win (w : Str × List Str) : headS (winD w) = some w.1 := rfl
theorem heads_win : ∀ ws : List (Str × List Str), heads (ws.map winD) = some (ws.map (·.1))
  | [] => rfl
  | w :: ws => by
    show (headS (winD w)).bind (fun x => (heads (ws.map winD)).map (x :: ·)) = _
    rw [heads_win ws]; rfl
theorem frame_good {ps : List Str} {ws : List (Str × List Str)} (F : Frm ps ws) : frameErr (frameD ps ws) = none := by
  have hb : firstBad (badPart (sds ps)) (sds ps).length = none := first_none fun m hm => by
    rw [sds_len] at hm
    have e : (sds ps)[m]? = some (.str ps[m]) := by simp [sds, hm]
    have et : (sds ps).take m = sds (ps.take m) := by simp [sds]
    rw [badPart_str e (F.pn _ (List.getElem_mem hm)) et]
    refine decide_eq_false fun z => ?_
    obtain ⟨i, hi, ei⟩ := List.getElem_of_mem z
    rw [List.length_take] at hi
    rw [List.getElem_take] at ei
    have := nd_at F.pd _ _ ei
    omega
  have hw : firstBad (badWin ps (ws.map winD)) (ws.map winD).length = none := first_none fun m hm => by
    rw [List.length_map] at hm
    have e : (ws.map winD)[m]? = some (winD ws[m]) := by simp [hm]
    have et : heads ((ws.map winD).take m) = some ((ws.take m).map (·.1)) := by rw [← List.map_take]; exact heads_win _
    have hwin : isWin ps (winD ws[m]) = true := by
      show (nameB ws[m].1 && isShown ps (.nd .tup (sds ws[m].2))) = true
      rw [F.wn _ (List.getElem_mem hm)]
      show (match toStrs (sds ws[m].2) with | some xs => shownS ps xs | none => false) = true
      rw [toStrs_sds]
      exact (F.ws _ (List.getElem_mem hm)).ok F.pd
    rw [badWin_ok e hwin (headS_win _) et]
    refine decide_eq_false fun z => ?_
    rw [List.map_take] at z
    obtain ⟨i, hi, ei⟩ := List.getElem_of_mem z
    rw [List.length_take, List.length_map] at hi
    rw [List.getElem_take] at ei
    have e3 : (ws.map (·.1))[m]'(by rw [List.length_map]; exact hm) = ws[m].1 := by simp
    rw [← e3] at ei
    have := nd_at F.wd _ _ ei
    omega
  show (if ((decide (1 ≤ (sds ps).length) && decide ((sds ps).length ≤ 8)) && decide ((ws.map winD).length ≤ 12)) = true then _ else _) = none
  rw [sds_len, List.length_map, decide_eq_true F.p1, decide_eq_true F.p8, decide_eq_true F.w12]
  rw [if_pos (by rfl)]
  rw [sds_len] at hb
  rw [List.length_map] at hw
  simp only [hb, toStrs_sds, hw]
/-! ### names are fine -/
theorem sign_fine (c : Nat) (h : signOk c = true) : c < 128 := by
  have h1 : c ∈ LT.cps.toList := of_decide_eq_true h
  have : ∀ c ∈ LT.cps.toList, c < 128 := by decide +kernel
  exact this c h1
theorem name_fine {x : Str} (h : nameB x = true) : (D.str x).fine = true := by
  unfold nameB at h
  simp only [Bool.and_eq_true, decide_eq_true_eq, List.all_eq_true] at h
  show (decide (x.length ≤ 1000) && x.cps.toList.all fun c => decide (c < 128)) = true
  rw [decide_eq_true (show x.length ≤ 1000 by omega), Bool.true_and, List.all_eq_true]
  exact fun c hc => decide_eq_true (sign_fine c (h.2 c hc))
theorem names_fine {xs : List Str} (h : ∀ x ∈ xs, nameB x = true) : fineL (sds xs) = true := fineL_of fun d hd => by
  obtain ⟨x, hx, rfl⟩ := List.mem_map.mp hd
  exact name_fine (h x hx)
theorem frame_fine {ps : List Str} {ws : List (Str × List Str)} (F : Frm ps ws) : (frameD ps ws).fine = true := by
  have h1 := names_fine F.pn
  have h2 : fineL (ws.map winD) = true := fineL_of fun d hd => by
    obtain ⟨w, hw, rfl⟩ := List.mem_map.mp hd
    have a := name_fine (F.wn w hw)
    have b : fineL (sds w.2) = true := names_fine fun x hx => F.pn x ((F.ws w hw).2.subset hx)
    show ((D.str w.1).fine && (fineL (sds w.2) && true)) = true
    rw [a, b]; rfl
  show (fineL (sds ps) && (fineL (ws.map winD) && true)) = true
  rw [h1, h2]; rfl
theorem need_frame_good {ps : List Str} {ws : List (Str × List Str)} (F : Frm ps ws) : f_need_frame [.v (frameD ps ws)] = .ok (frameD ps ws) [.v (frameD ps ws)] := by
  rw [need_frame_ok _ (frame_fine F)]
  unfold needR
  rw [frame_good F]
end Law

/-! Draws: frames. -/
namespace Law
open PySem PySem.Spec PyProof.Rows L2 Wu He
theorem log_small {n : Nat} (h : n ≤ 1000) : ((n : Int)).natAbs.log2 < 9000 := by
  have e : ((n : Int)).natAbs = n := by omega
  rw [e]
  by_cases h0 : n = 0
  · subst h0; decide
  · have : n < 2 ^ 9000 := Nat.lt_of_le_of_lt h (Nat.lt_of_lt_of_le (show 1000 < 2 ^ 10 by decide) (Nat.pow_le_pow_right (by decide) (by decide)))
    exact (Nat.log2_lt h0).mpr this
theorem get_draw {α : Type} {l : List α} {k : Int} (h0 : 0 ≤ k) (h1 : k < (l.length : Int)) : ∃ x ∈ l, atI l k = some x := by
  obtain ⟨j, rfl⟩ := Int.eq_ofNat_of_zero_le h0
  have hj : j < l.length := by omega
  exact ⟨l[j], List.getElem_mem hj, by rw [Wu.atI_nat, List.getElem?_eq_getElem hj]⟩
/-- some of the parts, each by a draw -/
theorem comp_shown {p1 p2 p3 : D} : ∀ (ps : List Str) (s : Dr), s.Ok → ∃ s' xs, s'.Ok ∧ xs.Sublist ps ∧
    compD (gN 5) (mTest (mOp pEq (mCall 2 semNext (mrR 0 (mrE (mC (.int 2)) (mrNil)))) (mC (.int 0)))) (mVar 5) [5] (sds ps) [.own (some 0) (.dr s), .val p1, .val p2, .val p3, .und, .und] = some (sds xs, [.own (some 0) (.dr s'), .val p1, .val p2, .val p3, .und, .und])
  | [], s, hs => ⟨s, [], hs, .slnil, rfl⟩
  | p :: ps, s, hs => by
    obtain ⟨s', xs, ok, sub, e⟩ := comp_shown (p1 := p1) (p2 := p2) (p3 := p3) ps (s.next 2) (hs.next (by decide))
    have c := call_next (E := [.own (some 0) (.dr s), .val p1, .val p2, .val p3, .und, .val (.str p)]) (a := mC (.int 2)) (i := 0) rfl rfl rfl (by decide) (by decide)
    have t : mTest (mOp pEq (mCall 2 semNext (mrR 0 (mrE (mC (.int 2)) (mrNil)))) (mC (.int 0))) [.own (some 0) (.dr s), .val p1, .val p2, .val p3, .und, .val (.str p)] = .ok (decide (s.draw 2 = 0)) [.own (some 0) (.dr (s.next 2)), .val p1, .val p2, .val p3, .und, .val (.str p)] := by
      simp only [ev_test, ev_op, c, ev_bok, ev_bnd, ev_c, pEq_int, ev_some, ev_tst, List.set_cons_zero]
    rw [show sds (p :: ps) = D.str p :: sds ps from rfl, compD]
    have g : gN 5 (D.str p) [.own (some 0) (.dr s), .val p1, .val p2, .val p3, .und, .und] = some [.own (some 0) (.dr s), .val p1, .val p2, .val p3, .und, .val (.str p)] := rfl
    have w : wipeE [5] [.own (some 0) (.dr (s.next 2)), .val p1, .val p2, .val p3, .und, .val (.str p)] = [.own (some 0) (.dr (s.next 2)), .val p1, .val p2, .val p3, .und, .und] := rfl
    simp only [g, t]
    cases hb : decide (s.draw 2 = 0) with
    | true =>
      refine ⟨s', p :: xs, ok, sub.cons_cons p, ?_⟩
      simp only [ev_v5, w, e, Option.map_some]
      rfl
    | false =>
      refine ⟨s', xs, ok, .cons p sub, ?_⟩
      simp only [w, e]
theorem shown_ok {s : Dr} {ps : List Str} {W : List (Str × List Str)} (hs : s.Ok) (hp : ps ≠ []) (hl : ps.length ≤ 8) (hW : ∀ w ∈ W, Shw ps w.2) (hwl : W.length ≤ 12) :
    ∃ s' xs, s'.Ok ∧ Shw ps xs ∧ f__law_shown [.o (.dr s), .v (.nd .lst (sds ps)), .v (.nd .lst (W.map winD))] = .ok (.nd .tup (sds xs)) [.o (.dr s'), .v (.nd .lst (sds ps)), .v (.nd .lst (W.map winD))] := by
  have ok1 := hs.next (n := 8) (by decide)
  have plen : 0 < ps.length := List.length_pos_iff.mpr hp
  have c1 := call_next (E := [.own (some 0) (.dr s), .val (.nd .lst (sds ps)), .val (.nd .lst (W.map winD)), .und, .und, .und]) (a := mC (.int 8)) (i := 0) rfl rfl rfl (by decide) (by decide)
  have st1 : sSet 3 (mCall 2 semNext (mrR 0 (mrE (mC (.int 8)) (mrNil)))) [.own (some 0) (.dr s), .val (.nd .lst (sds ps)), .val (.nd .lst (W.map winD)), .und, .und, .und] = .ok .nx [.own (some 0) (.dr (s.next 8)), .val (.nd .lst (sds ps)), .val (.nd .lst (W.map winD)), .val (.int (s.draw 8)), .und, .und] := by
    simp only [ev_sSet, c1, ev_bok, List.set_cons_zero, List.set_cons_succ]
  generalize hmd : s.draw 8 = md at *
  generalize hs2 : s.next 8 = s2 at *
  have go : ∀ {d : D} {E : Env'} {s' : Dr} {xs : List Str}, s'.Ok → Shw ps xs → sSeq (sIf (mAnd (mTest (mOp pEq (mVar 3) (mC (.int 0)))) (mTest (mOp pNe (mVar 2) (mFn pLst (mNil))))) (sRet (mOp pIxA (mOp pIxA (mVar 2) (mCall 2 semNext (mrR 0 (mrE (mFn pLen (mCons (mVar 2) (mNil))) (mrNil))))) (mC (.int 1)))) (sNil))
      (sSeq (sIf (mTest (mOp pEq (mVar 3) (mC (.int 1)))) (sRet (mFn pTup (mCons (mOp pIxA (mVar 1) (mCall 2 semNext (mrR 0 (mrE (mFn pLen (mCons (mVar 1) (mNil))) (mrNil))))) (mNil)))) (sNil))
      (sSeq (sIf (mTest (mOp pEq (mVar 3) (mC (.int 2)))) (sRet (mFn pTuple (mCons (mVar 1) (mNil)))) (sNil))
      (sSeq (sSet 4 (mFn pTuple (mCons (mLc (mSeq (mVar 1)) (gN 5) (mTest (mOp pEq (mCall 2 semNext (mrR 0 (mrE (mC (.int 2)) (mrNil)))) (mC (.int 0)))) (mVar 5) [5]) (mNil)))) (sRet (mIf (mTest (mOp pNe (mVar 4) (mFn pTup (mNil)))) (mVar 4) (mFn pTup (mCons (mOp pIxA (mVar 1) (mC (.int 0))) (mNil)))))))) [.own (some 0) (.dr s2), .val (.nd .lst (sds ps)), .val (.nd .lst (W.map winD)), .val (.int md), .und, .und] = .ok (.rt (.nd .tup (sds xs))) E → E[0]? = some (.own (some 0) (.dr s')) →
      ∃ s' xs, s'.Ok ∧ Shw ps xs ∧ f__law_shown [.o (.dr s), .v (.nd .lst (sds ps)), .v (.nd .lst (W.map winD))] = .ok (.nd .tup (sds xs)) [.o (.dr s'), .v (.nd .lst (sds ps)), .v (.nd .lst (W.map winD))] := by
    intro d E s' xs h1 h2 h3 h4
    refine ⟨s', xs, h1, h2, sem_rtD (n := 6) (ds := [.nd .lst (sds ps), .nd .lst (W.map winD)]) (E := E) ?_ h4⟩
    show m__law_shown [.own (some 0) (.dr s), .val (.nd .lst (sds ps)), .val (.nd .lst (W.map winD)), .und, .und, .und] = _
    unfold m__law_shown
    rw [sSeq_ok st1]
    exact h3
  by_cases hA : md = 0 ∧ W ≠ []
  · obtain ⟨rfl, hne⟩ := hA
    have wlen : 0 < W.length := List.length_pos_iff.mpr hne
    have c2 := call_next (E := [.own (some 0) (.dr s2), .val (.nd .lst (sds ps)), .val (.nd .lst (W.map winD)), .val (.int 0), .und, .und]) (a := mFn pLen (mCons (mVar 2) (mNil))) (i := 0) (n := ((W.map winD).length : Int)) rfl rfl rfl (by rw [List.length_map]; omega) (log_small (by rw [List.length_map]; omega))
    obtain ⟨k0, k1⟩ := s2.draw_lt (n := ((W.map winD).length : Int)) (by rw [List.length_map]; omega)
    obtain ⟨w0, hw0, ew⟩ := get_draw (l := W.map winD) k0 k1
    obtain ⟨w, hw, rfl⟩ := List.mem_map.mp hw0
    have ew' : pIxA (.nd .lst (W.map winD)) (.int (s2.draw ((W.map winD).length : Int))) = some (winD w) := ew
    have hnil : (W.map winD).isEmpty = false := by cases W with | nil => exact absurd rfl hne | cons a b => rfl
    refine go (d := .non) (s' := s2.next ((W.map winD).length : Int)) (xs := w.2) (E := [.own (some 0) (.dr (s2.next ((W.map winD).length : Int))), .val (.nd .lst (sds ps)), .val (.nd .lst (W.map winD)), .val (.int 0), .und, .und]) (ok1.next (by rw [List.length_map]; omega)) (hW w hw) ?_ rfl
    simp only [ev_sSeq, ev_sIf, ev_and, ev_test, ev_op, ev_v3, ev_bok, ev_bnd, ev_c, pEq_int, decide_true, ev_some, ev_tst, if_true, ev_ite, ev_v2, ev_fn, ev_nil, pLst_nil, pNe_lst0, hnil, Bool.not_false, ev_sRet, c2, List.set_cons_zero, ew', ev_sqrt]
    rfl
  · have skip0 : ∀ b : SM, sSeq (sIf (mAnd (mTest (mOp pEq (mVar 3) (mC (.int 0)))) (mTest (mOp pNe (mVar 2) (mFn pLst (mNil))))) (sRet (mOp pIxA (mOp pIxA (mVar 2) (mCall 2 semNext (mrR 0 (mrE (mFn pLen (mCons (mVar 2) (mNil))) (mrNil))))) (mC (.int 1)))) (sNil)) b [.own (some 0) (.dr s2), .val (.nd .lst (sds ps)), .val (.nd .lst (W.map winD)), .val (.int md), .und, .und] = b [.own (some 0) (.dr s2), .val (.nd .lst (sds ps)), .val (.nd .lst (W.map winD)), .val (.int md), .und, .und] := by
      intro b
      by_cases h0 : md = 0
      · have hne : W = [] := by
          cases W with
          | nil => rfl
          | cons a l => exact absurd ⟨h0, by simp⟩ hA
        subst hne
        simp [h0]
      · simp [h0]
    by_cases h1 : md = 1
    · subst h1
      have c2 := call_next (E := [.own (some 0) (.dr s2), .val (.nd .lst (sds ps)), .val (.nd .lst (W.map winD)), .val (.int 1), .und, .und]) (a := mFn pLen (mCons (mVar 1) (mNil))) (i := 0) (n := ((sds ps).length : Int)) rfl rfl rfl (by rw [sds_len]; omega) (log_small (by rw [sds_len]; omega))
      obtain ⟨k0, k1⟩ := s2.draw_lt (n := ((sds ps).length : Int)) (by rw [sds_len]; omega)
      obtain ⟨p0, hp0, ep⟩ := get_draw (l := sds ps) k0 k1
      obtain ⟨p, hp', rfl⟩ := List.mem_map.mp hp0
      have ep' : pIxA (.nd .lst (sds ps)) (.int (s2.draw ((sds ps).length : Int))) = some (.str p) := ep
      refine go (d := .non) (s' := s2.next ((sds ps).length : Int)) (xs := [p]) (E := [.own (some 0) (.dr (s2.next ((sds ps).length : Int))), .val (.nd .lst (sds ps)), .val (.nd .lst (W.map winD)), .val (.int 1), .und, .und]) (ok1.next (by rw [sds_len]; omega)) ⟨by simp, List.singleton_sublist.mpr hp'⟩ ?_ rfl
      rw [skip0]
      simp only [ev_sSeq, ev_sIf, ev_test, ev_op, ev_v3, ev_bok, ev_bnd, ev_c, pEq_int, decide_true, ev_some, ev_tst, if_true, ev_ite, ev_sRet, ev_fn, ev_cons, ev_nil, ev_v1, c2, List.set_cons_zero, ep', ev_ret, pTup_1, ev_sqrt]
      rfl
    · have h1' : decide (md = 1) = false := decide_eq_false h1
      by_cases h2 : md = 2
      · subst h2
        refine go (d := .non) (s' := s2) (xs := ps) (E := [.own (some 0) (.dr s2), .val (.nd .lst (sds ps)), .val (.nd .lst (W.map winD)), .val (.int 2), .und, .und]) ok1 ⟨hp, List.Sublist.refl ps⟩ ?_ rfl
        rw [skip0]
        simp
      · have h2' : decide (md = 2) = false := decide_eq_false h2
        obtain ⟨s', xs, ok, sub, e⟩ := comp_shown (p1 := .nd .lst (sds ps)) (p2 := .nd .lst (W.map winD)) (p3 := .int md) ps s2 ok1
        have eL : mLc (mSeq (mVar 1)) (gN 5) (mTest (mOp pEq (mCall 2 semNext (mrR 0 (mrE (mC (.int 2)) (mrNil)))) (mC (.int 0)))) (mVar 5) [5] [.own (some 0) (.dr s2), .val (.nd .lst (sds ps)), .val (.nd .lst (W.map winD)), .val (.int md), .und, .und] = .ok (.nd .lst (sds xs)) [.own (some 0) (.dr s'), .val (.nd .lst (sds ps)), .val (.nd .lst (W.map winD)), .val (.int md), .und, .und] := by
          unfold mLc
          rw [M.bnd_ok (show mSeq (mVar 1) [.own (some 0) (.dr s2), .val (.nd .lst (sds ps)), .val (.nd .lst (W.map winD)), .val (.int md), .und, .und] = .ok (sds ps) _ from rfl)]
          have hz : (sds ps).length ≤ sizeLine := size_big (by rw [sds_len]; omega)
          have w : wipeE [5] [.own (some 0) (.dr s2), .val (.nd .lst (sds ps)), .val (.nd .lst (W.map winD)), .val (.int md), .und, .und] = [.own (some 0) (.dr s2), .val (.nd .lst (sds ps)), .val (.nd .lst (W.map winD)), .val (.int md), .und, .und] := rfl
          rw [if_pos (by rw [decide_eq_true hz]; rfl), w, e]
          rfl
        cases xs with
        | nil =>
          obtain ⟨p, ps', rfl⟩ : ∃ p ps', ps = p :: ps' := by
            cases ps with
            | nil => exact absurd rfl hp
            | cons p ps' => exact ⟨p, ps', rfl⟩
          refine go (d := .non) (s' := s') (xs := [p]) (E := [.own (some 0) (.dr s'), .val (.nd .lst (sds (p :: ps'))), .val (.nd .lst (W.map winD)), .val (.int md), .val (.nd .tup []), .und]) ok ⟨by simp, List.singleton_sublist.mpr List.mem_cons_self⟩ ?_ rfl
          rw [skip0]
          simp only [ev_sSeq, ev_sIf, ev_test, ev_op, ev_v3, ev_bok, ev_bnd, ev_c, pEq_int, h1', h2', ev_some, ev_tst, Bool.false_eq_true, if_false, ev_ite, ev_sNil, ev_sqnx, ev_sSet, ev_fn, ev_cons, eL, ev_nil, ev_ret, pTuple_lst, List.set_cons_succ, List.set_cons_zero]
          simp [sds]
        | cons x xs =>
          refine go (d := .non) (s' := s') (xs := x :: xs) (E := [.own (some 0) (.dr s'), .val (.nd .lst (sds ps)), .val (.nd .lst (W.map winD)), .val (.int md), .val (.nd .tup (sds (x :: xs))), .und]) ok ⟨by simp, sub⟩ ?_ rfl
          rw [skip0]
          simp only [ev_sSeq, ev_sIf, ev_test, ev_op, ev_v3, ev_bok, ev_bnd, ev_c, pEq_int, h1', h2', ev_some, ev_tst, Bool.false_eq_true, if_false, ev_ite, ev_sNil, ev_sqnx, ev_sSet, ev_fn, ev_cons, eL, ev_nil, ev_ret, pTuple_lst, List.set_cons_succ, List.set_cons_zero]
          simp [sds]
end Law

/-! Draws: frames. -/
namespace Wu
open PySem PySem.Spec PyProof.Rows L2
theorem sApp_ok {i : Nat} {m : M D} {E E' : Env'} {ix ix' : Option Nat} {l l' : List D} {d : D} (h : E[i]? = some (.own ix (.nd .lst l))) (hm : m E = .ok d E') (h' : E'[i]? = some (.own ix' (.nd .lst l'))) (hl : l'.length < sizeLine) :
    sApp i m E = .ok .nx (E'.set i (.own ix' (.nd .lst (l' ++ [d])))) := by
  unfold sApp
  have e : isOwnL E i = true := by unfold isOwnL; rw [h]
  rw [if_pos e, M.bnd_ok hm]
  simp only [h', hl, if_true]
theorem mView_ok {m : M D} {E E' : Env'} {d : D} (h : m (viewE E) = .ok d E') (hp : d.pure = true) : mView m E = .ok d (unvE E E') := by
  unfold mView
  rw [h]
  simp only [hp, if_true]
theorem pure_sds (xs : List Str) : pureL (sds xs) = true := by
  induction xs with
  | nil => rfl
  | cons x xs ih => show (true && pureL (sds xs)) = true; rw [ih]; rfl
end Wu
namespace Law
open PySem PySem.Spec PyProof.Rows L2 Wu He
theorem b1_frame {s : Dr} {most many : D} {ps : List Str} {t : Str} {ts : D} {W : List (Str × List Str)} (hs : s.Ok) (hp : ps ≠ []) (hl : ps.length ≤ 8) (hW : ∀ w ∈ W, Shw ps w.2) (hwl : W.length ≤ 12) : ∃ s' xs, s'.Ok ∧ Shw ps xs ∧
    m__law_frame_b1 [.own (some 0) (.dr s), .val most, .val many, .val (.nd .lst (sds ps)), .val (.str t), .val ts, .own none (.nd .lst (W.map winD))] = .ok .nx [.own (some 0) (.dr s'), .val most, .val many, .val (.nd .lst (sds ps)), .val (.str t), .val ts, .own none (.nd .lst ((W ++ [(t, xs)]).map winD))] := by
  obtain ⟨s', xs, ok, hx, e⟩ := shown_ok hs hp hl hW hwl
  refine ⟨s', xs, ok, hx, ?_⟩
  have c := callD (n := 3) (f := f__law_shown) (i := 0) (ix := some 0) (s := s) (s' := s') (ms := mrE (mVar 3) (mrE (mVar 6) mrNil)) (E := [.own (some 0) (.dr s), .val most, .val many, .val (.nd .lst (sds ps)), .val (.str t), .val ts, .val (.nd .lst (W.map winD))]) (E' := [.own (some 0) (.dr s), .val most, .val many, .val (.nd .lst (sds ps)), .val (.str t), .val ts, .val (.nd .lst (W.map winD))]) (xs := [.nd .lst (sds ps), .nd .lst (W.map winD)]) (d := .nd .tup (sds xs)) rfl rfl rfl rfl e
  have v : mView (mFn pTup (mCons (mVar 4) (mCons (mCall 3 f__law_shown (mrR 0 (mrE (mVar 3) (mrE (mVar 6) (mrNil))))) (mNil)))) [.own (some 0) (.dr s), .val most, .val many, .val (.nd .lst (sds ps)), .val (.str t), .val ts, .own none (.nd .lst (W.map winD))] = .ok (winD (t, xs)) [.own (some 0) (.dr s'), .val most, .val many, .val (.nd .lst (sds ps)), .val (.str t), .val ts, .own none (.nd .lst (W.map winD))] := by
    refine mView_ok (E' := [.own (some 0) (.dr s'), .val most, .val many, .val (.nd .lst (sds ps)), .val (.str t), .val ts, .val (.nd .lst (W.map winD))]) ?_ ?_
    · show (mFn pTup (mCons (mVar 4) (mCons (mCall 3 f__law_shown (mrR 0 (mrE (mVar 3) (mrE (mVar 6) (mrNil))))) (mNil)))) [.own (some 0) (.dr s), .val most, .val many, .val (.nd .lst (sds ps)), .val (.str t), .val ts, .val (.nd .lst (W.map winD))] = _
      simp only [ev_fn, ev_cons, ev_v4, ev_bok, ev_bnd, c, List.set_cons_zero, ev_nil, ev_ret, pTup_2, ev_some]
      rfl
    · show (true && (true && ((true && pureL (sds xs)) && true))) = true
      rw [pure_sds]; rfl
  unfold m__law_frame_b1
  rw [sApp_ok rfl v rfl (Nat.lt_of_le_of_lt (show (W.map winD).length ≤ 12 by rw [List.length_map]; exact hwl) (by decide))]
  rw [List.map_append]
  rfl
theorem frame_loop {most many : D} {ps : List Str} {ts0 : D} (hp : ps ≠ []) (hl : ps.length ≤ 8) (ts : List Str) (ht : ts.length ≤ 12) {s : Dr} (hs : s.Ok) : ∃ (s' : Dr) (W : List (Str × List Str)) (a : Sl), s'.Ok ∧ (∀ w ∈ W, Shw ps w.2) ∧ W.map (·.1) = ts ∧
    loopD (gN 4) m__law_frame_b1 (sds ts) [.own (some 0) (.dr s), .val most, .val many, .val (.nd .lst (sds ps)), .und, .val ts0, .own none (.nd .lst [])] = .ok .nx [.own (some 0) (.dr s'), .val most, .val many, .val (.nd .lst (sds ps)), a, .val ts0, .own none (.nd .lst (W.map winD))] := by
  refine loop_inv (fun r => ∃ (s' : Dr) (W : List (Str × List Str)) (a : Sl), s'.Ok ∧ (∀ w ∈ W, Shw ps w.2) ∧ W.map (·.1) = ts ∧ r = .ok .nx [.own (some 0) (.dr s'), .val most, .val many, .val (.nd .lst (sds ps)), a, .val ts0, .own none (.nd .lst (W.map winD))])
    (fun pre E => ∃ (s' : Dr) (W : List (Str × List Str)) (a : Sl), s'.Ok ∧ (∀ w ∈ W, Shw ps w.2) ∧ W.map (fun w => D.str w.1) = pre ∧ E = [.own (some 0) (.dr s'), .val most, .val many, .val (.nd .lst (sds ps)), a, .val ts0, .own none (.nd .lst (W.map winD))]) ⟨s, [], .und, hs, by simp, rfl, rfl⟩ ?_ ?_
  · rintro pre d post E hds ⟨s1, W, a, ok, hW, hpre, rfl⟩
    have hd : d ∈ sds ts := by rw [hds]; simp
    obtain ⟨t, _, rfl⟩ := List.mem_map.mp hd
    have hwl : W.length ≤ 12 := by
      have : pre.length + 1 ≤ ts.length := by rw [← sds_len ts, hds]; simp
      rw [← hpre, List.length_map] at this
      omega
    obtain ⟨s2, xs, ok2, hx, e⟩ := b1_frame (s := s1) (most := most) (many := many) (ps := ps) (t := t) (ts := ts0) (W := W) ok hp hl hW hwl
    refine ⟨_, _, rfl, e, s2, W ++ [(t, xs)], _, ok2, fun w hw => ?_, ?_, rfl⟩
    · rcases List.mem_append.mp hw with hw | hw
      · exact hW w hw
      · rw [List.mem_singleton.mp hw]; exact hx
    · rw [List.map_append, hpre]; rfl
  · rintro E ⟨s1, W, a, ok, hW, hpre, rfl⟩
    refine ⟨s1, W, a, ok, hW, ?_, rfl⟩
    have e : (W.map (·.1)).map D.str = ts.map D.str := by rw [List.map_map]; exact hpre
    have inj : ∀ (l r : List Str), l.map D.str = r.map D.str → l = r := by
      intro l
      induction l with
      | nil => intro r h; cases r with
        | nil => rfl
        | cons _ _ => cases h
      | cons x l ih => intro r h; cases r with
        | nil => cases h
        | cons y r =>
          simp only [List.map_cons, List.cons.injEq, D.str.injEq] at h
          rw [h.1, ih r h.2]
    exact inj _ _ e
theorem frame_ok {s : Dr} {most many : Nat} (hs : s.Ok) (h1 : 1 ≤ most) (h8 : most ≤ 8) (h12 : many ≤ 12) : ∃ s' ps ws, s'.Ok ∧ Frm ps ws ∧ f__law_frame [.o (.dr s), .v (.int (most : Int)), .v (.int (many : Int))] = .ok (frameD ps ws) [.o (.dr s'), .v (.int (most : Int)), .v (.int (many : Int))] := by
  -- the parts
  have c1 := call_next (E := [.own (some 0) (.dr s), .val (.int (most : Int)), .val (.int (many : Int)), .und, .und, .und, .und]) (a := mVar 1) (i := 0) (n := (most : Int)) rfl rfl rfl (by omega) (log_small (by omega))
  obtain ⟨k0, k1⟩ := s.draw_lt (n := (most : Int)) (by omega)
  have ok1 := hs.next (n := (most : Int)) (by omega)
  obtain ⟨k, hk⟩ := Int.eq_ofNat_of_zero_le k0
  rw [hk] at c1 k1
  obtain ⟨s2, ps, ok2, hps, e2⟩ := titles_ok (s := s.next most) (n := 1 + k) ok1 (by omega)
  have hcast : ((1 : Int) + (k : Int)) = ((1 + k : Nat) : Int) := by omega
  have a1 : mCall 2 f__law_titles (mrR 0 (mrE (mOp pAdd (mC (.int 1)) (mCall 2 semNext (mrR 0 (mrE (mVar 1) (mrNil))))) (mrNil))) [.own (some 0) (.dr s), .val (.int (most : Int)), .val (.int (many : Int)), .und, .und, .und, .und] = .ok (.nd .lst (sds ps)) [.own (some 0) (.dr s2), .val (.int (most : Int)), .val (.int (many : Int)), .und, .und, .und, .und] := by
    rw [callD (n := 2) (f := f__law_titles) (i := 0) (ix := some 0) (s := s.next most) (s' := s2) (E' := [.own (some 0) (.dr (s.next most)), .val (.int (most : Int)), .val (.int (many : Int)), .und, .und, .und, .und]) (xs := [.int ((1 + k : Nat) : Int)]) (d := .nd .lst (sds ps)) rfl ?_ rfl rfl e2]
    · rfl
    · simp only [ev_mrE, ev_op, ev_c, ev_bok, ev_bnd, c1, pAdd_int, hcast, ev_some, ev_mrNil, ev_ret, List.set_cons_zero]
      rfl
  -- the windows' names
  have c2 := call_next (E := [.own (some 0) (.dr s2), .val (.int (most : Int)), .val (.int (many : Int)), .val (.nd .lst (sds ps)), .und, .und, .und]) (E' := [.own (some 0) (.dr s2), .val (.int (most : Int)), .val (.int (many : Int)), .val (.nd .lst (sds ps)), .und, .und, .und]) (a := mOp pAdd (mVar 2) (mC (.int 1))) (i := 0) (n := ((many + 1 : Nat) : Int)) rfl rfl rfl (by omega) (log_small (by omega))
  obtain ⟨j0, j1⟩ := s2.draw_lt (n := ((many + 1 : Nat) : Int)) (by omega)
  have ok3 := ok2.next (n := ((many + 1 : Nat) : Int)) (by omega)
  obtain ⟨j, hj⟩ := Int.eq_ofNat_of_zero_le j0
  rw [hj] at c2 j1
  obtain ⟨s4, ts, ok4, hts, e4⟩ := titles_ok (s := s2.next ((many + 1 : Nat) : Int)) (n := j) ok3 (by omega)
  have a2 : mCall 2 f__law_titles (mrR 0 (mrE (mCall 2 semNext (mrR 0 (mrE (mOp pAdd (mVar 2) (mC (.int 1))) (mrNil)))) (mrNil))) [.own (some 0) (.dr s2), .val (.int (most : Int)), .val (.int (many : Int)), .val (.nd .lst (sds ps)), .und, .und, .und] = .ok (.nd .lst (sds ts)) [.own (some 0) (.dr s4), .val (.int (most : Int)), .val (.int (many : Int)), .val (.nd .lst (sds ps)), .und, .und, .und] := by
    rw [callD (n := 2) (f := f__law_titles) (i := 0) (ix := some 0) (s := s2.next ((many + 1 : Nat) : Int)) (s' := s4) (E' := [.own (some 0) (.dr (s2.next ((many + 1 : Nat) : Int))), .val (.int (most : Int)), .val (.int (many : Int)), .val (.nd .lst (sds ps)), .und, .und, .und]) (xs := [.int (j : Int)]) (d := .nd .lst (sds ts)) rfl ?_ rfl rfl e4]
    · rfl
    · simp only [ev_mrE, c2, ev_bok, ev_bnd, ev_mrNil, ev_ret, List.set_cons_zero]
      rfl
  have hne : ps ≠ [] := by
    intro z
    have := hps.len
    rw [z] at this
    simp at this
    omega
  obtain ⟨s5, W, a, ok5, hW, hWt, eL⟩ := frame_loop (most := .int (most : Int)) (many := .int (many : Int)) (ps := ps) (ts0 := .nd .lst (sds ts)) hne (by rw [hps.len]; omega) ts (by rw [hts.len]; omega) ok4
  have F : Frm ps W := by
    refine ⟨by rw [hps.len]; omega, by rw [hps.len]; omega, hps.nm, hps.nd, ?_, fun w hw => hts.nm w.1 ?_, by rw [hWt]; exact hts.nd, hW⟩
    · have : (W.map (·.1)).length = ts.length := by rw [hWt]
      rw [List.length_map, hts.len] at this
      omega
    · rw [← hWt]; exact List.mem_map_of_mem hw
  refine ⟨s5, ps, W, ok5, F, ?_⟩
  refine sem_rtD (n := 7) (ds := [.int (most : Int), .int (many : Int)]) (E := [.own (some 0) (.dr s5), .val (.int (most : Int)), .val (.int (many : Int)), .val (.nd .lst (sds ps)), a, .val (.nd .lst (sds ts)), .val (.nd .lst (W.map winD))]) ?_ rfl
  show m__law_frame [.own (some 0) (.dr s), .val (.int (most : Int)), .val (.int (many : Int)), .und, .und, .und, .und] = _
  unfold m__law_frame
  rw [sSeq_ok (sSet_ok a1)]
  have sp : sPar2 5 6 (pD (mCall 2 f__law_titles (mrR 0 (mrE (mCall 2 semNext (mrR 0 (mrE (mOp pAdd (mVar 2) (mC (.int 1))) (mrNil)))) (mrNil))))) (pN (nLst (mNil))) [.own (some 0) (.dr s2), .val (.int (most : Int)), .val (.int (many : Int)), .val (.nd .lst (sds ps)), .und, .und, .und] = .ok .nx [.own (some 0) (.dr s4), .val (.int (most : Int)), .val (.int (many : Int)), .val (.nd .lst (sds ps)), .und, .val (.nd .lst (sds ts)), .own none (.nd .lst [])] := by
    unfold sPar2
    rw [M.bnd_ok (show pD _ _ = .ok (.inl (.nd .lst (sds ts))) [.own (some 0) (.dr s4), .val (.int (most : Int)), .val (.int (many : Int)), .val (.nd .lst (sds ps)), .und, .und, .und] from by unfold pD; rw [M.bnd_ok a2]; rfl)]
    rfl
  rw [show ([.own (some 0) (.dr s2), .val (.int (most : Int)), .val (.int (many : Int)), .und, .und, .und, .und] : Env').set 3 (.val (.nd .lst (sds ps))) = [.own (some 0) (.dr s2), .val (.int (most : Int)), .val (.int (many : Int)), .val (.nd .lst (sds ps)), .und, .und, .und] from rfl]
  rw [sSeq_ok sp, sSeq_ok ((sFor_ok (show mSeq (mVar 5) _ = .ok (sds ts) _ from rfl)).trans eL)]
  rfl
end Law

/-! Dicts by text keys, made and read. -/
namespace Wu
open PySem PySem.Spec PyProof.Rows L2
abbrev ky (x : Str) : Key := Sum.inr x
theorem ky_mem {x : Str} {xs : List Str} : ky x ∈ xs.map ky ↔ x ∈ xs := by
  constructor
  · intro h
    obtain ⟨y, h1, h2⟩ := List.mem_map.mp h
    have : y = x := Sum.inr.inj h2
    subst this; exact h1
  · exact List.mem_map_of_mem
theorem putZ_new {ks : List Key} {l : List D} {k : Key} {v : D} (h : k ∉ ks) : putZ ks l k v = (ks ++ [k], l ++ [v]) := by
  unfold putZ
  rw [if_neg]
  intro z
  obtain ⟨k', h1, h2⟩ := List.any_eq_true.mp z
  have := of_decide_eq_true h2
  subst this
  exact h h1
theorem compDD_of {i : Nat} {mk m : M D} {E : Env'} (kf : D → Str) (y : D → D) : ∀ (ds : List D) (ks : List Str) (l : List D), (∀ d ∈ ds, mk ((wipeE [i] E).set i (.val d)) = .ok (.str (kf d)) ((wipeE [i] E).set i (.val d))) → (∀ d ∈ ds, m ((wipeE [i] E).set i (.val d)) = .ok (y d) ((wipeE [i] E).set i (.val d))) → (ks ++ ds.map kf).Nodup →
    compDD (gN i) mYes mk m [i] ds (ks.map ky, l) (wipeE [i] E) = some (((ks ++ ds.map kf).map ky, l ++ ds.map y), wipeE [i] E)
  | [], ks, l, _, _, _ => by simp [compDD]
  | d :: ds, ks, l, hk, hm, hn => by
    have e0 : ks ++ (d :: ds).map kf = (ks ++ [kf d]) ++ ds.map kf := by simp
    rw [e0] at hn
    have ih := compDD_of (i := i) (mk := mk) (m := m) (E := E) kf y ds (ks ++ [kf d]) (l ++ [y d]) (fun x hx => hk x (List.mem_cons_of_mem _ hx)) (fun x hx => hm x (List.mem_cons_of_mem _ hx)) hn
    have hnew : ky (kf d) ∉ ks.map ky := fun z => by
      have h1 := (List.nodup_append.mp (List.nodup_append.mp hn).1)
      exact h1.2.2 (kf d) (ky_mem.mp z) (kf d) (by simp) rfl
    unfold compDD
    have hy : mYes ((wipeE [i] E).set i (.val d)) = .ok true ((wipeE [i] E).set i (.val d)) := rfl
    have hkk : (D.str (kf d)).key = some (ky (kf d)) := rfl
    simp only [gN, hy, hk d List.mem_cons_self, hm d List.mem_cons_self, hkk]
    rw [wipe_set, wipe_wipe, putZ_new hnew]
    have e1 : (ks.map ky ++ [ky (kf d)], l ++ [y d]) = ((ks ++ [kf d]).map ky, l ++ [y d]) := by simp
    show compDD (gN i) mYes mk m [i] ds (ks.map ky ++ [ky (kf d)], l ++ [y d]) (wipeE [i] E) = _
    rw [e1, ih, e0]
    simp
theorem nDc_of {mi : M (List D)} {i : Nat} {mk m : M D} {E : Env'} {ds : List D} (kf : D → Str) (y : D → D) (hi : mi E = .ok ds E) (hf : (E.getD i .und).free = true) (hl : ds.length ≤ sizeLine)
    (hk : ∀ d ∈ ds, mk ((wipeE [i] E).set i (.val d)) = .ok (.str (kf d)) ((wipeE [i] E).set i (.val d))) (hm : ∀ d ∈ ds, m ((wipeE [i] E).set i (.val d)) = .ok (y d) ((wipeE [i] E).set i (.val d))) (hn : (ds.map kf).Nodup) :
    nDc mi (gN i) mYes mk m [i] E = .ok (.dct ((ds.map kf).map ky), ds.map y) E := by
  unfold nDc
  rw [M.bnd_ok hi]
  have c := compDD_of (i := i) (mk := mk) (m := m) (E := E) kf y ds [] [] hk hm hn
  simp only [List.map_nil, List.nil_append] at c
  simp only [List.all_cons, List.all_nil, Bool.and_true, hf, decide_eq_true hl, if_true, c, rest_wipe]
theorem fdLoop_of {i : Nat} {mk mv : M D} {env : Sl → Env'} (kf : D → Str) (y : D → D) (hg : ∀ s d, (env s).set i (.val d) = env (.val d)) : ∀ (ds : List D) (ks : List Str) (l : List D) (s : Sl),
    (∀ d ∈ ds, mv (env (.val d)) = .ok (y d) (env (.val d))) → (∀ d ∈ ds, mk (env (.val d)) = .ok (.str (kf d)) (env (.val d))) → (ks ++ ds.map kf).Nodup → l.length + ds.length ≤ sizeLine →
    ∃ s', fdLoop (gN i) mk mv ds (ks.map ky, l) (env s) = some (((ks ++ ds.map kf).map ky, l ++ ds.map y), env s')
  | [], ks, l, s, _, _, _, _ => ⟨s, by simp [fdLoop]⟩
  | d :: ds, ks, l, s, hm, hk, hn, hl => by
    have e0 : ks ++ (d :: ds).map kf = (ks ++ [kf d]) ++ ds.map kf := by simp
    rw [e0] at hn
    rw [List.length_cons] at hl
    obtain ⟨s', ih⟩ := fdLoop_of (i := i) (mk := mk) (mv := mv) (env := env) kf y hg ds (ks ++ [kf d]) (l ++ [y d]) (.val d) (fun x hx => hm x (List.mem_cons_of_mem _ hx)) (fun x hx => hk x (List.mem_cons_of_mem _ hx)) hn (by rw [List.length_append, List.length_singleton]; omega)
    have hnew : ky (kf d) ∉ ks.map ky := fun z => by
      have h1 := (List.nodup_append.mp (List.nodup_append.mp hn).1)
      exact h1.2.2 (kf d) (ky_mem.mp z) (kf d) (by simp) rfl
    refine ⟨s', ?_⟩
    unfold fdLoop
    have hkk : (D.str (kf d)).key = some (ky (kf d)) := rfl
    have hlt : l.length < sizeLine := by omega
    simp only [gN, hg, hm d List.mem_cons_self, hk d List.mem_cons_self, hkk, hlt, if_true]
    rw [putZ_new hnew]
    have e1 : (ks.map ky ++ [ky (kf d)], l ++ [y d]) = ((ks ++ [kf d]).map ky, l ++ [y d]) := by simp
    rw [e1, ih, e0]
    simp
theorem valZ_cons {k k' : Key} {ks : List Key} {v : D} {l : List D} : valZ (k' :: ks) (v :: l) k = if k' = k then some v else valZ ks l k := by
  unfold valZ
  rw [List.zip_cons_cons, List.find?_cons]
  by_cases h : k' = k
  · simp [h]
  · simp [h]
theorem valZ_no {α : Type} {kf : α → Str} {y : α → D} {x : Str} : ∀ {ws : List α}, x ∉ ws.map kf → valZ ((ws.map kf).map ky) (ws.map y) (ky x) = none
  | [], _ => rfl
  | w :: ws, h => by
    rw [List.map_cons, List.mem_cons, not_or] at h
    rw [List.map_cons, List.map_cons, List.map_cons, valZ_cons, if_neg (fun z => h.1 (Sum.inr.inj z).symm), valZ_no h.2]
theorem valZ_at {α : Type} {kf : α → Str} {y : α → D} : ∀ {ws : List α} {w : α}, (ws.map kf).Nodup → w ∈ ws → valZ ((ws.map kf).map ky) (ws.map y) (ky (kf w)) = some (y w)
  | [], _, _, h => by cases h
  | a :: ws, w, hn, h => by
    rw [List.map_cons] at hn
    obtain ⟨h1, h2⟩ := List.nodup_cons.mp hn
    rw [List.map_cons, List.map_cons, List.map_cons, valZ_cons]
    rcases List.mem_cons.mp h with rfl | h
    · rw [if_pos rfl]
    · rw [if_neg (fun z => h1 (by rw [Sum.inr.inj z]; exact List.mem_map_of_mem h)), valZ_at h2 h]
theorem isi_str (d : D) (h : d.fine = true) : pIsi .str d = some (.bl d.isStr) := by
  cases d with
  | nd k l => cases k <;> first | rfl | cases h
  | _ => rfl
theorem ev_fld {c f : Str} {m : M D} {E E' : Env'} {d v : D} (h : m E = .ok d E') (h2 : pFld c f d = some v) : mFld c f m E = .ok v E' := by
  unfold mFld
  rw [M.bnd_ok h, h2]; rfl
theorem meth_of {c m : Str} {n : Nat} {sem : Sm} {mo : M D} {ms : M (List D)} {E E1 E2 : Env'} {fs : List Str} {l ds : List D} (ho : mo E = .ok (.nd (.ob c fs) l) E1) (hf : fldZ fs l m = none) (hs : ms E1 = .ok ds E2) : mMeth c m n sem mo ms E = zV n sem (.nd (.ob c fs) l :: ds) E2 := by
  unfold mMeth
  rw [M.bnd_ok ho]
  simp only [hf, and_self, if_true]
  rw [M.bnd_ok hs]
theorem meth_ex {c m : Str} {n : Nat} {sem : Sm} {mo : M D} {ms : M (List D)} {E E1 E2 : Env'} {fs : List Str} {l : List D} {x : Exn} (ho : mo E = .ok (.nd (.ob c fs) l) E1) (hf : fldZ fs l m = none) (hs : ms E1 = .ex x E2) : mMeth c m n sem mo ms E = .ex x E2 := by
  unfold mMeth
  rw [M.bnd_ok ho]
  simp only [hf, and_self, if_true]
  rw [M.bnd_ex hs]
theorem zV_ok {n : Nat} {sem : Sm} {ds : List D} {d : D} {as : List Ag} {E : Env'} (hn : ds.length = n) (h : sem (ds.map Ag.v) = .ok d as) : zV n sem ds E = .ok d E := by
  unfold zV; rw [if_pos hn, h]
theorem zV_ex {n : Nat} {sem : Sm} {ds : List D} {x : Exn} {as : List Ag} {E : Env'} (hn : ds.length = n) (h : sem (ds.map Ag.v) = .ex x as) : zV n sem ds E = .ex x E := by
  unfold zV; rw [if_pos hn, h]
end Wu

/-! Views of a frame. -/
namespace Law
open PySem PySem.Spec PyProof.Rows L2 Wu He
/-- the names of the windows that show p -/
def winsOf (ws : List (Str × List Str)) (p : Str) : List Str := (ws.filter fun w => decide (p ∈ w.2)).map (·.1)
def shwD (w : Str × List Str) : D := .nd .tup (sds w.2)
abbrev vwF : List Str := ["plan", "parts", "window_parts", "part_windows"]
def vwL (ps : List Str) (ws : List (Str × List Str)) : List D := [frameD ps ws, .nd .tup (sds ps), .nd (.dct ((ws.map (·.1)).map ky)) (ws.map shwD), .nd (.dct (ps.map ky)) (ps.map fun p => .nd .tup (sds (winsOf ws p)))]
def vwD (ps : List Str) (ws : List (Str × List Str)) : D := .nd (.ob "Views" vwF) (vwL ps ws)
def wn1 : D → D
  | .nd .tup [a, _] => a
  | _ => .non
def wnK : D → Str
  | .nd .tup [.str a, _] => a
  | _ => ""
def wn2 : D → D
  | .nd .tup [_, b] => b
  | _ => .non
/-- whether a window that is data shows p -/
def wHas (p : Str) : D → Bool
  | .nd .tup [_, .nd .tup l] => (match toStrs l with
    | some xs => decide (p ∈ xs)
    | none => false)
  | _ => false
theorem wHas_win (p : Str) (w : Str × List Str) : wHas p (winD w) = decide (p ∈ w.2) := by
  show (match toStrs (sds w.2) with | some xs => decide (p ∈ xs) | none => false) = _
  rw [toStrs_sds]
theorem wins_of (p : Str) (ws : List (Str × List Str)) : ((ws.map winD).filter (wHas p)).map wn1 = sds (winsOf ws p) := by
  unfold winsOf
  induction ws with
  | nil => rfl
  | cons w ws ih =>
    rw [List.map_cons, List.filter_cons, List.filter_cons, wHas_win]
    by_cases h : p ∈ w.2
    · simp only [h, decide_true, if_true, List.map_cons, ih]; rfl
    · simp only [h, decide_false, Bool.false_eq_true, if_false, ih]
theorem mem_win {ws : List (Str × List Str)} {d : D} (h : d ∈ ws.map winD) : ∃ w ∈ ws, d = winD w := by
  obtain ⟨w, h1, h2⟩ := List.mem_map.mp h
  exact ⟨w, h1, h2.symm⟩
def strK : D → Str
  | .str x => x
  | _ => ""
theorem strK_sds (xs : List Str) : (sds xs).map strK = xs := by
  induction xs with
  | nil => rfl
  | cons x xs ih => show x :: (sds xs).map strK = _; rw [ih]
def pwD (ws : List (Str × List Str)) : D → D
  | .str x => .nd .tup (sds (winsOf ws x))
  | _ => .non
theorem pwD_sds (ws : List (Str × List Str)) (ps : List Str) : (sds ps).map (pwD ws) = ps.map fun p => .nd .tup (sds (winsOf ws p)) := by
  rw [sds, List.map_map]; rfl
section
variable {ps : List Str} {ws : List (Str × List Str)}
theorem fld_parts : pFld "Views" "parts" (vwD ps ws) = some (.nd .tup (sds ps)) := by kernel_rfl
theorem fld_wp : pFld "Views" "window_parts" (vwD ps ws) = some (.nd (.dct ((ws.map (·.1)).map ky)) (ws.map shwD)) := by kernel_rfl
theorem fld_pw : pFld "Views" "part_windows" (vwD ps ws) = some (.nd (.dct (ps.map ky)) (ps.map fun p => .nd .tup (sds (winsOf ws p)))) := by kernel_rfl
theorem nof_np : fldZ vwF (vwL ps ws) "need_part" = none := by kernel_rfl
theorem nof_nw : fldZ vwF (vwL ps ws) "need_window" = none := by kernel_rfl
theorem nof_nr : fldZ vwF (vwL ps ws) "near" = none := by kernel_rfl
/-! ### the making -/
theorem init_ok (F : Frm ps ws) : f_Views___init__ [.o (.nd (.ob "Views" []) []), .v (frameD ps ws)] = .ok .non [.o (.nd (.ob "Views" vwF) (vwL ps ws)), .v (frameD ps ws)] := by
  have c1 : mCall 1 f_need_frame (mrE (mVar 1) (mrNil)) [.own (some 0) (.nd (.ob "Views" []) []), .val (frameD ps ws), .und, .und] = .ok (frameD ps ws) [.own (some 0) (.nd (.ob "Views" []) []), .val (frameD ps ws), .und, .und] := call1_ok (x := frameD ps ws) rfl (need_frame_good F)
  have s1 : sFldO 0 "Views" "plan" (mCall 1 f_need_frame (mrE (mVar 1) (mrNil))) [.own (some 0) (.nd (.ob "Views" []) []), .val (frameD ps ws), .und, .und] = .ok .nx [.own (some 0) (.nd (.ob "Views" ["plan"]) [frameD ps ws]), .val (frameD ps ws), .und, .und] := by
    unfold sFldO
    rw [M.bnd_ok c1]
    kernel_rfl
  have s2 : sFldO 0 "Views" "parts" (mOp pIxA (mVar 1) (mC (.int 0))) [.own (some 0) (.nd (.ob "Views" ["plan"]) [frameD ps ws]), .val (frameD ps ws), .und, .und] = .ok .nx [.own (some 0) (.nd (.ob "Views" ["plan", "parts"]) [frameD ps ws, .nd .tup (sds ps)]), .val (frameD ps ws), .und, .und] := by
    kernel_rfl
  have e3 := nDc_of (mi := mSeq (mOp pIxA (mVar 1) (mC (.int 1)))) (i := 3) (mk := mOp pIxA (mVar 3) (mC (.int 0))) (m := mOp pIxA (mVar 3) (mC (.int 1))) (E := [.own (some 0) (.nd (.ob "Views" ["plan", "parts"]) [frameD ps ws, .nd .tup (sds ps)]), .val (frameD ps ws), .und, .und]) (ds := ws.map winD) wnK wn2 rfl rfl
    (size_big (by rw [List.length_map]; have := F.w12; omega)) (fun d hd => by obtain ⟨w, _, rfl⟩ := mem_win hd; kernel_rfl) (fun d hd => by obtain ⟨w, _, rfl⟩ := mem_win hd; kernel_rfl)
    (by rw [List.map_map]; exact F.wd)
  have k3 : (ws.map winD).map wnK = ws.map (·.1) := by rw [List.map_map]; rfl
  have v3 : (ws.map winD).map wn2 = ws.map shwD := by rw [List.map_map]; rfl
  rw [k3, v3] at e3
  have s3 : sFldO 0 "Views" "window_parts" (mDat (nDc (mSeq (mOp pIxA (mVar 1) (mC (.int 1)))) (gN 3) (mYes) (mOp pIxA (mVar 3) (mC (.int 0))) (mOp pIxA (mVar 3) (mC (.int 1))) [3])) [.own (some 0) (.nd (.ob "Views" ["plan", "parts"]) [frameD ps ws, .nd .tup (sds ps)]), .val (frameD ps ws), .und, .und]
      = .ok .nx [.own (some 0) (.nd (.ob "Views" ["plan", "parts", "window_parts"]) [frameD ps ws, .nd .tup (sds ps), .nd (.dct ((ws.map (·.1)).map ky)) (ws.map shwD)]), .val (frameD ps ws), .und, .und] := by
    unfold sFldO
    rw [M.bnd_ok (show mDat _ _ = .ok (.nd (.dct ((ws.map (·.1)).map ky)) (ws.map shwD)) [.own (some 0) (.nd (.ob "Views" ["plan", "parts"]) [frameD ps ws, .nd .tup (sds ps)]), .val (frameD ps ws), .und, .und] from by unfold mDat; rw [M.bnd_ok e3]; rfl)]
    kernel_rfl
  have e4 : ∀ p : Str, (mFn pTuple (mCons (mLc (mSeq (mOp pIxA (mVar 1) (mC (.int 1)))) (gN 3) (mTest (mOp (pInA false) (mVar 2) (mOp pIxA (mVar 3) (mC (.int 1))))) (mOp pIxA (mVar 3) (mC (.int 0))) [3]) (mNil))) [.und, .val (frameD ps ws), .val (.str p), .und] = .ok (.nd .tup (sds (winsOf ws p))) [.und, .val (frameD ps ws), .val (.str p), .und] := fun p => by
    have e := lc_of (mi := mSeq (mOp pIxA (mVar 1) (mC (.int 1)))) (i := 3) (t := mTest (mOp (pInA false) (mVar 2) (mOp pIxA (mVar 3) (mC (.int 1))))) (m := mOp pIxA (mVar 3) (mC (.int 0))) (E := [.und, .val (frameD ps ws), .val (.str p), .und]) (ds := ws.map winD) (wHas p) wn1 rfl rfl
      (size_big (by rw [List.length_map]; have := F.w12; omega)) (fun d hd => by
        obtain ⟨w, _, rfl⟩ := mem_win hd
        rw [wHas_win]
        show (mTest (mOp (pInA false) (mVar 2) (mOp pIxA (mVar 3) (mC (.int 1))))) [.und, .val (frameD ps ws), .val (.str p), .val (.nd .tup [.str w.1, .nd .tup (sds w.2)])] = .ok _ [.und, .val (frameD ps ws), .val (.str p), .val (.nd .tup [.str w.1, .nd .tup (sds w.2)])]
        simp) (fun d hd _ => by obtain ⟨w, _, rfl⟩ := mem_win hd; kernel_rfl)
    rw [wins_of] at e
    simp only [ev_fn, ev_cons, e, ev_bok, ev_bnd, ev_nil, ev_ret, pTuple_lst, ev_some]
  obtain ⟨s', e5⟩ := fdLoop_of (i := 2) (mk := mVar 2) (mv := mFn pTuple (mCons (mLc (mSeq (mOp pIxA (mVar 1) (mC (.int 1)))) (gN 3) (mTest (mOp (pInA false) (mVar 2) (mOp pIxA (mVar 3) (mC (.int 1))))) (mOp pIxA (mVar 3) (mC (.int 0))) [3]) (mNil)))
    (env := fun s => [.und, .val (frameD ps ws), s, .und]) strK (pwD ws) (fun _ _ => rfl) (sds ps) [] [] .und
    (fun d hd => by obtain ⟨p, _, rfl⟩ := List.mem_map.mp hd; exact e4 p) (fun d hd => by obtain ⟨p, _, rfl⟩ := List.mem_map.mp hd; rfl)
    (by rw [List.nil_append, strK_sds]; exact F.pd) (size_big (by rw [sds_len, List.length_nil]; have := F.p8; omega))
  rw [List.nil_append, List.nil_append, strK_sds, pwD_sds] at e5
  have s4 : sFDict 0 "Views" "part_windows" (mSeq (mOp pIxA (mVar 1) (mC (.int 0)))) (gN 2) (mVar 2) (mFn pTuple (mCons (mLc (mSeq (mOp pIxA (mVar 1) (mC (.int 1)))) (gN 3) (mTest (mOp (pInA false) (mVar 2) (mOp pIxA (mVar 3) (mC (.int 1))))) (mOp pIxA (mVar 3) (mC (.int 0))) [3]) (mNil)))
      [.own (some 0) (.nd (.ob "Views" ["plan", "parts", "window_parts"]) [frameD ps ws, .nd .tup (sds ps), .nd (.dct ((ws.map (·.1)).map ky)) (ws.map shwD)]), .val (frameD ps ws), .und, .und]
      = .ok .nx [.own (some 0) (.nd (.ob "Views" vwF) (vwL ps ws)), .val (frameD ps ws), s', .und] := by
    have i4 : mSeq (mOp pIxA (mVar 1) (mC (.int 0))) [.und, .val (frameD ps ws), .und, .und] = .ok (sds ps) [.und, .val (frameD ps ws), .und, .und] := rfl
    unfold sFDict
    simp only [List.getElem?_cons_zero, List.length_cons, List.length_nil, true_and, Nat.reduceAdd, Nat.reduceLT, if_true, List.set_cons_zero, i4, List.map_nil] at e5 ⊢
    rw [e5]
    kernel_rfl
  show semOf 4 m_Views___init__ _ = _
  unfold semOf
  have all : m_Views___init__ (env0 4 [.o (.nd (.ob "Views" []) []), .v (frameD ps ws)]) = .ok .nx [.own (some 0) (.nd (.ob "Views" vwF) (vwL ps ws)), .val (frameD ps ws), s', .und] := by
    show m_Views___init__ [.own (some 0) (.nd (.ob "Views" []) []), .val (frameD ps ws), .und, .und] = _
    unfold m_Views___init__
    rw [sSeq_ok s1, sSeq_ok s2, sSeq_ok s3]
    exact s4
  rw [all]
  rfl
theorem make_ok (F : Frm ps ws) {m : M D} {E E' : Env'} (h : m E = .ok (frameD ps ws) E') : mMake "Views" 2 f_Views___init__ (mCons m mNil) E = .ok (vwD ps ws) E' := by
  unfold mMake
  rw [M.bnd_ok (show mCons m mNil E = .ok [frameD ps ws] E' from by rw [ev_cons, h]; rfl)]
  unfold zMk
  rw [if_pos (show [frameD ps ws].length + 1 = 2 from rfl)]
  show (match f_Views___init__ [.o (.nd (.ob "Views" []) []), .v (frameD ps ws)] with | .ok .non (.o (.nd (.ob c' fs) l) :: _) => R.ok (D.nd (.ob c' fs) l) E' | .ex x _ => .ex x E' | _ => .bad) = _
  rw [init_ok F]
  rfl
end
theorem nin_dct {α : Type} {kf : α → Str} {y : α → D} {ws : List α} {x : Str} (hn : (ws.map kf).Nodup) : pInA true (.str x) (.nd (.dct ((ws.map kf).map ky)) (ws.map y)) = some (.bl (!decide (x ∈ ws.map kf))) := by
  show ((D.str x).key.bind fun k => if ((ws.map kf).map ky).length = (ws.map y).length then some (D.bl (if true = true then !(valZ ((ws.map kf).map ky) (ws.map y) k).isSome else (valZ ((ws.map kf).map ky) (ws.map y) k).isSome)) else none) = _
  have hk : (D.str x).key = some (ky x) := rfl
  rw [hk, Option.bind_some, if_pos (by simp), if_pos rfl]
  by_cases h : x ∈ ws.map kf
  · obtain ⟨w, hw, rfl⟩ := List.mem_map.mp h
    rw [valZ_at hn hw, decide_eq_true h]; rfl
  · rw [valZ_no h, decide_eq_false h]; rfl
theorem ix_dct {α : Type} {kf : α → Str} {y : α → D} {ws : List α} {w : α} (hn : (ws.map kf).Nodup) (hw : w ∈ ws) : pIxA (.nd (.dct ((ws.map kf).map ky)) (ws.map y)) (.str (kf w)) = some (y w) := by
  show ((D.str (kf w)).key.bind fun k => valZ ((ws.map kf).map ky) (ws.map y) k) = _
  have hk : (D.str (kf w)).key = some (ky (kf w)) := rfl
  rw [hk, Option.bind_some, valZ_at hn hw]
theorem in_dct {α : Type} {kf : α → Str} {y : α → D} {ws : List α} {x : Str} (hn : (ws.map kf).Nodup) : pInA false (.str x) (.nd (.dct ((ws.map kf).map ky)) (ws.map y)) = some (.bl (decide (x ∈ ws.map kf))) := by
  show ((D.str x).key.bind fun k => if ((ws.map kf).map ky).length = (ws.map y).length then some (D.bl (if false = true then !(valZ ((ws.map kf).map ky) (ws.map y) k).isSome else (valZ ((ws.map kf).map ky) (ws.map y) k).isSome)) else none) = _
  have hk : (D.str x).key = some (ky x) := rfl
  rw [hk, Option.bind_some, if_pos (by simp), if_neg Bool.false_ne_true]
  by_cases h : x ∈ ws.map kf
  · obtain ⟨w, hw, rfl⟩ := List.mem_map.mp h
    rw [valZ_at hn hw, decide_eq_true h]; rfl
  · rw [valZ_no h, decide_eq_false h]; rfl
section
variable {ps : List Str} {ws : List (Str × List Str)}
theorem pw_nin (F : Frm ps ws) (x : Str) : pInA true (.str x) (.nd (.dct (ps.map ky)) (ps.map fun p => .nd .tup (sds (winsOf ws p)))) = some (.bl (!decide (x ∈ ps))) := by
  have h := nin_dct (kf := id) (y := fun p => D.nd .tup (sds (winsOf ws p))) (ws := ps) (x := x) (by rw [List.map_id]; exact F.pd)
  rw [List.map_id] at h
  exact h
theorem pw_ix (F : Frm ps ws) {p : Str} (h : p ∈ ps) : pIxA (.nd (.dct (ps.map ky)) (ps.map fun p => .nd .tup (sds (winsOf ws p)))) (.str p) = some (.nd .tup (sds (winsOf ws p))) := by
  have h := ix_dct (kf := id) (y := fun p => D.nd .tup (sds (winsOf ws p))) (ws := ps) (w := p) (by rw [List.map_id]; exact F.pd) h
  rw [List.map_id] at h
  exact h
theorem pw_in (F : Frm ps ws) (x : Str) : pInA false (.str x) (.nd (.dct (ps.map ky)) (ps.map fun p => .nd .tup (sds (winsOf ws p)))) = some (.bl (decide (x ∈ ps))) := by
  have h := in_dct (kf := id) (y := fun p => D.nd .tup (sds (winsOf ws p))) (ws := ps) (x := x) (by rw [List.map_id]; exact F.pd)
  rw [List.map_id] at h
  exact h
end
end Law

/-! Names of parts and of windows. -/
namespace Law
open PySem PySem.Spec PyProof.Rows L2 Wu He
def missX (d : D) : Exn := ⟨"Missing", ["name"], [d]⟩
/-- d is a text among xs -/
def isIn (xs : List Str) : D → Bool
  | .str x => decide (x ∈ xs)
  | _ => false
section
variable {ps : List Str} {ws : List (Str × List Str)}
theorem need_part_ok (F : Frm ps ws) (d : D) (h : d.fine = true) : f_Views_need_part [.v (vwD ps ws), .v d] = if isIn ps d then .ok d [.v (vwD ps ws), .v d] else .ex (missX d) [.v (vwD ps ws), .v d] := by
  have hi := isi_str d h
  have ef : mFld "Views" "part_windows" (mVar 0) [.val (vwD ps ws), .val d] = .ok (.nd (.dct (ps.map ky)) (ps.map fun p => .nd .tup (sds (winsOf ws p)))) [.val (vwD ps ws), .val d] := ev_fld rfl fld_pw
  have hb : m_Views_need_part [.val (vwD ps ws), .val d] = if isIn ps d then .ok (.rt d) [.val (vwD ps ws), .val d] else .ex (missX d) [.val (vwD ps ws), .val d] := by
    unfold m_Views_need_part
    simp only [ev_sSeq, ev_sIf, ev_or, ev_not, ev_test, ev_isi, ev_v1, ev_bok, hi, ev_some, ev_tst, ev_ret, ev_ite]
    cases hs : d.isStr with
    | false =>
      have hn : isIn ps d = false := by
        cases d with
        | str x => cases hs
        | _ => rfl
      rw [hn]
      simp [missX]
    | true =>
      obtain ⟨x, rfl⟩ : ∃ x, d = .str x := by
        cases d with
        | str x => exact ⟨x, rfl⟩
        | _ => cases hs
      have hx := pw_nin F x
      simp only [Bool.not_true, Bool.false_eq_true, if_false, ev_op, ev_v1, ev_bok, ev_bnd, ef, hx, ev_some, ev_tst]
      show _ = if decide (x ∈ ps) = true then _ else _
      by_cases hm : x ∈ ps
      · simp [hm]
      · simp [hm, missX]
  cases e : isIn ps d with
  | true => rw [e, if_pos rfl] at hb; exact sem_rt (ds := [vwD ps ws, d]) hb
  | false => rw [e, if_neg Bool.false_ne_true] at hb; exact sem_ex (ds := [vwD ps ws, d]) hb
theorem need_window_ok (F : Frm ps ws) (d : D) (h : d.fine = true) : f_Views_need_window [.v (vwD ps ws), .v d] = if isIn (ws.map (·.1)) d then .ok d [.v (vwD ps ws), .v d] else .ex (missX d) [.v (vwD ps ws), .v d] := by
  have hi := isi_str d h
  have ef : mFld "Views" "window_parts" (mVar 0) [.val (vwD ps ws), .val d] = .ok (.nd (.dct ((ws.map (·.1)).map ky)) (ws.map shwD)) [.val (vwD ps ws), .val d] := ev_fld rfl fld_wp
  have hb : m_Views_need_window [.val (vwD ps ws), .val d] = if isIn (ws.map (·.1)) d then .ok (.rt d) [.val (vwD ps ws), .val d] else .ex (missX d) [.val (vwD ps ws), .val d] := by
    unfold m_Views_need_window
    simp only [ev_sSeq, ev_sIf, ev_or, ev_not, ev_test, ev_isi, ev_v1, ev_bok, hi, ev_some, ev_tst, ev_ret, ev_ite]
    cases hs : d.isStr with
    | false =>
      have hn : isIn (ws.map (·.1)) d = false := by
        cases d with
        | str x => cases hs
        | _ => rfl
      rw [hn]
      simp [missX]
    | true =>
      obtain ⟨x, rfl⟩ : ∃ x, d = .str x := by
        cases d with
        | str x => exact ⟨x, rfl⟩
        | _ => cases hs
      have hx := nin_dct (kf := fun w : Str × List Str => w.1) (y := shwD) (ws := ws) (x := x) F.wd
      simp only [Bool.not_true, Bool.false_eq_true, if_false, ev_op, ev_v1, ev_bok, ev_bnd, ef, hx, ev_some, ev_tst]
      show _ = if decide (x ∈ ws.map (·.1)) = true then _ else _
      by_cases hm : x ∈ ws.map (·.1)
      · simp only [hm, decide_true, Bool.not_true, Bool.false_eq_true, if_false, if_true, ev_sNil, ev_sqnx, ev_sRet, ev_v1, ev_bok]
      · simp only [hm, decide_false, Bool.not_false, Bool.false_eq_true, if_false, if_true, ev_sRaise, ev_v1, ev_bok, ev_sqex, missX]
  cases e : isIn (ws.map (·.1)) d with
  | true => rw [e, if_pos rfl] at hb; exact sem_rt (ds := [vwD ps ws, d]) hb
  | false => rw [e, if_neg Bool.false_ne_true] at hb; exact sem_ex (ds := [vwD ps ws, d]) hb
end
end Law

/-! Frames: weights. -/
namespace Law
open PySem PySem.Spec PyProof.Rows L2 Wu He
/-! ### how heavy a frame is -/
theorem names_wt {xs : List Str} (h : ∀ x ∈ xs, nameB x = true) : wtL (sds xs) ≤ 84 * xs.length ∧ dpL (sds xs) = 0 := by
  induction xs with
  | nil => exact ⟨Nat.le_refl 0, rfl⟩
  | cons x xs ih =>
    obtain ⟨i1, i2⟩ := ih fun y hy => h y (List.mem_cons_of_mem _ hy)
    have hx := h x List.mem_cons_self
    unfold nameB at hx
    simp only [Bool.and_eq_true, decide_eq_true_eq] at hx
    constructor
    · show 10 * x.length + 2 + 2 + wtL (sds xs) ≤ 84 * (xs.length + 1)
      omega
    · show max 0 (dpL (sds xs)) = 0
      rw [i2]; rfl
theorem wins_wt {ps : List Str} (hp8 : ps.length ≤ 8) (hpn : ∀ x ∈ ps, nameB x = true) : ∀ {ws : List (Str × List Str)}, (∀ w ∈ ws, nameB w.1 = true) → (∀ w ∈ ws, Shw ps w.2) → wtL (ws.map winD) ≤ 770 * ws.length ∧ dpL (ws.map winD) ≤ 2
  | [], _, _ => ⟨Nat.le_refl 0, Nat.zero_le _⟩
  | w :: ws, h1, h2 => by
    obtain ⟨i1, i2⟩ := wins_wt hp8 hpn (ws := ws) (fun y hy => h1 y (List.mem_cons_of_mem _ hy)) (fun y hy => h2 y (List.mem_cons_of_mem _ hy))
    have hx := h1 w List.mem_cons_self
    have hs := h2 w List.mem_cons_self
    obtain ⟨j1, j2⟩ := names_wt (xs := w.2) fun x hx => hpn x (hs.2.subset hx)
    have hl := hs.2.length_le
    unfold nameB at hx
    simp only [Bool.and_eq_true, decide_eq_true_eq] at hx
    constructor
    · show ((10 * w.1.length + 2 + 2 + (wtL (sds w.2) + 3 + 2 + 0)) + 3) + 2 + wtL (ws.map winD) ≤ 770 * (ws.length + 1)
      omega
    · show max (max 0 (max (dpL (sds w.2) + 1) 0) + 1) (dpL (ws.map winD)) ≤ 2
      omega
theorem frame_wt {ps : List Str} {ws : List (Str × List Str)} (F : Frm ps ws) : (frameD ps ws).wt ≤ 10000 ∧ (frameD ps ws).dp ≤ 4 ∧ (D.nd .tup (ws.map winD)).wt ≤ 20000 ∧ (D.nd .tup (ws.map winD)).dp ≤ 3 ∧ (D.nd .tup (sds ps)).wt ≤ 20000 ∧ (D.nd .tup (sds ps)).dp ≤ 3 := by
  obtain ⟨i1, i2⟩ := wins_wt F.p8 F.pn F.wn F.ws
  obtain ⟨j1, j2⟩ := names_wt F.pn
  have h8 := F.p8
  have h12 := F.w12
  refine ⟨?_, ?_, ?_, ?_, ?_, ?_⟩
  · show ((wtL (sds ps) + 3) + 2 + ((wtL (ws.map winD) + 3) + 2 + 0)) + 3 ≤ 10000
    omega
  · show max (dpL (sds ps) + 1) (max (dpL (ws.map winD) + 1) 0) + 1 ≤ 4
    omega
  · show wtL (ws.map winD) + 3 ≤ 20000
    omega
  · show dpL (ws.map winD) + 1 ≤ 3
    omega
  · show wtL (sds ps) + 3 ≤ 20000
    omega
  · show dpL (sds ps) + 1 ≤ 3
    omega
theorem str_fine {x : Str} (h1 : x.length ≤ 1000) (h2 : ∀ c ∈ x.cps.toList, c < 128) : (D.str x).fine = true := by
  show (decide (x.length ≤ 1000) && x.cps.toList.all fun c => decide (c < 128)) = true
  rw [decide_eq_true h1, Bool.true_and, List.all_eq_true]
  exact fun c hc => decide_eq_true (h2 c hc)
/-- a thing that repr may be asked of -/
structure Ok (w m : Nat) (d : D) : Prop where
  f : d.fine = true
  w : d.wt ≤ w
  m : d.dp ≤ m
theorem Ok.rep {w m : Nat} {d : D} (h : Ok w m d) (hw : w ≤ 2000000) (hm : m ≤ 60) : pRepr [d] = some (Wu.rep d) := repr_ok h.f (Nat.le_trans (Nat.le_trans h.w hw) (by decide)) (Nat.le_trans h.m hm)
theorem names_ok {xs : List Str} (h : ∀ x ∈ xs, nameB x = true) (hl : xs.length ≤ 100) : Ok 9000 1 (.nd .tup (sds xs)) := by
  obtain ⟨h1, h2⟩ := names_wt h
  refine ⟨names_fine h, ?_, ?_⟩
  · show wtL (sds xs) + 3 ≤ 9000; omega
  · show dpL (sds xs) + 1 ≤ 1; omega
theorem lst1_ok {w m : Nat} {a : D} (ha : Ok w m a) : Ok (w + 10) (m + 1) (.nd .lst [a]) := by
  obtain ⟨a1, a2, a3⟩ := ha
  refine ⟨?_, ?_, ?_⟩
  · show (a.fine && true) = true; rw [a1]; rfl
  · show a.wt + 2 + 0 + 3 ≤ w + 10; omega
  · show max a.dp 0 + 1 ≤ m + 1; omega
theorem lst2_ok {w m : Nat} {a b : D} (ha : Ok w m a) (hb : Ok w m b) : Ok (2 * w + 10) (m + 1) (.nd .lst [a, b]) := by
  obtain ⟨a1, a2, a3⟩ := ha
  obtain ⟨b1, b2, b3⟩ := hb
  refine ⟨?_, ?_, ?_⟩
  · show (a.fine && (b.fine && true)) = true; rw [a1, b1]; rfl
  · show a.wt + 2 + (b.wt + 2 + 0) + 3 ≤ 2 * w + 10; omega
  · show max a.dp (max b.dp 0) + 1 ≤ m + 1; omega
theorem lstN_ok {w m : Nat} {l : List D} (h : ∀ d ∈ l, Ok w m d) : Ok ((w + 2) * l.length + 3) (m + 1) (.nd .lst l) := by
  have key : fineL l = true ∧ wtL l ≤ (w + 2) * l.length ∧ dpL l ≤ m := by
    induction l with
    | nil => exact ⟨rfl, Nat.le_refl _, Nat.zero_le _⟩
    | cons d l ih =>
      obtain ⟨a1, a2, a3⟩ := ih fun x hx => h x (List.mem_cons_of_mem _ hx)
      obtain ⟨b1, b2, b3⟩ := h d List.mem_cons_self
      refine ⟨?_, ?_, ?_⟩
      · show (d.fine && fineL l) = true; rw [b1, a1]; rfl
      · show d.wt + 2 + wtL l ≤ (w + 2) * (l.length + 1); rw [Nat.mul_succ]; omega
      · show max d.dp (dpL l) ≤ m; omega
  obtain ⟨a1, a2, a3⟩ := key
  exact ⟨a1, by show wtL l + 3 ≤ _; omega, by show dpL l + 1 ≤ _; omega⟩
end Law

/-! Edits: whole numbers in lists, any; loops with a state. -/
namespace Wu
open PySem PySem.Spec PyProof.Rows L2
theorem fvL_ints {α : Type} (f : α → Int) (l : List α) : fvL (l.map fun x => D.int (f x)) = some (l.map fun x => V.int (f x)) := by
  unfold fvL
  induction l with
  | nil => rfl
  | cons x l ih => rw [List.map_cons, List.mapM_cons, ih]; rfl
theorem inV_ints {α : Type} (a : Int) (f : α → Int) (l : List α) : inV (.int a) (l.map fun x => V.int (f x)) = l.any fun x => decide (f x = a) := by
  unfold inV
  induction l with
  | nil => rfl
  | cons x l ih =>
    rw [List.map_cons, List.any_cons, List.any_cons, ih]
    congr 1
theorem pIn_ints {α : Type} (a : Int) (f : α → Int) (l : List α) : pInA false (.int a) (.nd .lst (l.map fun x => D.int (f x))) = some (.bl (l.any fun x => decide (f x = a))) := by
  show (pInS false (.int a) (.nd .lst (l.map fun x => D.int (f x)))) = _
  simp only [pInS, D.fv, Option.bind_some, fvL_ints, Bool.false_eq_true, if_false, inV_ints]
theorem pAny_map {α : Type} (f : α → Bool) (l : List α) : pAny [.nd .lst (l.map fun x => D.bl (f x))] = some (.bl (l.any f)) := by
  simp only [pAny, bools_map, Option.map_some]
  congr 2
  induction l with
  | nil => rfl
  | cons x l ih => simp [ih]
/-- behind a search with a state -/
def SrchS (o : Option Nat) (n : Nat) (env : Nat → Sl → Sl → Env') (out : Nat → Exn ⊕ D) (r : R Fl) : Prop := match o with
  | some k => ∃ E, r = outR E (out k)
  | none => ∃ a b, r = .ok .nx (env n a b)
theorem enum_state {l : List D} {i j : Nat} {body : SM} {bad : Nat → Bool} {env : Nat → Sl → Sl → Env'} {out : Nat → Exn ⊕ D} (hg : ∀ a b (k : Nat) d, gT [i, j] (.nd .pr [.int (k : Int), d]) (env k a b) = some (env k (.val (.int (k : Int))) (.val d)))
    (hb : ∀ (k : Nat) d, l[k]? = some d → (∀ m, m < k → bad m = false) → ∃ E, body (env k (.val (.int (k : Int))) (.val d)) = if bad k then outR E (out k) else .ok .nx (env (k + 1) (.val (.int (k : Int))) (.val d))) (a b : Sl) :
    SrchS (firstBad bad l.length) l.length env out (loopD (gT [i, j]) body (numD l) (env 0 a b)) := by
  refine loop_inv (SrchS (firstBad bad l.length) l.length env out) (fun pre E => (∀ m, m < pre.length → bad m = false) ∧ ∃ a b, E = env pre.length a b) ⟨fun m hm => absurd hm (Nat.not_lt_zero m), a, b, rfl⟩ ?_ ?_
  · rintro pre d post E hd ⟨hbad, a, b, rfl⟩
    obtain ⟨x, hx, rfl⟩ := numD_at hd
    obtain ⟨E, e⟩ := hb pre.length x hx hbad
    refine ⟨_, _, hg a b pre.length x, e, ?_⟩
    have hl := (List.getElem?_eq_some_iff.mp hx).1
    cases hk : bad pre.length with
    | true =>
      have hf := first_some hl hk hbad
      rw [if_pos rfl]
      cases ho : out pre.length with
      | inl x =>
        show SrchS (firstBad bad l.length) l.length env out (R.ex x E)
        rw [hf]
        exact ⟨E, by rw [ho]; rfl⟩
      | inr v =>
        show SrchS (firstBad bad l.length) l.length env out (R.ok (Fl.rt v) E)
        rw [hf]
        exact ⟨E, by rw [ho]; rfl⟩
    | false =>
      rw [if_neg Bool.false_ne_true]
      refine ⟨fun m hm => ?_, .val (.int (pre.length : Int)), .val x, ?_⟩
      · rw [List.length_append, List.length_singleton] at hm
        by_cases h : m < pre.length
        · exact hbad m h
        · rw [show m = pre.length by omega]; exact hk
      · rw [List.length_append, List.length_singleton]
  · rintro E ⟨h, a', b', rfl⟩
    rw [numD_len] at h
    rw [first_none h, numD_len]
    exact ⟨a', b', rfl⟩
/-! ### dicts by stores -/
theorem valZ_nil {k : Key} : valZ ([] : List Key) ([] : List D) k = none := rfl
theorem valZ_app {k k' : Key} {v : D} : ∀ {ks : List Key} {l : List D}, ks.length = l.length → valZ (ks ++ [k]) (l ++ [v]) k' = (match valZ ks l k' with | some x => some x | none => if k = k' then some v else none)
  | [], [], _ => by
    show valZ (k :: []) (v :: []) k' = _
    rw [valZ_cons]
    rfl
  | a :: ks, x :: l, h => by
    show valZ (a :: (ks ++ [k])) (x :: (l ++ [v])) k' = _
    rw [valZ_cons, valZ_cons, valZ_app (Nat.succ.inj h)]
    by_cases e : a = k'
    · rw [if_pos e, if_pos e]
    · rw [if_neg e, if_neg e]
  | [], _ :: _, h => by cases h
  | _ :: _, [], h => by cases h
theorem valZ_set {k k' : Key} {v : D} : ∀ {ks : List Key} {l : List D}, ks.length = l.length → k ∈ ks → valZ ks (setZ k v ks l) k' = if k = k' then some v else valZ ks l k'
  | [], [], _, h => by cases h
  | a :: ks, x :: l, h, hm => by
    rw [setZ, valZ_cons, valZ_cons]
    by_cases e : a = k
    · subst e
      rw [if_pos rfl]
      by_cases e2 : a = k'
      · rw [if_pos e2, if_pos e2]
      · rw [if_neg e2, if_neg e2, if_neg e2]
        have key : ∀ {ks : List Key} {l : List D}, ks.length = l.length → valZ ks (setZ a v ks l) k' = valZ ks l k' := by
          intro ks
          induction ks with
          | nil => intro l h; cases l with
            | nil => rfl
            | cons _ _ => cases h
          | cons b ks ih => intro l h; cases l with
            | nil => cases h
            | cons y l =>
              rw [setZ, valZ_cons, valZ_cons, ih (Nat.succ.inj h)]
              by_cases e3 : b = k'
              · rw [if_pos e3, if_pos e3, if_neg (fun z => e2 (z.symm.trans e3))]
              · rw [if_neg e3, if_neg e3]
        exact key (Nat.succ.inj h)
    · rw [if_neg e]
      have hm' : k ∈ ks := by
        rcases List.mem_cons.mp hm with z | z
        · exact absurd z.symm e
        · exact z
      rw [valZ_set (Nat.succ.inj h) hm']
      by_cases e2 : a = k'
      · rw [if_pos e2, if_pos e2, if_neg (fun z => e (e2.trans z.symm))]
      · rw [if_neg e2, if_neg e2]
  | [], _ :: _, h, _ => by cases h
  | _ :: _, [], h, _ => by cases h
theorem valZ_out {k : Key} : ∀ {ks : List Key} {l : List D}, k ∉ ks → valZ ks l k = none
  | [], _, _ => by unfold valZ; simp
  | a :: ks, [], _ => by unfold valZ; simp
  | a :: ks, x :: l, h => by
    rw [List.mem_cons, not_or] at h
    rw [valZ_cons, if_neg (fun z => h.1 z.symm), valZ_out h.2]
theorem putZ_len {ks : List Key} {l : List D} {k : Key} {v : D} (h : ks.length = l.length) : (putZ ks l k v).1.length = (putZ ks l k v).2.length ∧ (putZ ks l k v).2.length ≤ l.length + 1 := by
  unfold putZ
  split
  · exact ⟨by rw [setZ_len h]; exact h, by rw [setZ_len h]; omega⟩
  · exact ⟨by simp [h], by simp⟩
theorem valZ_put {ks : List Key} {l : List D} {k k' : Key} {v : D} (h : ks.length = l.length) : valZ (putZ ks l k v).1 (putZ ks l k v).2 k' = if k = k' then some v else valZ ks l k' := by
  unfold putZ
  by_cases hm : k ∈ ks
  · rw [if_pos (List.any_eq_true.mpr ⟨k, hm, decide_eq_true rfl⟩)]
    exact valZ_set h hm
  · rw [if_neg]
    · dsimp only
      rw [valZ_app h]
      by_cases e : k = k'
      · subst e
        rw [valZ_out hm, if_pos rfl]
      · rw [if_neg e]
        cases valZ ks l k' <;> simp [e]
    · intro z
      obtain ⟨a, h1, h2⟩ := List.any_eq_true.mp z
      have := of_decide_eq_true h2
      subst this
      exact hm h1
/-- stores one behind the other -/
theorem foldZ_app {α : Type} (l : List (Key × α)) (p : Key × α) (a : List Key × List α) : foldZ (l ++ [p]) a = putZ (foldZ l a).1 (foldZ l a).2 p.1 p.2 := by
  induction l generalizing a with
  | nil => rfl
  | cons q l ih => show foldZ (l ++ [p]) (putZ a.1 a.2 q.1 q.2) = _; rw [ih]; rfl
theorem foldZ_len (l : List (Key × D)) : (foldZ l ([], [])).1.length = (foldZ l ([], [])).2.length ∧ (foldZ l ([], [])).2.length ≤ l.length := by
  have key : ∀ (l : List (Key × D)) (a : List Key × List D), a.1.length = a.2.length → (foldZ l a).1.length = (foldZ l a).2.length ∧ (foldZ l a).2.length ≤ a.2.length + l.length := by
    intro l
    induction l with
    | nil => intro a h; exact ⟨h, Nat.le_refl _⟩
    | cons p l ih =>
      intro a h
      obtain ⟨h1, h2⟩ := putZ_len (k := p.1) (v := p.2) h
      obtain ⟨h3, h4⟩ := ih (putZ a.1 a.2 p.1 p.2) h1
      refine ⟨h3, ?_⟩
      show (foldZ l (putZ a.1 a.2 p.1 p.2)).2.length ≤ a.2.length + (l.length + 1)
      omega
  obtain ⟨h1, h2⟩ := key l ([], []) rfl
  exact ⟨h1, by simpa using h2⟩
end Wu

/-! Edits and states: what need_state tells. -/
namespace Law
open PySem PySem.Spec PyProof.Rows L2 Wu He
def ageD : D → Int
  | .nd .tup [.int a, _] => a
  | _ => 0
def partD : D → Str
  | .nd .tup [_, .str p] => p
  | _ => ""
def isEd (ps : List Str) : D → Bool
  | .nd .tup [.int a, .str p] => (decide (0 ≤ a) && decide (a ≤ 999)) && decide (p ∈ ps)
  | _ => false
theorem isEd_inv {ps : List Str} {d : D} (h : isEd ps d = true) : ∃ a p, d = .nd .tup [.int a, .str p] ∧ 0 ≤ a ∧ a ≤ 999 ∧ p ∈ ps := by
  unfold isEd at h
  split at h
  · rename_i a p
    simp only [Bool.and_eq_true, decide_eq_true_eq] at h
    exact ⟨a, p, rfl, h.1.1, h.1.2, h.2⟩
  · cases h
theorem isEd_form {ps : List Str} {d : D} (h : isEd ps d = true) : d = .nd .tup [.int (ageD d), .str (partD d)] := by
  obtain ⟨a, p, rfl, _⟩ := isEd_inv h
  rfl
/-- whether an edit stands well behind others -/
def swB (e : D) (done undone : List D) (isd : Bool) : Bool :=
  !((done ++ undone).any fun o => decide (ageD o = ageD e)) && (!(done.any fun o => decide (partD o = partD e) && decide (ageD e < ageD o)) && (isd || !(undone.any fun o => decide (partD o = partD e) && decide (ageD o < ageD e))))
def isBl : D → Bool
  | .bl _ => true
  | _ => false
def isIntD : D → Bool
  | .int _ => true
  | .bl _ => true
  | _ => false
theorem isi_int (d : D) (h : d.fine = true) : pIsi .int d = some (.bl (isIntD d)) := by
  cases d with
  | nd k l => cases k <;> first | rfl | cases h
  | _ => rfl
theorem isi_bool (d : D) (h : d.fine = true) : pIsi .bool d = some (.bl (isBl d)) := by
  cases d with
  | nd k l => cases k <;> first | rfl | cases h
  | _ => rfl
def okAge : D → Bool
  | .int a => decide (0 ≤ a) && decide (a ≤ 999)
  | _ => false
theorem is_integer_ok (d : D) (h : d.fine = true) : f_is_integer [.v d, .v (.int 0), .v (.int 999)] = .ok (.bl (okAge d)) [.v d, .v (.int 0), .v (.int 999)] := by
  refine sem_rt (ds := [d, .int 0, .int 999]) (E := [.val d, .val (.int 0), .val (.int 999)]) ?_
  show m_is_integer [.val d, .val (.int 0), .val (.int 999)] = _
  have h1 := isi_int d h
  have h2 := isi_bool d h
  unfold m_is_integer
  cases d with
  | int a =>
    simp only [ev_sRet, ev_andV, ev_isi, ev_v0, ev_bok, h1, isIntD, ev_some, ev_andK, if_true, ev_notV, h2, isBl, ev_notK, Bool.not_false, ev_chain, ev_v1, ev_bnd, pLe_int, ev_chK]
    by_cases k : 0 ≤ a
    · simp [k, okAge]
    · simp [k, okAge]
  | bl b => simp [h1, h2, isIntD, isBl, okAge]
  | _ => simp [h1, isIntD, okAge]
theorem call3_ok {f : Sm} {a b c : M D} {E E1 E2 E3 : Env'} {x y z d : D} (ha : a E = .ok x E1) (hb : b E1 = .ok y E2) (hc : c E2 = .ok z E3) (hf : f [.v x, .v y, .v z] = .ok d [.v x, .v y, .v z]) : mCall 3 f (mrE a (mrE b (mrE c mrNil))) E = .ok d E3 := by
  have e : mrE a (mrE b (mrE c mrNil)) E = .ok ([x, y, z].map Sum.inl) E3 := by
    simp only [ev_mrE, ha, ev_bok, ev_bnd, hb, hc, ev_mrNil, ev_ret]; rfl
  unfold mCall
  rw [M.bnd_ok e, gather_v, rOk_v]
  simp only [List.length_map, List.length_cons, List.length_nil, Bool.true_and, beq_self_eq_true, if_true, Nat.reduceAdd]
  show (match f [.v x, .v y, .v z] with | .ok d as' => _ | .ex x as' => _ | .bad => _) = _
  rw [hf]
  dsimp only
  rw [if_pos (show shapes ([x, y, z].map Sum.inl) [Ag.v x, Ag.v y, Ag.v z] = true from rfl), scat_v (by intro q hq; simp at hq; rcases hq with rfl | rfl | rfl <;> exact ⟨_, rfl⟩)]
theorem call4_ok {f : Sm} {a b c g : M D} {E E1 E2 E3 E4 : Env'} {x y z u d : D} (ha : a E = .ok x E1) (hb : b E1 = .ok y E2) (hc : c E2 = .ok z E3) (hg : g E3 = .ok u E4) (hf : f [.v x, .v y, .v z, .v u] = .ok d [.v x, .v y, .v z, .v u]) : mCall 4 f (mrE a (mrE b (mrE c (mrE g mrNil)))) E = .ok d E4 := by
  have e : mrE a (mrE b (mrE c (mrE g mrNil))) E = .ok ([x, y, z, u].map Sum.inl) E4 := by
    simp only [ev_mrE, ha, ev_bok, ev_bnd, hb, hc, hg, ev_mrNil, ev_ret]; rfl
  unfold mCall
  rw [M.bnd_ok e, gather_v, rOk_v]
  simp only [List.length_map, List.length_cons, List.length_nil, Bool.true_and, beq_self_eq_true, if_true, Nat.reduceAdd]
  show (match f [.v x, .v y, .v z, .v u] with | .ok d as' => _ | .ex x as' => _ | .bad => _) = _
  rw [hf]
  dsimp only
  rw [if_pos (show shapes ([x, y, z, u].map Sum.inl) [Ag.v x, Ag.v y, Ag.v z, Ag.v u] = true from rfl), scat_v (by intro q hq; simp at hq; rcases hq with rfl | rfl | rfl | rfl <;> exact ⟨_, rfl⟩)]
section
variable {ps : List Str} {ws : List (Str × List Str)}
theorem is_edit_ok (F : Frm ps ws) (d : D) (h : d.fine = true) : f_is_edit [.v (vwD ps ws), .v d] = .ok (.bl (isEd ps d)) [.v (vwD ps ws), .v d] := by
  refine sem_rt (ds := [vwD ps ws, d]) (E := [.val (vwD ps ws), .val d]) ?_
  show m_is_edit [.val (vwD ps ws), .val d] = _
  have ht := fine_isi_tup d h
  by_cases hd : ∃ x y, d = .nd .tup [x, y]
  · obtain ⟨x, y, rfl⟩ := hd
    have fx : x.fine = true := fineL_mem h x (by simp)
    have fy : y.fine = true := fineL_mem h y (by simp)
    have c : mCall 3 f_is_integer (mrE (mOp pIxA (mVar 1) (mC (.int 0))) (mrE (mC (.int 0)) (mrE (mC (.int 999)) (mrNil)))) [.val (vwD ps ws), .val (.nd .tup [x, y])] = .ok (.bl (okAge x)) [.val (vwD ps ws), .val (.nd .tup [x, y])] := call3_ok (x := x) rfl rfl rfl (is_integer_ok x fx)
    have ef : mFld "Views" "part_windows" (mVar 0) [.val (vwD ps ws), .val (.nd .tup [x, y])] = .ok (.nd (.dct (ps.map ky)) (ps.map fun p => .nd .tup (sds (winsOf ws p)))) [.val (vwD ps ws), .val (.nd .tup [x, y])] := ev_fld rfl fld_pw
    have i1 : (mOp pIxA (mVar 1) (mC (.int 1))) [.val (vwD ps ws), .val (.nd .tup [x, y])] = .ok y [.val (vwD ps ws), .val (.nd .tup [x, y])] := rfl
    have l2 : pNe (.int (([x, y] : List D).length : Int)) (.int 2) = some (.bl false) := rfl
    unfold m_is_edit
    simp only [ev_sSeq, ev_sIf, ev_or, ev_not, ev_test, ev_isi, ev_v1, ev_bok, ht, isTup_tup, ev_some, ev_tst, ev_ret, Bool.not_true, ev_ite, Bool.false_eq_true, if_false, ev_op pNe, ev_fn, ev_cons, ev_nil, ev_bnd, pLen_tup, ev_c, l2, c]
    cases ha : okAge x with
    | false =>
      have hn : isEd ps (.nd .tup [x, y]) = false := by
        cases x with
        | int a =>
          cases y with
          | str p =>
            show ((decide (0 ≤ a) && decide (a ≤ 999)) && decide (p ∈ ps)) = false
            rw [show (decide (0 ≤ a) && decide (a ≤ 999)) = false from ha]; rfl
          | _ => rfl
        | _ => rfl
      rw [hn]
      simp
    | true =>
      obtain ⟨a, rfl⟩ : ∃ a, x = .int a := by
        cases x with
        | int a => exact ⟨a, rfl⟩
        | _ => cases ha
      have hy := isi_str y fy
      simp only [Bool.not_true, Bool.false_eq_true, if_false, ev_sNil, ev_sqnx, ev_sRet, ev_andV, ev_isi, i1, ev_bok, hy, ev_some, ev_andK]
      cases hs : y.isStr with
      | false =>
        have hn : isEd ps (.nd .tup [.int a, y]) = false := by
          cases y with
          | str p => cases hs
          | _ => rfl
        rw [hn]
        simp
      | true =>
        obtain ⟨p, rfl⟩ : ∃ p, y = .str p := by
          cases y with
          | str p => exact ⟨p, rfl⟩
          | _ => cases hs
        have hx := pw_in F p
        simp only [if_true, ev_op (pInA false), i1, ev_bok, ev_bnd, ef, hx, ev_some]
        show _ = R.ok (Fl.rt (.bl ((decide (0 ≤ a) && decide (a ≤ 999)) && decide (p ∈ ps)))) _
        rw [show (decide (0 ≤ a) && decide (a ≤ 999)) = true from ha, Bool.true_and]
  · have hn : isEd ps d = false := by
      cases hq : isEd ps d with
      | false => rfl
      | true => obtain ⟨a, p, rfl, _⟩ := isEd_inv hq; exact absurd ⟨_, _, rfl⟩ hd
    rw [hn]
    unfold m_is_edit
    by_cases ht2 : ∃ l, d = .nd .tup l
    · obtain ⟨l, rfl⟩ := ht2
      have hl : ¬ ((l.length : Int) = 2) := fun z => by
        have : l.length = 2 := by omega
        match l, this with
        | [x, y], _ => exact hd ⟨x, y, rfl⟩
      simp [ht, isTup_tup, hl]
    · simp [ht, isTup_no ht2]
/-! ### an edit behind others -/
def edL (ps : List Str) (l : List D) : Prop := ∀ d ∈ l, isEd ps d = true
theorem any_filter (l : List D) (f g : D → Bool) : (l.filter f).any g = l.any fun x => f x && g x := by
  induction l with
  | nil => rfl
  | cons x l ih =>
    rw [List.filter_cons, List.any_cons]
    cases hf : f x with
    | true => rw [if_pos rfl, List.any_cons, ih, Bool.true_and]
    | false => rw [if_neg Bool.false_ne_true, ih, Bool.false_and, Bool.false_or]
theorem stands_well_ok {e : D} {done undone : List D} {b : Bool} (he : isEd ps e = true) (hd : edL ps done) (hu : edL ps undone) (h1 : done.length ≤ 1000) (h2 : undone.length ≤ 1000) :
    f_stands_well [.v e, .v (.nd .tup done), .v (.nd .tup undone), .v (.bl b)] = .ok (.bl (swB e done undone b)) [.v e, .v (.nd .tup done), .v (.nd .tup undone), .v (.bl b)] := by
  obtain ⟨a, p, rfl, _, _, _⟩ := isEd_inv he
  refine sem_rt (ds := [.nd .tup [.int a, .str p], .nd .tup done, .nd .tup undone, .bl b]) (E := [.val (.nd .tup [.int a, .str p]), .val (.nd .tup done), .val (.nd .tup undone), .val (.bl b), .und]) ?_
  show m_stands_well [.val (.nd .tup [.int a, .str p]), .val (.nd .tup done), .val (.nd .tup undone), .val (.bl b), .und] = _
  have i0 : (mOp pIxA (mVar 0) (mC (.int 0))) [.val (.nd .tup [.int a, .str p]), .val (.nd .tup done), .val (.nd .tup undone), .val (.bl b), .und] = .ok (.int a) [.val (.nd .tup [.int a, .str p]), .val (.nd .tup done), .val (.nd .tup undone), .val (.bl b), .und] := rfl
  have ad : pAdd (.nd .tup done) (.nd .tup undone) = some (.nd .tup (done ++ undone)) := if_pos (Nat.le_trans (show done.length + undone.length ≤ 2000 by omega) (by decide))
  have e1 := lc_of (mi := mSeq (mOp pAdd (mVar 1) (mVar 2))) (i := 4) (t := mYes) (m := mOp pIxA (mVar 4) (mC (.int 0))) (E := [.val (.nd .tup [.int a, .str p]), .val (.nd .tup done), .val (.nd .tup undone), .val (.bl b), .und]) (ds := done ++ undone) (fun _ => true) (fun o => .int (ageD o))
    (by simp only [ev_seq, ev_op, ev_v1, ev_bok, ev_bnd, ev_v2, ad, ev_some, items_tup]) rfl (Nat.le_trans (show (done ++ undone).length ≤ 2000 by rw [List.length_append]; omega) (by decide)) (fun d _ => rfl) (fun d hd' _ => by
      have hed : isEd ps d = true := (List.mem_append.mp hd').elim (hd d) (hu d)
      obtain ⟨a', p', rfl, _⟩ := isEd_inv hed
      rfl)
  rw [List.filter_eq_self.mpr (fun _ _ => rfl)] at e1
  have lcE : ∀ (l : List D) (ix : Nat) (hix : ix = 1 ∨ ix = 2) (op : D → D → Option D) (f : D → Bool), edL ps l → l.length ≤ 1000 → ([.val (.nd .tup [.int a, .str p]), .val (.nd .tup done), .val (.nd .tup undone), .val (.bl b), .und] : Env')[ix]? = some (.val (.nd .tup l)) → (∀ o ∈ l, op (.int a) (.int (ageD o)) = some (.bl (f o))) →
      (mFn pAny (mCons (mLc (mSeq (mVar ix)) (gN 4) (mTest (mOp pEq (mOp pIxA (mVar 4) (mC (.int 1))) (mOp pIxA (mVar 0) (mC (.int 1))))) (mOp op (mOp pIxA (mVar 0) (mC (.int 0))) (mOp pIxA (mVar 4) (mC (.int 0)))) [4]) (mNil))) [.val (.nd .tup [.int a, .str p]), .val (.nd .tup done), .val (.nd .tup undone), .val (.bl b), .und]
        = .ok (.bl (l.any fun o => decide (partD o = p) && f o)) [.val (.nd .tup [.int a, .str p]), .val (.nd .tup done), .val (.nd .tup undone), .val (.bl b), .und] := by
    intro l ix hix op f hl hlen hv hop
    have e := lc_of (mi := mSeq (mVar ix)) (i := 4) (t := mTest (mOp pEq (mOp pIxA (mVar 4) (mC (.int 1))) (mOp pIxA (mVar 0) (mC (.int 1))))) (m := mOp op (mOp pIxA (mVar 0) (mC (.int 0))) (mOp pIxA (mVar 4) (mC (.int 0)))) (E := [.val (.nd .tup [.int a, .str p]), .val (.nd .tup done), .val (.nd .tup undone), .val (.bl b), .und]) (ds := l) (fun o => decide (partD o = p)) (fun o => .bl (f o))
      (by rw [ev_seq, ev_var hv]; rfl) rfl (size_big hlen) (fun d hd' => by
        obtain ⟨a', p', rfl, _⟩ := isEd_inv (hl d hd')
        show (mTest (mOp pEq (mOp pIxA (mVar 4) (mC (.int 1))) (mOp pIxA (mVar 0) (mC (.int 1))))) [.val (.nd .tup [.int a, .str p]), .val (.nd .tup done), .val (.nd .tup undone), .val (.bl b), .val (.nd .tup [.int a', .str p'])] = .ok (decide (p' = p)) [.val (.nd .tup [.int a, .str p]), .val (.nd .tup done), .val (.nd .tup undone), .val (.bl b), .val (.nd .tup [.int a', .str p'])]
        simp) (fun d hd' _ => by
        have ho := hop d hd'
        obtain ⟨a', p', rfl, _⟩ := isEd_inv (hl d hd')
        show (mOp op (mOp pIxA (mVar 0) (mC (.int 0))) (mOp pIxA (mVar 4) (mC (.int 0)))) [.val (.nd .tup [.int a, .str p]), .val (.nd .tup done), .val (.nd .tup undone), .val (.bl b), .val (.nd .tup [.int a', .str p'])] = .ok _ [.val (.nd .tup [.int a, .str p]), .val (.nd .tup done), .val (.nd .tup undone), .val (.bl b), .val (.nd .tup [.int a', .str p'])]
        have ho' : op (.int a) (.int a') = some (.bl (f (.nd .tup [.int a', .str p']))) := ho
        simp [ho'])
    simp only [ev_fn, ev_cons, e, ev_bok, ev_bnd, ev_nil, ev_ret, pAny_map, ev_some, any_filter]
  have q1 := lcE done 1 (.inl rfl) pLt (fun o => decide (a < ageD o)) hd h1 rfl (fun o _ => rfl)
  have q2 := lcE undone 2 (.inr rfl) pGt (fun o => decide (ageD o < a)) hu h2 rfl (fun o _ => rfl)
  unfold m_stands_well
  simp only [ev_sSeq, ev_sIf, ev_test, ev_op (pInA false), i0, ev_bok, ev_bnd, e1, pIn_ints, ev_some, ev_tst]
  show _ = R.ok (Fl.rt (.bl (!((done ++ undone).any fun o => decide (ageD o = a)) && (!(done.any fun o => decide (partD o = p) && decide (a < ageD o)) && (b || !(undone.any fun o => decide (partD o = p) && decide (ageD o < a))))))) _
  cases (done ++ undone).any fun o => decide (ageD o = a) with
  | true => simp
  | false =>
    simp only [Bool.false_eq_true, if_false, ev_ite, ev_sNil, ev_sqnx, ev_sSeq, ev_sIf, ev_test, q1, ev_bok, ev_tst]
    cases done.any fun o => decide (partD o = p) && decide (a < ageD o) with
    | true => simp
    | false =>
      simp only [Bool.false_eq_true, if_false, ev_ite, ev_sNil, ev_sqnx, ev_sRet, ev_orV, ev_v3, ev_bok, ev_orK, ev_notV, q2, ev_notK]
      cases b with
      | true => simp
      | false => simp
/-! ### a state -/
def badDone (ps : List Str) (ds : List D) (k : Nat) : Bool := match ds[k]? with
  | some d => !isEd ps d || !swB d (ds.take k) [] true
  | none => true
def badUnd (ps : List Str) (ds us : List D) (k : Nat) : Bool := match us[k]? with
  | some d => !isEd ps d || !swB d ds (us.take k) false
  | none => true
def BS (p : D) : Exn := ⟨"BadState", ["place"], [p]⟩
theorem done_take {ds : List D} {k : Nat} (h : ∀ m, m < k → badDone ps ds m = false) : edL ps (ds.take k) := by
  intro d hd
  obtain ⟨i, hi, rfl⟩ := List.getElem_of_mem hd
  rw [List.length_take] at hi
  have hb := h i (by omega)
  unfold badDone at hb
  rw [List.getElem?_eq_getElem (by omega)] at hb
  rw [List.getElem_take]
  cases hq : isEd ps ds[i] with
  | true => rfl
  | false => dsimp only at hb; rw [hq] at hb; cases hb
theorem und_take {ds us : List D} {k : Nat} (h : ∀ m, m < k → badUnd ps ds us m = false) : edL ps (us.take k) := by
  intro d hd
  obtain ⟨i, hi, rfl⟩ := List.getElem_of_mem hd
  rw [List.length_take] at hi
  have hb := h i (by omega)
  unfold badUnd at hb
  rw [List.getElem?_eq_getElem (by omega)] at hb
  rw [List.getElem_take]
  cases hq : isEd ps us[i] with
  | true => rfl
  | false => dsimp only at hb; rw [hq] at hb; cases hb
theorem ng1_ok (F : Frm ps ws) {th w : D} {ds : List D} {k : Nat} {d : D} (hf : fineL ds = true) (hl : ds.length ≤ 40) (h : ds[k]? = some d) (hb : ∀ m, m < k → badDone ps ds m = false) :
    m_need_good_b1 [.val (vwD ps ws), .val th, .val (.nd .tup ds), .val w, .val (.int (k : Int)), .val d] = if badDone ps ds k then .ex (BS (place "done" k)) [.val (vwD ps ws), .val th, .val (.nd .tup ds), .val w, .val (.int (k : Int)), .val d] else .ok .nx [.val (vwD ps ws), .val th, .val (.nd .tup ds), .val w, .val (.int (k : Int)), .val d] := by
  have hd : d.fine = true := fineL_mem hf d (List.mem_of_getElem? h)
  have c1 : mCall 2 f_is_edit (mrE (mVar 0) (mrE (mVar 5) (mrNil))) [.val (vwD ps ws), .val th, .val (.nd .tup ds), .val w, .val (.int (k : Int)), .val d] = .ok (.bl (isEd ps d)) [.val (vwD ps ws), .val th, .val (.nd .tup ds), .val w, .val (.int (k : Int)), .val d] := call2_ok rfl rfl (is_edit_ok F d hd)
  have hbk : badDone ps ds k = (!isEd ps d || !swB d (ds.take k) [] true) := by unfold badDone; rw [h]
  rw [hbk]
  unfold m_need_good_b1
  simp only [ev_sIf, ev_or, ev_not, ev_test, c1, ev_bok, ev_tst, ev_ret]
  cases hn : isEd ps d with
  | false => simp [BS, place]
  | true =>
    have c2 : mCall 4 f_stands_well (mrE (mVar 5) (mrE (mSl (mVar 2) none (some (mVar 4))) (mrE (mFn pTup (mNil)) (mrE (mC (.bl true)) (mrNil))))) [.val (vwD ps ws), .val th, .val (.nd .tup ds), .val w, .val (.int (k : Int)), .val d] = .ok (.bl (swB d (ds.take k) [] true)) [.val (vwD ps ws), .val th, .val (.nd .tup ds), .val w, .val (.int (k : Int)), .val d] :=
      call4_ok (x := d) (y := .nd .tup (ds.take k)) (z := .nd .tup []) (u := .bl true) rfl (by simp) rfl rfl (stands_well_ok hn (done_take hb) (fun _ z => by cases z) (by rw [List.length_take]; omega) (by simp))
    simp only [Bool.not_true, Bool.false_eq_true, if_false, ev_ite, ev_not, ev_test, c2, ev_bok, ev_tst, ev_ret, Bool.false_or]
    cases swB d (ds.take k) [] true with
    | true => simp
    | false => simp [BS, place]
theorem ng2_ok (F : Frm ps ws) {th : D} {ds us : List D} {k : Nat} {d : D} (hf : fineL us = true) (hl : ds.length + us.length ≤ 40) (hds : edL ps ds) (h : us[k]? = some d) (hb : ∀ m, m < k → badUnd ps ds us m = false) :
    m_need_good_b2 [.val (vwD ps ws), .val th, .val (.nd .tup ds), .val (.nd .tup us), .val (.int (k : Int)), .val d] = if badUnd ps ds us k then .ex (BS (place "undone" k)) [.val (vwD ps ws), .val th, .val (.nd .tup ds), .val (.nd .tup us), .val (.int (k : Int)), .val d] else .ok .nx [.val (vwD ps ws), .val th, .val (.nd .tup ds), .val (.nd .tup us), .val (.int (k : Int)), .val d] := by
  have hd : d.fine = true := fineL_mem hf d (List.mem_of_getElem? h)
  have c1 : mCall 2 f_is_edit (mrE (mVar 0) (mrE (mVar 5) (mrNil))) [.val (vwD ps ws), .val th, .val (.nd .tup ds), .val (.nd .tup us), .val (.int (k : Int)), .val d] = .ok (.bl (isEd ps d)) [.val (vwD ps ws), .val th, .val (.nd .tup ds), .val (.nd .tup us), .val (.int (k : Int)), .val d] := call2_ok rfl rfl (is_edit_ok F d hd)
  have hbk : badUnd ps ds us k = (!isEd ps d || !swB d ds (us.take k) false) := by unfold badUnd; rw [h]
  rw [hbk]
  unfold m_need_good_b2
  simp only [ev_sIf, ev_or, ev_not, ev_test, c1, ev_bok, ev_tst, ev_ret]
  cases hn : isEd ps d with
  | false => simp [BS, place]
  | true =>
    have c2 : mCall 4 f_stands_well (mrE (mVar 5) (mrE (mVar 2) (mrE (mSl (mVar 3) none (some (mVar 4))) (mrE (mC (.bl false)) (mrNil))))) [.val (vwD ps ws), .val th, .val (.nd .tup ds), .val (.nd .tup us), .val (.int (k : Int)), .val d] = .ok (.bl (swB d ds (us.take k) false)) [.val (vwD ps ws), .val th, .val (.nd .tup ds), .val (.nd .tup us), .val (.int (k : Int)), .val d] :=
      call4_ok (x := d) (y := .nd .tup ds) (z := .nd .tup (us.take k)) (u := .bl false) rfl rfl (by simp) rfl (stands_well_ok hn hds (und_take hb) (by omega) (by rw [List.length_take]; omega))
    simp only [Bool.not_true, Bool.false_eq_true, if_false, ev_ite, ev_not, ev_test, c2, ev_bok, ev_tst, ev_ret, Bool.false_or]
    cases swB d ds (us.take k) false with
    | true => simp
    | false => simp [BS, place]
end
def stErr (ps : List Str) (d : D) : Option D := match d with
  | .nd .tup [.nd .tup ds, .nd .tup us] => if ds.length + us.length ≤ 40 then
      match firstBad (badDone ps ds) ds.length with
      | some k => some (place "done" k)
      | none => match firstBad (badUnd ps ds us) us.length with
        | some k => some (place "undone" k)
        | none => none
    else some (.nd .tup [])
  | _ => some (.nd .tup [])
theorem st_shape {ps : List Str} {d : D} (h : ∀ ds us, d ≠ .nd .tup [.nd .tup ds, .nd .tup us]) : stErr ps d = some (.nd .tup []) := by
  unfold stErr
  split
  · exact absurd rfl (h _ _)
  · rfl
end Law

/-! States: what need_state tells. -/
namespace Law
open PySem PySem.Spec PyProof.Rows L2 Wu He
def stR (ps : List Str) (v d : D) : Rz := match stErr ps d with
  | none => .ok d [.v v, .v d]
  | some p => .ex (BS p) [.v v, .v d]
section
variable {ps : List Str} {ws : List (Str × List Str)}
theorem need_good_ok (F : Frm ps ws) (d : D) (h : d.fine = true) : f_need_good [.v (vwD ps ws), .v d] = stR ps (vwD ps ws) d := by
  have raise0 : ∀ {E : Env'}, m_need_good (env0 6 [.v (vwD ps ws), .v d]) = .ex (BS (.nd .tup [])) E → stErr ps d = some (.nd .tup []) → f_need_good [.v (vwD ps ws), .v d] = stR ps (vwD ps ws) d := by
    intro E e hs
    unfold stR
    rw [hs]
    exact sem_ex (ds := [vwD ps ws, d]) e
  have ht := fine_isi_tup d h
  by_cases hd : ∃ x y, d = .nd .tup [x, y]
  · obtain ⟨x, y, rfl⟩ := hd
    have fx : x.fine = true := fineL_mem h x (by simp)
    have fy : y.fine = true := fineL_mem h y (by simp)
    have tx := fine_isi_tup x fx
    have ty := fine_isi_tup y fy
    have i0 : ∀ {r : Env'}, (mOp pIxA (mVar 1) (mC (.int 0))) (.val (vwD ps ws) :: .val (.nd .tup [x, y]) :: r) = .ok x (.val (vwD ps ws) :: .val (.nd .tup [x, y]) :: r) := fun {r} => rfl
    have i1 : ∀ {r : Env'}, (mOp pIxA (mVar 1) (mC (.int 1))) (.val (vwD ps ws) :: .val (.nd .tup [x, y]) :: r) = .ok y (.val (vwD ps ws) :: .val (.nd .tup [x, y]) :: r) := fun {r} => rfl
    have l2 : pNe (.int (([x, y] : List D).length : Int)) (.int 2) = some (.bl false) := rfl
    by_cases hx : ∃ ds, x = .nd .tup ds
    · obtain ⟨ds, rfl⟩ := hx
      by_cases hy : ∃ us, y = .nd .tup us
      · obtain ⟨us, rfl⟩ := hy
        have fds : fineL ds = true := fx
        have fus : fineL us = true := fy
        by_cases hl : ds.length + us.length ≤ 40
        · have hl' : ¬ ((40 : Int) < (ds.length : Int) + (us.length : Int)) := by omega
          have eE : ∀ r, (sqK (sSeq (sFor (mEnum (mVar 3)) (gT [4, 5]) m_need_good_b2) (sRet (mVar 1))) (loopD (gT [4, 5]) m_need_good_b1 (numD ds) [.val (vwD ps ws), .val (.nd .tup [.nd .tup ds, .nd .tup us]), .val (.nd .tup ds), .val (.nd .tup us), .und, .und])) = r → m_need_good (env0 6 [.v (vwD ps ws), .v (.nd .tup [.nd .tup ds, .nd .tup us])]) = r := by
            intro r e
            rw [← e]
            show m_need_good [.val (vwD ps ws), .val (.nd .tup [.nd .tup ds, .nd .tup us]), .und, .und, .und, .und] = _
            unfold m_need_good
            simp only [ev_sSeq, ev_sIf, ev_or, ev_not, ev_test, ev_isi, ev_v1, ev_bok, ht, isTup_tup, ev_some, ev_tst, ev_ret, Bool.not_true, ev_ite, Bool.false_eq_true, if_false, ev_op pNe, ev_fn, ev_cons, ev_nil, ev_bnd, pLen_tup, ev_c, l2, i0, i1, tx, ty, ev_op pGt, ev_op pAdd, pAdd_int, pGt_int, hl', decide_false, ev_sNil, ev_sqnx, ev_sAsg, asK_of (show gT [2, 3] (.nd .tup [.nd .tup ds, .nd .tup us]) [.val (vwD ps ws), .val (.nd .tup [.nd .tup ds, .nd .tup us]), .und, .und, .und, .und] = some [.val (vwD ps ws), .val (.nd .tup [.nd .tup ds, .nd .tup us]), .val (.nd .tup ds), .val (.nd .tup us), .und, .und] from rfl), ev_sFor, ev_enum, ev_v2, pEnum_tup]
          have s1 := enum_first (l := ds) (i := 4) (j := 5) (body := m_need_good_b1) (bad := badDone ps ds) (env := fun a b => [.val (vwD ps ws), .val (.nd .tup [.nd .tup ds, .nd .tup us]), .val (.nd .tup ds), .val (.nd .tup us), a, b]) (out := fun k => .inl (BS (place "done" k))) (fun _ _ _ _ => rfl) (fun k d hd hb => ⟨_, ng1_ok F fds (by omega) hd hb⟩) .und .und
          have hF : stErr ps (.nd .tup [.nd .tup ds, .nd .tup us]) = (match firstBad (badDone ps ds) ds.length with
              | some k => some (place "done" k)
              | none => match firstBad (badUnd ps ds us) us.length with
                | some k => some (place "undone" k)
                | none => none) := by
            show (if ds.length + us.length ≤ 40 then _ else _) = _
            exact if_pos hl
          cases hb : firstBad (badDone ps ds) ds.length with
          | some k =>
            rw [hb] at s1 hF
            obtain ⟨E, e⟩ := s1
            unfold stR
            rw [hF]
            exact sem_ex (ds := [vwD ps ws, .nd .tup [.nd .tup ds, .nd .tup us]]) (eE (.ex (BS (place "done" k)) E) (by rw [e]; rfl))
          | none =>
            rw [hb] at s1 hF
            obtain ⟨a, b, e⟩ := s1
            have hed : edL ps ds := by
              have := done_take (ds := ds) (k := ds.length) (first_none_inv hb)
              rw [List.take_length] at this
              exact this
            have s2 := enum_first (l := us) (i := 4) (j := 5) (body := m_need_good_b2) (bad := badUnd ps ds us) (env := fun a b => [.val (vwD ps ws), .val (.nd .tup [.nd .tup ds, .nd .tup us]), .val (.nd .tup ds), .val (.nd .tup us), a, b]) (out := fun k => .inl (BS (place "undone" k))) (fun _ _ _ _ => rfl) (fun k d hd hb => ⟨_, ng2_ok F fus hl hed hd hb⟩) a b
            cases hb2 : firstBad (badUnd ps ds us) us.length with
            | some k =>
              rw [hb2] at s2 hF
              obtain ⟨E, e2⟩ := s2
              unfold stR
              rw [hF]
              refine sem_ex (ds := [vwD ps ws, .nd .tup [.nd .tup ds, .nd .tup us]]) (eE (.ex (BS (place "undone" k)) E) ?_)
              rw [e]
              simp only [ev_sqnx, ev_sSeq, ev_sFor, ev_enum, ev_v3, ev_bok, pEnum_tup, ev_some]
              rw [e2]; rfl
            | none =>
              rw [hb2] at s2 hF
              obtain ⟨a2, b2, e2⟩ := s2
              unfold stR
              rw [hF]
              refine sem_rt (ds := [vwD ps ws, .nd .tup [.nd .tup ds, .nd .tup us]]) (E := [.val (vwD ps ws), .val (.nd .tup [.nd .tup ds, .nd .tup us]), .val (.nd .tup ds), .val (.nd .tup us), a2, b2]) (eE _ ?_)
              rw [e]
              simp only [ev_sqnx, ev_sSeq, ev_sFor, ev_enum, ev_v3, ev_bok, pEnum_tup, ev_some]
              rw [e2]; rfl
        · have hl' : ((40 : Int) < (ds.length : Int) + (us.length : Int)) := by omega
          refine raise0 (E := [.val (vwD ps ws), .val (.nd .tup [.nd .tup ds, .nd .tup us]), .und, .und, .und, .und]) ?_ (if_neg hl)
          show m_need_good [.val (vwD ps ws), .val (.nd .tup [.nd .tup ds, .nd .tup us]), .und, .und, .und, .und] = _
          unfold m_need_good
          simp only [ev_sSeq, ev_sIf, ev_or, ev_not, ev_test, ev_isi, ev_v1, ev_bok, ht, isTup_tup, ev_some, ev_tst, ev_ret, Bool.not_true, ev_ite, Bool.false_eq_true, if_false, ev_op pNe, ev_fn, ev_cons, ev_nil, ev_bnd, pLen_tup, ev_c, l2, i0, i1, tx, ty, ev_op pGt, ev_op pAdd, pAdd_int, pGt_int, hl', decide_true, if_true, ev_sNil, ev_sqnx, ev_sRaise, pTup_nil, ev_sqex, BS]
      · refine raise0 (E := [.val (vwD ps ws), .val (.nd .tup [.nd .tup ds, y]), .und, .und, .und, .und]) ?_ (st_shape fun _ us z => by cases z; exact hy ⟨_, rfl⟩)
        show m_need_good [.val (vwD ps ws), .val (.nd .tup [.nd .tup ds, y]), .und, .und, .und, .und] = _
        unfold m_need_good
        simp only [ev_sSeq, ev_sIf, ev_or, ev_not, ev_test, ev_isi, ev_v1, ev_bok, ht, isTup_tup, ev_some, ev_tst, ev_ret, Bool.not_true, ev_ite, Bool.false_eq_true, if_false, ev_op pNe, ev_fn, ev_cons, ev_nil, ev_bnd, pLen_tup, ev_c, l2, i0, i1, tx, ty, isTup_no hy, Bool.not_false, if_true, ev_sNil, ev_sqnx, ev_sRaise, pTup_nil, ev_sqex, BS]
    · refine raise0 (E := [.val (vwD ps ws), .val (.nd .tup [x, y]), .und, .und, .und, .und]) ?_ (st_shape fun ds us z => by cases z; exact hx ⟨_, rfl⟩)
      show m_need_good [.val (vwD ps ws), .val (.nd .tup [x, y]), .und, .und, .und, .und] = _
      unfold m_need_good
      simp only [ev_sSeq, ev_sIf, ev_or, ev_not, ev_test, ev_isi, ev_v1, ev_bok, ht, isTup_tup, ev_some, ev_tst, ev_ret, Bool.not_true, ev_ite, Bool.false_eq_true, if_false, ev_op pNe, ev_fn, ev_cons, ev_nil, ev_bnd, pLen_tup, ev_c, l2, i0, tx, isTup_no hx, Bool.not_false, if_true, ev_sRaise, pTup_nil, ev_sqex, BS]
  · refine raise0 (E := [.val (vwD ps ws), .val d, .und, .und, .und, .und]) ?_ (st_shape fun ds us z => hd ⟨_, _, z⟩)
    show m_need_good [.val (vwD ps ws), .val d, .und, .und, .und, .und] = _
    unfold m_need_good
    by_cases ht2 : ∃ l, d = .nd .tup l
    · obtain ⟨l, rfl⟩ := ht2
      have hl : ¬ ((l.length : Int) = 2) := fun z => by
        have : l.length = 2 := by omega
        match l, this with
        | [x, y], _ => exact hd ⟨x, y, rfl⟩
      simp [ht, isTup_tup, hl, BS]
    · simp [ht, isTup_no ht2, BS]
end
/-- of what is no frame -/
theorem init_bad {fr p : D} (h : fr.fine = true) (hp : frameErr fr = some p) : f_Views___init__ [.o (.nd (.ob "Views" []) []), .v fr] = .ex (BF p) [.o (.nd (.ob "Views" []) []), .v fr] := by
  have hn := need_frame_ok fr h
  unfold needR at hn
  rw [hp] at hn
  have c : mCall 1 f_need_frame (mrE (mVar 1) (mrNil)) [.own (some 0) (.nd (.ob "Views" []) []), .val fr, .und, .und] = .ex (BF p) [.own (some 0) (.nd (.ob "Views" []) []), .val fr, .und, .und] := call1_ex (x := fr) rfl hn
  show semOf 4 m_Views___init__ _ = _
  unfold semOf
  have all : m_Views___init__ (env0 4 [.o (.nd (.ob "Views" []) []), .v fr]) = .ex (BF p) [.own (some 0) (.nd (.ob "Views" []) []), .val fr, .und, .und] := by
    show m_Views___init__ [.own (some 0) (.nd (.ob "Views" []) []), .val fr, .und, .und] = _
    unfold m_Views___init__
    rw [sSeq_ex]
    unfold sFldO
    rw [M.bnd_ex c]
  rw [all]
  rfl
end Law

/-! Draws: mixtures of rows. -/
namespace Wu
open PySem PySem.Spec PyProof.Rows L2
theorem nLc_of {mi : M (List D)} {i : Nat} {t : M Bool} {m : M D} {E : Env'} {ds : List D} (tb : D → Bool) (y : D → D) (hi : mi E = .ok ds E) (hf : (E.getD i .und).free = true) (hl : ds.length ≤ sizeLine)
    (ht : ∀ d ∈ ds, t ((wipeE [i] E).set i (.val d)) = .ok (tb d) ((wipeE [i] E).set i (.val d))) (hm : ∀ d ∈ ds, tb d = true → m ((wipeE [i] E).set i (.val d)) = .ok (y d) ((wipeE [i] E).set i (.val d))) :
    nLc mi (gN i) t m [i] E = .ok (.lst, (ds.filter tb).map y) E := by
  unfold nLc
  rw [M.bnd_ok hi]
  simp only [List.all_cons, List.all_nil, Bool.and_true, hf, decide_eq_true hl, if_true, compD_of tb y ds ht hm, rest_wipe]
theorem oix_ok {i : Nat} {mk : M D} {E E' : Env'} {k d d0 : D} {s : Sl} (h : (E.getD i .und).peek = some d0) (hk : mk E = .ok k E') (h' : (E'.getD i .und).peek = some d) {v : D} (hv : pIxA d k = some v) : mOix i mk E = .ok v E' := by
  unfold mOix
  rw [if_pos (by rw [h]; rfl), M.bnd_ok hk, h']
  show (M.opt (pIxA d k)) E' = _
  rw [hv]; rfl
theorem oset_lst {i : Nat} {mk mv : M D} {E : Env'} {ix : Option Nat} {l : List D} {k : Nat} {v : D} (hv : mv E = .ok v E) (hk : mk E = .ok (.int (k : Int)) E) (h : E[i]? = some (.own ix (.nd .lst l))) (hl : k < l.length) :
    sOset i mk mv E = .ok .nx (E.set i (.own ix (.nd .lst (l.set k v)))) := by
  have hg : E.getD i .und = .own ix (.nd .lst l) := by rw [List.getD_eq_getElem?_getD, h]; rfl
  have hx : ixN l.length (k : Int) = some k := by
    unfold ixN
    rw [if_pos (by omega), if_pos (by omega)]
    simp
  unfold sOset
  rw [M.bnd_ok hv, hg]
  have hp : ((Sl.own ix (.nd .lst l)).peek).isSome = true := rfl
  rw [if_pos hp, M.bnd_ok hk, hg]
  unfold stZ
  dsimp only
  rw [hx]
  rfl
theorem oset_dct {i : Nat} {mk mv : M D} {E : Env'} {ix : Option Nat} {ks : List Key} {l : List D} {k : Key} {kd v : D} (hv : mv E = .ok v E) (hk : mk E = .ok kd E) (hkk : kd.key = some k) (h : E[i]? = some (.own ix (.nd (.dct ks) l))) (hl : l.length < sizeLine) :
    sOset i mk mv E = .ok .nx (E.set i (.own ix (.nd (.dct (putZ ks l k v).1) (putZ ks l k v).2))) := by
  have hg : E.getD i .und = .own ix (.nd (.dct ks) l) := by rw [List.getD_eq_getElem?_getD, h]; rfl
  unfold sOset
  rw [M.bnd_ok hv, hg]
  have hp : ((Sl.own ix (.nd (.dct ks) l)).peek).isSome = true := rfl
  rw [if_pos hp, M.bnd_ok hk, hg]
  unfold stZ
  dsimp only
  rw [if_pos hl, hkk]
  rfl
theorem loopW_stop {c : M Bool} {body : SM} {n : Nat} {E E' : Env'} (h : c E = .ok false E') : loopW c body (n + 1) E = .ok .nx E' := by
  unfold loopW
  rw [M.bnd_ok h]
  rfl
theorem loopW_go {c : M Bool} {body : SM} {n : Nat} {E E1 E2 : Env'} (h : c E = .ok true E1) (hb : body E1 = .ok .nx E2) : loopW c body (n + 1) E = loopW c body n E2 := by
  rw [loopW, M.bnd_ok h]
  show (match body E1 with
      | .ok .nx E2 => loopW c body n E2
      | .ok .ct E2 => loopW c body n E2
      | .ok .bk E2 => .ok .nx E2
      | .ok (.rt d) E2 => .ok (.rt d) E2
      | .ex x E2 => .ex x E2
      | .bad => .bad) = _
  rw [hb]
theorem unv_view (E : Env') : unvE E (viewE E) = E := by
  unfold unvE
  apply mapIdx_id_of
  intro i x h
  rw [List.getD_eq_getElem?_getD, viewE_get, h]
  cases x with
  | own ix c => cases c <;> rfl
  | _ => rfl
theorem unv1_view (a : Sl) : unv1 a a.view = a := by
  cases a with
  | own ix c => cases c <;> rfl
  | _ => rfl
theorem viewB_ok {m : M Bool} {E : Env'} {b : Bool} (h : m (viewE E) = .ok b (viewE E)) : mViewB m E = .ok b E := by
  unfold mViewB
  rw [h]
  dsimp only
  rw [unv_view]
end Wu
namespace Law
open PySem PySem.Spec PyProof.Rows L2 Wu He
def rowsD (L : List (List D)) : List D := L.map fun r => .nd .lst r
def nonE : D → Bool
  | .nd .lst l => !l.isEmpty
  | _ => false
theorem rows_filter (L : List (List D)) : (rowsD L).filter nonE = rowsD (L.filter fun r => !r.isEmpty) := by
  unfold rowsD
  rw [List.filter_map]
  rfl
theorem flat_filter (L : List (List D)) : (L.filter fun r => !r.isEmpty).flatten = L.flatten := by
  induction L with
  | nil => rfl
  | cons r L ih =>
    rw [List.filter_cons]
    cases r with
    | nil => simpa using ih
    | cons x r => simp [ih]
/-- rows of different parts -/
def Hom (L : List (List D)) : Prop := L.Pairwise fun a b => ∀ x ∈ a, ∀ y ∈ b, partD x ≠ partD y
def E6 (s : Dr) (rw_ : D) (L : List (List D)) (acc : List D) (a4 : Sl) : Env' := [.own (some 0) (.dr s), .val rw_, .own none (.nd .lst (rowsD L)), .own none (.nd .lst acc), a4, .und]
theorem mix_cond {s : Dr} {rw_ : D} {L : List (List D)} {acc : List D} {a4 : Sl} : mViewB (mTest (mOp pNe (mVar 2) (mFn pLst (mNil)))) (E6 s rw_ L acc a4) = .ok (!L.isEmpty) (E6 s rw_ L acc a4) := by
  refine viewB_ok ?_
  have ev : viewE (E6 s rw_ L acc a4) = [.own (some 0) (.dr s), .val rw_, .val (.nd .lst (rowsD L)), .val (.nd .lst acc), a4.view, .und] := rfl
  have e2 : (rowsD L).isEmpty = L.isEmpty := by unfold rowsD; cases L <;> rfl
  rw [ev]
  simp only [ev_test, ev_op, ev_v2, ev_bok, ev_bnd, ev_fn, ev_nil, pLst_nil, ev_some, pNe_lst0, ev_tst, e2]
theorem mix_step {s : Dr} {rw_ : D} {L : List (List D)} {acc : List D} {a4 : Sl} (hs : s.Ok) (hL : L ≠ []) (hr : ∀ r ∈ L, r ≠ []) (hl : L.length ≤ 100) (ha : acc.length ≤ 500) :
    ∃ (s' : Dr) (i : Nat) (hi : i < L.length) (x : D) (rest : List D), s'.Ok ∧ L[i] = x :: rest ∧ ∃ b4, m__law_mixture_b1 (E6 s rw_ L acc a4) = .ok .nx (E6 s' rw_ ((L.set i rest).filter fun r => !r.isEmpty) (acc ++ [x]) b4) := by
  have hlen : (rowsD L).length = L.length := by unfold rowsD; rw [List.length_map]
  have hpos : 0 < L.length := List.length_pos_iff.mpr hL
  obtain ⟨k0, k1⟩ := s.draw_lt (n := (L.length : Int)) (by omega)
  obtain ⟨i, hi⟩ := Int.eq_ofNat_of_zero_le k0
  have hil : i < L.length := by omega
  have ok1 := hs.next (n := (L.length : Int)) (by omega)
  obtain ⟨x, rest, hx⟩ : ∃ x rest, L[i] = x :: rest := by
    cases e : L[i] with
    | nil => exact absurd e (hr _ (List.getElem_mem hil))
    | cons x rest => exact ⟨x, rest, rfl⟩
  refine ⟨s.next (L.length : Int), i, hil, x, rest, ok1, hx, .val (.int (i : Int)), ?_⟩
  -- the draw
  have c := call_next (E := [.own (some 0) (.dr s), .val rw_, .val (.nd .lst (rowsD L)), .val (.nd .lst acc), a4.view, .und]) (E' := [.own (some 0) (.dr s), .val rw_, .val (.nd .lst (rowsD L)), .val (.nd .lst acc), a4.view, .und]) (a := mFn pLen (mCons (mVar 2) (mNil))) (i := 0) (ix := some 0) (s := s) (n := (L.length : Int)) (by simp only [ev_fn, ev_cons, ev_v2, ev_bok, ev_bnd, ev_nil, ev_ret, pLen_lst, hlen, ev_some]) rfl rfl (by omega) (log_small (by omega))
  rw [hi] at c
  have v : mView (mCall 2 semNext (mrR 0 (mrE (mFn pLen (mCons (mVar 2) (mNil))) (mrNil)))) (E6 s rw_ L acc a4) = .ok (.int (i : Int)) (E6 (s.next (L.length : Int)) rw_ L acc a4) := by
    refine (mView_ok (E' := [.own (some 0) (.dr (s.next (L.length : Int))), .val rw_, .val (.nd .lst (rowsD L)), .val (.nd .lst acc), a4.view, .und]) c rfl).trans ?_
    show R.ok _ (unvE _ _) = _
    congr 1
    show [_, _, _, _, unv1 a4 a4.view, _] = _
    rw [unv1_view]
    rfl
  have s1 : sSet 4 (mView (mCall 2 semNext (mrR 0 (mrE (mFn pLen (mCons (mVar 2) (mNil))) (mrNil))))) (E6 s rw_ L acc a4) = .ok .nx (E6 (s.next (L.length : Int)) rw_ L acc (.val (.int (i : Int)))) := sSet_ok v
  have ixL : pIxA (.nd .lst (rowsD L)) (.int (i : Int)) = some (.nd .lst (x :: rest)) := by
    rw [pIx_lst]
    unfold rowsD
    rw [List.getElem?_map, List.getElem?_eq_getElem hil, hx]
    rfl
  have o1 : ∀ {acc' : List D}, mOix 2 (mVar 4) (E6 (s.next (L.length : Int)) rw_ L acc' (.val (.int (i : Int)))) = .ok (.nd .lst (x :: rest)) (E6 (s.next (L.length : Int)) rw_ L acc' (.val (.int (i : Int)))) := fun {acc'} => oix_ok (s := .und) (by rfl) (by rfl) (by rfl) ixL
  have s2 : sApp 3 (mOp pIxA (mOix 2 (mVar 4)) (mC (.int 0))) (E6 (s.next (L.length : Int)) rw_ L acc (.val (.int (i : Int)))) = .ok .nx (E6 (s.next (L.length : Int)) rw_ L (acc ++ [x]) (.val (.int (i : Int)))) := by
    refine (sApp_ok (d := x) (l' := acc) (by rfl) (by simp only [ev_op, o1, ev_bok, ev_bnd, ev_c, pIx_lst0, List.getElem?_cons_zero, ev_some]; rfl) (by rfl) (Nat.lt_of_le_of_lt ha (by decide))).trans ?_
    rfl
  have sl : pSl (some (1 : Int)) none (.nd .lst (x :: rest)) = some (.nd .lst rest) := pSlL_from (x :: rest) 1
  have s3 : sOset 2 (mVar 4) (mSl (mOix 2 (mVar 4)) (some (mC (.int 1))) none) (E6 (s.next (L.length : Int)) rw_ L (acc ++ [x]) (.val (.int (i : Int)))) = .ok .nx (E6 (s.next (L.length : Int)) rw_ (L.set i rest) (acc ++ [x]) (.val (.int (i : Int)))) := by
    refine (oset_lst (k := i) (v := .nd .lst rest) (l := rowsD L) (ix := none) (by simp only [ev_sl, o1, ev_bok, ev_bnd, ev_part, ev_c, ev_prtK, ev_part0, sl, ev_some]) (by rfl) (by rfl) (by rw [hlen]; exact hil)).trans ?_
    show R.ok Fl.nx [_, _, .own none (.nd .lst ((rowsD L).set i (.nd .lst rest))), _, _, _] = _
    have : (rowsD L).set i (.nd .lst rest) = rowsD (L.set i rest) := by unfold rowsD; rw [List.map_set]
    rw [this]
    rfl
  have n4 := nLc_of (mi := mSeq (mVar 2)) (i := 5) (t := mTest (mOp pNe (mVar 5) (mFn pLst (mNil)))) (m := mVar 5) (E := [.own (some 0) (.dr (s.next (L.length : Int))), .val rw_, .val (.nd .lst (rowsD (L.set i rest))), .own none (.nd .lst (acc ++ [x])), .val (.int (i : Int)), .und]) (ds := rowsD (L.set i rest)) nonE id rfl rfl
    (size_big (by unfold rowsD; rw [List.length_map, List.length_set]; omega)) (fun d hd => by
      obtain ⟨r, _, rfl⟩ := List.mem_map.mp hd
      show (mTest (mOp pNe (mVar 5) (mFn pLst (mNil)))) [.own (some 0) (.dr (s.next (L.length : Int))), .val rw_, .val (.nd .lst (rowsD (L.set i rest))), .own none (.nd .lst (acc ++ [x])), .val (.int (i : Int)), .val (.nd .lst r)] = .ok (!r.isEmpty) [.own (some 0) (.dr (s.next (L.length : Int))), .val rw_, .val (.nd .lst (rowsD (L.set i rest))), .own none (.nd .lst (acc ++ [x])), .val (.int (i : Int)), .val (.nd .lst r)]
      simp) (fun d hd _ => by obtain ⟨r, _, rfl⟩ := List.mem_map.mp hd; rfl)
  rw [List.map_id, rows_filter] at n4
  have s4 : mPre 2 (sOwn 2 (nLc (mSeq (mVar 2)) (gN 5) (mTest (mOp pNe (mVar 5) (mFn pLst (mNil)))) (mVar 5) [5])) (E6 (s.next (L.length : Int)) rw_ (L.set i rest) (acc ++ [x]) (.val (.int (i : Int)))) = .ok .nx (E6 (s.next (L.length : Int)) rw_ ((L.set i rest).filter fun r => !r.isEmpty) (acc ++ [x]) (.val (.int (i : Int)))) := by
    show (sOwn 2 (nLc (mSeq (mVar 2)) (gN 5) (mTest (mOp pNe (mVar 5) (mFn pLst (mNil)))) (mVar 5) [5])) [.own (some 0) (.dr (s.next (L.length : Int))), .val rw_, .val (.nd .lst (rowsD (L.set i rest))), .own none (.nd .lst (acc ++ [x])), .val (.int (i : Int)), .und] = _
    unfold sOwn
    rw [M.bnd_ok n4]
    rfl
  unfold m__law_mixture_b1
  rw [sSeq_ok s1, sSeq_ok s2, sSeq_ok s3]
  exact s4
/-- what a mixture keeps -/
structure Mixed (rows r : List D) : Prop where
  len : r.length = rows.length
  fil : ∀ p : Str, r.filter (fun d => decide (partD d = p)) = rows.filter fun d => decide (partD d = p)
theorem mix_loop {rw_ : D} : ∀ (n : Nat) (L : List (List D)) (acc : List D) (s : Dr) (a4 : Sl) (fuel : Nat), L.flatten.length = n → n < fuel → Hom L → (∀ r ∈ L, r ≠ []) → s.Ok → L.length ≤ 100 → acc.length + n ≤ 500 →
    ∃ (s' : Dr) (r : List D) (b4 : Sl), s'.Ok ∧ Mixed (acc ++ L.flatten) r ∧ loopW (mViewB (mTest (mOp pNe (mVar 2) (mFn pLst (mNil))))) m__law_mixture_b1 fuel (E6 s rw_ L acc a4) = .ok .nx (E6 s' rw_ [] r b4) := by
  intro n
  induction n with
  | zero =>
    intro L acc s a4 fuel hn hf hh hr hs hl ha
    have hL : L = [] := by
      cases L with
      | nil => rfl
      | cons r L =>
        have := hr r List.mem_cons_self
        cases r with
        | nil => exact absurd rfl this
        | cons x r => simp at hn
    subst hL
    obtain ⟨f, rfl⟩ : ∃ f, fuel = f + 1 := ⟨fuel - 1, by omega⟩
    refine ⟨s, acc, a4, hs, ⟨by simp, fun p => by simp⟩, ?_⟩
    exact loopW_stop mix_cond
  | succ n ih =>
    intro L acc s a4 fuel hn hf hh hr hs hl ha
    have hL : L ≠ [] := by rintro rfl; cases hn
    obtain ⟨s1, i, hi, x, rest, ok1, hx, b4, e⟩ := mix_step (rw_ := rw_) (a4 := a4) hs hL hr hl (acc := acc) (by omega)
    obtain ⟨f, rfl⟩ : ∃ f, fuel = f + 1 := ⟨fuel - 1, by omega⟩
    have hne : (!L.isEmpty) = true := by cases L with | nil => exact absurd rfl hL | cons _ _ => rfl
    have hc := mix_cond (s := s) (rw_ := rw_) (L := L) (acc := acc) (a4 := a4)
    rw [hne] at hc
    have spl : L = L.take i ++ (x :: rest) :: L.drop (i + 1) := by
      rw [← hx]
      exact (List.take_append_drop i L).symm.trans (by rw [List.drop_eq_getElem_cons hi])
    have sset : L.set i rest = L.take i ++ rest :: L.drop (i + 1) := by rw [List.set_eq_take_append_cons_drop, if_pos hi]
    have fl1 : L.flatten = (L.take i).flatten ++ (x :: rest) ++ (L.drop (i + 1)).flatten := by
      conv => lhs; rw [spl]
      simp
    have fl2 : ((L.set i rest).filter fun r => !r.isEmpty).flatten = (L.take i).flatten ++ rest ++ (L.drop (i + 1)).flatten := by
      rw [flat_filter, sset]
      simp
    have hom2 : Hom ((L.set i rest).filter fun r => !r.isEmpty) := by
      refine List.Pairwise.filter _ ?_
      rw [sset]
      have hh' : Hom (L.take i ++ (x :: rest) :: L.drop (i + 1)) := by rw [← spl]; exact hh
      unfold Hom at hh'
      rw [List.pairwise_append, List.pairwise_cons] at hh'
      obtain ⟨h1, ⟨h2, h3⟩, h4⟩ := hh'
      rw [List.pairwise_append, List.pairwise_cons]
      refine ⟨h1, ⟨fun b hb y hy z hz => h2 b hb y (List.mem_cons_of_mem _ hy) z hz, h3⟩, fun a ha b hb => ?_⟩
      rcases List.mem_cons.mp hb with eb | hb
      · rw [eb]
        intro y hy z hz
        exact h4 a ha (x :: rest) List.mem_cons_self y hy z (List.mem_cons_of_mem _ hz)
      · exact h4 a ha b (List.mem_cons_of_mem _ hb)
    have pre : ∀ y ∈ (L.take i).flatten, partD y ≠ partD x := by
      have hh' : Hom (L.take i ++ (x :: rest) :: L.drop (i + 1)) := by rw [← spl]; exact hh
      unfold Hom at hh'
      rw [List.pairwise_append] at hh'
      intro y hy
      obtain ⟨a, ha, hya⟩ := List.mem_flatten.mp hy
      exact hh'.2.2 a ha (x :: rest) List.mem_cons_self y hya x List.mem_cons_self
    have ln2 : ((L.set i rest).filter fun r => !r.isEmpty).flatten.length = n := by
      rw [fl2]
      rw [fl1] at hn
      simp only [List.length_append, List.length_cons] at hn ⊢
      omega
    obtain ⟨s2, r, c4, ok2, mx, e2⟩ := ih ((L.set i rest).filter fun r => !r.isEmpty) (acc ++ [x]) s1 b4 f ln2 (by omega) hom2 (fun r hr' => by
      have := (List.mem_filter.mp hr').2
      intro z
      rw [z] at this
      cases this) ok1 (Nat.le_trans (List.length_filter_le _ _) (by rw [List.length_set]; exact hl)) (by rw [List.length_append, List.length_singleton]; omega)
    refine ⟨s2, r, c4, ok2, ⟨?_, fun p => ?_⟩, ?_⟩
    · rw [mx.len, fl1, fl2]
      simp only [List.length_append, List.length_cons, List.length_nil]
      omega
    · rw [mx.fil p, fl1, fl2]
      simp only [List.filter_append, List.filter_cons, List.filter_nil, List.append_assoc]
      congr 1
      by_cases hp : partD x = p
      · have h0 : (L.take i).flatten.filter (fun d => decide (partD d = p)) = [] := by
          rw [List.filter_eq_nil_iff]
          intro y hy
          have := pre y hy
          rw [hp] at this
          simpa using this
        rw [h0]
        simp [hp]
      · simp [hp]
    · rw [loopW_go hc e]
      exact e2
theorem mixture_ok {L : List (List D)} {s : Dr} (hs : s.Ok) (hh : Hom L) (hl : L.length ≤ 100) (hn : L.flatten.length ≤ 400) : ∃ (s' : Dr) (r : List D), s'.Ok ∧ Mixed L.flatten r ∧ f__law_mixture [.o (.dr s), .v (.nd .lst (rowsD L))] = .ok (.nd .lst r) [.o (.dr s'), .v (.nd .lst (rowsD L))] := by
  have n1 := nLc_of (mi := mSeq (mVar 1)) (i := 5) (t := mTest (mOp pGt (mFn pLen (mCons (mVar 5) (mNil))) (mC (.int 0)))) (m := mFn pList (mCons (mVar 5) (mNil))) (E := [.own (some 0) (.dr s), .val (.nd .lst (rowsD L)), .und, .und, .und, .und]) (ds := rowsD L) nonE id rfl rfl
    (size_big (by unfold rowsD; rw [List.length_map]; omega)) (fun d hd => by
      obtain ⟨r, _, rfl⟩ := List.mem_map.mp hd
      show (mTest (mOp pGt (mFn pLen (mCons (mVar 5) (mNil))) (mC (.int 0)))) [.own (some 0) (.dr s), .val (.nd .lst (rowsD L)), .und, .und, .und, .val (.nd .lst r)] = .ok (!r.isEmpty) [.own (some 0) (.dr s), .val (.nd .lst (rowsD L)), .und, .und, .und, .val (.nd .lst r)]
      cases r with
      | nil => rfl
      | cons y r =>
        have : (0 : Int) < (((y :: r).length : Nat) : Int) := by rw [List.length_cons]; omega
        simp only [ev_test, ev_op, ev_fn, ev_cons, ev_v5, ev_bok, ev_bnd, ev_nil, ev_ret, pLen_lst, ev_some, ev_c, pGt_int, this, decide_true, ev_tst]
        rfl) (fun d hd _ => by obtain ⟨r, _, rfl⟩ := List.mem_map.mp hd; rfl)
  rw [List.map_id, rows_filter] at n1
  have st1 : sPar2 2 3 (pN (nLc (mSeq (mVar 1)) (gN 5) (mTest (mOp pGt (mFn pLen (mCons (mVar 5) (mNil))) (mC (.int 0)))) (mFn pList (mCons (mVar 5) (mNil))) [5])) (pN (nLst (mNil))) [.own (some 0) (.dr s), .val (.nd .lst (rowsD L)), .und, .und, .und, .und] = .ok .nx (E6 s (.nd .lst (rowsD L)) (L.filter fun r => !r.isEmpty) [] .und) := by
    unfold sPar2
    rw [M.bnd_ok (show pN _ _ = .ok (.inr (.lst, rowsD (L.filter fun r => !r.isEmpty))) [.own (some 0) (.dr s), .val (.nd .lst (rowsD L)), .und, .und, .und, .und] from by unfold pN; rw [M.bnd_ok n1]; rfl)]
    rfl
  obtain ⟨s', r, b4, ok, mx, e⟩ := mix_loop (rw_ := .nd .lst (rowsD L)) _ (L.filter fun r => !r.isEmpty) [] s .und 1000000 rfl (by rw [flat_filter]; omega) (List.Pairwise.filter _ hh) (fun r hr z => by
    have := (List.mem_filter.mp hr).2
    rw [z] at this
    cases this) hs (Nat.le_trans (List.length_filter_le _ _) hl) (by rw [flat_filter, List.length_nil]; omega)
  rw [List.nil_append, flat_filter] at mx
  refine ⟨s', r, ok, mx, ?_⟩
  refine sem_rtD (n := 6) (ds := [.nd .lst (rowsD L)]) (E := [.own (some 0) (.dr s'), .val (.nd .lst (rowsD L)), .own none (.nd .lst (rowsD [])), .val (.nd .lst r), b4, .und]) ?_ rfl
  show m__law_mixture [.own (some 0) (.dr s), .val (.nd .lst (rowsD L)), .und, .und, .und, .und] = _
  unfold m__law_mixture
  rw [sSeq_ok st1, sSeq_ok e]
  rfl
end Law

/-! Draws: states. -/
namespace Wu
open PySem PySem.Spec PyProof.Rows L2
theorem setZ_map {f : Str → D} {p : Str} {v : D} : ∀ ps : List Str, setZ (ky p) v (ps.map ky) (ps.map f) = ps.map fun q => if q = p then v else f q
  | [] => rfl
  | q :: ps => by
    rw [List.map_cons, List.map_cons, List.map_cons, setZ, setZ_map ps]
    by_cases h : q = p
    · rw [if_pos (by rw [h]), if_pos h]
    · rw [if_neg (fun z => h (Sum.inr.inj z)), if_neg h]
theorem putZ_map {f : Str → D} {p : Str} {v : D} {ps : List Str} (h : p ∈ ps) : putZ (ps.map ky) (ps.map f) (ky p) v = (ps.map ky, ps.map fun q => if q = p then v else f q) := by
  unfold putZ
  rw [if_pos (List.any_eq_true.mpr ⟨ky p, List.mem_map_of_mem h, decide_eq_true rfl⟩), setZ_map]
theorem foldZ_new {f : Str → D} : ∀ (ps ks : List Str) (l : List D), (ks ++ ps).Nodup → foldZ (ps.map fun p => (ky p, f p)) (ks.map ky, l) = ((ks ++ ps).map ky, l ++ ps.map f)
  | [], ks, l, _ => by simp [foldZ]
  | p :: ps, ks, l, h => by
    have e0 : ks ++ p :: ps = (ks ++ [p]) ++ ps := by simp
    rw [e0] at h
    have hnew : ky p ∉ ks.map ky := fun z => by
      have h1 := (List.nodup_append.mp (List.nodup_append.mp h).1)
      exact h1.2.2 p (ky_mem.mp z) p (by simp) rfl
    show foldZ (ps.map fun p => (ky p, f p)) (putZ (ks.map ky) l (ky p) (f p)) = _
    rw [putZ_new hnew]
    have e1 : (ks.map ky ++ [ky p], l ++ [f p]) = ((ks ++ [p]).map ky, l ++ [f p]) := by simp
    rw [e1, foldZ_new ps (ks ++ [p]) (l ++ [f p]) h, e0]
    simp
theorem pairs_map {f : Str → D} : ∀ ps : List Str, pairsD (ps.map fun p => .nd .tup [.str p, f p]) = some (ps.map fun p => (ky p, f p))
  | [] => rfl
  | p :: ps => by
    show (pairD (.nd .tup [.str p, f p])).bind (fun q => (pairsD (ps.map fun p => .nd .tup [.str p, f p])).map (q :: ·)) = _
    rw [pairs_map ps]; rfl
end Wu
namespace Law
open PySem PySem.Spec PyProof.Rows L2 Wu He
def edD (a : Int) (p : Str) : D := .nd .tup [.int a, .str p]
/-- rows of edits, by parts -/
structure RowsOk (ps : List Str) (R : Str → List D) (A : Int) (n : Nat) : Prop where
  form : ∀ p ∈ ps, ∀ x ∈ R p, x = edD (ageD x) p ∧ 0 ≤ ageD x ∧ ageD x < A
  asc : ∀ p ∈ ps, (R p).Pairwise fun x y => ageD x < ageD y
  apart : ∀ p ∈ ps, ∀ q ∈ ps, p ≠ q → ∀ x ∈ R p, ∀ y ∈ R q, ageD x ≠ ageD y
  tot : (ps.map R).flatten.length = n
  a0 : 0 ≤ A
  aN : A ≤ 2 + 3 * (n : Int)
theorem flat_upd {R : Str → List D} {p : Str} {x : D} : ∀ {ps : List Str}, ps.Nodup → (ps.map fun q => if q = p then R p ++ [x] else R q).flatten.length = (ps.map R).flatten.length + if p ∈ ps then 1 else 0
  | [], _ => by simp
  | q :: ps, h => by
    obtain ⟨h1, h2⟩ := List.nodup_cons.mp h
    have ih := flat_upd (R := R) (p := p) (x := x) h2
    rw [List.map_cons, List.map_cons, List.flatten_cons, List.flatten_cons, List.length_append, List.length_append, ih]
    by_cases e : q = p
    · subst e
      rw [if_pos rfl, if_neg h1, if_pos List.mem_cons_self, List.length_append, List.length_singleton]
      omega
    · rw [if_neg e]
      have : (p ∈ q :: ps) ↔ p ∈ ps := ⟨fun z => (List.mem_cons.mp z).resolve_left fun w => e w.symm, List.mem_cons_of_mem _⟩
      by_cases hm : p ∈ ps
      · rw [if_pos hm, if_pos (this.mpr hm)]; omega
      · rw [if_neg hm, if_neg (fun z => hm (this.mp z))]; omega
theorem RowsOk.step {ps : List Str} {R : Str → List D} {A e : Int} {n : Nat} {p : Str} (h : RowsOk ps R A n) (hd : ps.Nodup) (hp : p ∈ ps) (e0 : 0 ≤ e) (e2 : e ≤ 2) : RowsOk ps (fun q => if q = p then R p ++ [edD A p] else R q) (A + 1 + e) (n + 1) := by
  have age : ageD (edD A p) = A := rfl
  refine ⟨fun q hq x hx => ?_, fun q hq => ?_, fun q hq r hr hqr x hx y hy => ?_, ?_, by have := h.a0; omega, ?_⟩
  · split at hx
    · rename_i z
      subst z
      rcases List.mem_append.mp hx with hx | hx
      · obtain ⟨a, b, c⟩ := h.form q hq x hx
        exact ⟨a, b, by omega⟩
      · have : x = edD A q := by simpa using hx
        subst this
        exact ⟨rfl, h.a0, by show A < A + 1 + e; omega⟩
    · obtain ⟨a, b, c⟩ := h.form q hq x hx
      exact ⟨a, b, by omega⟩
  · split
    · rename_i z
      subst z
      rw [List.pairwise_append]
      refine ⟨h.asc q hq, by simp, fun a ha b hb => ?_⟩
      have : b = edD A q := by simpa using hb
      subst this
      exact (h.form q hq a ha).2.2
    · exact h.asc q hq
  · split at hx
    · rename_i z
      split at hy
      · rename_i z2
        exact absurd (z.trans z2.symm) hqr
      · subst z
        rcases List.mem_append.mp hx with hx | hx
        · exact h.apart q hq r hr hqr x hx y hy
        · have : x = edD A q := by simpa using hx
          subst this
          have := (h.form r hr y hy).2.2
          show A ≠ ageD y
          omega
    · split at hy
      · rename_i z
        subst z
        rcases List.mem_append.mp hy with hy | hy
        · exact h.apart q hq r hr hqr x hx y hy
        · have : y = edD A r := by simpa using hy
          subst this
          have := (h.form q hq x hx).2.2
          show ageD x ≠ A
          omega
      · exact h.apart q hq r hr hqr x hx y hy
  · rw [flat_upd hd, h.tot, if_pos hp]
  · have := h.aN
    rw [show ((n + 1 : Nat) : Int) = (n : Int) + 1 by omega]
    omega
/-! ### a state of such rows is good -/
theorem filter_split {r : List D} {k : Nat} (hk : k < r.length) (p : Str) (hp : partD r[k] = p) : r.filter (fun d => decide (partD d = p)) = (r.take k).filter (fun d => decide (partD d = p)) ++ r[k] :: (r.drop (k + 1)).filter fun d => decide (partD d = p) := by
  have e : r = r.take k ++ r[k] :: r.drop (k + 1) := (List.take_append_drop k r).symm.trans (by rw [List.drop_eq_getElem_cons hk])
  conv => lhs; rw [e]
  rw [List.filter_append, List.filter_cons, if_pos (decide_eq_true hp)]
section
variable {ps : List Str} {R : Str → List D} {A : Int} {n : Nat} {c : Str → Nat} {ds us : List D}
structure StOk (ps : List Str) (R : Str → List D) (c : Str → Nat) (ds us : List D) : Prop where
  dp : ∀ x ∈ ds, partD x ∈ ps
  up : ∀ x ∈ us, partD x ∈ ps
  df : ∀ p ∈ ps, ds.filter (fun d => decide (partD d = p)) = (R p).take (c p)
  uf : ∀ p ∈ ps, us.filter (fun d => decide (partD d = p)) = ((R p).drop (c p)).reverse
  ln : ds.length + us.length ≤ 40
theorem StOk.dm (S : StOk ps R c ds us) {x : D} (hx : x ∈ ds) : x ∈ (R (partD x)).take (c (partD x)) := by
  rw [← S.df _ (S.dp x hx)]
  exact List.mem_filter.mpr ⟨hx, decide_eq_true rfl⟩
theorem StOk.um (S : StOk ps R c ds us) {x : D} (hx : x ∈ us) : x ∈ (R (partD x)).drop (c (partD x)) := by
  have h : x ∈ us.filter (fun d => decide (partD d = partD x)) := List.mem_filter.mpr ⟨hx, decide_eq_true rfl⟩
  rw [S.uf _ (S.up x hx)] at h
  exact List.mem_reverse.mp h
theorem ed_of (h : RowsOk ps R A n) (hA : A ≤ 1000) {x : D} (hp : partD x ∈ ps) (hx : x ∈ R (partD x)) : isEd ps x = true := by
  obtain ⟨a, b, d⟩ := h.form _ hp x hx
  rw [a]
  show ((decide (0 ≤ ageD x) && decide (ageD x ≤ 999)) && decide (partD x ∈ ps)) = true
  rw [decide_eq_true b, decide_eq_true (show ageD x ≤ 999 by omega), decide_eq_true hp]; rfl
theorem state_good (h : RowsOk ps R A n) (hA : A ≤ 1000) (S : StOk ps R c ds us) : stErr ps (.nd .tup [.nd .tup ds, .nd .tup us]) = none := by
  have e1 : firstBad (badDone ps ds) ds.length = none := first_none fun k hk => by
    have hm : ds[k] ∈ ds := List.getElem_mem hk
    have hp := S.dp _ hm
    have hin : ds[k] ∈ R (partD ds[k]) := List.mem_of_mem_take (S.dm hm)
    unfold badDone
    rw [List.getElem?_eq_getElem hk]
    dsimp only
    rw [ed_of h hA hp hin]
    have pw : ((R (partD ds[k])).take (c (partD ds[k]))).Pairwise fun x y => ageD x < ageD y := (h.asc _ hp).sublist (List.take_sublist _ _)
    rw [← S.df _ hp, filter_split hk _ rfl, List.pairwise_append] at pw
    have before : ∀ o ∈ ds.take k, ageD o ≠ ageD ds[k] ∧ (partD o = partD ds[k] → ageD o < ageD ds[k]) := by
      intro o ho
      by_cases q : partD o = partD ds[k]
      · have := pw.2.2 o (List.mem_filter.mpr ⟨ho, decide_eq_true q⟩) ds[k] List.mem_cons_self
        exact ⟨by omega, fun _ => this⟩
      · have hod := List.mem_of_mem_take ho
        exact ⟨h.apart _ (S.dp o hod) _ hp q o (List.mem_of_mem_take (S.dm hod)) _ hin, fun z => absurd z q⟩
    have q1 : ((ds.take k ++ []).any fun o => decide (ageD o = ageD ds[k])) = false := by
      rw [List.append_nil, List.any_eq_false]
      intro o ho
      simpa using (before o ho).1
    have q2 : ((ds.take k).any fun o => decide (partD o = partD ds[k]) && decide (ageD ds[k] < ageD o)) = false := by
      rw [List.any_eq_false]
      intro o ho
      simp only [Bool.and_eq_true, decide_eq_true_eq, not_and]
      intro z
      have := (before o ho).2 z
      omega
    unfold swB
    rw [q1, q2]
    rfl
  have e2 : firstBad (badUnd ps ds us) us.length = none := first_none fun k hk => by
    have hm : us[k] ∈ us := List.getElem_mem hk
    have hp := S.up _ hm
    have hin : us[k] ∈ R (partD us[k]) := List.mem_of_mem_drop (S.um hm)
    unfold badUnd
    rw [List.getElem?_eq_getElem hk]
    dsimp only
    rw [ed_of h hA hp hin]
    have asc := h.asc _ hp
    have pw : (((R (partD us[k])).drop (c (partD us[k]))).reverse).Pairwise fun x y => ageD y < ageD x := List.pairwise_reverse.mpr (asc.sublist (List.drop_sublist _ _))
    rw [← S.uf _ hp, filter_split hk _ rfl, List.pairwise_append] at pw
    have before : ∀ o ∈ us.take k, ageD o ≠ ageD us[k] ∧ (partD o = partD us[k] → ageD us[k] < ageD o) := by
      intro o ho
      by_cases q : partD o = partD us[k]
      · have := pw.2.2 o (List.mem_filter.mpr ⟨ho, decide_eq_true q⟩) us[k] List.mem_cons_self
        exact ⟨by omega, fun _ => this⟩
      · have hod := List.mem_of_mem_take ho
        exact ⟨h.apart _ (S.up o hod) _ hp q o (List.mem_of_mem_drop (S.um hod)) _ hin, fun z => absurd z q⟩
    have done : ∀ o ∈ ds, ageD o ≠ ageD us[k] ∧ (partD o = partD us[k] → ageD o < ageD us[k]) := by
      intro o ho
      by_cases q : partD o = partD us[k]
      · have h1 := S.dm ho
        rw [q] at h1
        have asc' := asc
        rw [← List.take_append_drop (c (partD us[k])) (R (partD us[k])), List.pairwise_append] at asc'
        have := asc'.2.2 o h1 us[k] (S.um hm)
        exact ⟨by omega, fun _ => this⟩
      · exact ⟨h.apart _ (S.dp o ho) _ hp q o (List.mem_of_mem_take (S.dm ho)) _ hin, fun z => absurd z q⟩
    have q1 : ((ds ++ us.take k).any fun o => decide (ageD o = ageD us[k])) = false := by
      rw [List.any_eq_false]
      intro o ho
      rcases List.mem_append.mp ho with ho | ho
      · simpa using (done o ho).1
      · simpa using (before o ho).1
    have q2 : (ds.any fun o => decide (partD o = partD us[k]) && decide (ageD us[k] < ageD o)) = false := by
      rw [List.any_eq_false]
      intro o ho
      simp only [Bool.and_eq_true, decide_eq_true_eq, not_and]
      intro z
      have := (done o ho).2 z
      omega
    have q3 : ((us.take k).any fun o => decide (partD o = partD us[k]) && decide (ageD o < ageD us[k])) = false := by
      rw [List.any_eq_false]
      intro o ho
      simp only [Bool.and_eq_true, decide_eq_true_eq, not_and]
      intro z
      have := (before o ho).2 z
      omega
    unfold swB
    rw [q1, q2, q3]
    rfl
  show (if ds.length + us.length ≤ 40 then _ else _) = _
  rw [if_pos S.ln]
  simp only [e1, e2]
end
end Law

/-! Draws: states. -/
namespace Law
open PySem PySem.Spec PyProof.Rows L2 Wu He
section
variable {ps : List Str} {ws : List (Str × List Str)} {most : D}
theorem dR_ix (hd : ps.Nodup) {R : Str → List D} {p : Str} (h : p ∈ ps) : pIxA (.nd (.dct (ps.map ky)) (ps.map fun p => .nd .lst (R p))) (.str p) = some (.nd .lst (R p)) := by
  have h := ix_dct (kf := id) (y := fun p => D.nd .lst (R p)) (ws := ps) (w := p) (by rw [List.map_id]; exact hd) h
  rw [List.map_id] at h
  exact h
theorem st_turn (F : Frm ps ws) {s : Dr} {R : Str → List D} {A : Int} {n : Nat} {t3 t4 : Sl} (hs : s.Ok) (h : RowsOk ps R A n) (hn : n ≤ 40) : ∃ (s' : Dr) (R' : Str → List D) (A' : Int) (b4 : Sl), s'.Ok ∧ RowsOk ps R' A' (n + 1) ∧
    m__law_state_b1 [.own (some 0) (.dr s), .val (frameD ps ws), .val most, t3, t4, .own none (.nd (.dct (ps.map ky)) (ps.map fun z => .nd .lst (R z))), .val (.int A), .und, .und, .und] = .ok .nx [.own (some 0) (.dr s'), .val (frameD ps ws), .val most, t3, b4, .own none (.nd (.dct (ps.map ky)) (ps.map fun z => .nd .lst (R' z))), .val (.int A'), .und, .und, .und] := by
  have hp1 := F.p1
  have hp8 := F.p8
  obtain ⟨k0, k1⟩ := s.draw_lt (n := (ps.length : Int)) (by omega)
  obtain ⟨d, hd, hx⟩ := get_draw (l := sds ps) k0 (by rw [sds_len]; exact k1)
  obtain ⟨p, hp, rfl⟩ := List.mem_map.mp hd
  have hx' : pIxA (.nd .tup (sds ps)) (.int (s.draw (ps.length : Int))) = some (.str p) := hx
  have ok1 := hs.next (n := (ps.length : Int)) (by omega)
  have pl : ∀ {E : Env'}, E[1]? = some (.val (frameD ps ws)) → (mOp pIxA (mVar 1) (mC (.int 0))) E = .ok (.nd .tup (sds ps)) E := fun {E} h => by
    rw [ev_op, ev_var h]
    rfl
  have c1 := call_next (E := [.own (some 0) (.dr s), .val (frameD ps ws), .val most, t3, t4, .own none (.nd (.dct (ps.map ky)) (ps.map fun z => .nd .lst (R z))), .val (.int A), .und, .und, .und]) (E' := [.own (some 0) (.dr s), .val (frameD ps ws), .val most, t3, t4, .own none (.nd (.dct (ps.map ky)) (ps.map fun z => .nd .lst (R z))), .val (.int A), .und, .und, .und]) (a := mFn pLen (mCons (mOp pIxA (mVar 1) (mC (.int 0))) (mNil))) (i := 0) (ix := some 0) (s := s) (n := (ps.length : Int)) (by simp only [ev_fn, ev_cons, pl (show ([.own (some 0) (.dr s), .val (frameD ps ws), .val most, t3, t4, .own none (.nd (.dct (ps.map ky)) (ps.map fun z => .nd .lst (R z))), .val (.int A), .und, .und, .und] : Env')[1]? = _ from rfl), ev_bok, ev_bnd, ev_nil, ev_ret, pLen_tup, sds_len, ev_some]) rfl rfl (by omega) (log_small (by omega))
  have s1 : sSet 4 (mOp pIxA (mOp pIxA (mVar 1) (mC (.int 0))) (mCall 2 semNext (mrR 0 (mrE (mFn pLen (mCons (mOp pIxA (mVar 1) (mC (.int 0))) (mNil))) (mrNil))))) [.own (some 0) (.dr s), .val (frameD ps ws), .val most, t3, t4, .own none (.nd (.dct (ps.map ky)) (ps.map fun z => .nd .lst (R z))), .val (.int A), .und, .und, .und] = .ok .nx [.own (some 0) (.dr (s.next (ps.length : Int))), .val (frameD ps ws), .val most, t3, .val (.str p), .own none (.nd (.dct (ps.map ky)) (ps.map fun z => .nd .lst (R z))), .val (.int A), .und, .und, .und] := by
    rw [ev_sSet, ev_op, pl (show ([.own (some 0) (.dr s), .val (frameD ps ws), .val most, t3, t4, .own none (.nd (.dct (ps.map ky)) (ps.map fun z => .nd .lst (R z))), .val (.int A), .und, .und, .und] : Env')[1]? = _ from rfl)]
    simp only [ev_bok, ev_bnd, c1, hx', ev_some]
    rfl
  have o1 : mOix 5 (mVar 4) [.own (some 0) (.dr (s.next (ps.length : Int))), .val (frameD ps ws), .val most, t3, .val (.str p), .own none (.nd (.dct (ps.map ky)) (ps.map fun z => .nd .lst (R z))), .val (.int A), .und, .und, .und] = .ok (.nd .lst (R p)) [.own (some 0) (.dr (s.next (ps.length : Int))), .val (frameD ps ws), .val most, t3, .val (.str p), .own none (.nd (.dct (ps.map ky)) (ps.map fun z => .nd .lst (R z))), .val (.int A), .und, .und, .und] := oix_ok (s := .und) (by rfl) (by rfl) (by rfl) (dR_ix F.pd hp)
  have hlen : (R p).length ≤ 40 := by
    have h1 : (R p).length ≤ (ps.map R).flatten.length := by
      have : (R p).Sublist (ps.map R).flatten := List.sublist_flatten_of_mem (List.mem_map_of_mem hp)
      exact this.length_le
    rw [h.tot] at h1
    omega
  have ad : pAdd (.nd .lst (R p)) (.nd .lst [edD A p]) = some (.nd .lst (R p ++ [edD A p])) := if_pos (size_big (by rw [List.length_singleton]; omega))
  have s2 : sOset 5 (mVar 4) (mOp pAdd (mOix 5 (mVar 4)) (mFn pLst (mCons (mFn pTup (mCons (mVar 6) (mCons (mVar 4) (mNil)))) (mNil)))) [.own (some 0) (.dr (s.next (ps.length : Int))), .val (frameD ps ws), .val most, t3, .val (.str p), .own none (.nd (.dct (ps.map ky)) (ps.map fun z => .nd .lst (R z))), .val (.int A), .und, .und, .und] = .ok .nx [.own (some 0) (.dr (s.next (ps.length : Int))), .val (frameD ps ws), .val most, t3, .val (.str p), .own none (.nd (.dct (ps.map ky)) (ps.map fun z => .nd .lst ((fun q => if q = p then R p ++ [edD A p] else R q) z))), .val (.int A), .und, .und, .und] := by
    have ev : (mOp pAdd (mOix 5 (mVar 4)) (mFn pLst (mCons (mFn pTup (mCons (mVar 6) (mCons (mVar 4) (mNil)))) (mNil)))) [.own (some 0) (.dr (s.next (ps.length : Int))), .val (frameD ps ws), .val most, t3, .val (.str p), .own none (.nd (.dct (ps.map ky)) (ps.map fun z => .nd .lst (R z))), .val (.int A), .und, .und, .und] = .ok (.nd .lst (R p ++ [edD A p])) [.own (some 0) (.dr (s.next (ps.length : Int))), .val (frameD ps ws), .val most, t3, .val (.str p), .own none (.nd (.dct (ps.map ky)) (ps.map fun z => .nd .lst (R z))), .val (.int A), .und, .und, .und] := by
      rw [ev_op, o1]
      have e2 : (mFn pLst (mCons (mFn pTup (mCons (mVar 6) (mCons (mVar 4) (mNil)))) (mNil))) [.own (some 0) (.dr (s.next (ps.length : Int))), .val (frameD ps ws), .val most, t3, .val (.str p), .own none (.nd (.dct (ps.map ky)) (ps.map fun z => .nd .lst (R z))), .val (.int A), .und, .und, .und] = .ok (.nd .lst [edD A p]) [.own (some 0) (.dr (s.next (ps.length : Int))), .val (frameD ps ws), .val most, t3, .val (.str p), .own none (.nd (.dct (ps.map ky)) (ps.map fun z => .nd .lst (R z))), .val (.int A), .und, .und, .und] := rfl
      simp only [ev_bok, ev_bnd, e2, ad, ev_some]
    refine (oset_dct (ks := ps.map ky) (l := ps.map fun p => .nd .lst (R p)) (k := ky p) (kd := .str p) (ix := none) ev (by rfl) (by rfl) (by rfl) (by rw [List.length_map]; exact Nat.lt_of_le_of_lt hp8 (by decide))).trans ?_
    rw [putZ_map hp]
    have em : (ps.map fun q => if q = p then D.nd .lst (R p ++ [edD A p]) else .nd .lst (R q)) = ps.map fun q => .nd .lst ((fun q => if q = p then R p ++ [edD A p] else R q) q) := by
      apply List.map_congr_left
      intro q _
      by_cases z : q = p
      · rw [if_pos z]; dsimp only; rw [if_pos z]
      · rw [if_neg z]; dsimp only; rw [if_neg z]
    rw [em]
    rfl
  obtain ⟨j0, j1⟩ := (s.next (ps.length : Int)).draw_lt (n := 6) (by decide)
  have ok2 := ok1.next (n := 6) (by decide)
  have c2 := call_next (E := [.own (some 0) (.dr (s.next (ps.length : Int))), .val (frameD ps ws), .val most, t3, .val (.str p), .own none (.nd (.dct (ps.map ky)) (ps.map fun z => .nd .lst ((fun q => if q = p then R p ++ [edD A p] else R q) z))), .val (.int A), .und, .und, .und]) (E' := [.own (some 0) (.dr (s.next (ps.length : Int))), .val (frameD ps ws), .val most, t3, .val (.str p), .own none (.nd (.dct (ps.map ky)) (ps.map fun z => .nd .lst ((fun q => if q = p then R p ++ [edD A p] else R q) z))), .val (.int A), .und, .und, .und]) (a := mC (.int 6)) (i := 0) (ix := some 0) (s := s.next (ps.length : Int)) (n := 6) rfl rfl rfl (by decide) (by decide)
  obtain ⟨x, hx0, x0, x2⟩ : ∃ x : Int, pMax2 [.int 0, .int ((s.next (ps.length : Int)).draw 6 - 3)] = some (.int x) ∧ 0 ≤ x ∧ x ≤ 2 := by
    refine ⟨_, rfl, ?_, ?_⟩
    · split <;> omega
    · split <;> omega
  have s3 : sSet 6 (mOp pAdd (mOp pAdd (mVar 6) (mC (.int 1))) (mFn pMax2 (mCons (mC (.int 0)) (mCons (mOp pSub (mCall 2 semNext (mrR 0 (mrE (mC (.int 6)) (mrNil)))) (mC (.int 3))) (mNil))))) [.own (some 0) (.dr (s.next (ps.length : Int))), .val (frameD ps ws), .val most, t3, .val (.str p), .own none (.nd (.dct (ps.map ky)) (ps.map fun z => .nd .lst ((fun q => if q = p then R p ++ [edD A p] else R q) z))), .val (.int A), .und, .und, .und] = .ok .nx [.own (some 0) (.dr ((s.next (ps.length : Int)).next 6)), .val (frameD ps ws), .val most, t3, .val (.str p), .own none (.nd (.dct (ps.map ky)) (ps.map fun z => .nd .lst ((fun q => if q = p then R p ++ [edD A p] else R q) z))), .val (.int (A + 1 + x)), .und, .und, .und] := by
    simp only [ev_sSet, ev_op, ev_v6, ev_bok, ev_bnd, ev_c, pAdd_int, ev_some, ev_fn, ev_cons, c2, pSub_int, ev_nil, ev_ret, hx0]
    rfl
  refine ⟨_, _, _, .val (.str p), ok2, h.step F.pd hp x0 x2, ?_⟩
  unfold m__law_state_b1
  rw [sSeq_ok s1, sSeq_ok s2]
  exact s3
theorem st_loop1 (F : Frm ps ws) : ∀ (ts : List D) (s : Dr) (R : Str → List D) (A : Int) (n : Nat) (t3 t4 : Sl), s.Ok → RowsOk ps R A n → n + ts.length ≤ 40 → ∃ (s' : Dr) (R' : Str → List D) (A' : Int) (n' : Nat) (b3 b4 : Sl), s'.Ok ∧ RowsOk ps R' A' n' ∧ n' ≤ 40 ∧
    loopD (gN 3) m__law_state_b1 ts [.own (some 0) (.dr s), .val (frameD ps ws), .val most, t3, t4, .own none (.nd (.dct (ps.map ky)) (ps.map fun z => .nd .lst (R z))), .val (.int A), .und, .und, .und] = .ok .nx [.own (some 0) (.dr s'), .val (frameD ps ws), .val most, b3, b4, .own none (.nd (.dct (ps.map ky)) (ps.map fun z => .nd .lst (R' z))), .val (.int A'), .und, .und, .und]
  | [], s, R, A, n, t3, t4, hs, h, hl => ⟨s, R, A, n, t3, t4, hs, h, by simpa using hl, rfl⟩
  | t :: ts, s, R, A, n, t3, t4, hs, h, hl => by
    rw [List.length_cons] at hl
    obtain ⟨s1, R1, A1, c4, ok1, h1, e1⟩ := st_turn F (most := most) (t3 := .val t) (t4 := t4) hs h (by omega)
    obtain ⟨s', R', A', n', b3, b4, ok', h', hn', e2⟩ := st_loop1 F ts s1 R1 A1 (n + 1) (.val t) c4 ok1 h1 (by omega)
    refine ⟨s', R', A', n', b3, b4, ok', h', hn', ?_⟩
    unfold loopD
    have g1 : gN 3 t [.own (some 0) (.dr s), .val (frameD ps ws), .val most, t3, t4, .own none (.nd (.dct (ps.map ky)) (ps.map fun z => .nd .lst (R z))), .val (.int A), .und, .und, .und] = some [.own (some 0) (.dr s), .val (frameD ps ws), .val most, .val t, t4, .own none (.nd (.dct (ps.map ky)) (ps.map fun z => .nd .lst (R z))), .val (.int A), .und, .und, .und] := rfl
    rw [g1]
    dsimp only
    rw [e1]
    exact e2
theorem st_cut (hd : ps.Nodup) {s : Dr} {R : Str → List D} {A : Int} {t3 t9 : Sl} {pre : List Str} {c : Str → Nat} {q : Str} (hs : s.Ok) (hq : q ∈ ps) (hl : (R q).length ≤ 40) (hpre : pre.length ≤ 100) : ∃ (s' : Dr) (k : Nat) (b9 : Sl), s'.Ok ∧
    m__law_state_b2 [.own (some 0) (.dr s), .val (frameD ps ws), .val most, t3, .val (.str q), .own none (.nd (.dct (ps.map ky)) (ps.map fun z => .nd .lst (R z))), .val (.int A), .own none (.nd .lst (rowsD (pre.map fun p => (R p).take (c p)))), .own none (.nd .lst (rowsD (pre.map fun p => ((R p).drop (c p)).reverse))), t9] = .ok .nx [.own (some 0) (.dr s'), .val (frameD ps ws), .val most, t3, .val (.str q), .own none (.nd (.dct (ps.map ky)) (ps.map fun z => .nd .lst (R z))), .val (.int A), .own none (.nd .lst (rowsD (pre.map fun p => (R p).take (c p)) ++ [.nd .lst ((R q).take k)])), .own none (.nd .lst (rowsD (pre.map fun p => ((R p).drop (c p)).reverse) ++ [.nd .lst ((R q).drop k).reverse])), b9] := by
  have o1 : ∀ {s : Dr} {a7 a8 a9 : Sl}, mOix 5 (mVar 4) [.own (some 0) (.dr s), .val (frameD ps ws), .val most, t3, .val (.str q), .own none (.nd (.dct (ps.map ky)) (ps.map fun z => .nd .lst (R z))), .val (.int A), a7, a8, a9] = .ok (.nd .lst (R q)) [.own (some 0) (.dr s), .val (frameD ps ws), .val most, t3, .val (.str q), .own none (.nd (.dct (ps.map ky)) (ps.map fun z => .nd .lst (R z))), .val (.int A), a7, a8, a9] := fun {s a7 a8 a9} => oix_ok (s := .und) (by rfl) (by rfl) (by rfl) (dR_ix hd hq)
  obtain ⟨k0, k1⟩ := s.draw_lt (n := (((R q).length + 1 : Nat) : Int)) (by omega)
  obtain ⟨k, hk⟩ := Int.eq_ofNat_of_zero_le k0
  have ok1 := hs.next (n := (((R q).length + 1 : Nat) : Int)) (by omega)
  have cast : (((R q).length : Nat) : Int) + 1 = (((R q).length + 1 : Nat) : Int) := by omega
  have c1 := call_next (E := [.own (some 0) (.dr s), .val (frameD ps ws), .val most, t3, .val (.str q), .own none (.nd (.dct (ps.map ky)) (ps.map fun z => .nd .lst (R z))), .val (.int A), .own none (.nd .lst (rowsD (pre.map fun p => (R p).take (c p)))), .own none (.nd .lst (rowsD (pre.map fun p => ((R p).drop (c p)).reverse))), t9]) (E' := [.own (some 0) (.dr s), .val (frameD ps ws), .val most, t3, .val (.str q), .own none (.nd (.dct (ps.map ky)) (ps.map fun z => .nd .lst (R z))), .val (.int A), .own none (.nd .lst (rowsD (pre.map fun p => (R p).take (c p)))), .own none (.nd .lst (rowsD (pre.map fun p => ((R p).drop (c p)).reverse))), t9]) (a := mOp pAdd (mFn pLen (mCons (mOix 5 (mVar 4)) (mNil))) (mC (.int 1))) (i := 0) (ix := some 0) (s := s) (n := (((R q).length + 1 : Nat) : Int)) (by
    simp only [ev_op, ev_fn, ev_cons, o1, ev_bok, ev_bnd, ev_nil, ev_ret, pLen_lst, ev_some, ev_c, pAdd_int, cast]) rfl rfl (by omega) (log_small (by omega))
  rw [hk] at c1
  have s1 : sSet 9 (mCall 2 semNext (mrR 0 (mrE (mOp pAdd (mFn pLen (mCons (mOix 5 (mVar 4)) (mNil))) (mC (.int 1))) (mrNil)))) [.own (some 0) (.dr s), .val (frameD ps ws), .val most, t3, .val (.str q), .own none (.nd (.dct (ps.map ky)) (ps.map fun z => .nd .lst (R z))), .val (.int A), .own none (.nd .lst (rowsD (pre.map fun p => (R p).take (c p)))), .own none (.nd .lst (rowsD (pre.map fun p => ((R p).drop (c p)).reverse))), t9] = .ok .nx [.own (some 0) (.dr (s.next (((R q).length + 1 : Nat) : Int))), .val (frameD ps ws), .val most, t3, .val (.str q), .own none (.nd (.dct (ps.map ky)) (ps.map fun z => .nd .lst (R z))), .val (.int A), .own none (.nd .lst (rowsD (pre.map fun p => (R p).take (c p)))), .own none (.nd .lst (rowsD (pre.map fun p => ((R p).drop (c p)).reverse))), .val (.int (k : Int))] := (sSet_ok c1).trans rfl
  have rl : ∀ {g : Str → List D}, (rowsD (pre.map g)).length < sizeLine := fun {g} => by
    unfold rowsD
    rw [List.length_map, List.length_map]
    exact Nat.lt_of_le_of_lt hpre (by decide)
  have s2 : sApp 7 (mSl (mOix 5 (mVar 4)) none (some (mVar 9))) [.own (some 0) (.dr (s.next (((R q).length + 1 : Nat) : Int))), .val (frameD ps ws), .val most, t3, .val (.str q), .own none (.nd (.dct (ps.map ky)) (ps.map fun z => .nd .lst (R z))), .val (.int A), .own none (.nd .lst (rowsD (pre.map fun p => (R p).take (c p)))), .own none (.nd .lst (rowsD (pre.map fun p => ((R p).drop (c p)).reverse))), .val (.int (k : Int))] = .ok .nx [.own (some 0) (.dr (s.next (((R q).length + 1 : Nat) : Int))), .val (frameD ps ws), .val most, t3, .val (.str q), .own none (.nd (.dct (ps.map ky)) (ps.map fun z => .nd .lst (R z))), .val (.int A), .own none (.nd .lst (rowsD (pre.map fun p => (R p).take (c p)) ++ [.nd .lst ((R q).take k)])), .own none (.nd .lst (rowsD (pre.map fun p => ((R p).drop (c p)).reverse))), .val (.int (k : Int))] := by
    refine (sApp_ok (d := .nd .lst ((R q).take k)) (l' := rowsD (pre.map fun p => (R p).take (c p))) (by rfl) (by simp only [ev_sl, o1, ev_bok, ev_bnd, ev_part0, ev_part, ev_v9, ev_prtK, pSlL_to, ev_some]; rfl) (by rfl) rl).trans ?_
    rfl
  have s3 : sApp 8 (mRev (mSl (mOix 5 (mVar 4)) (some (mVar 9)) none)) [.own (some 0) (.dr (s.next (((R q).length + 1 : Nat) : Int))), .val (frameD ps ws), .val most, t3, .val (.str q), .own none (.nd (.dct (ps.map ky)) (ps.map fun z => .nd .lst (R z))), .val (.int A), .own none (.nd .lst (rowsD (pre.map fun p => (R p).take (c p)) ++ [.nd .lst ((R q).take k)])), .own none (.nd .lst (rowsD (pre.map fun p => ((R p).drop (c p)).reverse))), .val (.int (k : Int))] = .ok .nx [.own (some 0) (.dr (s.next (((R q).length + 1 : Nat) : Int))), .val (frameD ps ws), .val most, t3, .val (.str q), .own none (.nd (.dct (ps.map ky)) (ps.map fun z => .nd .lst (R z))), .val (.int A), .own none (.nd .lst (rowsD (pre.map fun p => (R p).take (c p)) ++ [.nd .lst ((R q).take k)])), .own none (.nd .lst (rowsD (pre.map fun p => ((R p).drop (c p)).reverse) ++ [.nd .lst ((R q).drop k).reverse])), .val (.int (k : Int))] := by
    have rv : pRev (.nd .lst ((R q).drop k)) = some (.nd .lst ((R q).drop k).reverse) := rfl
    refine (sApp_ok (d := .nd .lst ((R q).drop k).reverse) (l' := rowsD (pre.map fun p => ((R p).drop (c p)).reverse)) (by rfl) (by simp only [ev_rev, ev_sl, o1, ev_bok, ev_bnd, ev_part0, ev_part, ev_v9, ev_prtK, pSlL_from, ev_some, rv]; rfl) (by rfl) rl).trans ?_
    rfl
  refine ⟨s.next (((R q).length + 1 : Nat) : Int), k, .val (.int (k : Int)), ok1, ?_⟩
  unfold m__law_state_b2
  rw [sSeq_ok s1, sSeq_ok s2]
  exact s3
theorem st_loop2 (hd : ps.Nodup) (hp8 : ps.length ≤ 8) {R : Str → List D} {A : Int} {t3 : Sl} (hR : ∀ p ∈ ps, (R p).length ≤ 40) : ∀ (qs pre : List Str) (c : Str → Nat) (s : Dr) (t4 t9 : Sl), pre ++ qs = ps → s.Ok → ∃ (s' : Dr) (c' : Str → Nat) (b4 b9 : Sl), s'.Ok ∧
    loopD (gN 4) m__law_state_b2 (sds qs) [.own (some 0) (.dr s), .val (frameD ps ws), .val most, t3, t4, .own none (.nd (.dct (ps.map ky)) (ps.map fun z => .nd .lst (R z))), .val (.int A), .own none (.nd .lst (rowsD (pre.map fun p => (R p).take (c p)))), .own none (.nd .lst (rowsD (pre.map fun p => ((R p).drop (c p)).reverse))), t9] = .ok .nx [.own (some 0) (.dr s'), .val (frameD ps ws), .val most, t3, b4, .own none (.nd (.dct (ps.map ky)) (ps.map fun z => .nd .lst (R z))), .val (.int A), .own none (.nd .lst (rowsD (ps.map fun p => (R p).take (c' p)))), .own none (.nd .lst (rowsD (ps.map fun p => ((R p).drop (c' p)).reverse))), b9]
  | [], pre, c, s, t4, t9, he, hs => by
    rw [List.append_nil] at he
    subst he
    exact ⟨s, c, t4, t9, hs, rfl⟩
  | q :: qs, pre, c, s, t4, t9, he, hs => by
    have hq : q ∈ ps := by rw [← he]; simp
    have hpre : pre.length ≤ 100 := by
      have : pre.length ≤ ps.length := by rw [← he]; simp
      omega
    have hnp : q ∉ pre := by
      rw [← he] at hd
      exact fun z => (List.nodup_append.mp hd).2.2 q z q List.mem_cons_self rfl
    obtain ⟨s1, k, c9, ok1, e1⟩ := st_cut (ws := ws) (most := most) hd (A := A) (t3 := t3) (t9 := t9) (pre := pre) (c := c) hs hq (hR q hq) hpre
    have ea : ∀ (g : Nat → List D → List D), rowsD (pre.map fun p => g (c p) (R p)) ++ [.nd .lst (g k (R q))] = rowsD ((pre ++ [q]).map fun p => g ((fun z => if z = q then k else c z) p) (R p)) := fun g => by
      unfold rowsD
      rw [List.map_append, List.map_append]
      congr 1
      · congr 1
        apply List.map_congr_left
        intro p hp
        have : p ≠ q := fun z => hnp (z ▸ hp)
        dsimp only
        rw [if_neg this]
      · simp
    have e7 := ea fun k l => l.take k
    have e8 := ea fun k l => (l.drop k).reverse
    obtain ⟨s', c', b4, b9, ok', e2⟩ := st_loop2 hd hp8 hR qs (pre ++ [q]) (fun z => if z = q then k else c z) s1 (.val (.str q)) c9 (by rw [← he]; simp) ok1
    refine ⟨s', c', b4, b9, ok', ?_⟩
    show loopD (gN 4) m__law_state_b2 (.str q :: sds qs) _ = _
    unfold loopD
    have g1 : gN 4 (.str q) [.own (some 0) (.dr s), .val (frameD ps ws), .val most, t3, t4, .own none (.nd (.dct (ps.map ky)) (ps.map fun z => .nd .lst (R z))), .val (.int A), .own none (.nd .lst (rowsD (pre.map fun p => (R p).take (c p)))), .own none (.nd .lst (rowsD (pre.map fun p => ((R p).drop (c p)).reverse))), t9] = some [.own (some 0) (.dr s), .val (frameD ps ws), .val most, t3, .val (.str q), .own none (.nd (.dct (ps.map ky)) (ps.map fun z => .nd .lst (R z))), .val (.int A), .own none (.nd .lst (rowsD (pre.map fun p => (R p).take (c p)))), .own none (.nd .lst (rowsD (pre.map fun p => ((R p).drop (c p)).reverse))), t9] := rfl
    rw [g1]
    dsimp only
    rw [e1]
    dsimp only
    dsimp only at e7 e8
    rw [e7, e8]
    exact e2
end
/-! ### the rows, mixed -/
theorem flat_part {f : Str → List D} {p : Str} : ∀ {ps : List Str}, ps.Nodup → (∀ q ∈ ps, ∀ x ∈ f q, partD x = q) → (ps.map f).flatten.filter (fun d => decide (partD d = p)) = if p ∈ ps then f p else []
  | [], _, _ => by simp
  | q :: ps, hd, hf => by
    obtain ⟨h1, h2⟩ := List.nodup_cons.mp hd
    have ih := flat_part (f := f) (p := p) h2 fun r hr => hf r (List.mem_cons_of_mem _ hr)
    rw [List.map_cons, List.flatten_cons, List.filter_append, ih]
    have hq := hf q List.mem_cons_self
    by_cases e : q = p
    · subst e
      rw [if_neg h1, if_pos List.mem_cons_self, List.append_nil, List.filter_eq_self.mpr (fun x hx => decide_eq_true (hq x hx))]
    · have h0 : (f q).filter (fun d => decide (partD d = p)) = [] := by
        rw [List.filter_eq_nil_iff]
        intro x hx
        rw [hq x hx]
        simpa using e
      rw [h0, List.nil_append]
      have : (p ∈ q :: ps) ↔ p ∈ ps := ⟨fun z => (List.mem_cons.mp z).resolve_left fun w => e w.symm, List.mem_cons_of_mem _⟩
      by_cases hm : p ∈ ps
      · rw [if_pos hm, if_pos (this.mpr hm)]
      · rw [if_neg hm, if_neg (fun z => hm (this.mp z))]
theorem hom_map {f : Str → List D} {ps : List Str} (hd : ps.Nodup) (hf : ∀ q ∈ ps, ∀ x ∈ f q, partD x = q) : Hom (ps.map f) := by
  unfold Hom
  rw [List.pairwise_map]
  induction ps with
  | nil => exact .nil
  | cons q ps ih =>
    obtain ⟨h1, h2⟩ := List.nodup_cons.mp hd
    rw [List.pairwise_cons]
    refine ⟨fun r hr x hx y hy z => ?_, ih h2 fun r hr => hf r (List.mem_cons_of_mem _ hr)⟩
    rw [hf q List.mem_cons_self x hx, hf r (List.mem_cons_of_mem _ hr) y hy] at z
    exact h1 (z ▸ hr)
theorem mixed_part {f : Str → List D} {ps : List Str} {r : List D} (hd : ps.Nodup) (hf : ∀ q ∈ ps, ∀ x ∈ f q, partD x = q) (m : Mixed (ps.map f).flatten r) : (∀ x ∈ r, partD x ∈ ps) ∧ ∀ p ∈ ps, r.filter (fun d => decide (partD d = p)) = f p := by
  refine ⟨fun x hx => ?_, fun p hp => by rw [m.fil p, flat_part hd hf, if_pos hp]⟩
  have h1 : x ∈ r.filter (fun d => decide (partD d = partD x)) := List.mem_filter.mpr ⟨hx, decide_eq_true rfl⟩
  rw [m.fil, flat_part hd hf] at h1
  split at h1
  · assumption
  · cases h1
theorem flat_nil : ∀ ps : List Str, (ps.map fun _ => ([] : List D)).flatten.length = 0
  | [] => rfl
  | _ :: ps => by rw [List.map_cons, List.flatten_cons, List.nil_append]; exact flat_nil ps
theorem cut_len {R : Str → List D} {c : Str → Nat} : ∀ ps : List Str, (ps.map fun p => (R p).take (c p)).flatten.length + (ps.map fun p => ((R p).drop (c p)).reverse).flatten.length = (ps.map R).flatten.length
  | [] => rfl
  | p :: ps => by
    have ih := cut_len (R := R) (c := c) ps
    simp only [List.map_cons, List.flatten_cons, List.length_append, List.length_take, List.length_reverse, List.length_drop]
    omega
theorem state_ok {ps : List Str} {ws : List (Str × List Str)} (F : Frm ps ws) {s : Dr} {most : Nat} (hs : s.Ok) (hm : most ≤ 40) : ∃ (s' : Dr) (R : Str → List D) (A : Int) (n : Nat) (c : Str → Nat) (ds us : List D), s'.Ok ∧ RowsOk ps R A n ∧ A ≤ 1000 ∧ StOk ps R c ds us ∧
    f__law_state [.o (.dr s), .v (frameD ps ws), .v (.int (most : Int))] = .ok (.nd .tup [.nd .tup ds, .nd .tup us]) [.o (.dr s'), .v (frameD ps ws), .v (.int (most : Int))] := by
  have hp8 := F.p8
  -- the rows, empty, and the first age
  have e1 := lc_of (mi := mSeq (mOp pIxA (mVar 1) (mC (.int 0)))) (i := 4) (t := mYes) (m := mFn pTup (mCons (mVar 4) (mCons (mFn pLst (mNil)) (mNil)))) (E := [.own (some 0) (.dr s), .val (frameD ps ws), .val (.int (most : Int)), .und, .und, .und, .und, .und, .und, .und]) (ds := sds ps) (fun _ => true) (fun d => .nd .tup [d, .nd .lst []]) rfl rfl
    (size_big (by rw [sds_len]; omega)) (fun d _ => rfl) (fun d _ _ => rfl)
  rw [List.filter_eq_self.mpr (fun _ _ => rfl)] at e1
  have e1' : (sds ps).map (fun d => D.nd .tup [d, .nd .lst []]) = ps.map fun p => .nd .tup [.str p, (fun _ : Str => D.nd .lst []) p] := by unfold sds; rw [List.map_map]; rfl
  rw [e1'] at e1
  have n1 : nDictP (mLc (mSeq (mOp pIxA (mVar 1) (mC (.int 0)))) (gN 4) (mYes) (mFn pTup (mCons (mVar 4) (mCons (mFn pLst (mNil)) (mNil)))) [4]) [.own (some 0) (.dr s), .val (frameD ps ws), .val (.int (most : Int)), .und, .und, .und, .und, .und, .und, .und] = .ok (.dct (ps.map ky), ps.map fun p => .nd .lst ((fun _ => []) p)) [.own (some 0) (.dr s), .val (frameD ps ws), .val (.int (most : Int)), .und, .und, .und, .und, .und, .und, .und] := by
    unfold nDictP
    rw [M.bnd_ok e1]
    dsimp only
    rw [pairs_map]
    dsimp only
    have := foldZ_new (f := fun _ : Str => D.nd .lst []) ps [] [] (by simpa using F.pd)
    simp only [List.map_nil, List.nil_append] at this
    rw [this]
    rfl
  have c1 := call_next (E := [.own (some 0) (.dr s), .val (frameD ps ws), .val (.int (most : Int)), .und, .und, .und, .und, .und, .und, .und]) (E' := [.own (some 0) (.dr s), .val (frameD ps ws), .val (.int (most : Int)), .und, .und, .und, .und, .und, .und, .und]) (a := mC (.int 3)) (i := 0) (ix := some 0) (s := s) (n := 3) rfl rfl rfl (by decide) (by decide)
  obtain ⟨d0, d1⟩ := s.draw_lt (n := 3) (by decide)
  have ok1 := hs.next (n := 3) (by decide)
  have p1 : sPar2 5 6 (pN (nDictP (mLc (mSeq (mOp pIxA (mVar 1) (mC (.int 0)))) (gN 4) (mYes) (mFn pTup (mCons (mVar 4) (mCons (mFn pLst (mNil)) (mNil)))) [4]))) (pD (mCall 2 semNext (mrR 0 (mrE (mC (.int 3)) (mrNil))))) [.own (some 0) (.dr s), .val (frameD ps ws), .val (.int (most : Int)), .und, .und, .und, .und, .und, .und, .und] = .ok .nx [.own (some 0) (.dr (s.next 3)), .val (frameD ps ws), .val (.int (most : Int)), .und, .und, .own none (.nd (.dct (ps.map ky)) (ps.map fun p => .nd .lst ((fun _ => []) p))), .val (.int (s.draw 3)), .und, .und, .und] := by
    unfold sPar2
    rw [M.bnd_ok (show pN _ [.own (some 0) (.dr s), .val (frameD ps ws), .val (.int (most : Int)), .und, .und, .und, .und, .und, .und, .und] = .ok (.inr (.dct (ps.map ky), ps.map fun p => .nd .lst ((fun _ => []) p))) [.own (some 0) (.dr s), .val (frameD ps ws), .val (.int (most : Int)), .und, .und, .und, .und, .und, .und, .und] from by unfold pN; rw [M.bnd_ok n1]; rfl)]
    rw [M.bnd_ok (show pD _ [.own (some 0) (.dr s), .val (frameD ps ws), .val (.int (most : Int)), .und, .und, .und, .und, .und, .und, .und] = .ok (.inl (.int (s.draw 3))) (([.own (some 0) (.dr s), .val (frameD ps ws), .val (.int (most : Int)), .und, .und, .und, .und, .und, .und, .und] : Env').set 0 (.own (some 0) (.dr (s.next 3)))) from by unfold pD; rw [M.bnd_ok c1]; rfl)]
    rfl
  have R0 : RowsOk ps (fun _ => []) (s.draw 3) 0 := by
    refine ⟨fun p _ x hx => (by cases hx), fun p _ => .nil, fun p _ q _ _ x hx => (by cases hx), flat_nil ps, d0, by show s.draw 3 ≤ 2 + 3 * 0; omega⟩
  -- the turns
  have c2 := call_next (E := [.own (some 0) (.dr (s.next 3)), .val (frameD ps ws), .val (.int (most : Int)), .und, .und, .own none (.nd (.dct (ps.map ky)) (ps.map fun p => .nd .lst ((fun _ => []) p))), .val (.int (s.draw 3)), .und, .und, .und]) (E' := [.own (some 0) (.dr (s.next 3)), .val (frameD ps ws), .val (.int (most : Int)), .und, .und, .own none (.nd (.dct (ps.map ky)) (ps.map fun p => .nd .lst ((fun _ => []) p))), .val (.int (s.draw 3)), .und, .und, .und]) (a := mOp pAdd (mVar 2) (mC (.int 1))) (i := 0) (ix := some 0) (s := s.next 3) (n := ((most + 1 : Nat) : Int)) rfl rfl rfl (by omega) (log_small (by omega))
  obtain ⟨t0, t1⟩ := (s.next 3).draw_lt (n := ((most + 1 : Nat) : Int)) (by omega)
  obtain ⟨k, hk⟩ := Int.eq_ofNat_of_zero_le t0
  have ok2 := ok1.next (n := ((most + 1 : Nat) : Int)) (by omega)
  rw [hk] at c2 t1
  have hR : mRange (mCons (mCall 2 semNext (mrR 0 (mrE (mOp pAdd (mVar 2) (mC (.int 1))) (mrNil)))) mNil) [.own (some 0) (.dr (s.next 3)), .val (frameD ps ws), .val (.int (most : Int)), .und, .und, .own none (.nd (.dct (ps.map ky)) (ps.map fun p => .nd .lst ((fun _ => []) p))), .val (.int (s.draw 3)), .und, .und, .und] = .ok (rangeD 0 k) [.own (some 0) (.dr ((s.next 3).next ((most + 1 : Nat) : Int))), .val (frameD ps ws), .val (.int (most : Int)), .und, .und, .own none (.nd (.dct (ps.map ky)) (ps.map fun p => .nd .lst ((fun _ => []) p))), .val (.int (s.draw 3)), .und, .und, .und] := mRangeN (n := k) (by rw [ev_cons, c2]; rfl) (by omega)
  obtain ⟨s2, R, A, n, b3, b4, ok3, hRow, hn, eL1⟩ := st_loop1 F (most := .int (most : Int)) (rangeD 0 k) ((s.next 3).next ((most + 1 : Nat) : Int)) (fun _ => []) (s.draw 3) 0 .und .und ok2 R0 (by
    have : (rangeD 0 k).length = k := by unfold rangeD; simp
    rw [this]; omega)
  have hRl : ∀ p ∈ ps, (R p).length ≤ 40 := fun p hp => by
    have h1 : (R p).length ≤ (ps.map R).flatten.length := (List.sublist_flatten_of_mem (List.mem_map_of_mem hp)).length_le
    rw [hRow.tot] at h1
    omega
  have p2 : sPar2 7 8 (pN (nLst (mNil))) (pN (nLst (mNil))) [.own (some 0) (.dr s2), .val (frameD ps ws), .val (.int (most : Int)), b3, b4, .own none (.nd (.dct (ps.map ky)) (ps.map fun p => .nd .lst (R p))), .val (.int A), .und, .und, .und] = .ok .nx [.own (some 0) (.dr s2), .val (frameD ps ws), .val (.int (most : Int)), b3, b4, .own none (.nd (.dct (ps.map ky)) (ps.map fun p => .nd .lst (R p))), .val (.int A), .own none (.nd .lst (rowsD ([].map fun p => (R p).take ((fun _ => 0) p)))), .own none (.nd .lst (rowsD ([].map fun p => ((R p).drop ((fun _ => 0) p)).reverse))), .und] := rfl
  obtain ⟨s3, c, d4, d9, ok4, eL2⟩ := st_loop2 (ws := ws) (most := .int (most : Int)) F.pd hp8 (A := A) (t3 := b3) hRl ps [] (fun _ => 0) s2 b4 .und rfl ok3
  have fm : ∀ q ∈ ps, ∀ x ∈ R q, partD x = q := fun q hq x hx => by
    rw [(hRow.form q hq x hx).1]; rfl
  have f1 : ∀ q ∈ ps, ∀ x ∈ (R q).take (c q), partD x = q := fun q hq x hx => fm q hq x (List.mem_of_mem_take hx)
  have f2 : ∀ q ∈ ps, ∀ x ∈ ((R q).drop (c q)).reverse, partD x = q := fun q hq x hx => fm q hq x (List.mem_of_mem_drop (List.mem_reverse.mp hx))
  have cl := cut_len (R := R) (c := c) ps
  rw [hRow.tot] at cl
  obtain ⟨s4, ds, ok5, mx1, m1⟩ := mixture_ok (L := ps.map fun p => (R p).take (c p)) ok4 (hom_map F.pd f1) (by rw [List.length_map]; omega) (by omega)
  obtain ⟨s5, us, ok6, mx2, m2⟩ := mixture_ok (L := ps.map fun p => ((R p).drop (c p)).reverse) ok5 (hom_map F.pd f2) (by rw [List.length_map]; omega) (by omega)
  obtain ⟨g1, g2⟩ := mixed_part F.pd f1 mx1
  obtain ⟨g3, g4⟩ := mixed_part F.pd f2 mx2
  refine ⟨s5, R, A, n, c, ds, us, ok6, hRow, by have := hRow.aN; omega, ⟨g1, g3, g2, g4, by rw [mx1.len, mx2.len]; omega⟩, ?_⟩
  have k1 : mCall 2 f__law_mixture (mrR 0 (mrE (mVar 7) (mrNil))) [.own (some 0) (.dr s3), .val (frameD ps ws), .val (.int (most : Int)), b3, d4, .own none (.nd (.dct (ps.map ky)) (ps.map fun p => .nd .lst (R p))), .val (.int A), .val (.nd .lst (rowsD (ps.map fun p => (R p).take (c p)))), .val (.nd .lst (rowsD (ps.map fun p => ((R p).drop (c p)).reverse))), d9] = .ok (.nd .lst ds) [.own (some 0) (.dr s4), .val (frameD ps ws), .val (.int (most : Int)), b3, d4, .own none (.nd (.dct (ps.map ky)) (ps.map fun p => .nd .lst (R p))), .val (.int A), .val (.nd .lst (rowsD (ps.map fun p => (R p).take (c p)))), .val (.nd .lst (rowsD (ps.map fun p => ((R p).drop (c p)).reverse))), d9] := by
    rw [callD (n := 2) (f := f__law_mixture) (i := 0) (ix := some 0) (s := s3) (s' := s4) (ms := mrE (mVar 7) (mrNil)) (E' := [.own (some 0) (.dr s3), .val (frameD ps ws), .val (.int (most : Int)), b3, d4, .own none (.nd (.dct (ps.map ky)) (ps.map fun p => .nd .lst (R p))), .val (.int A), .val (.nd .lst (rowsD (ps.map fun p => (R p).take (c p)))), .val (.nd .lst (rowsD (ps.map fun p => ((R p).drop (c p)).reverse))), d9]) (xs := [.nd .lst (rowsD (ps.map fun p => (R p).take (c p)))]) (d := .nd .lst ds) rfl rfl rfl rfl m1]
    rfl
  have k2 : mCall 2 f__law_mixture (mrR 0 (mrE (mVar 8) (mrNil))) [.own (some 0) (.dr s4), .val (frameD ps ws), .val (.int (most : Int)), b3, d4, .own none (.nd (.dct (ps.map ky)) (ps.map fun p => .nd .lst (R p))), .val (.int A), .val (.nd .lst (rowsD (ps.map fun p => (R p).take (c p)))), .val (.nd .lst (rowsD (ps.map fun p => ((R p).drop (c p)).reverse))), d9] = .ok (.nd .lst us) [.own (some 0) (.dr s5), .val (frameD ps ws), .val (.int (most : Int)), b3, d4, .own none (.nd (.dct (ps.map ky)) (ps.map fun p => .nd .lst (R p))), .val (.int A), .val (.nd .lst (rowsD (ps.map fun p => (R p).take (c p)))), .val (.nd .lst (rowsD (ps.map fun p => ((R p).drop (c p)).reverse))), d9] := by
    rw [callD (n := 2) (f := f__law_mixture) (i := 0) (ix := some 0) (s := s4) (s' := s5) (ms := mrE (mVar 8) (mrNil)) (E' := [.own (some 0) (.dr s4), .val (frameD ps ws), .val (.int (most : Int)), b3, d4, .own none (.nd (.dct (ps.map ky)) (ps.map fun p => .nd .lst (R p))), .val (.int A), .val (.nd .lst (rowsD (ps.map fun p => (R p).take (c p)))), .val (.nd .lst (rowsD (ps.map fun p => ((R p).drop (c p)).reverse))), d9]) (xs := [.nd .lst (rowsD (ps.map fun p => ((R p).drop (c p)).reverse))]) (d := .nd .lst us) rfl rfl rfl rfl m2]
    rfl
  refine sem_rtD (n := 10) (ds := [frameD ps ws, .int (most : Int)]) (E := [.own (some 0) (.dr s5), .val (frameD ps ws), .val (.int (most : Int)), b3, d4, .own none (.nd (.dct (ps.map ky)) (ps.map fun p => .nd .lst (R p))), .val (.int A), .val (.nd .lst (rowsD (ps.map fun p => (R p).take (c p)))), .val (.nd .lst (rowsD (ps.map fun p => ((R p).drop (c p)).reverse))), d9]) ?_ rfl
  show m__law_state [.own (some 0) (.dr s), .val (frameD ps ws), .val (.int (most : Int)), .und, .und, .und, .und, .und, .und, .und] = _
  unfold m__law_state
  rw [sSeq_ok p1, sSeq_ok ((sFor_ok hR).trans eL1), sSeq_ok p2]
  refine (sSeq_ok ((sFor_ok (show mSeq (mOp pIxA (mVar 1) (mC (.int 0))) [.own (some 0) (.dr s2), .val (frameD ps ws), .val (.int (most : Int)), b3, b4, .own none (.nd (.dct (ps.map ky)) (ps.map fun p => .nd .lst (R p))), .val (.int A), .own none (.nd .lst (rowsD ([].map fun p => (R p).take ((fun _ => 0) p)))), .own none (.nd .lst (rowsD ([].map fun p => ((R p).drop ((fun _ => 0) p)).reverse))), .und] = .ok (sds ps) [.own (some 0) (.dr s2), .val (frameD ps ws), .val (.int (most : Int)), b3, b4, .own none (.nd (.dct (ps.map ky)) (ps.map fun p => .nd .lst (R p))), .val (.int A), .own none (.nd .lst (rowsD ([].map fun p => (R p).take ((fun _ => 0) p)))), .own none (.nd .lst (rowsD ([].map fun p => ((R p).drop ((fun _ => 0) p)).reverse))), .und] from rfl)).trans eL2)).trans ?_
  show (sRet _) [.own (some 0) (.dr s3), .val (frameD ps ws), .val (.int (most : Int)), b3, d4, .own none (.nd (.dct (ps.map ky)) (ps.map fun p => .nd .lst (R p))), .val (.int A), .val (.nd .lst (rowsD (ps.map fun p => (R p).take (c p)))), .val (.nd .lst (rowsD (ps.map fun p => ((R p).drop (c p)).reverse))), d9] = _
  simp only [ev_sRet, ev_fn, ev_cons, k1, k2, ev_bok, ev_bnd, ev_nil, ev_ret, pTuple_lst, ev_some, pTup_2]
end Law

/-! Drawn states: weights. -/
namespace Law
open PySem PySem.Spec PyProof.Rows L2 Wu He
def stD (ds us : List D) : D := .nd .tup [.nd .tup ds, .nd .tup us]
theorem tupN_ok {w m : Nat} {l : List D} (h : ∀ d ∈ l, Ok w m d) : Ok ((w + 2) * l.length + 3) (m + 1) (.nd .tup l) := by
  obtain ⟨h1, h2, h3⟩ := lstN_ok h
  exact ⟨h1, h2, h3⟩
theorem Ok.up {w m w' m' : Nat} {d : D} (h : Ok w m d) (hw : w ≤ w') (hm : m ≤ m') : Ok w' m' d := ⟨h.f, Nat.le_trans h.w hw, Nat.le_trans h.m hm⟩
theorem edge_ok {a : Int} {p : Str} (ha : a.natAbs.log2 < 1920) (hp : nameB p = true) : Ok 2010 1 (edD a p) := by
  have hp' := hp
  unfold nameB at hp'
  simp only [Bool.and_eq_true, decide_eq_true_eq] at hp'
  refine ⟨?_, ?_, ?_⟩
  · show (decide (a.natAbs.log2 < 1920) && ((D.str p).fine && true)) = true
    rw [decide_eq_true ha, name_fine hp]; rfl
  · show 1921 + 2 + (10 * p.length + 2 + 2 + 0) + 3 ≤ 2010
    omega
  · show max 0 (max 0 0) + 1 ≤ 1
    decide
theorem log_age {a : Int} (h0 : 0 ≤ a) (h1 : a ≤ 1000) : a.natAbs.log2 < 1920 := by
  obtain ⟨k, rfl⟩ := Int.eq_ofNat_of_zero_le h0
  have e : ((k : Int)).natAbs = k := by omega
  rw [e]
  by_cases hk : k = 0
  · subst hk; decide
  · exact (Nat.log2_lt hk).mpr (Nat.lt_of_le_of_lt (show k ≤ 1000 by omega) (Nat.lt_of_lt_of_le (show 1000 < 2 ^ 10 by decide) (Nat.pow_le_pow_right (by decide) (by decide))))
section
variable {ps : List Str} {ws : List (Str × List Str)} {ds us : List D}
theorem ed_okk (F : Frm ps ws) {d : D} (h : isEd ps d = true) : Ok 2010 1 d := by
  obtain ⟨a, p, rfl, a0, a9, hp⟩ := isEd_inv h
  exact edge_ok (log_age a0 (by omega)) (F.pn p hp)
theorem eds_ok (F : Frm ps ws) {l : List D} (h : ∀ d ∈ l, isEd ps d = true) : Ok (2012 * l.length + 3) 2 (.nd .tup l) := tupN_ok fun d hd => ed_okk F (h d hd)
theorem two_ok {w1 w2 m : Nat} {a b : D} (ha : Ok w1 m a) (hb : Ok w2 m b) : Ok (w1 + w2 + 10) (m + 1) (.nd .tup [a, b]) := by
  obtain ⟨a1, a2, a3⟩ := ha
  obtain ⟨b1, b2, b3⟩ := hb
  refine ⟨?_, ?_, ?_⟩
  · show (a.fine && (b.fine && true)) = true; rw [a1, b1]; rfl
  · show a.wt + 2 + (b.wt + 2 + 0) + 3 ≤ w1 + w2 + 10; omega
  · show max a.dp (max b.dp 0) + 1 ≤ m + 1; omega
/-- a state that was drawn -/
structure Drawn (ps : List Str) (ds us : List D) : Prop where
  good : stErr ps (stD ds us) = none
  de : ∀ d ∈ ds, isEd ps d = true
  ue : ∀ d ∈ us, isEd ps d = true
  ln : ds.length + us.length ≤ 40
theorem drawn_of {R : Str → List D} {A : Int} {n : Nat} {c : Str → Nat} (h : RowsOk ps R A n) (hA : A ≤ 1000) (S : StOk ps R c ds us) : Drawn ps ds us :=
  ⟨state_good h hA S, fun d hd => ed_of h hA (S.dp d hd) (List.mem_of_mem_take (S.dm hd)), fun d hd => ed_of h hA (S.up d hd) (List.mem_of_mem_drop (S.um hd)), S.ln⟩
theorem drawn_ok (F : Frm ps ws) (S : Drawn ps ds us) : Ok 81000 3 (stD ds us) ∧ Ok 81000 3 (.nd .tup ds) ∧ Ok 81000 3 (.nd .tup us) := by
  have h1 := eds_ok F S.de
  have h2 := eds_ok F S.ue
  have hl := S.ln
  exact ⟨(two_ok h1 h2).up (by omega) (Nat.le_refl _), h1.up (by omega) (by omega), h2.up (by omega) (by omega)⟩
end
theorem call3_ex {f : Sm} {a b c : M D} {E E1 E2 E3 : Env'} {x y z : D} {e : Exn} (ha : a E = .ok x E1) (hb : b E1 = .ok y E2) (hc : c E2 = .ok z E3) (hf : f [.v x, .v y, .v z] = .ex e [.v x, .v y, .v z]) : mCall 3 f (mrE a (mrE b (mrE c mrNil))) E = .ex e E3 := by
  have e1 : mrE a (mrE b (mrE c mrNil)) E = .ok ([x, y, z].map Sum.inl) E3 := by
    simp only [ev_mrE, ha, ev_bok, ev_bnd, hb, hc, ev_mrNil, ev_ret]; rfl
  unfold mCall
  rw [M.bnd_ok e1, gather_v, rOk_v]
  simp only [List.length_map, List.length_cons, List.length_nil, Bool.true_and, beq_self_eq_true, if_true, Nat.reduceAdd]
  show (match f [.v x, .v y, .v z] with | .ok d as' => _ | .ex x as' => _ | .bad => _) = _
  rw [hf]
  dsimp only
  rw [if_pos (show shapes ([x, y, z].map Sum.inl) [Ag.v x, Ag.v y, Ag.v z] = true from rfl), scat_v (by intro q hq; simp at hq; rcases hq with rfl | rfl | rfl <;> exact ⟨_, rfl⟩)]
theorem make_bad {fr p : D} {m : M D} {E E' : Env'} (h : fr.fine = true) (hp : frameErr fr = some p) (hm : m E = .ok fr E') : mMake "Views" 2 f_Views___init__ (mCons m mNil) E = .ex (BF p) E' := by
  unfold mMake
  rw [M.bnd_ok (show mCons m mNil E = .ok [fr] E' from by rw [ev_cons, hm]; rfl)]
  unfold zMk
  rw [if_pos (show [fr].length + 1 = 2 from rfl)]
  show (match f_Views___init__ [.o (.nd (.ob "Views" []) []), .v fr] with | .ok .non (.o (.nd (.ob c' fs) l) :: _) => R.ok (D.nd (.ob c' fs) l) E' | .ex x _ => .ex x E' | _ => .bad) = _
  rw [init_bad h hp]
theorem sExpr_ok {m : M D} {E E' : Env'} {d : D} (h : m E = .ok d E') : sExpr m E = .ok .nx E' := by rw [ev_sExpr, h]; rfl
theorem sExpr_ex {m : M D} {E E' : Env'} {x : Exn} (h : m E = .ex x E') : sExpr m E = .ex x E' := by rw [ev_sExpr, h]; rfl
theorem sSet_ex {i : Nat} {m : M D} {E E' : Env'} {x : Exn} (h : m E = .ex x E') : sSet i m E = .ex x E' := by rw [ev_sSet, h]; rfl
end Law

/-! k04: what content and seen tell. -/
namespace Law
open PySem PySem.Spec PyProof.Rows L2 Wu He
/-- the ages of the edits of a part -/
def agesOf (l : List D) (p : Str) : List D := (l.filter fun d => decide (partD d = p)).map fun d => .int (ageD d)
def amongS (l : List D) (xs : List Str) : List D := l.filter fun d => decide (partD d ∈ xs)
section
variable {ps : List Str} {ws : List (Str × List Str)} {ds us : List D}
theorem cont_bf {fr st d q : D} (h : fr.fine = true) (hq : frameErr fr = some q) : f_content [.v fr, .v st, .v d] = .ex (BF q) [.v fr, .v st, .v d] := by
  refine sem_ex (ds := [fr, st, d]) (E := [.val fr, .val st, .val d, .und, .und]) ?_
  show m_content [.val fr, .val st, .val d, .und, .und] = _
  unfold m_content
  exact sSeq_ex (sSet_ex (make_bad (m := mVar 0) h hq (by rfl)))
theorem cont_bs (F : Frm ps ws) {st d q : D} (h : st.fine = true) (hq : stErr ps st = some q) : f_content [.v (frameD ps ws), .v st, .v d] = .ex (BS q) [.v (frameD ps ws), .v st, .v d] := by
  have hn := need_good_ok F st h
  unfold stR at hn
  rw [hq] at hn
  have c : (mCall 2 f_need_good (mrE (mVar 3) (mrE (mVar 1) (mrNil)))) [.val (frameD ps ws), .val st, .val d, .val (vwD ps ws), .und] = .ex (BS q) [.val (frameD ps ws), .val st, .val d, .val (vwD ps ws), .und] := call2_ex rfl rfl hn
  refine sem_ex (ds := [frameD ps ws, st, d]) (E := [.val (frameD ps ws), .val st, .val d, .val (vwD ps ws), .und]) ?_
  show m_content [.val (frameD ps ws), .val st, .val d, .und, .und] = _
  unfold m_content
  refine (sSeq_ok (sSet_ok (make_ok (m := mVar 0) F (by rfl)))).trans ?_
  show (sSeq (sExpr (mCall 2 f_need_good (mrE (mVar 3) (mrE (mVar 1) (mrNil))))) _) [.val (frameD ps ws), .val st, .val d, .val (vwD ps ws), .und] = _
  rw [sSeq_ex (sExpr_ex c)]
theorem cont_no (F : Frm ps ws) (S : Drawn ps ds us) {d : D} (h : d.fine = true) (hi : isIn ps d = false) : f_content [.v (frameD ps ws), .v (stD ds us), .v d] = .ex (missX d) [.v (frameD ps ws), .v (stD ds us), .v d] := by
  obtain ⟨k1, _, _⟩ := drawn_ok F S
  have hn := need_good_ok F (stD ds us) k1.f
  unfold stR at hn
  rw [S.good] at hn
  have c : (mCall 2 f_need_good (mrE (mVar 3) (mrE (mVar 1) (mrNil)))) [.val (frameD ps ws), .val (stD ds us), .val d, .val (vwD ps ws), .und] = .ok (stD ds us) [.val (frameD ps ws), .val (stD ds us), .val d, .val (vwD ps ws), .und] := call2_ok rfl rfl hn
  have hm := need_part_ok F d h
  rw [hi, if_neg Bool.false_ne_true] at hm
  have em : (mMeth "Views" "need_part" 2 f_Views_need_part (mVar 3) (mCons (mVar 2) (mNil))) [.val (frameD ps ws), .val (stD ds us), .val d, .val (vwD ps ws), .und] = .ex (missX d) [.val (frameD ps ws), .val (stD ds us), .val d, .val (vwD ps ws), .und] := (meth_of (fs := vwF) (l := vwL ps ws) (ds := [d]) rfl nof_np rfl).trans (zV_ex rfl hm)
  refine sem_ex (ds := [frameD ps ws, stD ds us, d]) (E := [.val (frameD ps ws), .val (stD ds us), .val d, .val (vwD ps ws), .und]) ?_
  show m_content [.val (frameD ps ws), .val (stD ds us), .val d, .und, .und] = _
  unfold m_content
  refine (sSeq_ok (sSet_ok (make_ok (m := mVar 0) F (by rfl)))).trans ?_
  show (sSeq (sExpr (mCall 2 f_need_good (mrE (mVar 3) (mrE (mVar 1) (mrNil))))) _) [.val (frameD ps ws), .val (stD ds us), .val d, .val (vwD ps ws), .und] = _
  rw [sSeq_ok (sExpr_ok c)]
  rw [sSeq_ex (sExpr_ex em)]
theorem seen_bf {fr st d q : D} (h : fr.fine = true) (hq : frameErr fr = some q) : f_seen [.v fr, .v st, .v d] = .ex (BF q) [.v fr, .v st, .v d] := by
  refine sem_ex (ds := [fr, st, d]) (E := [.val fr, .val st, .val d, .und, .und]) ?_
  show m_seen [.val fr, .val st, .val d, .und, .und] = _
  unfold m_seen
  exact sSeq_ex (sSet_ex (make_bad (m := mVar 0) h hq (by rfl)))
theorem seen_bs (F : Frm ps ws) {st d q : D} (h : st.fine = true) (hq : stErr ps st = some q) : f_seen [.v (frameD ps ws), .v st, .v d] = .ex (BS q) [.v (frameD ps ws), .v st, .v d] := by
  have hn := need_good_ok F st h
  unfold stR at hn
  rw [hq] at hn
  have c : (mCall 2 f_need_good (mrE (mVar 3) (mrE (mVar 1) (mrNil)))) [.val (frameD ps ws), .val st, .val d, .val (vwD ps ws), .und] = .ex (BS q) [.val (frameD ps ws), .val st, .val d, .val (vwD ps ws), .und] := call2_ex rfl rfl hn
  refine sem_ex (ds := [frameD ps ws, st, d]) (E := [.val (frameD ps ws), .val st, .val d, .val (vwD ps ws), .und]) ?_
  show m_seen [.val (frameD ps ws), .val st, .val d, .und, .und] = _
  unfold m_seen
  refine (sSeq_ok (sSet_ok (make_ok (m := mVar 0) F (by rfl)))).trans ?_
  show (sSeq (sExpr (mCall 2 f_need_good (mrE (mVar 3) (mrE (mVar 1) (mrNil))))) _) [.val (frameD ps ws), .val st, .val d, .val (vwD ps ws), .und] = _
  rw [sSeq_ex (sExpr_ex c)]
theorem seen_no (F : Frm ps ws) (S : Drawn ps ds us) {d : D} (h : d.fine = true) (hi : isIn (ws.map (·.1)) d = false) : f_seen [.v (frameD ps ws), .v (stD ds us), .v d] = .ex (missX d) [.v (frameD ps ws), .v (stD ds us), .v d] := by
  obtain ⟨k1, _, _⟩ := drawn_ok F S
  have hn := need_good_ok F (stD ds us) k1.f
  unfold stR at hn
  rw [S.good] at hn
  have c : (mCall 2 f_need_good (mrE (mVar 3) (mrE (mVar 1) (mrNil)))) [.val (frameD ps ws), .val (stD ds us), .val d, .val (vwD ps ws), .und] = .ok (stD ds us) [.val (frameD ps ws), .val (stD ds us), .val d, .val (vwD ps ws), .und] := call2_ok rfl rfl hn
  have hm := need_window_ok F d h
  rw [hi, if_neg Bool.false_ne_true] at hm
  have em : (mMeth "Views" "need_window" 2 f_Views_need_window (mVar 3) (mCons (mVar 2) (mNil))) [.val (frameD ps ws), .val (stD ds us), .val d, .val (vwD ps ws), .und] = .ex (missX d) [.val (frameD ps ws), .val (stD ds us), .val d, .val (vwD ps ws), .und] := (meth_of (fs := vwF) (l := vwL ps ws) (ds := [d]) rfl nof_nw rfl).trans (zV_ex rfl hm)
  refine sem_ex (ds := [frameD ps ws, stD ds us, d]) (E := [.val (frameD ps ws), .val (stD ds us), .val d, .val (vwD ps ws), .und]) ?_
  show m_seen [.val (frameD ps ws), .val (stD ds us), .val d, .und, .und] = _
  unfold m_seen
  refine (sSeq_ok (sSet_ok (make_ok (m := mVar 0) F (by rfl)))).trans ?_
  show (sSeq (sExpr (mCall 2 f_need_good (mrE (mVar 3) (mrE (mVar 1) (mrNil))))) _) [.val (frameD ps ws), .val (stD ds us), .val d, .val (vwD ps ws), .und] = _
  rw [sSeq_ok (sExpr_ok c)]
  have ef : (mFld "Views" "window_parts" (mVar 3)) [.val (frameD ps ws), .val (stD ds us), .val d, .val (vwD ps ws), .und] = .ok (.nd (.dct ((ws.map (·.1)).map ky)) (ws.map shwD)) [.val (frameD ps ws), .val (stD ds us), .val d, .val (vwD ps ws), .und] := ev_fld rfl fld_wp
  rw [sSeq_ex (sSet_ex (show (mOp pIxA (mFld "Views" "window_parts" (mVar 3)) (mMeth "Views" "need_window" 2 f_Views_need_window (mVar 3) (mCons (mVar 2) (mNil)))) [.val (frameD ps ws), .val (stD ds us), .val d, .val (vwD ps ws), .und] = .ex (missX d) [.val (frameD ps ws), .val (stD ds us), .val d, .val (vwD ps ws), .und] from by rw [ev_op, ef, ev_bok, ev_bnd, em]; rfl))]
theorem lc_ages (F : Frm ps ws) {l : List D} {p : Str} {E : Env'} {i j : Nat} {mi : M (List D)} (hl : ∀ d ∈ l, isEd ps d = true) (hn : l.length ≤ 1000) (hi : mi E = .ok l E) (hf : (E.getD i .und).free = true) (hlen : i < E.length) (hj : ∀ d, ((wipeE [i] E).set i (.val d))[j]? = some (.val (.str p))) :
    mLc mi (gN i) (mTest (mOp pEq (mOp pIxA (mVar i) (mC (.int 1))) (mVar j))) (mOp pIxA (mVar i) (mC (.int 0))) [i] E = .ok (.nd .lst (agesOf l p)) E := by
  have hv : ∀ d, ((wipeE [i] E).set i (.val d))[i]? = some (.val d) := fun d => List.getElem?_set_self (by unfold wipeE; rw [List.length_mapIdx]; exact hlen)
  refine lc_of (fun d => decide (partD d = p)) (fun d => .int (ageD d)) hi hf (size_big hn) (fun d hd => ?_) (fun d hd _ => ?_)
  · obtain ⟨a, q, rfl, _⟩ := isEd_inv (hl d hd)
    rw [ev_test, ev_op, ev_op, ev_var (hv _)]
    show ((R.ok (D.str q) _).bind _).bind _ = _
    rw [ev_bok, ev_bnd, ev_var (hj _), ev_bok, pEq_str]
    rfl
  · obtain ⟨a, q, rfl, _⟩ := isEd_inv (hl d hd)
    rw [ev_op, ev_var (hv _)]
    rfl
theorem lc_among (F : Frm ps ws) {l : List D} {xs : List Str} {E : Env'} {i j : Nat} {mi : M (List D)} (hl : ∀ d ∈ l, isEd ps d = true) (hn : l.length ≤ 1000) (hi : mi E = .ok l E) (hf : (E.getD i .und).free = true) (hlen : i < E.length) (hj : ∀ d, ((wipeE [i] E).set i (.val d))[j]? = some (.val (.nd .tup (sds xs)))) :
    mLc mi (gN i) (mTest (mOp (pInA false) (mOp pIxA (mVar i) (mC (.int 1))) (mVar j))) (mVar i) [i] E = .ok (.nd .lst (amongS l xs)) E := by
  have hv : ∀ d, ((wipeE [i] E).set i (.val d))[i]? = some (.val d) := fun d => List.getElem?_set_self (by unfold wipeE; rw [List.length_mapIdx]; exact hlen)
  have e := lc_of (mi := mi) (i := i) (t := mTest (mOp (pInA false) (mOp pIxA (mVar i) (mC (.int 1))) (mVar j))) (m := mVar i) (E := E) (ds := l) (fun d => decide (partD d ∈ xs)) id hi hf (size_big hn) (fun d hd => by
    obtain ⟨a, q, rfl, _⟩ := isEd_inv (hl d hd)
    rw [ev_test, ev_op, ev_op, ev_var (hv _)]
    show ((R.ok (D.str q) _).bind _).bind _ = _
    rw [ev_bok, ev_bnd, ev_var (hj _), ev_bok, pIn_tup]
    rfl) (fun d hd _ => ev_var (hv _))
  rw [List.map_id] at e
  exact e
theorem content_at (F : Frm ps ws) (S : Drawn ps ds us) {p : Str} (hp : p ∈ ps) : f_content [.v (frameD ps ws), .v (stD ds us), .v (.str p)] = .ok (.nd .tup (agesOf ds p)) [.v (frameD ps ws), .v (stD ds us), .v (.str p)] := by
  obtain ⟨k1, _, _⟩ := drawn_ok F S
  have hn := need_good_ok F (stD ds us) k1.f
  unfold stR at hn
  rw [S.good] at hn
  have c : (mCall 2 f_need_good (mrE (mVar 3) (mrE (mVar 1) (mrNil)))) [.val (frameD ps ws), .val (stD ds us), .val (.str p), .val (vwD ps ws), .und] = .ok (stD ds us) [.val (frameD ps ws), .val (stD ds us), .val (.str p), .val (vwD ps ws), .und] := call2_ok rfl rfl hn
  have hm := need_part_ok F (.str p) (name_fine (F.pn p hp))
  rw [show isIn ps (.str p) = true from decide_eq_true hp, if_pos rfl] at hm
  have em : (mMeth "Views" "need_part" 2 f_Views_need_part (mVar 3) (mCons (mVar 2) (mNil))) [.val (frameD ps ws), .val (stD ds us), .val (.str p), .val (vwD ps ws), .und] = .ok (.str p) [.val (frameD ps ws), .val (stD ds us), .val (.str p), .val (vwD ps ws), .und] := (meth_of (fs := vwF) (l := vwL ps ws) (ds := [.str p]) rfl nof_np rfl).trans (zV_ok rfl hm)
  have hl := S.ln
  have e := lc_ages F (l := ds) (p := p) (E := [.val (frameD ps ws), .val (stD ds us), .val (.str p), .val (vwD ps ws), .und]) (i := 4) (j := 2) (mi := mSeq (mOp pIxA (mVar 1) (mC (.int 0)))) S.de (by omega) rfl rfl (by simp) (fun _ => rfl)
  refine sem_rt (ds := [frameD ps ws, stD ds us, .str p]) (E := [.val (frameD ps ws), .val (stD ds us), .val (.str p), .val (vwD ps ws), .und]) ?_
  show m_content [.val (frameD ps ws), .val (stD ds us), .val (.str p), .und, .und] = _
  unfold m_content
  refine (sSeq_ok (sSet_ok (make_ok (m := mVar 0) F (by rfl)))).trans ?_
  show (sSeq (sExpr (mCall 2 f_need_good (mrE (mVar 3) (mrE (mVar 1) (mrNil))))) _) [.val (frameD ps ws), .val (stD ds us), .val (.str p), .val (vwD ps ws), .und] = _
  rw [sSeq_ok (sExpr_ok c), sSeq_ok (sExpr_ok em)]
  simp only [ev_sRet, ev_fn, ev_cons, e, ev_bok, ev_bnd, ev_nil, ev_ret, pTuple_lst, ev_some]
theorem among_ok (F : Frm ps ws) {l : List D} {xs : List Str} (hl : ∀ d ∈ l, isEd ps d = true) (hn : l.length ≤ 1000) : f_edits_among [.v (.nd .tup l), .v (.nd .tup (sds xs))] = .ok (.nd .tup (amongS l xs)) [.v (.nd .tup l), .v (.nd .tup (sds xs))] ∧
    f__law_among [.v (.nd .tup l), .v (.nd .tup (sds xs))] = .ok (.nd .lst (amongS l xs)) [.v (.nd .tup l), .v (.nd .tup (sds xs))] := by
  have e := lc_among F (l := l) (xs := xs) (E := [.val (.nd .tup l), .val (.nd .tup (sds xs)), .und]) (i := 2) (j := 1) (mi := mSeq (mVar 0)) hl hn rfl rfl (by simp) (fun _ => rfl)
  constructor
  · refine sem_rt (ds := [.nd .tup l, .nd .tup (sds xs)]) (E := [.val (.nd .tup l), .val (.nd .tup (sds xs)), .und]) ?_
    show m_edits_among [.val (.nd .tup l), .val (.nd .tup (sds xs)), .und] = _
    unfold m_edits_among
    simp only [ev_sRet, ev_fn, ev_cons, e, ev_bok, ev_bnd, ev_nil, ev_ret, pTuple_lst, ev_some]
  · refine sem_rt (ds := [.nd .tup l, .nd .tup (sds xs)]) (E := [.val (.nd .tup l), .val (.nd .tup (sds xs)), .und]) ?_
    show m__law_among [.val (.nd .tup l), .val (.nd .tup (sds xs)), .und] = _
    unfold m__law_among
    simp only [ev_sRet, e, ev_bok]
def seenD (ds us : List D) (w : Str × List Str) : D := .nd .tup [.nd .tup (amongS ds w.2), .nd .tup (amongS us w.2)]
theorem seen_at (F : Frm ps ws) (S : Drawn ps ds us) {w : Str × List Str} (hw : w ∈ ws) : f_seen [.v (frameD ps ws), .v (stD ds us), .v (.str w.1)] = .ok (seenD ds us w) [.v (frameD ps ws), .v (stD ds us), .v (.str w.1)] := by
  obtain ⟨k1, _, _⟩ := drawn_ok F S
  have hn := need_good_ok F (stD ds us) k1.f
  unfold stR at hn
  rw [S.good] at hn
  have c : (mCall 2 f_need_good (mrE (mVar 3) (mrE (mVar 1) (mrNil)))) [.val (frameD ps ws), .val (stD ds us), .val (.str w.1), .val (vwD ps ws), .und] = .ok (stD ds us) [.val (frameD ps ws), .val (stD ds us), .val (.str w.1), .val (vwD ps ws), .und] := call2_ok rfl rfl hn
  have hm := need_window_ok F (.str w.1) (name_fine (F.wn w hw))
  rw [show isIn (ws.map (·.1)) (.str w.1) = true from decide_eq_true (List.mem_map_of_mem hw), if_pos rfl] at hm
  have em : (mMeth "Views" "need_window" 2 f_Views_need_window (mVar 3) (mCons (mVar 2) (mNil))) [.val (frameD ps ws), .val (stD ds us), .val (.str w.1), .val (vwD ps ws), .und] = .ok (.str w.1) [.val (frameD ps ws), .val (stD ds us), .val (.str w.1), .val (vwD ps ws), .und] := (meth_of (fs := vwF) (l := vwL ps ws) (ds := [.str w.1]) rfl nof_nw rfl).trans (zV_ok rfl hm)
  have ef : (mFld "Views" "window_parts" (mVar 3)) [.val (frameD ps ws), .val (stD ds us), .val (.str w.1), .val (vwD ps ws), .und] = .ok (.nd (.dct ((ws.map (·.1)).map ky)) (ws.map shwD)) [.val (frameD ps ws), .val (stD ds us), .val (.str w.1), .val (vwD ps ws), .und] := ev_fld rfl fld_wp
  have hx := ix_dct (kf := fun w : Str × List Str => w.1) (y := shwD) (ws := ws) (w := w) F.wd hw
  have st : (sSet 4 (mOp pIxA (mFld "Views" "window_parts" (mVar 3)) (mMeth "Views" "need_window" 2 f_Views_need_window (mVar 3) (mCons (mVar 2) (mNil))))) [.val (frameD ps ws), .val (stD ds us), .val (.str w.1), .val (vwD ps ws), .und] = .ok .nx [.val (frameD ps ws), .val (stD ds us), .val (.str w.1), .val (vwD ps ws), .val (shwD w)] := by
    refine (sSet_ok (d := shwD w) (E' := [.val (frameD ps ws), .val (stD ds us), .val (.str w.1), .val (vwD ps ws), .und]) ?_).trans rfl
    simp only [ev_op, ef, ev_bok, ev_bnd, em, hx, ev_some]
  have hl := S.ln
  obtain ⟨m1, _⟩ := among_ok F (l := ds) (xs := w.2) S.de (by omega)
  obtain ⟨m2, _⟩ := among_ok F (l := us) (xs := w.2) S.ue (by omega)
  have k1 : (mCall 2 f_edits_among (mrE (mOp pIxA (mVar 1) (mC (.int 0))) (mrE (mVar 4) (mrNil)))) [.val (frameD ps ws), .val (stD ds us), .val (.str w.1), .val (vwD ps ws), .val (shwD w)] = .ok (.nd .tup (amongS ds w.2)) [.val (frameD ps ws), .val (stD ds us), .val (.str w.1), .val (vwD ps ws), .val (shwD w)] := call2_ok rfl rfl m1
  have k2 : (mCall 2 f_edits_among (mrE (mOp pIxA (mVar 1) (mC (.int 1))) (mrE (mVar 4) (mrNil)))) [.val (frameD ps ws), .val (stD ds us), .val (.str w.1), .val (vwD ps ws), .val (shwD w)] = .ok (.nd .tup (amongS us w.2)) [.val (frameD ps ws), .val (stD ds us), .val (.str w.1), .val (vwD ps ws), .val (shwD w)] := call2_ok rfl rfl m2
  refine sem_rt (ds := [frameD ps ws, stD ds us, .str w.1]) (E := [.val (frameD ps ws), .val (stD ds us), .val (.str w.1), .val (vwD ps ws), .val (shwD w)]) ?_
  show m_seen [.val (frameD ps ws), .val (stD ds us), .val (.str w.1), .und, .und] = _
  unfold m_seen
  refine (sSeq_ok (sSet_ok (make_ok (m := mVar 0) F (by rfl)))).trans ?_
  show (sSeq (sExpr (mCall 2 f_need_good (mrE (mVar 3) (mrE (mVar 1) (mrNil))))) _) [.val (frameD ps ws), .val (stD ds us), .val (.str w.1), .val (vwD ps ws), .und] = _
  rw [sSeq_ok (sExpr_ok c), sSeq_ok st]
  simp only [ev_sRet, ev_fn, ev_cons, k1, k2, ev_bok, ev_bnd, ev_nil, ev_ret, pTup_2, ev_some]
  rfl
end
/-! ### refusals in order -/
theorem ref_bf (p : D) (E : Env') : m__law_refused domL (.ex (BF p) E) (envF 4) = .ok (.rt (.int 0)) [.fn, .val (.nd (.exn "BadFrame" ["place"]) [p]), .und, .val (.nd .lst [.bl true, .bl false, .bl false])] := by kernel_rfl
theorem ref_bs (p : D) (E : Env') : m__law_refused domL (.ex (BS p) E) (envF 4) = .ok (.rt (.int 1)) [.fn, .val (.nd (.exn "BadState" ["place"]) [p]), .und, .val (.nd .lst [.bl false, .bl true, .bl false])] := by kernel_rfl
theorem ref_mi (p : D) (E : Env') : m__law_refused domL (.ex (missX p) E) (envF 4) = .ok (.rt (.int 2)) [.fn, .val (.nd (.exn "Missing" ["name"]) [p]), .und, .val (.nd .lst [.bl false, .bl false, .bl true])] := by kernel_rfl
theorem lam_bf {mb : M D} {E E1 : Env'} {p : D} (h : mb (hideE E) = .ex (BF p) E1) : mLam 4 (m__law_refused domL) mb E = .ok (.int 0) E := by unfold mLam; rw [h, ref_bf]
theorem lam_bs {mb : M D} {E E1 : Env'} {p : D} (h : mb (hideE E) = .ex (BS p) E1) : mLam 4 (m__law_refused domL) mb E = .ok (.int 1) E := by unfold mLam; rw [h, ref_bs]
theorem lam_mi {mb : M D} {E E1 : Env'} {p : D} (h : mb (hideE E) = .ex (missX p) E1) : mLam 4 (m__law_refused domL) mb E = .ok (.int 2) E := by unfold mLam; rw [h, ref_mi]
theorem nin_name {xs : List Str} {x : Str} (h : ∀ y ∈ xs, nameB y = true) (hx : nameB x = false) : isIn xs (.str x) = false := decide_eq_false fun z => by rw [h x z] at hx; cases hx
section
variable {ps : List Str} {ws : List (Str × List Str)} {ds us : List D}
theorem order_ok (F : Frm ps ws) (S : Drawn ps ds us) (q : D) : f__law_order_right domL [.v (frameD ps ws), .v (stD ds us), .v q] = .ok (.bl true) [.v (frameD ps ws), .v (stD ds us), .v q] := by
  obtain ⟨k1, k2, k3⟩ := drawn_ok F S
  have fd : fineL ds = true := k2.f
  have fu : fineL us = true := k3.f
  have ff := frame_fine F
  have f3 : (D.nd .tup [.nd .tup (sds ps), .nd .tup (ws.map winD), .nd .tup []]).fine = true := by
    obtain ⟨g1, g2⟩ := Bool.and_eq_true_iff.mp (show (fineL (sds ps) && (fineL (ws.map winD) && true)) = true from ff)
    show (fineL (sds ps) && (fineL (ws.map winD) && (true && true))) = true
    rw [g1]
    rw [Bool.and_true] at g2
    rw [g2]; rfl
  have f4 : (D.nd .tup [.nd .tup ds]).fine = true := by
    show (fineL ds && true) = true
    rw [fd]; rfl
  have f5 : (D.nd .tup [.nd .tup us, .nd .tup ds, .nd .tup []]).fine = true := by
    show (fineL us && (fineL ds && (true && true))) = true
    rw [fd, fu]; rfl
  have l0 : (mLam 4 (m__law_refused domL) (mCall 3 f_content (mrE (mFn pTup (mNil)) (mrE (mC .non) (mrE (mC .non) (mrNil)))))) [.val (frameD ps ws), .val (stD ds us), .val q, .und] = .ok (.int 0) [.val (frameD ps ws), .val (stD ds us), .val q, .und] := lam_bf (call3_ex (x := .nd .tup []) (y := .non) (z := .non) rfl rfl rfl (cont_bf rfl rfl))
  have l1 : (mLam 4 (m__law_refused domL) (mCall 3 f_seen (mrE (mOp pAdd (mVar 0) (mFn pTup (mCons (mFn pTup (mNil)) (mNil)))) (mrE (mVar 1) (mrE (mVar 2) (mrNil)))))) [.val (frameD ps ws), .val (stD ds us), .val q, .own none (.nd .lst [.int 0])] = .ok (.int 0) [.val (frameD ps ws), .val (stD ds us), .val q, .own none (.nd .lst [.int 0])] := lam_bf (call3_ex (x := .nd .tup [.nd .tup (sds ps), .nd .tup (ws.map winD), .nd .tup []]) (y := stD ds us) (z := q) (by rfl) rfl rfl (seen_bf f3 rfl))
  have l2 : (mLam 4 (m__law_refused domL) (mCall 3 f_content (mrE (mVar 0) (mrE (mFn pTup (mCons (mOp pIxA (mVar 1) (mC (.int 0))) (mNil))) (mrE (mC .non) (mrNil)))))) [.val (frameD ps ws), .val (stD ds us), .val q, .own none (.nd .lst [.int 0, .int 0])] = .ok (.int 1) [.val (frameD ps ws), .val (stD ds us), .val q, .own none (.nd .lst [.int 0, .int 0])] := lam_bs (call3_ex (x := frameD ps ws) (y := .nd .tup [.nd .tup ds]) (z := .non) rfl (by rfl) rfl (cont_bs F f4 rfl))
  have l3 : (mLam 4 (m__law_refused domL) (mCall 3 f_seen (mrE (mVar 0) (mrE (mFn pTup (mCons (mOp pIxA (mVar 1) (mC (.int 1))) (mCons (mOp pIxA (mVar 1) (mC (.int 0))) (mCons (mFn pTup (mNil)) (mNil))))) (mrE (mC (.str "zzzzzzzzz")) (mrNil)))))) [.val (frameD ps ws), .val (stD ds us), .val q, .own none (.nd .lst [.int 0, .int 0, .int 1])] = .ok (.int 1) [.val (frameD ps ws), .val (stD ds us), .val q, .own none (.nd .lst [.int 0, .int 0, .int 1])] := lam_bs (call3_ex (x := frameD ps ws) (y := .nd .tup [.nd .tup us, .nd .tup ds, .nd .tup []]) (z := .str "zzzzzzzzz") rfl (by rfl) rfl (seen_bs F f5 rfl))
  have l4 : (mLam 4 (m__law_refused domL) (mCall 3 f_content (mrE (mVar 0) (mrE (mVar 1) (mrE (mC (.str "zzzzzzzzz")) (mrNil)))))) [.val (frameD ps ws), .val (stD ds us), .val q, .own none (.nd .lst [.int 0, .int 0, .int 1, .int 1])] = .ok (.int 2) [.val (frameD ps ws), .val (stD ds us), .val q, .own none (.nd .lst [.int 0, .int 0, .int 1, .int 1])] := lam_mi (call3_ex (x := frameD ps ws) (y := stD ds us) (z := .str "zzzzzzzzz") rfl rfl rfl (cont_no F S (by decide +kernel) (nin_name F.pn (by decide +kernel))))
  have l5 : (mLam 4 (m__law_refused domL) (mCall 3 f_seen (mrE (mVar 0) (mrE (mVar 1) (mrE (mC .non) (mrNil)))))) [.val (frameD ps ws), .val (stD ds us), .val q, .own none (.nd .lst [.int 0, .int 0, .int 1, .int 1, .int 2])] = .ok (.int 2) [.val (frameD ps ws), .val (stD ds us), .val q, .own none (.nd .lst [.int 0, .int 0, .int 1, .int 1, .int 2])] := lam_mi (call3_ex (x := frameD ps ws) (y := stD ds us) (z := .non) rfl rfl rfl (seen_no F S rfl rfl))
  have t0 : (sOwn 3 (nLst (mCons (mLam 4 (m__law_refused domL) (mCall 3 f_content (mrE (mFn pTup (mNil)) (mrE (mC .non) (mrE (mC .non) (mrNil)))))) (mNil)))) [.val (frameD ps ws), .val (stD ds us), .val q, .und] = .ok .nx [.val (frameD ps ws), .val (stD ds us), .val q, .own none (.nd .lst [.int 0])] := by
    unfold sOwn
    rw [M.bnd_ok (show nLst (mCons (mLam 4 (m__law_refused domL) (mCall 3 f_content (mrE (mFn pTup (mNil)) (mrE (mC .non) (mrE (mC .non) (mrNil)))))) mNil) [.val (frameD ps ws), .val (stD ds us), .val q, .und] = .ok (.lst, [.int 0]) [.val (frameD ps ws), .val (stD ds us), .val q, .und] from by unfold nLst; rw [M.bnd_ok (show mCons (mLam 4 (m__law_refused domL) (mCall 3 f_content (mrE (mFn pTup (mNil)) (mrE (mC .non) (mrE (mC .non) (mrNil)))))) mNil [.val (frameD ps ws), .val (stD ds us), .val q, .und] = .ok [.int 0] [.val (frameD ps ws), .val (stD ds us), .val q, .und] from by rw [ev_cons, l0]; rfl)]; rfl)]
    rfl
  have t1 : (sApp 3 (mLam 4 (m__law_refused domL) (mCall 3 f_seen (mrE (mOp pAdd (mVar 0) (mFn pTup (mCons (mFn pTup (mNil)) (mNil)))) (mrE (mVar 1) (mrE (mVar 2) (mrNil))))))) [.val (frameD ps ws), .val (stD ds us), .val q, .own none (.nd .lst [.int 0])] = .ok .nx [.val (frameD ps ws), .val (stD ds us), .val q, .own none (.nd .lst [.int 0, .int 0])] := (sApp_ok (d := .int 0) (l' := [.int 0]) (by rfl) l1 (by rfl) (show 1 < sizeLine by decide)).trans rfl
  have t2 : (sApp 3 (mLam 4 (m__law_refused domL) (mCall 3 f_content (mrE (mVar 0) (mrE (mFn pTup (mCons (mOp pIxA (mVar 1) (mC (.int 0))) (mNil))) (mrE (mC .non) (mrNil))))))) [.val (frameD ps ws), .val (stD ds us), .val q, .own none (.nd .lst [.int 0, .int 0])] = .ok .nx [.val (frameD ps ws), .val (stD ds us), .val q, .own none (.nd .lst [.int 0, .int 0, .int 1])] := (sApp_ok (d := .int 1) (l' := [.int 0, .int 0]) (by rfl) l2 (by rfl) (show 2 < sizeLine by decide)).trans rfl
  have t3 : (sApp 3 (mLam 4 (m__law_refused domL) (mCall 3 f_seen (mrE (mVar 0) (mrE (mFn pTup (mCons (mOp pIxA (mVar 1) (mC (.int 1))) (mCons (mOp pIxA (mVar 1) (mC (.int 0))) (mCons (mFn pTup (mNil)) (mNil))))) (mrE (mC (.str "zzzzzzzzz")) (mrNil))))))) [.val (frameD ps ws), .val (stD ds us), .val q, .own none (.nd .lst [.int 0, .int 0, .int 1])] = .ok .nx [.val (frameD ps ws), .val (stD ds us), .val q, .own none (.nd .lst [.int 0, .int 0, .int 1, .int 1])] := (sApp_ok (d := .int 1) (l' := [.int 0, .int 0, .int 1]) (by rfl) l3 (by rfl) (show 3 < sizeLine by decide)).trans rfl
  have t4 : (sApp 3 (mLam 4 (m__law_refused domL) (mCall 3 f_content (mrE (mVar 0) (mrE (mVar 1) (mrE (mC (.str "zzzzzzzzz")) (mrNil))))))) [.val (frameD ps ws), .val (stD ds us), .val q, .own none (.nd .lst [.int 0, .int 0, .int 1, .int 1])] = .ok .nx [.val (frameD ps ws), .val (stD ds us), .val q, .own none (.nd .lst [.int 0, .int 0, .int 1, .int 1, .int 2])] := (sApp_ok (d := .int 2) (l' := [.int 0, .int 0, .int 1, .int 1]) (by rfl) l4 (by rfl) (show 4 < sizeLine by decide)).trans rfl
  have t5 : (sApp 3 (mLam 4 (m__law_refused domL) (mCall 3 f_seen (mrE (mVar 0) (mrE (mVar 1) (mrE (mC .non) (mrNil))))))) [.val (frameD ps ws), .val (stD ds us), .val q, .own none (.nd .lst [.int 0, .int 0, .int 1, .int 1, .int 2])] = .ok .nx [.val (frameD ps ws), .val (stD ds us), .val q, .own none (.nd .lst [.int 0, .int 0, .int 1, .int 1, .int 2, .int 2])] := (sApp_ok (d := .int 2) (l' := [.int 0, .int 0, .int 1, .int 1, .int 2]) (by rfl) l5 (by rfl) (show 5 < sizeLine by decide)).trans rfl
  refine sem_rt (ds := [frameD ps ws, stD ds us, q]) (E := [.val (frameD ps ws), .val (stD ds us), .val q, .val (.nd .lst [.int 0, .int 0, .int 1, .int 1, .int 2, .int 2])]) ?_
  show m__law_order_right domL [.val (frameD ps ws), .val (stD ds us), .val q, .und] = _
  unfold m__law_order_right
  rw [sSeq_ok t0, sSeq_ok t1, sSeq_ok t2, sSeq_ok t3, sSeq_ok t4, sSeq_ok t5]
  kernel_rfl
end
section
variable {ns : List D} {ps : List Str} {ws : List (Str × List Str)} {ds us : List D} {s : Dr} {a2 a3 a4 a5 a6 a7 a8 a9 a10 : Sl}
theorem ages_ok (S : Drawn ps ds us) (p : Str) : Ok 100000 2 (.nd .tup (agesOf ds p)) := by
  have h : ∀ d ∈ agesOf ds p, Ok 1921 0 d := fun d hd => by
    obtain ⟨x, hx, rfl⟩ := List.mem_map.mp hd
    obtain ⟨a, q, rfl, a0, a9, _⟩ := isEd_inv (S.de x (List.mem_filter.mp hx).1)
    exact ⟨decide_eq_true (log_age a0 (by show a ≤ 1000; omega)), Nat.le_refl _, Nat.le_refl _⟩
  refine (tupN_ok h).up ?_ (by decide)
  have h1 : (agesOf ds p).length ≤ ds.length := by unfold agesOf; rw [List.length_map]; exact List.length_filter_le _ _
  have := S.ln
  omega
theorem seen_okk (F : Frm ps ws) (S : Drawn ps ds us) (w : Str × List Str) : Ok 200000 4 (seenD ds us w) := by
  have h1 : (amongS ds w.2).length ≤ ds.length := List.length_filter_le _ _
  have h2 : (amongS us w.2).length ≤ us.length := List.length_filter_le _ _
  have k1 := eds_ok F (l := amongS ds w.2) fun d hd => S.de d (List.mem_filter.mp hd).1
  have k2 := eds_ok F (l := amongS us w.2) fun d hd => S.ue d (List.mem_filter.mp hd).1
  have := S.ln
  exact (two_ok k1 k2).up (by omega) (by decide)
theorem rep_same {d : D} : pNe (Wu.rep d) (Wu.rep d) = some (.bl false) := by
  show pNe (.str d.sh.shown) (.str d.sh.shown) = _
  rw [pNe_str, decide_eq_true rfl]; rfl
theorem part_turn (F : Frm ps ws) (S : Drawn ps ds us) {p : Str} (hp : p ∈ ps) : m_law_b1 domL [.val (.scr ns), .own none (.dr s), a2, .val (frameD ps ws), .val (stD ds us), a5, a6, .val (.str p), a8, a9, a10, .und] = .ok .nx [.val (.scr ns), .own none (.dr s), a2, .val (frameD ps ws), .val (stD ds us), a5, a6, .val (.str p), .val (.nd .tup (agesOf ds p)), a9, a10, .und] := by
  have hl := S.ln
  have e := lc_ages F (l := ds) (p := p) (E := [.val (.scr ns), .own none (.dr s), a2, .val (frameD ps ws), .val (stD ds us), a5, a6, .val (.str p), a8, a9, a10, .und]) (i := 11) (j := 7) (mi := mSeq (mOp pIxA (mVar 4) (mC (.int 0)))) S.de (by omega) rfl rfl (by simp) (fun _ => rfl)
  have st : (sSet 8 (mFn pTuple (mCons (mLc (mSeq (mOp pIxA (mVar 4) (mC (.int 0)))) (gN 11) (mTest (mOp pEq (mOp pIxA (mVar 11) (mC (.int 1))) (mVar 7))) (mOp pIxA (mVar 11) (mC (.int 0))) [11]) (mNil)))) [.val (.scr ns), .own none (.dr s), a2, .val (frameD ps ws), .val (stD ds us), a5, a6, .val (.str p), a8, a9, a10, .und] = .ok .nx [.val (.scr ns), .own none (.dr s), a2, .val (frameD ps ws), .val (stD ds us), a5, a6, .val (.str p), .val (.nd .tup (agesOf ds p)), a9, a10, .und] := by
    refine (sSet_ok (d := .nd .tup (agesOf ds p)) (E' := [.val (.scr ns), .own none (.dr s), a2, .val (frameD ps ws), .val (stD ds us), a5, a6, .val (.str p), a8, a9, a10, .und]) ?_).trans rfl
    simp only [ev_fn, ev_cons, e, ev_bok, ev_bnd, ev_nil, ev_ret, pTuple_lst, ev_some]
  have r := (ages_ok S p).rep (by decide) (by decide)
  have c : (mCall 3 f_content (mrE (mVar 3) (mrE (mVar 4) (mrE (mVar 7) (mrNil))))) [.val (.scr ns), .own none (.dr s), a2, .val (frameD ps ws), .val (stD ds us), a5, a6, .val (.str p), .val (.nd .tup (agesOf ds p)), a9, a10, .und] = .ok (.nd .tup (agesOf ds p)) [.val (.scr ns), .own none (.dr s), a2, .val (frameD ps ws), .val (stD ds us), a5, a6, .val (.str p), .val (.nd .tup (agesOf ds p)), a9, a10, .und] := call3_ok rfl rfl rfl (content_at F S hp)
  unfold m_law_b1
  rw [sSeq_ok st]
  simp only [ev_sIf, ev_test, ev_op, ev_fn, ev_cons, c, ev_bok, ev_bnd, ev_nil, ev_ret, r, ev_some, ev_v8, rep_same, ev_tst, Bool.false_eq_true, if_false, ev_ite, ev_sNil]
theorem part_loop (F : Frm ps ws) (S : Drawn ps ds us) : ∀ (qs : List Str) (a7 a8 : Sl), (∀ q ∈ qs, q ∈ ps) → ∃ b7 b8, loopD (gN 7) (m_law_b1 domL) (sds qs) [.val (.scr ns), .own none (.dr s), a2, .val (frameD ps ws), .val (stD ds us), a5, a6, a7, a8, a9, a10, .und] = .ok .nx [.val (.scr ns), .own none (.dr s), a2, .val (frameD ps ws), .val (stD ds us), a5, a6, b7, b8, a9, a10, .und]
  | [], a7, a8, _ => ⟨a7, a8, rfl⟩
  | q :: qs, a7, a8, h => by
    have e1 := part_turn (ns := ns) (s := s) (a2 := a2) (a5 := a5) (a6 := a6) (a8 := a8) (a9 := a9) (a10 := a10) F S (h q List.mem_cons_self)
    obtain ⟨b7, b8, e2⟩ := part_loop F S qs (.val (.str q)) (.val (.nd .tup (agesOf ds q))) (fun x hx => h x (List.mem_cons_of_mem _ hx))
    refine ⟨b7, b8, ?_⟩
    show loopD (gN 7) (m_law_b1 domL) (.str q :: sds qs) _ = _
    unfold loopD
    have g1 : gN 7 (.str q) [.val (.scr ns), .own none (.dr s), a2, .val (frameD ps ws), .val (stD ds us), a5, a6, a7, a8, a9, a10, .und] = some [.val (.scr ns), .own none (.dr s), a2, .val (frameD ps ws), .val (stD ds us), a5, a6, .val (.str q), a8, a9, a10, .und] := rfl
    rw [g1]
    dsimp only
    rw [e1]
    exact e2
theorem win_turn (F : Frm ps ws) (S : Drawn ps ds us) {w : Str × List Str} (hw : w ∈ ws) : m_law_b2 domL [.val (.scr ns), .own none (.dr s), a2, .val (frameD ps ws), .val (stD ds us), a5, a6, a7, a8, .val (.str w.1), .val (.nd .tup (sds w.2)), .und] = .ok .nx [.val (.scr ns), .own none (.dr s), a2, .val (frameD ps ws), .val (stD ds us), a5, a6, a7, .val (seenD ds us w), .val (.str w.1), .val (.nd .tup (sds w.2)), .und] := by
  have hl := S.ln
  obtain ⟨_, m1⟩ := among_ok F (l := ds) (xs := w.2) S.de (by omega)
  obtain ⟨_, m2⟩ := among_ok F (l := us) (xs := w.2) S.ue (by omega)
  have k1 : (mCall 2 f__law_among (mrE (mOp pIxA (mVar 4) (mC (.int 0))) (mrE (mVar 10) (mrNil)))) [.val (.scr ns), .own none (.dr s), a2, .val (frameD ps ws), .val (stD ds us), a5, a6, a7, a8, .val (.str w.1), .val (.nd .tup (sds w.2)), .und] = .ok (.nd .lst (amongS ds w.2)) [.val (.scr ns), .own none (.dr s), a2, .val (frameD ps ws), .val (stD ds us), a5, a6, a7, a8, .val (.str w.1), .val (.nd .tup (sds w.2)), .und] := call2_ok rfl rfl m1
  have k2 : (mCall 2 f__law_among (mrE (mOp pIxA (mVar 4) (mC (.int 1))) (mrE (mVar 10) (mrNil)))) [.val (.scr ns), .own none (.dr s), a2, .val (frameD ps ws), .val (stD ds us), a5, a6, a7, a8, .val (.str w.1), .val (.nd .tup (sds w.2)), .und] = .ok (.nd .lst (amongS us w.2)) [.val (.scr ns), .own none (.dr s), a2, .val (frameD ps ws), .val (stD ds us), a5, a6, a7, a8, .val (.str w.1), .val (.nd .tup (sds w.2)), .und] := call2_ok rfl rfl m2
  have st : (sSet 8 (mFn pTup (mCons (mFn pTuple (mCons (mCall 2 f__law_among (mrE (mOp pIxA (mVar 4) (mC (.int 0))) (mrE (mVar 10) (mrNil)))) (mNil))) (mCons (mFn pTuple (mCons (mCall 2 f__law_among (mrE (mOp pIxA (mVar 4) (mC (.int 1))) (mrE (mVar 10) (mrNil)))) (mNil))) (mNil))))) [.val (.scr ns), .own none (.dr s), a2, .val (frameD ps ws), .val (stD ds us), a5, a6, a7, a8, .val (.str w.1), .val (.nd .tup (sds w.2)), .und] = .ok .nx [.val (.scr ns), .own none (.dr s), a2, .val (frameD ps ws), .val (stD ds us), a5, a6, a7, .val (seenD ds us w), .val (.str w.1), .val (.nd .tup (sds w.2)), .und] := by
    refine (sSet_ok (d := seenD ds us w) (E' := [.val (.scr ns), .own none (.dr s), a2, .val (frameD ps ws), .val (stD ds us), a5, a6, a7, a8, .val (.str w.1), .val (.nd .tup (sds w.2)), .und]) ?_).trans rfl
    simp only [ev_fn, ev_cons, k1, k2, ev_bok, ev_bnd, ev_nil, ev_ret, pTuple_lst, pTup_2, ev_some]
    rfl
  have r := (seen_okk F S w).rep (by decide) (by decide)
  have c : (mCall 3 f_seen (mrE (mVar 3) (mrE (mVar 4) (mrE (mVar 9) (mrNil))))) [.val (.scr ns), .own none (.dr s), a2, .val (frameD ps ws), .val (stD ds us), a5, a6, a7, .val (seenD ds us w), .val (.str w.1), .val (.nd .tup (sds w.2)), .und] = .ok (seenD ds us w) [.val (.scr ns), .own none (.dr s), a2, .val (frameD ps ws), .val (stD ds us), a5, a6, a7, .val (seenD ds us w), .val (.str w.1), .val (.nd .tup (sds w.2)), .und] := call3_ok rfl rfl rfl (seen_at F S hw)
  unfold m_law_b2
  rw [sSeq_ok st]
  simp only [ev_sIf, ev_test, ev_op, ev_fn, ev_cons, c, ev_bok, ev_bnd, ev_nil, ev_ret, r, ev_some, ev_v8, rep_same, ev_tst, Bool.false_eq_true, if_false, ev_ite, ev_sNil]
theorem win_loop (F : Frm ps ws) (S : Drawn ps ds us) : ∀ (vs : List (Str × List Str)) (a8 a9 a10 : Sl), (∀ w ∈ vs, w ∈ ws) → ∃ b8 b9 b10, loopD (gT [9, 10]) (m_law_b2 domL) (vs.map winD) [.val (.scr ns), .own none (.dr s), a2, .val (frameD ps ws), .val (stD ds us), a5, a6, a7, a8, a9, a10, .und] = .ok .nx [.val (.scr ns), .own none (.dr s), a2, .val (frameD ps ws), .val (stD ds us), a5, a6, a7, b8, b9, b10, .und]
  | [], a8, a9, a10, _ => ⟨a8, a9, a10, rfl⟩
  | w :: vs, a8, a9, a10, h => by
    have e1 := win_turn (ns := ns) (s := s) (a2 := a2) (a5 := a5) (a6 := a6) (a7 := a7) (a8 := a8) F S (h w List.mem_cons_self)
    obtain ⟨b8, b9, b10, e2⟩ := win_loop F S vs (.val (seenD ds us w)) (.val (.str w.1)) (.val (.nd .tup (sds w.2))) (fun x hx => h x (List.mem_cons_of_mem _ hx))
    refine ⟨b8, b9, b10, ?_⟩
    show loopD (gT [9, 10]) (m_law_b2 domL) (winD w :: vs.map winD) _ = _
    unfold loopD
    have g1 : gT [9, 10] (winD w) [.val (.scr ns), .own none (.dr s), a2, .val (frameD ps ws), .val (stD ds us), a5, a6, a7, a8, a9, a10, .und] = some [.val (.scr ns), .own none (.dr s), a2, .val (frameD ps ws), .val (stD ds us), a5, a6, a7, a8, .val (.str w.1), .val (.nd .tup (sds w.2)), .und] := rfl
    rw [g1]
    dsimp only
    rw [e1]
    exact e2
theorem again_loop (F : Frm ps ws) (S : Drawn ps ds us) : ∀ (ts : List D) (a6 a7 a8 a9 a10 : Sl), ∃ b6 b7 b8 b9 b10, loopD (gN 6) (m_law_b3 domL) ts [.val (.scr ns), .own none (.dr s), a2, .val (frameD ps ws), .val (stD ds us), a5, a6, a7, a8, a9, a10, .und] = .ok .nx [.val (.scr ns), .own none (.dr s), a2, .val (frameD ps ws), .val (stD ds us), a5, b6, b7, b8, b9, b10, .und]
  | [], a6, a7, a8, a9, a10 => ⟨a6, a7, a8, a9, a10, rfl⟩
  | t :: ts, a6, a7, a8, a9, a10 => by
    obtain ⟨c7, c8, e1⟩ := part_loop (ns := ns) (s := s) (a2 := a2) (a5 := a5) (a6 := .val t) (a9 := a9) (a10 := a10) F S ps a7 a8 (fun _ h => h)
    obtain ⟨d8, d9, d10, e2⟩ := win_loop (ns := ns) (s := s) (a2 := a2) (a5 := a5) (a6 := .val t) (a7 := c7) F S ws c8 a9 a10 (fun _ h => h)
    obtain ⟨b6, b7, b8, b9, b10, e3⟩ := again_loop F S ts (.val t) c7 d8 d9 d10
    refine ⟨b6, b7, b8, b9, b10, ?_⟩
    unfold loopD
    have g1 : gN 6 t [.val (.scr ns), .own none (.dr s), a2, .val (frameD ps ws), .val (stD ds us), a5, a6, a7, a8, a9, a10, .und] = some [.val (.scr ns), .own none (.dr s), a2, .val (frameD ps ws), .val (stD ds us), a5, .val t, a7, a8, a9, a10, .und] := rfl
    rw [g1]
    dsimp only
    have e4 : m_law_b3 domL [.val (.scr ns), .own none (.dr s), a2, .val (frameD ps ws), .val (stD ds us), a5, .val t, a7, a8, a9, a10, .und] = .ok .nx [.val (.scr ns), .own none (.dr s), a2, .val (frameD ps ws), .val (stD ds us), a5, .val t, c7, d8, d9, d10, .und] := by
      unfold m_law_b3
      rw [sSeq_ok ((sFor_ok (show mSeq (mOp pIxA (mVar 3) (mC (.int 0))) [.val (.scr ns), .own none (.dr s), a2, .val (frameD ps ws), .val (stD ds us), a5, .val t, a7, a8, a9, a10, .und] = .ok (sds ps) [.val (.scr ns), .own none (.dr s), a2, .val (frameD ps ws), .val (stD ds us), a5, .val t, a7, a8, a9, a10, .und] from rfl)).trans e1)]
      rw [sFor_ok (show mSeq (mOp pIxA (mVar 3) (mC (.int 1))) [.val (.scr ns), .own none (.dr s), a2, .val (frameD ps ws), .val (stD ds us), a5, .val t, c7, c8, a9, a10, .und] = .ok (ws.map winD) [.val (.scr ns), .own none (.dr s), a2, .val (frameD ps ws), .val (stD ds us), a5, .val t, c7, c8, a9, a10, .und] from rfl)]
      exact e2
    rw [e4]
    exact e3
theorem turn_ok (hs : s.Ok) : ∃ (s' : Dr) (b3 b4 b5 b6 b7 b8 b9 b10 : Sl), s'.Ok ∧ m_law_b4 domL [.val (.scr ns), .own none (.dr s), a2, a3, a4, a5, a6, a7, a8, a9, a10, .und] = .ok .nx [.val (.scr ns), .own none (.dr s'), a2, b3, b4, b5, b6, b7, b8, b9, b10, .und] := by
  obtain ⟨s1, ps, ws, ok1, F, ef⟩ := frame_ok (most := 8) (many := 12) hs (by decide) (by decide) (by decide)
  have c1 : mCall 3 f__law_frame (mrR 1 (mrE (mC (.int 8)) (mrE (mC (.int 12)) (mrNil)))) [.val (.scr ns), .own none (.dr s), a2, a3, a4, a5, a6, a7, a8, a9, a10, .und] = .ok (frameD ps ws) [.val (.scr ns), .own none (.dr s1), a2, a3, a4, a5, a6, a7, a8, a9, a10, .und] := by
    rw [callD (n := 3) (f := f__law_frame) (i := 1) (ix := none) (s := s) (s' := s1) (ms := mrE (mC (.int 8)) (mrE (mC (.int 12)) (mrNil))) (E' := [.val (.scr ns), .own none (.dr s), a2, a3, a4, a5, a6, a7, a8, a9, a10, .und]) (xs := [.int 8, .int 12]) (d := frameD ps ws) rfl rfl rfl rfl ef]
    rfl
  have n1 := call_next (E := [.val (.scr ns), .own none (.dr s1), a2, .val (frameD ps ws), a4, a5, a6, a7, a8, a9, a10, .und]) (E' := [.val (.scr ns), .own none (.dr s1), a2, .val (frameD ps ws), a4, a5, a6, a7, a8, a9, a10, .und]) (a := mC (.int 2)) (i := 1) (ix := none) (s := s1) (n := 2) rfl rfl rfl (by decide) (by decide)
  obtain ⟨k0, k1⟩ := s1.draw_lt (n := 2) (by decide)
  have ok2 := ok1.next (n := 2) (by decide)
  obtain ⟨most, hmost, hix⟩ : ∃ most : Nat, most ≤ 40 ∧ pIxA (.nd .lst [.int 40, .int 10]) (.int (s1.draw 2)) = some (.int (most : Int)) := by
    have : s1.draw 2 = 0 ∨ s1.draw 2 = 1 := by omega
    rcases this with z | z
    · exact ⟨40, by decide, by rw [z]; rfl⟩
    · exact ⟨10, by decide, by rw [z]; rfl⟩
  obtain ⟨s2, R, A, n, c, ds, us, ok3, hRow, hA, hSt, es⟩ := state_ok F ok2 hmost
  have S := drawn_of hRow hA hSt
  obtain ⟨d1, _, _⟩ := drawn_ok F S
  have ms : (mrE (mVar 3) (mrE (mOp pIxA (mFn pLst (mCons (mC (.int 40)) (mCons (mC (.int 10)) (mNil)))) (mCall 2 semNext (mrR 1 (mrE (mC (.int 2)) (mrNil))))) (mrNil))) [.val (.scr ns), .own none (.dr s1), a2, .val (frameD ps ws), a4, a5, a6, a7, a8, a9, a10, .und] = .ok ([frameD ps ws, .int (most : Int)].map Sum.inl) [.val (.scr ns), .own none (.dr (s1.next 2)), a2, .val (frameD ps ws), a4, a5, a6, a7, a8, a9, a10, .und] := by
    simp only [ev_mrE, ev_v3, ev_bok, ev_bnd, ev_op, ev_fn, ev_cons, ev_c, ev_nil, ev_ret, pLst_2, ev_some, n1, hix, ev_mrNil]
    rfl
  have c2 : (mCall 3 f__law_state (mrR 1 (mrE (mVar 3) (mrE (mOp pIxA (mFn pLst (mCons (mC (.int 40)) (mCons (mC (.int 10)) (mNil)))) (mCall 2 semNext (mrR 1 (mrE (mC (.int 2)) (mrNil))))) (mrNil))))) [.val (.scr ns), .own none (.dr s1), a2, .val (frameD ps ws), a4, a5, a6, a7, a8, a9, a10, .und] = .ok (stD ds us) [.val (.scr ns), .own none (.dr s2), a2, .val (frameD ps ws), a4, a5, a6, a7, a8, a9, a10, .und] := by
    rw [callD (n := 3) (f := f__law_state) (i := 1) (ix := none) (s := s1.next 2) (s' := s2) (E := [.val (.scr ns), .own none (.dr s1), a2, .val (frameD ps ws), a4, a5, a6, a7, a8, a9, a10, .und]) (E' := [.val (.scr ns), .own none (.dr (s1.next 2)), a2, .val (frameD ps ws), a4, a5, a6, a7, a8, a9, a10, .und]) (xs := [frameD ps ws, .int (most : Int)]) (d := stD ds us) rfl ms rfl rfl es]
    rfl
  obtain ⟨w1, w2, _⟩ := frame_wt F
  have kf : Ok 100000 10 (frameD ps ws) := ⟨frame_fine F, by omega, by omega⟩
  have rk := (lst2_ok kf (d1.up (w' := 100000) (m' := 10) (by decide) (by decide))).rep (by decide) (by decide)
  have st3 : (sSet 5 (mFn pRepr (mCons (mFn pLst (mCons (mVar 3) (mCons (mVar 4) (mNil)))) (mNil)))) [.val (.scr ns), .own none (.dr s2), a2, .val (frameD ps ws), .val (stD ds us), a5, a6, a7, a8, a9, a10, .und] = .ok .nx [.val (.scr ns), .own none (.dr s2), a2, .val (frameD ps ws), .val (stD ds us), .val (Wu.rep (.nd .lst [frameD ps ws, stD ds us])), a6, a7, a8, a9, a10, .und] := by
    refine (sSet_ok (d := Wu.rep (.nd .lst [frameD ps ws, stD ds us])) (E' := [.val (.scr ns), .own none (.dr s2), a2, .val (frameD ps ws), .val (stD ds us), a5, a6, a7, a8, a9, a10, .und]) ?_).trans rfl
    simp only [ev_fn, ev_cons, ev_v3, ev_v4, ev_bok, ev_bnd, ev_nil, ev_ret, pLst_2, rk, ev_some]
  have hR : mRange (mCons (mC (.int 2)) mNil) [.val (.scr ns), .own none (.dr s2), a2, .val (frameD ps ws), .val (stD ds us), .val (Wu.rep (.nd .lst [frameD ps ws, stD ds us])), a6, a7, a8, a9, a10, .und] = .ok (rangeD 0 2) [.val (.scr ns), .own none (.dr s2), a2, .val (frameD ps ws), .val (stD ds us), .val (Wu.rep (.nd .lst [frameD ps ws, stD ds us])), a6, a7, a8, a9, a10, .und] := mRangeN (n := 2) rfl (by decide)
  obtain ⟨b6, b7, b8, b9, b10, eL⟩ := again_loop (ns := ns) (s := s2) (a2 := a2) (a5 := .val (Wu.rep (.nd .lst [frameD ps ws, stD ds us]))) F S (rangeD 0 2) a6 a7 a8 a9 a10
  obtain ⟨p0, hp0⟩ : ∃ p0, (sds ps)[0]? = some p0 := ⟨(sds ps)[0]'(by rw [sds_len]; exact F.p1), List.getElem?_eq_getElem _⟩
  refine ⟨s2, .val (frameD ps ws), .val (stD ds us), .val (Wu.rep (.nd .lst [frameD ps ws, stD ds us])), b6, b7, b8, b9, b10, ok3, ?_⟩
  have ip : (mOp pIxA (mOp pIxA (mVar 3) (mC (.int 0))) (mC (.int 0))) [.val (.scr ns), .own none (.dr s2), a2, .val (frameD ps ws), .val (stD ds us), .val (Wu.rep (.nd .lst [frameD ps ws, stD ds us])), b6, b7, b8, b9, b10, .und] = .ok p0 [.val (.scr ns), .own none (.dr s2), a2, .val (frameD ps ws), .val (stD ds us), .val (Wu.rep (.nd .lst [frameD ps ws, stD ds us])), b6, b7, b8, b9, b10, .und] := by
    have i00 : (mOp pIxA (mVar 3) (mC (.int 0))) [.val (.scr ns), .own none (.dr s2), a2, .val (frameD ps ws), .val (stD ds us), .val (Wu.rep (.nd .lst [frameD ps ws, stD ds us])), b6, b7, b8, b9, b10, .und] = .ok (.nd .tup (sds ps)) [.val (.scr ns), .own none (.dr s2), a2, .val (frameD ps ws), .val (stD ds us), .val (Wu.rep (.nd .lst [frameD ps ws, stD ds us])), b6, b7, b8, b9, b10, .und] := rfl
    rw [ev_op, i00]
    simp only [ev_bok, ev_bnd, ev_c, pIx_tup0, hp0, ev_some]
  have c3 : mCall 3 (f__law_order_right domL) (mrE (mVar 3) (mrE (mVar 4) (mrE (mOp pIxA (mOp pIxA (mVar 3) (mC (.int 0))) (mC (.int 0))) (mrNil)))) [.val (.scr ns), .own none (.dr s2), a2, .val (frameD ps ws), .val (stD ds us), .val (Wu.rep (.nd .lst [frameD ps ws, stD ds us])), b6, b7, b8, b9, b10, .und] = .ok (.bl true) [.val (.scr ns), .own none (.dr s2), a2, .val (frameD ps ws), .val (stD ds us), .val (Wu.rep (.nd .lst [frameD ps ws, stD ds us])), b6, b7, b8, b9, b10, .und] := call3_ok rfl rfl ip (order_ok F S p0)
  unfold m_law_b4
  refine (sSeq_ok (sSet_ok c1)).trans ?_
  refine (sSeq_ok (sSet_ok c2)).trans ?_
  refine (sSeq_ok st3).trans ?_
  refine (sSeq_ok ((sFor_ok hR).trans eL)).trans ?_
  simp only [ev_sIf, ev_or, ev_not, ev_test, c3, ev_bok, ev_tst, ev_ret, Bool.not_true, Bool.false_eq_true, if_false, ev_ite, ev_op, ev_fn, ev_cons, ev_v3, ev_v4, ev_bnd, ev_nil, pLst_2, rk, ev_some, ev_v5, rep_same, ev_sNil]
end
theorem law_loop {ns : List D} : ∀ (ts : List D) (s : Dr) (a2 a3 a4 a5 a6 a7 a8 a9 a10 : Sl), s.Ok → ∃ (s' : Dr) (b2 b3 b4 b5 b6 b7 b8 b9 b10 : Sl), loopD (gN 2) (m_law_b4 domL) ts [.val (.scr ns), .own none (.dr s), a2, a3, a4, a5, a6, a7, a8, a9, a10, .und] = .ok .nx [.val (.scr ns), .own none (.dr s'), b2, b3, b4, b5, b6, b7, b8, b9, b10, .und]
  | [], s, a2, a3, a4, a5, a6, a7, a8, a9, a10, _ => ⟨s, a2, a3, a4, a5, a6, a7, a8, a9, a10, rfl⟩
  | t :: ts, s, a2, a3, a4, a5, a6, a7, a8, a9, a10, hs => by
    obtain ⟨s1, c3, c4, c5, c6, c7, c8, c9, c10, ok, e⟩ := turn_ok (ns := ns) (s := s) (a2 := .val t) (a3 := a3) (a4 := a4) (a5 := a5) (a6 := a6) (a7 := a7) (a8 := a8) (a9 := a9) (a10 := a10) hs
    obtain ⟨s', b2, b3, b4, b5, b6, b7, b8, b9, b10, ih⟩ := law_loop (ns := ns) ts s1 (.val t) c3 c4 c5 c6 c7 c8 c9 c10 ok
    refine ⟨s', b2, b3, b4, b5, b6, b7, b8, b9, b10, ?_⟩
    unfold loopD
    have g1 : gN 2 t [.val (.scr ns), .own none (.dr s), a2, a3, a4, a5, a6, a7, a8, a9, a10, .und] = some [.val (.scr ns), .own none (.dr s), .val t, a3, a4, a5, a6, a7, a8, a9, a10, .und] := rfl
    rw [g1]
    dsimp only
    rw [e]
    exact ih
theorem turns_ok {ns : List Int} {s : Dr} (h : ns.length ≤ 63) : ∃ n : Nat, (mRange (mCons (mOp pAdd (mC (.int 3)) (mOp pDiv (mFn pMin2 (mCons (mC (.int 60)) (mCons (mFn pLen (mCons (mVar 0) (mNil))) (mNil)))) (mC (.int 5)))) mNil)) [.val (.scr (ns.map D.int)), .own none (.dr s), .und, .und, .und, .und, .und, .und, .und, .und, .und, .und] = .ok (rangeD 0 n) [.val (.scr (ns.map D.int)), .own none (.dr s), .und, .und, .und, .und, .und, .und, .und, .und, .und, .und] := by
  have h5 : ∀ z : Int, CDivW z 5 := fun z => by unfold CDivW; constructor <;> decide
  obtain ⟨z, e1, z0, z1⟩ : ∃ z : Int, pMin2 [.int 60, .int (((ns.map D.int).length : Nat) : Int)] = some (.int z) ∧ 0 ≤ z ∧ z ≤ 60 := by
    refine ⟨_, rfl, ?_, ?_⟩
    · split <;> omega
    · split <;> omega
  have e3 : pDiv (.int z) (.int 5) = some (.int (z / 5)) := by simp only [pDiv]; rw [if_pos (h5 z)]
  have l : pLen [.nd .scr (ns.map D.int)] = some (.int (((ns.map D.int).length : Nat) : Int)) := rfl
  refine ⟨(3 + z / 5).toNat, mRange1 (i := 3 + z / 5) ?_ (by omega) (by omega)⟩
  simp only [ev_cons, ev_op, ev_c, ev_bok, ev_bnd, ev_fn, ev_v0, ev_nil, ev_ret, l, ev_some, e1, e3, pAdd_int]
theorem plain : ∀ (ns : List Int) (s : Dr), ns.length ≤ 63 → s.Ok → ∃ E', m_law domL (envL 12 ns s) = .ok (.rt (.bl true)) E' := by
  intro ns s hl hs
  obtain ⟨n, eR⟩ := turns_ok (ns := ns) (s := s) hl
  obtain ⟨s', b2, b3, b4, b5, b6, b7, b8, b9, b10, eL⟩ := law_loop (ns := ns.map D.int) (rangeD 0 n) s .und .und .und .und .und .und .und .und .und hs
  show ∃ E', m_law domL [.val (.scr (ns.map D.int)), .own none (.dr s), .und, .und, .und, .und, .und, .und, .und, .und, .und, .und] = _
  unfold m_law
  rw [sSeq_ok ((sFor_ok eR).trans eL)]
  exact ⟨_, rfl⟩
end Law

namespace Law
open PySem PySem.Spec PyProof.Rows L2 Wu He
def top (i : Nat) : Stmt := PySem.Challenge.pw_windowundos_k04_contents_and_sights.main.body.getD i (.Pass ⟨0, 0, 0, 0⟩)
def meth (i j : Nat) : Stmt := match top i with | .ClassDef _ _ _ body .. => body.getD j (.Pass ⟨0, 0, 0, 0⟩) | s => s
abbrev tfL : List He.Defn := [("_law_order_right", none)]
abbrev csL (K : PySem.W.Frag) : List (Addr × Addr) := tfL.map (He.cT K)
theorem tm__law_order_right {K : PySem.W.Frag} : He.cT K ("_law_order_right", none) ∈ csL K := List.mem_map_of_mem (.head _)
abbrev nmL (K : PySem.W.Frag) : Addr → Str := fun _ => "_law_order_right.<locals>.<lambda>"
abbrev cT (K : PySem.W.Frag) : Ct := ⟨ga K, 1, isTb (csL K), nmL K, 0, fun _ => True, fun _ _ => trivial⟩
structure Tx (K : PySem.W.Frag) (mg : Str → Option Value) : Prop where
  b__law_among : Binds K (foK K (ga K "_law_among")) ["_law_edits", "_law_parts"] []
  b__law_begun : Binds K (foK K (ga K "_law_begun")) ["_law_script"] []
  b__law_frame : Binds K (foK K (ga K "_law_frame")) ["_law_draw", "_law_most", "_law_many"] []
  b__law_mixture : Binds K (foK K (ga K "_law_mixture")) ["_law_draw", "_law_rows"] []
  b__law_next : Binds K (foK K (ga K "_law_next")) ["_law_draw", "_law_below"] []
  b__law_order_right : Binds K (foK K (ga K "_law_order_right")) ["_law_plan", "_law_state_here", "_law_part"] []
  b__law_refused : Binds K (foK K (ga K "_law_refused")) ["_law_call"] []
  b__law_shown : Binds K (foK K (ga K "_law_shown")) ["_law_draw", "_law_parts", "_law_windows"] []
  b__law_state : Binds K (foK K (ga K "_law_state")) ["_law_draw", "_law_plan", "_law_most"] []
  b__law_titles : Binds K (foK K (ga K "_law_titles")) ["_law_draw", "_law_many"] []
  b_content : Binds K (foK K (ga K "content")) ["frame", "state", "part"] []
  b_edits_among : Binds K (foK K (ga K "edits_among")) ["edits", "parts"] []
  b_is_edit : Binds K (foK K (ga K "is_edit")) ["views", "thing"] []
  b_is_integer : Binds K (foK K (ga K "is_integer")) ["thing", "least", "most"] []
  b_is_name : Binds K (foK K (ga K "is_name")) ["thing"] []
  b_is_shown : Binds K (foK K (ga K "is_shown")) ["thing", "parts"] []
  b_is_window : Binds K (foK K (ga K "is_window")) ["thing", "parts"] []
  b_need_frame : Binds K (foK K (ga K "need_frame")) ["thing"] []
  b_need_good : Binds K (foK K (ga K "need_good")) ["views", "thing"] []
  b_seen : Binds K (foK K (ga K "seen")) ["frame", "state", "window"] []
  b_stands_well : Binds K (foK K (ga K "stands_well")) ["edit", "done", "undone", "is_done"] []
  bi_BadFrame : Binds K (foK K (ma K (ga K "BadFrame") "__init__")) ["self", "place"] []
  bi_BadState : Binds K (foK K (ma K (ga K "BadState") "__init__")) ["self", "place"] []
  bi_Missing : Binds K (foK K (ma K (ga K "Missing") "__init__")) ["self", "name"] []
  bm_Views___init__ : Binds K (foK K (ma K (ga K "Views") "__init__")) ["self", "frame"] []
  bm_Views_need_part : Binds K (foK K (ma K (ga K "Views") "need_part")) ["self", "name"] []
  bm_Views_need_window : Binds K (foK K (ma K (ga K "Views") "need_window")) ["self", "name"] []
  c_LETTERS : ∃ t, mg "LETTERS" = some (.str "abcdefghijklmnopqrstuvwxyz" t)
  c_LONGEST_NAME : ∃ t, mg "LONGEST_NAME" = some (.int 8 t)
  c_MOST_AGE : ∃ t, mg "MOST_AGE" = some (.int 999 t)
  c_MOST_EDITS : ∃ t, mg "MOST_EDITS" = some (.int 40 t)
  c_MOST_PARTS : ∃ t, mg "MOST_PARTS" = some (.int 8 t)
  c_MOST_WINDOWS : ∃ t, mg "MOST_WINDOWS" = some (.int 12 t)
  ck2_Missing__WindowError : ∀ z b, isD2 domL ["Missing", "WindowError"] z = some b → PySem.W.exmAny K (.ref (ga K z)) [.ref (ga K "Missing"), .ref (ga K "WindowError")] = some b
  cls_Views : Cls K (ga K "Views")
  in_BadFrame : PySem.W.findIn K (.ref (ga K "BadFrame")) "__init__" = some (some (.ref (ma K (ga K "BadFrame") "__init__")))
  in_BadState : PySem.W.findIn K (.ref (ga K "BadState")) "__init__" = some (some (.ref (ma K (ga K "BadState") "__init__")))
  in_Missing : PySem.W.findIn K (.ref (ga K "Missing")) "__init__" = some (some (.ref (ma K (ga K "Missing") "__init__")))
  is_BadFrame : ∀ z b, isD domL "BadFrame" z = some b → ExcC K (ga K z) ∧ PySem.W.kitOne K (.ref (ga K z)) (.ref (ga K "BadFrame")) = some b
  is_BadState : ∀ z b, isD domL "BadState" z = some b → ExcC K (ga K z) ∧ PySem.W.kitOne K (.ref (ga K z)) (.ref (ga K "BadState")) = some b
  is_Missing : ∀ z b, isD domL "Missing" z = some b → ExcC K (ga K z) ∧ PySem.W.kitOne K (.ref (ga K z)) (.ref (ga K "Missing")) = some b
  k__law_among : PySem.W.keepIn K (.ref (ga K "_law_among")) = true
  k__law_begun : PySem.W.keepIn K (.ref (ga K "_law_begun")) = true
  k__law_frame : PySem.W.keepIn K (.ref (ga K "_law_frame")) = true
  k__law_mixture : PySem.W.keepIn K (.ref (ga K "_law_mixture")) = true
  k__law_next : PySem.W.keepIn K (.ref (ga K "_law_next")) = true
  k__law_order_right : PySem.W.keepIn K (.ref (ga K "_law_order_right")) = true
  k__law_refused : PySem.W.keepIn K (.ref (ga K "_law_refused")) = true
  k__law_shown : PySem.W.keepIn K (.ref (ga K "_law_shown")) = true
  k__law_state : PySem.W.keepIn K (.ref (ga K "_law_state")) = true
  k__law_titles : PySem.W.keepIn K (.ref (ga K "_law_titles")) = true
  k_content : PySem.W.keepIn K (.ref (ga K "content")) = true
  k_edits_among : PySem.W.keepIn K (.ref (ga K "edits_among")) = true
  k_is_edit : PySem.W.keepIn K (.ref (ga K "is_edit")) = true
  k_is_integer : PySem.W.keepIn K (.ref (ga K "is_integer")) = true
  k_is_name : PySem.W.keepIn K (.ref (ga K "is_name")) = true
  k_is_shown : PySem.W.keepIn K (.ref (ga K "is_shown")) = true
  k_is_window : PySem.W.keepIn K (.ref (ga K "is_window")) = true
  k_need_frame : PySem.W.keepIn K (.ref (ga K "need_frame")) = true
  k_need_good : PySem.W.keepIn K (.ref (ga K "need_good")) = true
  k_seen : PySem.W.keepIn K (.ref (ga K "seen")) = true
  k_stands_well : PySem.W.keepIn K (.ref (ga K "stands_well")) = true
  m_BadFrame : mg "BadFrame" = some (.ref (ga K "BadFrame"))
  m_BadState : mg "BadState" = some (.ref (ga K "BadState"))
  m_Missing : mg "Missing" = some (.ref (ga K "Missing"))
  m_Views : mg "Views" = some (.ref (ga K "Views"))
  m_WindowError : mg "WindowError" = some (.ref (ga K "WindowError"))
  m__law_among : mg "_law_among" = some (.ref (ga K "_law_among"))
  m__law_begun : mg "_law_begun" = some (.ref (ga K "_law_begun"))
  m__law_frame : mg "_law_frame" = some (.ref (ga K "_law_frame"))
  m__law_mixture : mg "_law_mixture" = some (.ref (ga K "_law_mixture"))
  m__law_next : mg "_law_next" = some (.ref (ga K "_law_next"))
  m__law_order_right : mg "_law_order_right" = some (.ref (ga K "_law_order_right"))
  m__law_refused : mg "_law_refused" = some (.ref (ga K "_law_refused"))
  m__law_shown : mg "_law_shown" = some (.ref (ga K "_law_shown"))
  m__law_state : mg "_law_state" = some (.ref (ga K "_law_state"))
  m__law_titles : mg "_law_titles" = some (.ref (ga K "_law_titles"))
  m_content : mg "content" = some (.ref (ga K "content"))
  m_edits_among : mg "edits_among" = some (.ref (ga K "edits_among"))
  m_is_edit : mg "is_edit" = some (.ref (ga K "is_edit"))
  m_is_integer : mg "is_integer" = some (.ref (ga K "is_integer"))
  m_is_name : mg "is_name" = some (.ref (ga K "is_name"))
  m_is_shown : mg "is_shown" = some (.ref (ga K "is_shown"))
  m_is_window : mg "is_window" = some (.ref (ga K "is_window"))
  m_law : mg "law" = some (.ref (ga K "law"))
  m_need_frame : mg "need_frame" = some (.ref (ga K "need_frame"))
  m_need_good : mg "need_good" = some (.ref (ga K "need_good"))
  m_seen : mg "seen" = some (.ref (ga K "seen"))
  m_stands_well : mg "stands_well" = some (.ref (ga K "stands_well"))
  me_Views_need_part : Meth K (ga K "Views") "need_part" (ma K (ga K "Views") "need_part")
  me_Views_need_window : Meth K (ga K "Views") "need_window" (ma K (ga K "Views") "need_window")
  mk_Views : Mk K (ga K "Views") (ma K (ga K "Views") "__init__")
  n_KeyError : mg "KeyError" = none
  n_all : mg "all" = none
  n_any : mg "any" = none
  n_bool : mg "bool" = none
  n_dict : mg "dict" = none
  n_enumerate : mg "enumerate" = none
  n_int : mg "int" = none
  n_isinstance : mg "isinstance" = none
  n_len : mg "len" = none
  n_list : mg "list" = none
  n_max : mg "max" = none
  n_min : mg "min" = none
  n_range : mg "range" = none
  n_repr : mg "repr" = none
  n_str : mg "str" = none
  n_tuple : mg "tuple" = none
  nf_BadFrame : PySem.W.findIn K (.ref (ga K "BadFrame")) "place" = some none
  nf_BadState : PySem.W.findIn K (.ref (ga K "BadState")) "place" = some none
  nf_Missing : PySem.W.findIn K (.ref (ga K "Missing")) "name" = some none
  no_Views__part_windows : NoAttr K (ga K "Views") "part_windows"
  no_Views__parts : NoAttr K (ga K "Views") "parts"
  no_Views__plan : NoAttr K (ga K "Views") "plan"
  no_Views__window_parts : NoAttr K (ga K "Views") "window_parts"
  ox_BadFrame : OxC K (ga K "BadFrame") PySem.HandSPX.veTail "ValueError.__new__"
  ox_BadState : OxC K (ga K "BadState") PySem.HandSPX.veTail "ValueError.__new__"
  ox_Missing : OxC K (ga K "Missing") PySem.WuX.keTail "LookupError.__new__"
  rd_WindowError : PySem.W.readsIn K (ga K "WindowError") (.type "type") = true
  sg_WindowError : PySem.W.specialIn K (.ref (ga K "WindowError")) "__getattribute__" = some (some (.builtin "type.__getattribute__"))
  ti_BadFrame : PySem.W.typeIn K (.ref (ma K (ga K "BadFrame") "__init__")) = some (.type "function")
  ti_BadState : PySem.W.typeIn K (.ref (ma K (ga K "BadState") "__init__")) = some (.type "function")
  ti_Missing : PySem.W.typeIn K (.ref (ma K (ga K "Missing") "__init__")) = some (.type "function")
  u_Views___init__ : L2.Fun K "__init__" "Views.__init__" (meth 16 0) (ma K (ga K "Views") "__init__") (foK K (ma K (ga K "Views") "__init__"))
  u_Views_need_part : L2.Fun K "need_part" "Views.need_part" (meth 16 1) (ma K (ga K "Views") "need_part") (foK K (ma K (ga K "Views") "need_part"))
  u_Views_need_window : L2.Fun K "need_window" "Views.need_window" (meth 16 2) (ma K (ga K "Views") "need_window") (foK K (ma K (ga K "Views") "need_window"))
  u__law_among : L2.Fun K "_law_among" "_law_among" (top 34) (ga K "_law_among") (foK K (ga K "_law_among"))
  u__law_begun : L2.Fun K "_law_begun" "_law_begun" (top 27) (ga K "_law_begun") (foK K (ga K "_law_begun"))
  u__law_frame : L2.Fun K "_law_frame" "_law_frame" (top 31) (ga K "_law_frame") (foK K (ga K "_law_frame"))
  u__law_mixture : L2.Fun K "_law_mixture" "_law_mixture" (top 32) (ga K "_law_mixture") (foK K (ga K "_law_mixture"))
  u__law_next : L2.Fun K "_law_next" "_law_next" (top 28) (ga K "_law_next") (foK K (ga K "_law_next"))
  u__law_order_right : L2.Fun K "_law_order_right" "_law_order_right" (top 36) (ga K "_law_order_right") (foK K (ga K "_law_order_right"))
  u__law_refused : L2.Fun K "_law_refused" "_law_refused" (top 35) (ga K "_law_refused") (foK K (ga K "_law_refused"))
  u__law_shown : L2.Fun K "_law_shown" "_law_shown" (top 30) (ga K "_law_shown") (foK K (ga K "_law_shown"))
  u__law_state : L2.Fun K "_law_state" "_law_state" (top 33) (ga K "_law_state") (foK K (ga K "_law_state"))
  u__law_titles : L2.Fun K "_law_titles" "_law_titles" (top 29) (ga K "_law_titles") (foK K (ga K "_law_titles"))
  u_content : L2.Fun K "content" "content" (top 24) (ga K "content") (foK K (ga K "content"))
  u_edits_among : L2.Fun K "edits_among" "edits_among" (top 23) (ga K "edits_among") (foK K (ga K "edits_among"))
  u_is_edit : L2.Fun K "is_edit" "is_edit" (top 20) (ga K "is_edit") (foK K (ga K "is_edit"))
  u_is_integer : L2.Fun K "is_integer" "is_integer" (top 11) (ga K "is_integer") (foK K (ga K "is_integer"))
  u_is_name : L2.Fun K "is_name" "is_name" (top 12) (ga K "is_name") (foK K (ga K "is_name"))
  u_is_shown : L2.Fun K "is_shown" "is_shown" (top 13) (ga K "is_shown") (foK K (ga K "is_shown"))
  u_is_window : L2.Fun K "is_window" "is_window" (top 14) (ga K "is_window") (foK K (ga K "is_window"))
  u_law : L2.Fun K "law" "law" (top 37) (ga K "law") (foK K (ga K "law"))
  u_need_frame : L2.Fun K "need_frame" "need_frame" (top 15) (ga K "need_frame") (foK K (ga K "need_frame"))
  u_need_good : L2.Fun K "need_good" "need_good" (top 22) (ga K "need_good") (foK K (ga K "need_good"))
  u_seen : L2.Fun K "seen" "seen" (top 25) (ga K "seen") (foK K (ga K "seen"))
  u_stands_well : L2.Fun K "stands_well" "stands_well" (top 21) (ga K "stands_well") (foK K (ga K "stands_well"))
  ui_BadFrame : L2.Fun K "__init__" "BadFrame.__init__" (meth 3 0) (ma K (ga K "BadFrame") "__init__") (foK K (ma K (ga K "BadFrame") "__init__"))
  ui_BadState : L2.Fun K "__init__" "BadState.__init__" (meth 4 0) (ma K (ga K "BadState") "__init__") (foK K (ma K (ga K "BadState") "__init__"))
  ui_Missing : L2.Fun K "__init__" "Missing.__init__" (meth 5 0) (ma K (ga K "Missing") "__init__") (foK K (ma K (ga K "Missing") "__init__"))
  vv_KeyError : PySem.W.findCls K (.type "KeyError") (.type "type") "__init__" = some (.val (.builtin "KeyError.__init__"))
  vv_WindowError : PySem.W.findCls K (.ref (ga K "WindowError")) (.type "type") "__init__" = some (.val (.builtin "ValueError.__init__"))
variable {P : Program} {w : World} {K : PySem.W.Frag} {mg : Str → Option Value} {base : Heap} {ct : Ct}
abbrev st__law_begun : Stmt := top 27
abbrev N__law_begun : List Str := ["_law_script", "_law_mixed", "_law_k", "_law_cell"]
theorem sc__law_begun : FnScope N__law_begun ["_law_script"] (defScope st__law_begun) := ⟨rfl, rfl, rfl, by decide +kernel, rfl, by decide +kernel, by decide +kernel⟩
theorem ok__law_begun {f : Addr} {fd : FuncData} (F : Fun K "_law_begun" "_law_begun" st__law_begun f fd) (gi : mg "int" = none) (gl : mg "len" = none) (ge : mg "enumerate" = none) :
    FnG P w K mg base 1 f fd ["_law_script"] (spBegun K) := by
  refine fn_body F sc__law_begun (fun vs H Q E h => ?_) (fun cdv A outer s H vs Q E _ hG hr h => ⟨_, PSs.nox (pss_cons (ps_set (i := 1) sc__law_begun.nd rfl (.inl rfl) (pe_op op_add pe_int (pe_op op_mul pe_int (pe_callB call_len rfl gl boot_len (pa_cons (pv 0) pa_nil)))))
    (pss_cons (ps_for PassesOwn.never rfl (pi_enum rfl ge (pa_cons (pv 0) pa_nil)) (pg_tup rfl (pgs_cons (pg_name (i := 2) sc__law_begun.nd rfl (.inl rfl)) (pgs_cons (pg_name (i := 3) sc__law_begun.nd rfl (.inl rfl)) pgs_nil)))
      (pss_one (ps_set (i := 1) sc__law_begun.nd rfl (.inl rfl) (pe_op op_mod (pe_callTy call_int1 rfl gi (by decide +kernel) (pa_cons (pe_op op_add (pe_op op_add (pe_op op_mul (pv 1) pe_int) (pv 3)) (pe_op op_mul pe_int (pv 2))) pa_nil)) pe_int))))
    (pss_one (ps_ret (pe_disp (pps_cons pe_str (pv 1) (pps_cons pe_str
      (pe_lc (own := [("_law_cell", 3)]) (g := gName 3) (by rfl) sc__law_begun.nd (pi_list (pv 0)) (blkOk_by (own := [("_law_cell", 3)]) (N := N__law_begun) (sc := defScope st__law_begun) (by decide +kernel)) (fun _ _ _ _ _ => pg_name (i := 3) sc__law_begun.nd rfl (.inl rfl))
        (fun _ _ _ _ _ => pts_one (pt_cmpR op_ge (pv 3) (pe_op op_pow pe_int pe_int) (nomark _))) (fun _ _ _ _ _ => pv 3))
      (pps_cons pe_str pe_int pps_nil))) (by rfl) (by rfl) (fun z => by cases z) (by decide)))))), ?_⟩)
  · obtain ⟨_, _, rfl, _⟩ := h; rfl
  · obtain ⟨a, ns, rfl, hs, hl, hb, k⟩ := h
    have hlen : (ns.map V.int).length = ns.length := List.length_map ..
    refine ⟨_, rfl, _, (ns.map V.int).length, rfl, .inl ⟨_, hs, rfl⟩, _, _, rfl, rfl, .inl ⟨by decide, by decide⟩, _, _, rfl, rfl, ?_⟩
    refine ⟨_, rfl, a, ns.map V.int, rfl, hs, fun i m σ H1 => m = ns.length - i ∧ i ≤ ns.length ∧ Same H H1 ∧ ∃ x k c, σ = [some (.ref a), some (.int x), k, c] ∧ 0 ≤ x ∧ x < 2305843009213693951, ⟨ns.length, by simp, Nat.zero_le _, Same.refl H, _, none, none, rfl, by rw [hlen]; omega, by rw [hlen]; omega⟩, ?_⟩
    rintro i m σ H1 ⟨rfl, hi, sm, x, kk, c, rfl, hx0, hx1⟩
    have hs1 : SqL K H1 a (ns.map V.int) := sm.seq hs
    by_cases hlt : i < ns.length
    · refine .inr ⟨⟨ns.map V.int, .int ns[i], hs1, by rw [List.getElem?_map, List.getElem?_eq_getElem hlt]; rfl⟩, fun σ' H' => i + 1 ≤ ns.length ∧ Same H H' ∧ ∃ x k c, σ' = [some (.ref a), some (.int x), k, c] ∧ 0 ≤ x ∧ x < 2305843009213693951, fun σ' H' q => ⟨ns.length - (i + 1), by omega, rfl, q⟩, ?_⟩
      rintro _ _ ⟨T, y, rfl, hT, rfl, hy⟩
      have ey : y = .int ns[i] := by
        have := hy _ hs1
        rw [List.getElem?_map, List.getElem?_eq_getElem hlt] at this
        exact (Option.some.inj this).symm
      subst ey
      refine ⟨T, _, rfl, SqT.of upd_same, rfl, _, _, rfl, _, _, rfl, rfl, ?_⟩
      refine ⟨_, rfl, _, _, rfl, rfl, .inr ⟨by decide, by decide⟩, _, rfl, _, _, rfl, rfl, _, rfl, _, _, rfl, rfl, .inl ⟨by decide, by decide⟩, _, _, rfl, rfl, .inl ⟨_, rfl, _, _, rfl, rfl, (show (0 : Int) < 2305843009213693951 by decide), ?_⟩⟩
      exact ⟨hlt, fun b o e => by have := sm b o e; rw [upd_ne (ne_of_none this hT)]; exact this, _, _, _, rfl, Int.emod_nonneg _ (by decide), Int.emod_lt_of_pos _ (by decide)⟩
    · refine .inl ⟨⟨_, hs1, by rw [hlen]; omega⟩, ?_⟩
      intro p hp
      have hs2 : SqL K (upd H1 p (.dK [])) a (ns.map V.int) := by
        refine Same.seq (fun b o e => ?_) hs1
        rw [upd_ne (ne_of_none e hp)]; exact e
      refine ⟨_, rfl, ?_⟩
      refine ⟨_, rfl, a, rfl, ⟨_, hs2⟩, fun g hg => ?_⟩
      have hpg : p ≠ g := ne_of_none upd_same hg
      have hge : ∀ H2 : Hp, (∀ b o, upd H1 p (.dK []) b = some o → H2 b = some o) → SqL K H2 a (ns.map V.int) := fun H2 s2 => Same.seq s2 hs2
      refine ⟨fun i m H2 => m = ns.length - i ∧ i ≤ ns.length ∧ (∀ b o, upd H1 p (.dK []) b = some o → H2 b = some o) ∧ ∃ acc : List Int, H2 g = some (.lst (acc.map V.int)) ∧ acc.length ≤ i ∧ ∀ z ∈ acc, z ∈ ns, ⟨ns.length, by simp, Nat.zero_le _, fun b o e => by rw [upd_ne (ne_of_none e hg)]; exact e, [], upd_same, Nat.zero_le _, fun z h => by cases h⟩, ?_⟩
      rintro i2 m H2 ⟨rfl, hi2, sm2, acc, hacc, hal, hin⟩
      by_cases hlt2 : i2 < ns.length
      · refine .inr ⟨⟨ns.map V.int, .int ns[i2], hge H2 sm2, by rw [List.getElem?_map, List.getElem?_eq_getElem hlt2]; rfl⟩, fun H3 => i2 + 1 ≤ ns.length ∧ (∀ b o, upd H1 p (.dK []) b = some o → H3 b = some o) ∧ ∃ acc : List Int, H3 g = some (.lst (acc.map V.int)) ∧ acc.length ≤ i2 + 1 ∧ ∀ z ∈ acc, z ∈ ns, fun H' q => ⟨ns.length - (i2 + 1), by omega, rfl, q⟩, ?_⟩
        rintro y H3 ⟨e3, hy⟩
        subst e3
        have ey : y = .int ns[i2] := by
          have := hy _ (hge _ sm2)
          rw [List.getElem?_map, List.getElem?_eq_getElem hlt2] at this
          exact (Option.some.inj this).symm
        subst ey
        refine ⟨rfl, _, rfl, _, _, rfl, rfl, ⟨by decide, by decide⟩, _, _, rfl, rfl, _, rfl, ?_⟩
        dsimp only
        split
        · refine ⟨_, rfl, _, hacc, by rw [List.length_map]; have : (1000 : Nat) ≤ sizeLine := (by decide); omega, hlt2, fun b o e => ?_, acc ++ [ns[i2]], by rw [upd_same, List.map_append]; rfl, by simp; omega, fun z hz => ?_⟩
          · have : b ≠ g := fun z => by rw [z, hg] at e; cases e
            rw [upd_ne this]; exact sm2 b o e
          · rcases List.mem_append.mp hz with h | h
            · exact hin z h
            · rw [List.mem_singleton.mp h]; exact List.getElem_mem hlt2
        · exact ⟨hlt2, sm2, acc, hacc, by omega, hin⟩
      · refine .inl ⟨⟨_, hge H2 sm2, by rw [hlen]; omega⟩, ?_⟩
        have hp2 : H2 p = some (.dK []) := sm2 p _ upd_same
        have pg : p ≠ g := fun z => by rw [z, hacc] at hp2; cases hp2
        refine ⟨hp2, drK x g 0, rfl, (by show 3 ≤ 15; decide), k p g _ ⟨x, acc, 0⟩ ?_ ?_ (Ne.symm pg) (fun b o e => ?_) ?_ ?_ ⟨hx0, hx1, Int.le_refl _, ?_, fun z hz => hb z (hin z hz)⟩⟩
        · exact sm.free hp
        · refine sm.free ?_
          cases e : H1 g with
          | none => rfl
          | some o => have := sm2 g o (by rw [upd_ne (Ne.symm pg)]; exact e); rw [upd_ne (Ne.symm pg), e] at hg; cases hg
        · have e1 := sm b o e
          rw [upd_ne (ne_of_none e1 hp)]
          exact sm2 b o (by rw [upd_ne (ne_of_none e1 hp)]; exact e1)
        · rw [upd_same, mk3]
        · rw [upd_ne (Ne.symm pg)]; exact hacc
        · show acc.length ≤ 1000
          omega

abbrev st__law_next : Stmt := top 28
abbrev N__law_next : List Str := ["_law_draw", "_law_below", "_law_great", "_law_at", "_law_found", "_law_mixed"]
theorem sc__law_next : FnScope N__law_next ["_law_draw", "_law_below"] (defScope st__law_next) := ⟨rfl, rfl, rfl, by decide +kernel, rfl, by decide +kernel, by decide +kernel⟩
theorem ok__law_next {f : Addr} {fd : FuncData} (F : Fun K "_law_next" "_law_next" st__law_next f fd) (gi : mg "int" = none) (gm : mg "max" = none) (gl : mg "len" = none) :
    FnG P w K mg base 1 f fd ["_law_draw", "_law_below"] (spD K ct 2 semNext) := by
  refine fn_body F sc__law_next (fun vs H Q E h => ?_) (fun cdv A outer s H vs Q E _ hG hr h => ⟨_, PSs.nox (pss_cons (ps_asg
      (pe_tup (pa_cons (pe_op op_add (pe_dget (hu_of hr) (pv 0) pe_str (fun _ _ => rfl)) pe_int) (pa_cons (pe_dget (hu_of hr) (pv 0) pe_str (fun _ _ => rfl)) pa_nil)))
      (pg_tup rfl (pgs_cons (pg_sub (pv 0) pe_str (set_dict (hu_of hr))) (pgs_cons (pg_name (i := 2) sc__law_next.nd rfl (.inl rfl)) pgs_nil))))
    (pss_cons (ps_set (i := 3) sc__law_next.nd rfl (.inl rfl) (pe_op op_mod (pe_callTy call_int1 rfl gi (by decide +kernel) (pa_cons (pe_dget (hu_of hr) (pv 0) pe_str (fun _ _ => rfl)) pa_nil))
        (pe_callB (call_max2 rfl) rfl gm (by decide +kernel) (pa_cons pe_int (pa_cons (pe_callB call_len rfl gl boot_len (pa_cons (pv 2) pa_nil)) pa_nil)))))
    (pss_cons (ps_if (PW.pt (pw_and (pt_cmpR (op_neD hr.units) (pv 2) (pe_lst pa_nil) (nomark _)) (pw_and1 (pt_cmpR op_gt (pe_ix ix_list (pv 2) (pv 3) (fun _ _ => rfl)) pe_int (nomark _)))))
        (pss_cons (ps_set (i := 4) sc__law_next.nd rfl (.inl rfl) (pe_op op_mod (pe_callTy call_int1 rfl gi (by decide +kernel) (pa_cons (pe_ix ix_list (pv 2) (pv 3) (fun _ _ => rfl)) pa_nil)) (pv 1)))
        (pss_cons (ps_asg (pe_op op_fdivW (pe_ix ix_list (pv 2) (pv 3) (fun _ _ => rfl)) (pv 1)) (pg_sub (pv 2) (pv 3) set_list))
        (pss_one (ps_ret (pv 4))))) pss_nil)
    (pss_cons (ps_set (i := 5) sc__law_next.nd rfl (.inl rfl) (pe_callTy call_int1 rfl gi (by decide +kernel) (pa_cons (pe_op op_add (pe_op op_add (pe_op op_mul (pe_dget (hu_of hr) (pv 0) pe_str (fun _ _ => rfl)) pe_int)
        (pe_op op_mul pe_int (pe_dget (hu_of hr) (pv 0) pe_str (fun _ _ => rfl)))) pe_int) pa_nil)))
    (pss_cons (ps_dput (hu_of hr) (pv 0) pe_str (pe_op op_mod (pe_callTy call_int1 rfl gi (by decide +kernel) (pa_cons (pv 5) pa_nil)) pe_int) rfl)
    (pss_one (ps_ret (pe_op op_mod (pe_callTy call_int1 rfl gi (by decide +kernel) (pa_cons (pe_op op_fdivW (pe_dget (hu_of hr) (pv 0) pe_str (fun _ _ => rfl)) pe_int) pa_nil)) (pv 1))))))))), ?_⟩)
  · obtain ⟨_, _, _, _, e, _⟩ := h; exact e
  · obtain ⟨a, g, d, n, rfl, ha, hg, hne, ok, hn, hn2, k⟩ := next_args h
    have hT : DGet H a (.str ("turn" : Str)) (some (.int d.turn)) := by
      rw [← drK_turn (m := d.mixed) (g := g)]; exact DGet.k (k := Sum.inr ("turn" : Str)) ha
    have hGr : DGet H a (.str ("great" : Str)) (some (.ref g)) := by
      rw [← drK_great (m := d.mixed) (t := d.turn)]; exact DGet.k (k := Sum.inr ("great" : Str)) ha
    -- draw['turn'], great = draw['turn'] + 1, draw['great']
    refine ⟨_, rfl, a, _, rfl, hT, _, _, rfl, rfl, _, rfl, a, _, rfl, hGr, (by show 2 ≤ sizeLine; decide), fun p hp => ?_⟩
    have pa : a ≠ p := ne_of_none ha hp
    have pg : g ≠ p := ne_of_none hg hp
    have ha1 : upd H p (.tup [.int (d.turn + 1), .ref g]) a = some (.dK (drK d.mixed g d.turn)) := by rw [upd_ne pa]; exact ha
    refine ⟨p, _, rfl, SqT.of upd_same, rfl, _, _, rfl, _, rfl, a, _, rfl, DPut.k (k := Sum.inr ("turn" : Str)) ha1 (by show 3 < sizeLine; decide), _, _, rfl, rfl, ?_⟩
    rw [drK_putT]
    -- at = int(draw['turn']) % max(1, len(great))
    generalize hH1 : upd (upd H p (.tup [.int (d.turn + 1), .ref g])) a (.dK (drK d.mixed g (d.turn + 1))) = H1
    have a1 : H1 a = some (.dK (drK d.mixed g (d.turn + 1))) := by rw [← hH1]; exact upd_same
    have g1 : H1 g = some (.lst (d.great.map V.int)) := by rw [← hH1, upd_ne hne, upd_ne pg]; exact hg
    have o1 : ∀ b o, H b = some o → b ≠ a → H1 b = some o := fun b o e z => by rw [← hH1, upd_ne z, upd_ne (ne_of_none e hp)]; exact e
    have hT1 : DGet H1 a (.str ("turn" : Str)) (some (.int (d.turn + 1))) := by
      rw [← drK_turn (m := d.mixed) (g := g)]; exact DGet.k (k := Sum.inr ("turn" : Str)) a1
    have hM1 : DGet H1 a (.str ("mixed" : Str)) (some (.int d.mixed)) := by
      rw [← drK_mixed (t := d.turn + 1) (g := g)]; exact DGet.k (k := Sum.inr ("mixed" : Str)) a1
    refine ⟨_, rfl, a, _, rfl, hT1, .inl ⟨_, rfl, _, rfl, _, (d.great.map V.int).length, rfl, .inl ⟨_, SqL.of g1, rfl⟩, 1, _, rfl, _, _, rfl, rfl, ?_, ?_⟩⟩
    · split <;> omega
    have eat : (d.turn + 1) % (if ((d.great.map V.int).length : Int) > 1 then ((d.great.map V.int).length : Int) else 1) = (d.at : Int) := by
      rw [List.length_map]
      unfold Dr.at
      rw [Int.toNat_of_nonneg]
      refine Int.emod_nonneg _ ?_
      split <;> omega
    dsimp only
    rw [eat]
    -- if great != [] and great[at] > 0
    refine ⟨_, rfl, Nat.zero_le _, fun p2 hp2 => ?_⟩
    have pa2 : a ≠ p2 := ne_of_none a1 hp2
    have pg2 : g ≠ p2 := ne_of_none g1 hp2
    have g2 : upd H1 p2 (.lst []) g = some (.lst (d.great.map V.int)) := by rw [upd_ne pg2]; exact g1
    have a2 : upd H1 p2 (.lst []) a = some (.dK (drK d.mixed g (d.turn + 1))) := by rw [upd_ne pa2]; exact a1
    refine ⟨_, _, .lst (SqL.of g2) (dp_ints d.great), .lst (SqL.of upd_same) .nil, shp_ints _, by decide, _, rfl, ?_⟩
    rw [eqv_nil]
    have o2 : ∀ b o, H b = some o → b ≠ a → upd H1 p2 (.lst []) b = some o := fun b o e z => by
      have := o1 b o e z
      rw [upd_ne (ne_of_none this hp2)]; exact this
    have hT2 : DGet (upd H1 p2 (.lst [])) a (.str ("turn" : Str)) (some (.int (d.turn + 1))) := by
      rw [← drK_turn (m := d.mixed) (g := g)]; exact DGet.k (k := Sum.inr ("turn" : Str)) a2
    have hM2 : DGet (upd H1 p2 (.lst [])) a (.str ("mixed" : Str)) (some (.int d.mixed)) := by
      rw [← drK_mixed (t := d.turn + 1) (g := g)]; exact DGet.k (k := Sum.inr ("mixed" : Str)) a2
    generalize hH2 : upd H1 p2 (.lst []) = H2 at *
    by_cases hc : d.great ≠ [] ∧ 0 < d.big
    · have hlt := d.at_lt hc.1
      have hb : d.great.isEmpty = false := by
        cases e : d.great with
        | nil => exact absurd e hc.1
        | cons x l => rfl
      rw [hb]
      have hix : atI (d.great.map V.int) (d.at : Int) = some (.int d.big) := by
        unfold atI ixN
        rw [if_pos (by omega), if_pos (by rw [List.length_map]; omega)]
        simp [Dr.big, List.getD_eq_getElem?_getD, List.getElem?_eq_getElem hlt]
      have hixN : ixN (d.great.map V.int).length (d.at : Int) = some d.at := by
        unfold ixN
        rw [if_pos (by omega), if_pos (by rw [List.length_map]; omega)]
        simp
      refine iteT ⟨_, rfl, _, rfl, g, _, _, _, rfl, rfl, SqL.of g2, hix, _, _, rfl, rfl, _, rfl, ?_⟩
      rw [decide_eq_true hc.2]
      refine iteT ⟨_, rfl, _, rfl, g, _, _, _, rfl, rfl, SqL.of g2, hix, .inl ⟨_, rfl, _, rfl, _, _, rfl, rfl, hn, ?_⟩⟩
      refine ⟨_, rfl, _, rfl, g, _, _, _, rfl, rfl, SqL.of g2, hix, _, rfl, _, _, rfl, rfl, ⟨hn, hn2⟩, _, rfl, _, rfl, g, _, _, d.at, rfl, rfl, g2, hixN, _, rfl, ?_⟩
      have e1 : d.draw n = d.big % n := by unfold Dr.draw; rw [if_pos hc]
      have e2 : d.next n = ⟨d.mixed, d.great.set d.at (d.big / n), d.turn + 1⟩ := by unfold Dr.next; rw [if_pos hc]
      rw [e1, e2] at k
      refine k _ (fun b o e z1 z2 => ?_) ?_ ?_
      · rw [upd_ne z2]; exact o2 b o e z1
      · rw [upd_ne (Ne.symm hne)]; exact a2
      · rw [upd_same, List.map_set]
    · have e1 : d.draw n = d.mix / 32749 % n := by unfold Dr.draw; rw [if_neg hc]
      have e2 : d.next n = ⟨d.mix, d.great, d.turn + 1⟩ := by unfold Dr.next; rw [if_neg hc]
      rw [e1, e2] at k
      have cm1 : CMul d.mixed 6364136223846793 := .inr ⟨by decide, by decide⟩
      have cm2 : CMul 1442695040888963 (d.turn + 1) := .inl ⟨by decide, by decide⟩
      have ways : d.great = [] ∨ (d.great ≠ [] ∧ ¬ 0 < d.big) := by
        by_cases e : d.great = []
        · exact .inl e
        · exact .inr ⟨e, fun z => hc ⟨e, z⟩⟩
      have fin : ∀ H3, H3 = upd H2 a (.dK (putK (drK d.mixed g (d.turn + 1)) (Sum.inr ("mixed" : Str)) (.int d.mix))) → Q (.int (d.mix / 32749 % n)) H3 ∧ DGet H3 a (.str ("mixed" : Str)) (some (.int d.mix)) := fun H3 e3 => by
        rw [drK_putM] at e3
        have a3 : H3 a = some (.dK (drK d.mix g (d.turn + 1))) := by rw [e3]; exact upd_same
        refine ⟨k H3 (fun b o e z1 z2 => by rw [e3, upd_ne z1]; exact o2 b o e z1) a3 (by rw [e3, upd_ne hne]; exact g2), ?_⟩
        rw [← drK_mixed (t := d.turn + 1) (g := g)]; exact DGet.k (k := Sum.inr ("mixed" : Str)) a3
      have emix : (d.mixed * 6364136223846793 + 1442695040888963 * (d.turn + 1) + 11) % 2305843009213693951 = d.mix := rfl
      have cd : CDivW d.mix 32749 := ⟨by decide, by decide⟩
      obtain ⟨f1, f2⟩ := fin _ rfl
      have dput := DPut.k (k := Sum.inr ("mixed" : Str)) (v := .int d.mix) a2 (by show 3 < sizeLine; decide)
      rcases ways with hgr | ⟨hgr, hbg⟩
      · rw [hgr]
        refine iteF (iteF ?_)
        refine ⟨_, rfl, a, _, rfl, hM2, _, _, rfl, rfl, cm1, _, rfl, a, _, rfl, hT2, _, _, rfl, rfl, cm2, _, _, rfl, rfl, _, _, rfl, rfl, .inl ⟨_, rfl, ?_⟩⟩
        refine ⟨_, rfl, .inl ⟨_, rfl, _, _, rfl, rfl, (show (0 : Int) < 2305843009213693951 by decide), _, rfl, a, _, rfl, dput, ?_⟩⟩
        exact ⟨_, rfl, a, _, rfl, f2, _, _, rfl, rfl, cd, .inl ⟨_, rfl, _, rfl, _, _, rfl, rfl, hn, f1⟩⟩
      · have hlt := d.at_lt hgr
        have hb : d.great.isEmpty = false := by
          cases e : d.great with
          | nil => exact absurd e hgr
          | cons x l => rfl
        rw [hb]
        have hix : atI (d.great.map V.int) (d.at : Int) = some (.int d.big) := by
          unfold atI ixN
          rw [if_pos (by omega), if_pos (by rw [List.length_map]; omega)]
          simp [Dr.big, List.getD_eq_getElem?_getD, List.getElem?_eq_getElem hlt]
        refine iteT ⟨_, rfl, _, rfl, g, _, _, _, rfl, rfl, SqL.of g2, hix, _, _, rfl, rfl, _, rfl, ?_⟩
        rw [decide_eq_false hbg]
        refine iteF ?_
        refine ⟨_, rfl, a, _, rfl, hM2, _, _, rfl, rfl, cm1, _, rfl, a, _, rfl, hT2, _, _, rfl, rfl, cm2, _, _, rfl, rfl, _, _, rfl, rfl, .inl ⟨_, rfl, ?_⟩⟩
        refine ⟨_, rfl, .inl ⟨_, rfl, _, _, rfl, rfl, (show (0 : Int) < 2305843009213693951 by decide), _, rfl, a, _, rfl, dput, ?_⟩⟩
        exact ⟨_, rfl, a, _, rfl, f2, _, _, rfl, rfl, cd, .inl ⟨_, rfl, _, rfl, _, _, rfl, rfl, hn, f1⟩⟩
theorem F__law_begun (G : Tx K mg) : FnG P w K mg base 1 (ga K "_law_begun") (foK K (ga K "_law_begun")) ["_law_script"] (spBegun K) := ok__law_begun G.u__law_begun G.n_int G.n_len G.n_enumerate
theorem F__law_next (G : Tx K mg) : FnG P w K mg base 1 (ga K "_law_next") (foK K (ga K "_law_next")) ["_law_draw", "_law_below"] (spD K (cT K) 2 semNext) := ok__law_next G.u__law_next G.n_int G.n_max G.n_len
abbrev st_BadFrame_init : Stmt := meth 3 0
theorem sc_BadFrame_init : FnScope ["self", "place"] ["self", "place"] (defScope st_BadFrame_init) := ⟨rfl, rfl, rfl, by decide +kernel, rfl, by decide +kernel, by decide +kernel⟩
theorem I_BadFrame (G : Tx K mg) : FnOk P w K mg base CX0 1 (ma K (ga K "BadFrame") "__init__") (foK K (ma K (ga K "BadFrame") "__init__")) ["self", "place"] (spXI K (ga K "BadFrame") "place") := by
  refine Fun.ok G.ui_BadFrame sc_BadFrame_init (fun vs H Q E h => ?_) (fun cdv A outer s H vs Q E hr h => ⟨_, pss_cons (ps_expr (pe_oxi (tl := PySem.HandSPX.veTail) (nid := "ValueError.__new__") (PySem.WuX.initF_of PySem.F.excBase_ValueError) (by decide +kernel) rfl G.m_WindowError G.sg_WindowError G.rd_WindowError G.vv_WindowError (by decide +kernel) (pa_cons (pv 0) (pa_cons pe_str pa_nil))))
    (pss_one (ps_oxs ox_VE (pv 0) (pv 1))), ?_⟩)
  · obtain ⟨a, y, rfl, _⟩ := h; rfl
  · obtain ⟨a, y, rfl, ha, k⟩ := h
    exact ⟨_, rfl, a, _, _, rfl, by show 1 ≤ 1000; decide, G.ox_BadFrame, ha, _, rfl, _, rfl, a, _, rfl, G.ox_BadFrame, G.nf_BadFrame, ha, k⟩
abbrev st_BadState_init : Stmt := meth 4 0
theorem sc_BadState_init : FnScope ["self", "place"] ["self", "place"] (defScope st_BadState_init) := ⟨rfl, rfl, rfl, by decide +kernel, rfl, by decide +kernel, by decide +kernel⟩
theorem I_BadState (G : Tx K mg) : FnOk P w K mg base CX0 1 (ma K (ga K "BadState") "__init__") (foK K (ma K (ga K "BadState") "__init__")) ["self", "place"] (spXI K (ga K "BadState") "place") := by
  refine Fun.ok G.ui_BadState sc_BadState_init (fun vs H Q E h => ?_) (fun cdv A outer s H vs Q E hr h => ⟨_, pss_cons (ps_expr (pe_oxi (tl := PySem.HandSPX.veTail) (nid := "ValueError.__new__") (PySem.WuX.initF_of PySem.F.excBase_ValueError) (by decide +kernel) rfl G.m_WindowError G.sg_WindowError G.rd_WindowError G.vv_WindowError (by decide +kernel) (pa_cons (pv 0) (pa_cons pe_str pa_nil))))
    (pss_one (ps_oxs ox_VE (pv 0) (pv 1))), ?_⟩)
  · obtain ⟨a, y, rfl, _⟩ := h; rfl
  · obtain ⟨a, y, rfl, ha, k⟩ := h
    exact ⟨_, rfl, a, _, _, rfl, by show 1 ≤ 1000; decide, G.ox_BadState, ha, _, rfl, _, rfl, a, _, rfl, G.ox_BadState, G.nf_BadState, ha, k⟩
abbrev st_Missing_init : Stmt := meth 5 0
theorem sc_Missing_init : FnScope ["self", "name"] ["self", "name"] (defScope st_Missing_init) := ⟨rfl, rfl, rfl, by decide +kernel, rfl, by decide +kernel, by decide +kernel⟩
theorem I_Missing (G : Tx K mg) : FnOk P w K mg base CX0 1 (ma K (ga K "Missing") "__init__") (foK K (ma K (ga K "Missing") "__init__")) ["self", "name"] (spXI K (ga K "Missing") "name") := by
  refine Fun.ok G.ui_Missing sc_Missing_init (fun vs H Q E h => ?_) (fun cdv A outer s H vs Q E hr h => ⟨_, pss_cons (ps_expr (pe_oxT (tl := PySem.WuX.keTail) (nid := "LookupError.__new__") PySem.WuX.init_KE (by decide +kernel) rfl G.n_KeyError (by decide +kernel) (by kernel_rfl) (by decide +kernel) G.vv_KeyError (by decide +kernel) (pa_cons (pv 0) (pa_cons pe_str pa_nil))))
    (pss_one (ps_oxs ox_KE (pv 0) (pv 1))), ?_⟩)
  · obtain ⟨a, y, rfl, _⟩ := h; rfl
  · obtain ⟨a, y, rfl, ha, k⟩ := h
    exact ⟨_, rfl, a, _, _, rfl, by show 1 ≤ 1000; decide, G.ox_Missing, ha, _, rfl, _, rfl, a, _, rfl, G.ox_Missing, G.nf_Missing, ha, k⟩
abbrev st_is_integer : Stmt := top 11
abbrev N_is_integer : List Str := ["thing", "least", "most"]
theorem sc_is_integer : FnScope N_is_integer ["thing", "least", "most"] (defScope st_is_integer) := ⟨rfl, rfl, rfl, by decide +kernel, rfl, by decide +kernel, by decide +kernel⟩
theorem F_is_integer (G : Tx K mg) : FnG P w K mg base 1 (ga K "is_integer") (foK K (ga K "is_integer")) ["thing", "least", "most"] (spD K (cT K) 3 (f_is_integer)) := by
  refine fn_sem (k := 0) G.u_is_integer sc_is_integer rfl (by decide) fun cdv A outer s H E hcv hG hr tk => ?_
  have hu := hr.units
  have pw := passes_of (X := cxOf (L2.CX P w) P w K mg base N_is_integer "is_integer" (defScope st_is_integer) (ga K "is_integer") cdv A outer s H E) rfl
  exact s_one (s_ret (d_and (d_isi .int rfl G.n_isinstance rfl G.n_int (by decide +kernel) (d_v 0)) (d_and (d_not (d_isi .bool rfl G.n_isinstance rfl G.n_bool (by decide +kernel) (d_v 0))) (d_one (d_lele (d_v 1) (d_v 0) (d_v 2))))))
abbrev st_is_name : Stmt := top 12
abbrev N_is_name : List Str := ["thing", "sign"]
theorem sc_is_name : FnScope N_is_name ["thing"] (defScope st_is_name) := ⟨rfl, rfl, rfl, by decide +kernel, rfl, by decide +kernel, by decide +kernel⟩
theorem F_is_name (G : Tx K mg) : FnG P w K mg base 1 (ga K "is_name") (foK K (ga K "is_name")) ["thing"] (spD K (cT K) 1 (f_is_name)) := by
  refine fn_sem (k := 0) G.u_is_name sc_is_name rfl (by decide) fun cdv A outer s H E hcv hG hr tk => ?_
  have hu := hr.units
  have pw := passes_of (X := cxOf (L2.CX P w) P w K mg base N_is_name "is_name" (defScope st_is_name) (ga K "is_name") cdv A outer s H E) rfl
  exact s_cons (s_if (PW.pt (t_or (t_not (t_val (d_isi .str rfl G.n_isinstance rfl G.n_str (by decide +kernel) (d_v 0)))) (t_or1 (t_not (t_lele (d_int) (d_len rfl G.n_len (d_cons (d_v 0) (d_nil))) (d_gint rfl G.c_LONGEST_NAME.choose_spec)))))) (s_one (s_ret (d_bl))) (s_nil)) (s_one (s_ret (d_all rfl rfl G.n_all (d_cons (d_lc (own := [("sign", 1)]) (is := [1]) rfl sc_is_name.nd (i_seq (d_v 0)) (blkOk_by (own := [("sign", 1)]) (N := N_is_name) (sc := defScope st_is_name) (by decide +kernel)) (by decide) (fun _ _ _ _ _ => g_name (i := 1) sc_is_name.nd rfl (by first | exact .inl rfl | exact .inr rfl | exact .inr (.inl rfl) | exact .inr (.inr rfl))) (fun _ _ _ _ _ => ts_nil) (fun _ _ _ _ _ => d_inA hu (d_v 1) (d_gstr rfl G.c_LETTERS.choose_spec))) (d_nil)))))
abbrev st_is_shown : Stmt := top 13
abbrev N_is_shown : List Str := ["thing", "parts", "part"]
theorem sc_is_shown : FnScope N_is_shown ["thing", "parts"] (defScope st_is_shown) := ⟨rfl, rfl, rfl, by decide +kernel, rfl, by decide +kernel, by decide +kernel⟩
theorem F_is_shown (G : Tx K mg) : FnG P w K mg base 1 (ga K "is_shown") (foK K (ga K "is_shown")) ["thing", "parts"] (spD K (cT K) 2 (f_is_shown)) := by
  refine fn_sem (k := 0) G.u_is_shown sc_is_shown rfl (by decide) fun cdv A outer s H E hcv hG hr tk => ?_
  have hu := hr.units
  have pw := passes_of (X := cxOf (L2.CX P w) P w K mg base N_is_shown "is_shown" (defScope st_is_shown) (ga K "is_shown") cdv A outer s H E) rfl
  exact s_cons (s_if (PW.pt (t_or (t_not (t_val (d_isi .tuple rfl G.n_isinstance rfl G.n_tuple (by decide +kernel) (d_v 0)))) (t_or1 (t_not (t_lele (d_int) (d_len rfl G.n_len (d_cons (d_v 0) (d_nil))) (d_len rfl G.n_len (d_cons (d_v 1) (d_nil)))))))) (s_one (s_ret (d_bl))) (s_nil)) (s_cons (s_if (t_not (t_val (d_all rfl rfl G.n_all (d_cons (d_lc (own := [("part", 2)]) (is := [2]) rfl sc_is_shown.nd (i_seq (d_v 0)) (blkOk_by (own := [("part", 2)]) (N := N_is_shown) (sc := defScope st_is_shown) (by decide +kernel)) (by decide) (fun _ _ _ _ _ => g_name (i := 2) sc_is_shown.nd rfl (by first | exact .inl rfl | exact .inr rfl | exact .inr (.inl rfl) | exact .inr (.inr rfl))) (fun _ _ _ _ _ => ts_nil) (fun _ _ _ _ _ => d_isi .str rfl G.n_isinstance rfl G.n_str (by decide +kernel) (d_v 2))) (d_nil))))) (s_one (s_ret (d_bl))) (s_nil)) (s_one (s_ret (d_eq hu (d_list rfl G.n_list (d_cons (d_v 0) (d_nil))) (d_lc (own := [("part", 2)]) (is := [2]) rfl sc_is_shown.nd (i_seq (d_v 1)) (blkOk_by (own := [("part", 2)]) (N := N_is_shown) (sc := defScope st_is_shown) (by decide +kernel)) (by decide) (fun _ _ _ _ _ => g_name (i := 2) sc_is_shown.nd rfl (by first | exact .inl rfl | exact .inr rfl | exact .inr (.inl rfl) | exact .inr (.inr rfl))) (fun _ _ _ _ _ => ts_one (t_inA hu (d_v 2) (d_v 0))) (fun _ _ _ _ _ => d_v 2))))))
abbrev st_is_window : Stmt := top 14
abbrev N_is_window : List Str := ["thing", "parts"]
theorem sc_is_window : FnScope N_is_window ["thing", "parts"] (defScope st_is_window) := ⟨rfl, rfl, rfl, by decide +kernel, rfl, by decide +kernel, by decide +kernel⟩
theorem F_is_window (G : Tx K mg) : FnG P w K mg base 2 (ga K "is_window") (foK K (ga K "is_window")) ["thing", "parts"] (spD K (cT K) 2 (f_is_window)) := by
  refine fn_sem (k := 1) G.u_is_window sc_is_window rfl (by decide) fun cdv A outer s H E hcv hG hr tk => ?_
  have hu := hr.units
  have pw := passes_of (X := cxOf (L2.CX P w) P w K mg base N_is_window "is_window" (defScope st_is_window) (ga K "is_window") cdv A outer s H E) rfl
  exact s_one (s_ret (d_and (d_isi .tuple rfl G.n_isinstance rfl G.n_tuple (by decide +kernel) (d_v 0)) (d_and (d_eq hu (d_len rfl G.n_len (d_cons (d_v 0) (d_nil))) (d_int)) (d_and (d_fn (F_is_name G) hG (hr.mono (by decide)) rfl G.m_is_name G.k_is_name G.b_is_name tk (r_e (d_ixA hu (d_v 0) (d_int)) (r_nil))) (d_one (d_fn (F_is_shown G) hG (hr.mono (by decide)) rfl G.m_is_shown G.k_is_shown G.b_is_shown tk (r_e (d_ixA hu (d_v 0) (d_int)) (r_e (d_v 1) (r_nil)))))))))
abbrev st_need_frame : Stmt := top 15
abbrev N_need_frame : List Str := ["thing", "parts", "windows", "number", "part", "window", "other"]
theorem sc_need_frame : FnScope N_need_frame ["thing"] (defScope st_need_frame) := ⟨rfl, rfl, rfl, by decide +kernel, rfl, by decide +kernel, by decide +kernel⟩
theorem F_need_frame (G : Tx K mg) : FnG P w K mg base 3 (ga K "need_frame") (foK K (ga K "need_frame")) ["thing"] (spD K (cT K) 1 (f_need_frame)) := by
  refine fn_sem (k := 2) G.u_need_frame sc_need_frame rfl (by decide) fun cdv A outer s H E hcv hG hr tk => ?_
  have hu := hr.units
  have pw := passes_of (X := cxOf (L2.CX P w) P w K mg base N_need_frame "need_frame" (defScope st_need_frame) (ga K "need_frame") cdv A outer s H E) rfl
  exact s_cons (s_if (PW.pt (t_or (t_not (t_val (d_isi .tuple rfl G.n_isinstance rfl G.n_tuple (by decide +kernel) (d_v 0)))) (t_or (t_ne hu (d_len rfl G.n_len (d_cons (d_v 0) (d_nil))) (d_int)) (t_or1 (t_not (t_val (d_isi .tuple rfl G.n_isinstance rfl G.n_tuple (by decide +kernel) (d_ixA hu (d_v 0) (d_int))))))))) (s_one (s_raise "BadFrame" ox_VE G.ox_BadFrame G.in_BadFrame G.ti_BadFrame (I_BadFrame G) (hr.mono (by decide)) G.bi_BadFrame pass0 rfl tk rfl G.m_BadFrame (d_tup (d_nil)))) (s_nil)) (s_cons (s_asg (d_v 0) (g_tup rfl (gs_cons (i := 1) sc_need_frame.nd rfl (by first | exact .inl rfl | exact .inr rfl | exact .inr (.inl rfl) | exact .inr (.inr rfl)) (gs_cons (i := 2) sc_need_frame.nd rfl (by first | exact .inl rfl | exact .inr rfl | exact .inr (.inl rfl) | exact .inr (.inr rfl)) (gs_nil))))) (s_cons (s_if (PW.pt (t_or (t_not (t_val (d_isi .tuple rfl G.n_isinstance rfl G.n_tuple (by decide +kernel) (d_v 2)))) (t_or (t_not (t_lele (d_int) (d_len rfl G.n_len (d_cons (d_v 1) (d_nil))) (d_gint rfl G.c_MOST_PARTS.choose_spec))) (t_or1 (t_gt (d_len rfl G.n_len (d_cons (d_v 2) (d_nil))) (d_gint rfl G.c_MOST_WINDOWS.choose_spec)))))) (s_one (s_raise "BadFrame" ox_VE G.ox_BadFrame G.in_BadFrame G.ti_BadFrame (I_BadFrame G) (hr.mono (by decide)) G.bi_BadFrame pass0 rfl tk rfl G.m_BadFrame (d_tup (d_nil)))) (s_nil)) (s_cons (s_for pw rfl (i_enum rfl G.n_enumerate (d_v 1)) (g_tup rfl (gs_cons (i := 3) sc_need_frame.nd rfl (by first | exact .inl rfl | exact .inr rfl | exact .inr (.inl rfl) | exact .inr (.inr rfl)) (gs_cons (i := 4) sc_need_frame.nd rfl (by first | exact .inl rfl | exact .inr rfl | exact .inr (.inl rfl) | exact .inr (.inr rfl)) (gs_nil)))) (s_one (s_if (PW.pt (t_or (t_not (t_val (d_fn (F_is_name G) hG (hr.mono (by decide)) rfl G.m_is_name G.k_is_name G.b_is_name tk (r_e (d_v 4) (r_nil))))) (t_or1 (t_inA hu (d_v 4) (d_sl (d_v 1) o_none (o_some (d_v 3))))))) (s_one (s_raise "BadFrame" ox_VE G.ox_BadFrame G.in_BadFrame G.ti_BadFrame (I_BadFrame G) (hr.mono (by decide)) G.bi_BadFrame pass0 rfl tk rfl G.m_BadFrame (d_tup (d_cons (d_str) (d_cons (d_v 3) (d_nil)))))) (s_nil)))) (s_cons (s_for pw rfl (i_enum rfl G.n_enumerate (d_v 2)) (g_tup rfl (gs_cons (i := 3) sc_need_frame.nd rfl (by first | exact .inl rfl | exact .inr rfl | exact .inr (.inl rfl) | exact .inr (.inr rfl)) (gs_cons (i := 5) sc_need_frame.nd rfl (by first | exact .inl rfl | exact .inr rfl | exact .inr (.inl rfl) | exact .inr (.inr rfl)) (gs_nil)))) (s_one (s_if (PW.pt (t_or (t_not (t_val (d_fn (F_is_window G) hG (hr.mono (by decide)) rfl G.m_is_window G.k_is_window G.b_is_window tk (r_e (d_v 5) (r_e (d_v 1) (r_nil)))))) (t_or1 (t_inA hu (d_ixA hu (d_v 5) (d_int)) (d_lc (own := [("other", 6)]) (is := [6]) rfl sc_need_frame.nd (i_seq (d_sl (d_v 2) o_none (o_some (d_v 3)))) (blkOk_by (own := [("other", 6)]) (N := N_need_frame) (sc := defScope st_need_frame) (by decide +kernel)) (by decide) (fun _ _ _ _ _ => g_name (i := 6) sc_need_frame.nd rfl (by first | exact .inl rfl | exact .inr rfl | exact .inr (.inl rfl) | exact .inr (.inr rfl))) (fun _ _ _ _ _ => ts_nil) (fun _ _ _ _ _ => d_ixA hu (d_v 6) (d_int))))))) (s_one (s_raise "BadFrame" ox_VE G.ox_BadFrame G.in_BadFrame G.ti_BadFrame (I_BadFrame G) (hr.mono (by decide)) G.bi_BadFrame pass0 rfl tk rfl G.m_BadFrame (d_tup (d_cons (d_str) (d_cons (d_v 3) (d_nil)))))) (s_nil)))) (s_one (s_ret (d_v 0)))))))
abbrev st_Views___init__ : Stmt := meth 16 0
abbrev N_Views___init__ : List Str := ["self", "frame", "part", "window"]
theorem sc_Views___init__ : FnScope N_Views___init__ ["self", "frame"] (defScope st_Views___init__) := ⟨rfl, rfl, rfl, by decide +kernel, rfl, by decide +kernel, by decide +kernel⟩
theorem F_Views___init__ (G : Tx K mg) : FnG P w K mg base 4 (ma K (ga K "Views") "__init__") (foK K (ma K (ga K "Views") "__init__")) ["self", "frame"] (spD K (cT K) 2 (f_Views___init__)) := by
  refine fn_sem (k := 3) G.u_Views___init__ sc_Views___init__ rfl (by decide) fun cdv A outer s H E hcv hG hr tk => ?_
  have hu := hr.units
  have pw := passes_of (X := cxOf (L2.CX P w) P w K mg base N_Views___init__ "Views.__init__" (defScope st_Views___init__) (ma K (ga K "Views") "__init__") cdv A outer s H E) rfl
  exact s_cons (s_fld 0 "Views" G.cls_Views G.no_Views__plan (d_fn (F_need_frame G) hG (hr.mono (by decide)) rfl G.m_need_frame G.k_need_frame G.b_need_frame tk (r_e (d_v 1) (r_nil)))) (s_cons (s_fld 0 "Views" G.cls_Views G.no_Views__parts (d_ixA hu (d_v 1) (d_int))) (s_cons (s_fld 0 "Views" G.cls_Views G.no_Views__window_parts (d_new (n_dc (own := [("window", 3)]) (is := [3]) rfl sc_Views___init__.nd (i_seq (d_ixA hu (d_v 1) (d_int))) (blkOk_by (own := [("window", 3)]) (N := N_Views___init__) (sc := defScope st_Views___init__) (by decide +kernel)) (by decide) (fun _ _ _ _ _ => g_name (i := 3) sc_Views___init__.nd rfl (by first | exact .inl rfl | exact .inr rfl | exact .inr (.inl rfl) | exact .inr (.inr rfl))) (fun _ _ _ _ _ => ts_nil) (fun _ _ _ _ _ => d_ixA hu (d_v 3) (d_int)) (fun _ _ _ _ _ => d_ixA hu (d_v 3) (d_int))))) (s_fdict 0 "Views" G.cls_Views G.no_Views__part_windows hu pw rfl (i_seq (d_ixA hu (d_v 1) (d_int))) (g_name (i := 2) sc_Views___init__.nd rfl (by first | exact .inl rfl | exact .inr rfl | exact .inr (.inl rfl) | exact .inr (.inr rfl))) (by decide) (d_v 2) (d_tuple rfl G.n_tuple (d_cons (d_lc (own := [("window", 3)]) (is := [3]) rfl sc_Views___init__.nd (i_seq (d_ixA hu (d_v 1) (d_int))) (blkOk_by (own := [("window", 3)]) (N := N_Views___init__) (sc := defScope st_Views___init__) (by decide +kernel)) (by decide) (fun _ _ _ _ _ => g_name (i := 3) sc_Views___init__.nd rfl (by first | exact .inl rfl | exact .inr rfl | exact .inr (.inl rfl) | exact .inr (.inr rfl))) (fun _ _ _ _ _ => ts_one (t_inA hu (d_v 2) (d_ixA hu (d_v 3) (d_int)))) (fun _ _ _ _ _ => d_ixA hu (d_v 3) (d_int))) (d_nil))))))
abbrev st_Views_need_part : Stmt := meth 16 1
abbrev N_Views_need_part : List Str := ["self", "name"]
theorem sc_Views_need_part : FnScope N_Views_need_part ["self", "name"] (defScope st_Views_need_part) := ⟨rfl, rfl, rfl, by decide +kernel, rfl, by decide +kernel, by decide +kernel⟩
theorem F_Views_need_part (G : Tx K mg) : FnG P w K mg base 3 (ma K (ga K "Views") "need_part") (foK K (ma K (ga K "Views") "need_part")) ["self", "name"] (spD K (cT K) 2 (f_Views_need_part)) := by
  refine fn_sem (k := 2) G.u_Views_need_part sc_Views_need_part rfl (by decide) fun cdv A outer s H E hcv hG hr tk => ?_
  have hu := hr.units
  have pw := passes_of (X := cxOf (L2.CX P w) P w K mg base N_Views_need_part "Views.need_part" (defScope st_Views_need_part) (ma K (ga K "Views") "need_part") cdv A outer s H E) rfl
  exact s_cons (s_if (PW.pt (t_or (t_not (t_val (d_isi .str rfl G.n_isinstance rfl G.n_str (by decide +kernel) (d_v 1)))) (t_or1 (t_notinA hu (d_v 1) (d_fld "Views" G.cls_Views G.no_Views__part_windows (d_v 0)))))) (s_one (s_raise "Missing" ox_KE G.ox_Missing G.in_Missing G.ti_Missing (I_Missing G) (hr.mono (by decide)) G.bi_Missing pass0 rfl tk rfl G.m_Missing (d_v 1))) (s_nil)) (s_one (s_ret (d_v 1)))
abbrev st_Views_need_window : Stmt := meth 16 2
abbrev N_Views_need_window : List Str := ["self", "name"]
theorem sc_Views_need_window : FnScope N_Views_need_window ["self", "name"] (defScope st_Views_need_window) := ⟨rfl, rfl, rfl, by decide +kernel, rfl, by decide +kernel, by decide +kernel⟩
theorem F_Views_need_window (G : Tx K mg) : FnG P w K mg base 3 (ma K (ga K "Views") "need_window") (foK K (ma K (ga K "Views") "need_window")) ["self", "name"] (spD K (cT K) 2 (f_Views_need_window)) := by
  refine fn_sem (k := 2) G.u_Views_need_window sc_Views_need_window rfl (by decide) fun cdv A outer s H E hcv hG hr tk => ?_
  have hu := hr.units
  have pw := passes_of (X := cxOf (L2.CX P w) P w K mg base N_Views_need_window "Views.need_window" (defScope st_Views_need_window) (ma K (ga K "Views") "need_window") cdv A outer s H E) rfl
  exact s_cons (s_if (PW.pt (t_or (t_not (t_val (d_isi .str rfl G.n_isinstance rfl G.n_str (by decide +kernel) (d_v 1)))) (t_or1 (t_notinA hu (d_v 1) (d_fld "Views" G.cls_Views G.no_Views__window_parts (d_v 0)))))) (s_one (s_raise "Missing" ox_KE G.ox_Missing G.in_Missing G.ti_Missing (I_Missing G) (hr.mono (by decide)) G.bi_Missing pass0 rfl tk rfl G.m_Missing (d_v 1))) (s_nil)) (s_one (s_ret (d_v 1)))
abbrev st_is_edit : Stmt := top 20
abbrev N_is_edit : List Str := ["views", "thing"]
theorem sc_is_edit : FnScope N_is_edit ["views", "thing"] (defScope st_is_edit) := ⟨rfl, rfl, rfl, by decide +kernel, rfl, by decide +kernel, by decide +kernel⟩
theorem F_is_edit (G : Tx K mg) : FnG P w K mg base 2 (ga K "is_edit") (foK K (ga K "is_edit")) ["views", "thing"] (spD K (cT K) 2 (f_is_edit)) := by
  refine fn_sem (k := 1) G.u_is_edit sc_is_edit rfl (by decide) fun cdv A outer s H E hcv hG hr tk => ?_
  have hu := hr.units
  have pw := passes_of (X := cxOf (L2.CX P w) P w K mg base N_is_edit "is_edit" (defScope st_is_edit) (ga K "is_edit") cdv A outer s H E) rfl
  exact s_cons (s_if (PW.pt (t_or (t_not (t_val (d_isi .tuple rfl G.n_isinstance rfl G.n_tuple (by decide +kernel) (d_v 1)))) (t_or (t_ne hu (d_len rfl G.n_len (d_cons (d_v 1) (d_nil))) (d_int)) (t_or1 (t_not (t_val (d_fn (F_is_integer G) hG (hr.mono (by decide)) rfl G.m_is_integer G.k_is_integer G.b_is_integer tk (r_e (d_ixA hu (d_v 1) (d_int)) (r_e (d_int) (r_e (d_gint rfl G.c_MOST_AGE.choose_spec) (r_nil))))))))))) (s_one (s_ret (d_bl))) (s_nil)) (s_one (s_ret (d_and (d_isi .str rfl G.n_isinstance rfl G.n_str (by decide +kernel) (d_ixA hu (d_v 1) (d_int))) (d_one (d_inA hu (d_ixA hu (d_v 1) (d_int)) (d_fld "Views" G.cls_Views G.no_Views__part_windows (d_v 0)))))))
abbrev st_stands_well : Stmt := top 21
abbrev N_stands_well : List Str := ["edit", "done", "undone", "is_done", "other"]
theorem sc_stands_well : FnScope N_stands_well ["edit", "done", "undone", "is_done"] (defScope st_stands_well) := ⟨rfl, rfl, rfl, by decide +kernel, rfl, by decide +kernel, by decide +kernel⟩
theorem F_stands_well (G : Tx K mg) : FnG P w K mg base 1 (ga K "stands_well") (foK K (ga K "stands_well")) ["edit", "done", "undone", "is_done"] (spD K (cT K) 4 (f_stands_well)) := by
  refine fn_sem (k := 0) G.u_stands_well sc_stands_well rfl (by decide) fun cdv A outer s H E hcv hG hr tk => ?_
  have hu := hr.units
  have pw := passes_of (X := cxOf (L2.CX P w) P w K mg base N_stands_well "stands_well" (defScope st_stands_well) (ga K "stands_well") cdv A outer s H E) rfl
  exact s_cons (s_if (t_inA hu (d_ixA hu (d_v 0) (d_int)) (d_lc (own := [("other", 4)]) (is := [4]) rfl sc_stands_well.nd (i_seq (d_add (d_v 1) (d_v 2))) (blkOk_by (own := [("other", 4)]) (N := N_stands_well) (sc := defScope st_stands_well) (by decide +kernel)) (by decide) (fun _ _ _ _ _ => g_name (i := 4) sc_stands_well.nd rfl (by first | exact .inl rfl | exact .inr rfl | exact .inr (.inl rfl) | exact .inr (.inr rfl))) (fun _ _ _ _ _ => ts_nil) (fun _ _ _ _ _ => d_ixA hu (d_v 4) (d_int)))) (s_one (s_ret (d_bl))) (s_nil)) (s_cons (s_if (t_val (d_any rfl rfl G.n_any (d_cons (d_lc (own := [("other", 4)]) (is := [4]) rfl sc_stands_well.nd (i_seq (d_v 1)) (blkOk_by (own := [("other", 4)]) (N := N_stands_well) (sc := defScope st_stands_well) (by decide +kernel)) (by decide) (fun _ _ _ _ _ => g_name (i := 4) sc_stands_well.nd rfl (by first | exact .inl rfl | exact .inr rfl | exact .inr (.inl rfl) | exact .inr (.inr rfl))) (fun _ _ _ _ _ => ts_one (t_eq hu (d_ixA hu (d_v 4) (d_int)) (d_ixA hu (d_v 0) (d_int)))) (fun _ _ _ _ _ => d_lt (d_ixA hu (d_v 0) (d_int)) (d_ixA hu (d_v 4) (d_int)))) (d_nil)))) (s_one (s_ret (d_bl))) (s_nil)) (s_one (s_ret (d_or (d_v 3) (d_one (d_not (d_any rfl rfl G.n_any (d_cons (d_lc (own := [("other", 4)]) (is := [4]) rfl sc_stands_well.nd (i_seq (d_v 2)) (blkOk_by (own := [("other", 4)]) (N := N_stands_well) (sc := defScope st_stands_well) (by decide +kernel)) (by decide) (fun _ _ _ _ _ => g_name (i := 4) sc_stands_well.nd rfl (by first | exact .inl rfl | exact .inr rfl | exact .inr (.inl rfl) | exact .inr (.inr rfl))) (fun _ _ _ _ _ => ts_one (t_eq hu (d_ixA hu (d_v 4) (d_int)) (d_ixA hu (d_v 0) (d_int)))) (fun _ _ _ _ _ => d_gt (d_ixA hu (d_v 0) (d_int)) (d_ixA hu (d_v 4) (d_int)))) (d_nil)))))))))
abbrev st_need_good : Stmt := top 22
abbrev N_need_good : List Str := ["views", "thing", "done", "undone", "number", "edit"]
theorem sc_need_good : FnScope N_need_good ["views", "thing"] (defScope st_need_good) := ⟨rfl, rfl, rfl, by decide +kernel, rfl, by decide +kernel, by decide +kernel⟩
theorem F_need_good (G : Tx K mg) : FnG P w K mg base 3 (ga K "need_good") (foK K (ga K "need_good")) ["views", "thing"] (spD K (cT K) 2 (f_need_good)) := by
  refine fn_sem (k := 2) G.u_need_good sc_need_good rfl (by decide) fun cdv A outer s H E hcv hG hr tk => ?_
  have hu := hr.units
  have pw := passes_of (X := cxOf (L2.CX P w) P w K mg base N_need_good "need_good" (defScope st_need_good) (ga K "need_good") cdv A outer s H E) rfl
  exact s_cons (s_if (PW.pt (t_or (t_not (t_val (d_isi .tuple rfl G.n_isinstance rfl G.n_tuple (by decide +kernel) (d_v 1)))) (t_or (t_ne hu (d_len rfl G.n_len (d_cons (d_v 1) (d_nil))) (d_int)) (t_or1 (t_not (t_val (d_isi .tuple rfl G.n_isinstance rfl G.n_tuple (by decide +kernel) (d_ixA hu (d_v 1) (d_int))))))))) (s_one (s_raise "BadState" ox_VE G.ox_BadState G.in_BadState G.ti_BadState (I_BadState G) (hr.mono (by decide)) G.bi_BadState pass0 rfl tk rfl G.m_BadState (d_tup (d_nil)))) (s_nil)) (s_cons (s_if (PW.pt (t_or (t_not (t_val (d_isi .tuple rfl G.n_isinstance rfl G.n_tuple (by decide +kernel) (d_ixA hu (d_v 1) (d_int))))) (t_or1 (t_gt (d_add (d_len rfl G.n_len (d_cons (d_ixA hu (d_v 1) (d_int)) (d_nil))) (d_len rfl G.n_len (d_cons (d_ixA hu (d_v 1) (d_int)) (d_nil)))) (d_gint rfl G.c_MOST_EDITS.choose_spec))))) (s_one (s_raise "BadState" ox_VE G.ox_BadState G.in_BadState G.ti_BadState (I_BadState G) (hr.mono (by decide)) G.bi_BadState pass0 rfl tk rfl G.m_BadState (d_tup (d_nil)))) (s_nil)) (s_cons (s_asg (d_v 1) (g_tup rfl (gs_cons (i := 2) sc_need_good.nd rfl (by first | exact .inl rfl | exact .inr rfl | exact .inr (.inl rfl) | exact .inr (.inr rfl)) (gs_cons (i := 3) sc_need_good.nd rfl (by first | exact .inl rfl | exact .inr rfl | exact .inr (.inl rfl) | exact .inr (.inr rfl)) (gs_nil))))) (s_cons (s_for pw rfl (i_enum rfl G.n_enumerate (d_v 2)) (g_tup rfl (gs_cons (i := 4) sc_need_good.nd rfl (by first | exact .inl rfl | exact .inr rfl | exact .inr (.inl rfl) | exact .inr (.inr rfl)) (gs_cons (i := 5) sc_need_good.nd rfl (by first | exact .inl rfl | exact .inr rfl | exact .inr (.inl rfl) | exact .inr (.inr rfl)) (gs_nil)))) (s_one (s_if (PW.pt (t_or (t_not (t_val (d_fn (F_is_edit G) hG (hr.mono (by decide)) rfl G.m_is_edit G.k_is_edit G.b_is_edit tk (r_e (d_v 0) (r_e (d_v 5) (r_nil)))))) (t_or1 (t_not (t_val (d_fn (F_stands_well G) hG (hr.mono (by decide)) rfl G.m_stands_well G.k_stands_well G.b_stands_well tk (r_e (d_v 5) (r_e (d_sl (d_v 2) o_none (o_some (d_v 4))) (r_e (d_tup (d_nil)) (r_e (d_bl) (r_nil))))))))))) (s_one (s_raise "BadState" ox_VE G.ox_BadState G.in_BadState G.ti_BadState (I_BadState G) (hr.mono (by decide)) G.bi_BadState pass0 rfl tk rfl G.m_BadState (d_tup (d_cons (d_str) (d_cons (d_v 4) (d_nil)))))) (s_nil)))) (s_cons (s_for pw rfl (i_enum rfl G.n_enumerate (d_v 3)) (g_tup rfl (gs_cons (i := 4) sc_need_good.nd rfl (by first | exact .inl rfl | exact .inr rfl | exact .inr (.inl rfl) | exact .inr (.inr rfl)) (gs_cons (i := 5) sc_need_good.nd rfl (by first | exact .inl rfl | exact .inr rfl | exact .inr (.inl rfl) | exact .inr (.inr rfl)) (gs_nil)))) (s_one (s_if (PW.pt (t_or (t_not (t_val (d_fn (F_is_edit G) hG (hr.mono (by decide)) rfl G.m_is_edit G.k_is_edit G.b_is_edit tk (r_e (d_v 0) (r_e (d_v 5) (r_nil)))))) (t_or1 (t_not (t_val (d_fn (F_stands_well G) hG (hr.mono (by decide)) rfl G.m_stands_well G.k_stands_well G.b_stands_well tk (r_e (d_v 5) (r_e (d_v 2) (r_e (d_sl (d_v 3) o_none (o_some (d_v 4))) (r_e (d_bl) (r_nil))))))))))) (s_one (s_raise "BadState" ox_VE G.ox_BadState G.in_BadState G.ti_BadState (I_BadState G) (hr.mono (by decide)) G.bi_BadState pass0 rfl tk rfl G.m_BadState (d_tup (d_cons (d_str) (d_cons (d_v 4) (d_nil)))))) (s_nil)))) (s_one (s_ret (d_v 1)))))))
abbrev st_edits_among : Stmt := top 23
abbrev N_edits_among : List Str := ["edits", "parts", "edit"]
theorem sc_edits_among : FnScope N_edits_among ["edits", "parts"] (defScope st_edits_among) := ⟨rfl, rfl, rfl, by decide +kernel, rfl, by decide +kernel, by decide +kernel⟩
theorem F_edits_among (G : Tx K mg) : FnG P w K mg base 1 (ga K "edits_among") (foK K (ga K "edits_among")) ["edits", "parts"] (spD K (cT K) 2 (f_edits_among)) := by
  refine fn_sem (k := 0) G.u_edits_among sc_edits_among rfl (by decide) fun cdv A outer s H E hcv hG hr tk => ?_
  have hu := hr.units
  have pw := passes_of (X := cxOf (L2.CX P w) P w K mg base N_edits_among "edits_among" (defScope st_edits_among) (ga K "edits_among") cdv A outer s H E) rfl
  exact s_one (s_ret (d_tuple rfl G.n_tuple (d_cons (d_lc (own := [("edit", 2)]) (is := [2]) rfl sc_edits_among.nd (i_seq (d_v 0)) (blkOk_by (own := [("edit", 2)]) (N := N_edits_among) (sc := defScope st_edits_among) (by decide +kernel)) (by decide) (fun _ _ _ _ _ => g_name (i := 2) sc_edits_among.nd rfl (by first | exact .inl rfl | exact .inr rfl | exact .inr (.inl rfl) | exact .inr (.inr rfl))) (fun _ _ _ _ _ => ts_one (t_inA hu (d_ixA hu (d_v 2) (d_int)) (d_v 1))) (fun _ _ _ _ _ => d_v 2)) (d_nil))))
abbrev st_content : Stmt := top 24
abbrev N_content : List Str := ["frame", "state", "part", "views", "edit"]
theorem sc_content : FnScope N_content ["frame", "state", "part"] (defScope st_content) := ⟨rfl, rfl, rfl, by decide +kernel, rfl, by decide +kernel, by decide +kernel⟩
theorem F_content (G : Tx K mg) : FnG P w K mg base 6 (ga K "content") (foK K (ga K "content")) ["frame", "state", "part"] (spD K (cT K) 3 (f_content)) := by
  refine fn_sem (k := 5) G.u_content sc_content rfl (by decide) fun cdv A outer s H E hcv hG hr tk => ?_
  have hu := hr.units
  have pw := passes_of (X := cxOf (L2.CX P w) P w K mg base N_content "content" (defScope st_content) (ga K "content") cdv A outer s H E) rfl
  exact s_cons (s_set (i := 3) sc_content.nd rfl (by first | exact .inl rfl | exact .inr rfl | exact .inr (.inl rfl) | exact .inr (.inr rfl)) (d_make "Views" G.mk_Views (F_Views___init__ G) hG (hr.mono (by decide)) rfl G.m_Views G.bm_Views___init__ tk (d_cons (d_v 0) (d_nil)))) (s_cons (s_expr (d_fn (F_need_good G) hG (hr.mono (by decide)) rfl G.m_need_good G.k_need_good G.b_need_good tk (r_e (d_v 3) (r_e (d_v 1) (r_nil))))) (s_cons (s_expr (d_meth "Views" G.cls_Views G.me_Views_need_part (F_Views_need_part G) hG (hr.mono (by decide)) G.bm_Views_need_part tk (d_v 3) (d_cons (d_v 2) (d_nil)))) (s_one (s_ret (d_tuple rfl G.n_tuple (d_cons (d_lc (own := [("edit", 4)]) (is := [4]) rfl sc_content.nd (i_seq (d_ixA hu (d_v 1) (d_int))) (blkOk_by (own := [("edit", 4)]) (N := N_content) (sc := defScope st_content) (by decide +kernel)) (by decide) (fun _ _ _ _ _ => g_name (i := 4) sc_content.nd rfl (by first | exact .inl rfl | exact .inr rfl | exact .inr (.inl rfl) | exact .inr (.inr rfl))) (fun _ _ _ _ _ => ts_one (t_eq hu (d_ixA hu (d_v 4) (d_int)) (d_v 2))) (fun _ _ _ _ _ => d_ixA hu (d_v 4) (d_int))) (d_nil)))))))
abbrev st_seen : Stmt := top 25
abbrev N_seen : List Str := ["frame", "state", "window", "views", "parts"]
theorem sc_seen : FnScope N_seen ["frame", "state", "window"] (defScope st_seen) := ⟨rfl, rfl, rfl, by decide +kernel, rfl, by decide +kernel, by decide +kernel⟩
theorem F_seen (G : Tx K mg) : FnG P w K mg base 6 (ga K "seen") (foK K (ga K "seen")) ["frame", "state", "window"] (spD K (cT K) 3 (f_seen)) := by
  refine fn_sem (k := 5) G.u_seen sc_seen rfl (by decide) fun cdv A outer s H E hcv hG hr tk => ?_
  have hu := hr.units
  have pw := passes_of (X := cxOf (L2.CX P w) P w K mg base N_seen "seen" (defScope st_seen) (ga K "seen") cdv A outer s H E) rfl
  exact s_cons (s_set (i := 3) sc_seen.nd rfl (by first | exact .inl rfl | exact .inr rfl | exact .inr (.inl rfl) | exact .inr (.inr rfl)) (d_make "Views" G.mk_Views (F_Views___init__ G) hG (hr.mono (by decide)) rfl G.m_Views G.bm_Views___init__ tk (d_cons (d_v 0) (d_nil)))) (s_cons (s_expr (d_fn (F_need_good G) hG (hr.mono (by decide)) rfl G.m_need_good G.k_need_good G.b_need_good tk (r_e (d_v 3) (r_e (d_v 1) (r_nil))))) (s_cons (s_set (i := 4) sc_seen.nd rfl (by first | exact .inl rfl | exact .inr rfl | exact .inr (.inl rfl) | exact .inr (.inr rfl)) (d_ixA hu (d_fld "Views" G.cls_Views G.no_Views__window_parts (d_v 3)) (d_meth "Views" G.cls_Views G.me_Views_need_window (F_Views_need_window G) hG (hr.mono (by decide)) G.bm_Views_need_window tk (d_v 3) (d_cons (d_v 2) (d_nil))))) (s_one (s_ret (d_tup (d_cons (d_fn (F_edits_among G) hG (hr.mono (by decide)) rfl G.m_edits_among G.k_edits_among G.b_edits_among tk (r_e (d_ixA hu (d_v 1) (d_int)) (r_e (d_v 4) (r_nil)))) (d_cons (d_fn (F_edits_among G) hG (hr.mono (by decide)) rfl G.m_edits_among G.k_edits_among G.b_edits_among tk (r_e (d_ixA hu (d_v 1) (d_int)) (r_e (d_v 4) (r_nil)))) (d_nil))))))))
abbrev st__law_titles : Stmt := top 29
abbrev N__law_titles : List Str := ["_law_draw", "_law_many", "_law_mode", "_law_row", "_law_stem", "_law_turn", "_law_signs", "_law_start", "_law_words", "_law_k", "_law_sign"]
theorem sc__law_titles : FnScope N__law_titles ["_law_draw", "_law_many"] (defScope st__law_titles) := ⟨rfl, rfl, rfl, by decide +kernel, rfl, by decide +kernel, by decide +kernel⟩
theorem F__law_titles (G : Tx K mg) : FnG P w K mg base 2 (ga K "_law_titles") (foK K (ga K "_law_titles")) ["_law_draw", "_law_many"] (spD K (cT K) 2 (f__law_titles)) := by
  refine fn_sem (k := 1) G.u__law_titles sc__law_titles rfl (by decide) fun cdv A outer s H E hcv hG hr tk => ?_
  have hu := hr.units
  have pw := passes_of (X := cxOf (L2.CX P w) P w K mg base N__law_titles "_law_titles" (defScope st__law_titles) (ga K "_law_titles") cdv A outer s H E) rfl
  exact s_cons (s_asg (d_tup (d_cons (d_str) (d_cons (d_fn (F__law_next G) hG (hr.mono (by decide)) rfl G.m__law_next G.k__law_next G.b__law_next tk (r_r 0 (r_e (d_int) (r_nil)))) (d_nil)))) (g_tup rfl (gs_cons (i := 6) sc__law_titles.nd rfl (by first | exact .inl rfl | exact .inr rfl | exact .inr (.inl rfl) | exact .inr (.inr rfl)) (gs_cons (i := 7) sc__law_titles.nd rfl (by first | exact .inl rfl | exact .inr rfl | exact .inr (.inl rfl) | exact .inr (.inr rfl)) (gs_nil))))) (s_cons (s_set (i := 2) sc__law_titles.nd rfl (by first | exact .inl rfl | exact .inr rfl | exact .inr (.inl rfl) | exact .inr (.inr rfl)) (d_fn (F__law_next G) hG (hr.mono (by decide)) rfl G.m__law_next G.k__law_next G.b__law_next tk (r_r 0 (r_e (d_int) (r_nil))))) (s_cons (s_if (t_eq hu (d_v 2) (d_int)) (s_cons (s_set (i := 8) sc__law_titles.nd rfl (by first | exact .inl rfl | exact .inr rfl | exact .inr (.inl rfl) | exact .inr (.inr rfl)) (d_lst (d_cons (d_str) (d_cons (d_str) (d_cons (d_str) (d_cons (d_str) (d_cons (d_str) (d_cons (d_str) (d_cons (d_str) (d_cons (d_str) (d_cons (d_str) (d_cons (d_str) (d_cons (d_str) (d_cons (d_str) (d_nil))))))))))))))) (s_one (s_ret (d_sl (d_add (d_sl (d_v 8) (o_some (d_mod (d_v 7) (d_int))) o_none) (d_sl (d_v 8) o_none (o_some (d_mod (d_v 7) (d_int))))) o_none (o_some (d_v 1)))))) (s_nil)) (s_cons (s_setLc (i := 3) (own := [("_law_k", 9)]) (is := [9]) rfl sc__law_titles.nd rfl rfl rfl (i_range1 rfl G.n_range (d_v 1)) (blkOk_by (own := [("_law_k", 9)]) (N := N__law_titles) (sc := defScope st__law_titles) (by decide +kernel)) (by decide) (fun _ _ _ _ _ => g_name (i := 9) sc__law_titles.nd rfl (by first | exact .inl rfl | exact .inr rfl | exact .inr (.inl rfl) | exact .inr (.inr rfl))) (fun _ _ _ _ _ => ts_nil) (fun _ _ _ _ _ => d_ixA hu (d_v 6) (d_mod (d_pint rfl G.n_int (d_cons (d_add (d_v 7) (d_mul (d_int) (d_v 9))) (d_nil))) (d_int)))) (s_cons (s_set (i := 4) sc__law_titles.nd rfl (by first | exact .inl rfl | exact .inr rfl | exact .inr (.inl rfl) | exact .inr (.inr rfl)) (d_str)) (s_cons (s_for pw rfl (i_range1 rfl G.n_range (d_fn (F__law_next G) hG (hr.mono (by decide)) rfl G.m__law_next G.k__law_next G.b__law_next tk (r_r 0 (r_e (d_int) (r_nil))))) (g_name (i := 5) sc__law_titles.nd rfl (by first | exact .inl rfl | exact .inr rfl | exact .inr (.inl rfl) | exact .inr (.inr rfl))) (s_one (s_set (i := 4) sc__law_titles.nd rfl (by first | exact .inl rfl | exact .inr rfl | exact .inr (.inl rfl) | exact .inr (.inr rfl)) (d_add (d_v 4) (d_ixA hu (d_v 6) (d_fn (F__law_next G) hG (hr.mono (by decide)) rfl G.m__law_next G.k__law_next G.b__law_next tk (r_r 0 (r_e (d_int) (r_nil))))))))) (s_cons (s_if (t_eq hu (d_v 2) (d_int)) (s_one (s_ret (d_v 3))) (s_nil)) (s_one (s_ret (d_lc (own := [("_law_sign", 10)]) (is := [10]) rfl sc__law_titles.nd (i_seq (d_v 3)) (blkOk_by (own := [("_law_sign", 10)]) (N := N__law_titles) (sc := defScope st__law_titles) (by decide +kernel)) (by decide) (fun _ _ _ _ _ => g_name (i := 10) sc__law_titles.nd rfl (by first | exact .inl rfl | exact .inr rfl | exact .inr (.inl rfl) | exact .inr (.inr rfl))) (fun _ _ _ _ _ => ts_nil) (fun _ _ _ _ _ => d_if (t_eq hu (d_v 2) (d_int)) (d_add (d_v 4) (d_v 10)) (d_add (d_v 10) (d_v 4))))))))))))
abbrev st__law_shown : Stmt := top 30
abbrev N__law_shown : List Str := ["_law_draw", "_law_parts", "_law_windows", "_law_mode", "_law_found", "_law_part"]
theorem sc__law_shown : FnScope N__law_shown ["_law_draw", "_law_parts", "_law_windows"] (defScope st__law_shown) := ⟨rfl, rfl, rfl, by decide +kernel, rfl, by decide +kernel, by decide +kernel⟩
theorem F__law_shown (G : Tx K mg) : FnG P w K mg base 2 (ga K "_law_shown") (foK K (ga K "_law_shown")) ["_law_draw", "_law_parts", "_law_windows"] (spD K (cT K) 3 (f__law_shown)) := by
  refine fn_sem (k := 1) G.u__law_shown sc__law_shown rfl (by decide) fun cdv A outer s H E hcv hG hr tk => ?_
  have hu := hr.units
  have pw := passes_of (X := cxOf (L2.CX P w) P w K mg base N__law_shown "_law_shown" (defScope st__law_shown) (ga K "_law_shown") cdv A outer s H E) rfl
  exact s_cons (s_set (i := 3) sc__law_shown.nd rfl (by first | exact .inl rfl | exact .inr rfl | exact .inr (.inl rfl) | exact .inr (.inr rfl)) (d_fn (F__law_next G) hG (hr.mono (by decide)) rfl G.m__law_next G.k__law_next G.b__law_next tk (r_r 0 (r_e (d_int) (r_nil))))) (s_cons (s_if (PW.pt (t_and (t_eq hu (d_v 3) (d_int)) (t_and1 (t_ne hu (d_v 2) (d_lst (d_nil)))))) (s_one (s_ret (d_ixA hu (d_ixA hu (d_v 2) (d_fn (F__law_next G) hG (hr.mono (by decide)) rfl G.m__law_next G.k__law_next G.b__law_next tk (r_r 0 (r_e (d_len rfl G.n_len (d_cons (d_v 2) (d_nil))) (r_nil))))) (d_int)))) (s_nil)) (s_cons (s_if (t_eq hu (d_v 3) (d_int)) (s_one (s_ret (d_tup (d_cons (d_ixA hu (d_v 1) (d_fn (F__law_next G) hG (hr.mono (by decide)) rfl G.m__law_next G.k__law_next G.b__law_next tk (r_r 0 (r_e (d_len rfl G.n_len (d_cons (d_v 1) (d_nil))) (r_nil))))) (d_nil))))) (s_nil)) (s_cons (s_if (t_eq hu (d_v 3) (d_int)) (s_one (s_ret (d_tuple rfl G.n_tuple (d_cons (d_v 1) (d_nil))))) (s_nil)) (s_cons (s_set (i := 4) sc__law_shown.nd rfl (by first | exact .inl rfl | exact .inr rfl | exact .inr (.inl rfl) | exact .inr (.inr rfl)) (d_tuple rfl G.n_tuple (d_cons (d_lc (own := [("_law_part", 5)]) (is := [5]) rfl sc__law_shown.nd (i_seq (d_v 1)) (blkOk_by (own := [("_law_part", 5)]) (N := N__law_shown) (sc := defScope st__law_shown) (by decide +kernel)) (by decide) (fun _ _ _ _ _ => g_name (i := 5) sc__law_shown.nd rfl (by first | exact .inl rfl | exact .inr rfl | exact .inr (.inl rfl) | exact .inr (.inr rfl))) (fun _ _ _ _ _ => ts_one (t_eq hu (d_fn (F__law_next G) hG (hr.mono (by decide)) rfl G.m__law_next G.k__law_next G.b__law_next tk0 (r_r 0 (r_e (d_int) (r_nil)))) (d_int))) (fun _ _ _ _ _ => d_v 5)) (d_nil)))) (s_one (s_ret (d_if (t_ne hu (d_v 4) (d_tup (d_nil))) (d_v 4) (d_tup (d_cons (d_ixA hu (d_v 1) (d_int)) (d_nil))))))))))
abbrev st__law_frame : Stmt := top 31
abbrev N__law_frame : List Str := ["_law_draw", "_law_most", "_law_many", "_law_parts", "_law_title", "_law_titles_here", "_law_windows"]
theorem sc__law_frame : FnScope N__law_frame ["_law_draw", "_law_most", "_law_many"] (defScope st__law_frame) := ⟨rfl, rfl, rfl, by decide +kernel, rfl, by decide +kernel, by decide +kernel⟩
theorem F__law_frame (G : Tx K mg) : FnG P w K mg base 3 (ga K "_law_frame") (foK K (ga K "_law_frame")) ["_law_draw", "_law_most", "_law_many"] (spD K (cT K) 3 (f__law_frame)) := by
  refine fn_sem (k := 2) G.u__law_frame sc__law_frame rfl (by decide) fun cdv A outer s H E hcv hG hr tk => ?_
  have hu := hr.units
  have pw := passes_of (X := cxOf (L2.CX P w) P w K mg base N__law_frame "_law_frame" (defScope st__law_frame) (ga K "_law_frame") cdv A outer s H E) rfl
  exact s_cons (s_set (i := 3) sc__law_frame.nd rfl (by first | exact .inl rfl | exact .inr rfl | exact .inr (.inl rfl) | exact .inr (.inr rfl)) (d_fn (F__law_titles G) hG (hr.mono (by decide)) rfl G.m__law_titles G.k__law_titles G.b__law_titles tk (r_r 0 (r_e (d_add (d_int) (d_fn (F__law_next G) hG (hr.mono (by decide)) rfl G.m__law_next G.k__law_next G.b__law_next tk (r_r 0 (r_e (d_v 1) (r_nil))))) (r_nil))))) (s_cons (s_par2 rfl sc__law_frame.nd (i := 5) (j := 6) rfl rfl (by decide) rfl rfl (p_d (d_fn (F__law_titles G) hG (hr.mono (by decide)) rfl G.m__law_titles G.k__law_titles G.b__law_titles tk (r_r 0 (r_e (d_fn (F__law_next G) hG (hr.mono (by decide)) rfl G.m__law_next G.k__law_next G.b__law_next tk (r_r 0 (r_e (d_add (d_v 2) (d_int)) (r_nil)))) (r_nil))))) (p_n (n_lst (d_nil))) rfl) (s_cons (s_for pw rfl (i_seq (d_v 5)) (g_name (i := 4) sc__law_frame.nd rfl (by first | exact .inl rfl | exact .inr rfl | exact .inr (.inl rfl) | exact .inr (.inr rfl))) (s_one (s_app 6 (d_view (d_tup (d_cons (d_v 4) (d_cons (d_fn (F__law_shown G) hG (hr.mono (by decide)) rfl G.m__law_shown G.k__law_shown G.b__law_shown tk0 (r_r 0 (r_e (d_v 3) (r_e (d_v 6) (r_nil))))) (d_nil)))))))) (s_one (s_frz 6 (s_ret (d_tup (d_cons (d_tuple rfl G.n_tuple (d_cons (d_v 3) (d_nil))) (d_cons (d_tuple rfl G.n_tuple (d_cons (d_v 6) (d_nil))) (d_nil)))))))))
abbrev st__law_mixture : Stmt := top 32
abbrev N__law_mixture : List Str := ["_law_draw", "_law_rows", "_law_left", "_law_found", "_law_at", "_law_row"]
theorem sc__law_mixture : FnScope N__law_mixture ["_law_draw", "_law_rows"] (defScope st__law_mixture) := ⟨rfl, rfl, rfl, by decide +kernel, rfl, by decide +kernel, by decide +kernel⟩
theorem F__law_mixture (G : Tx K mg) : FnG P w K mg base 2 (ga K "_law_mixture") (foK K (ga K "_law_mixture")) ["_law_draw", "_law_rows"] (spD K (cT K) 2 (f__law_mixture)) := by
  refine fn_sem (k := 1) G.u__law_mixture sc__law_mixture rfl (by decide) fun cdv A outer s H E hcv hG hr tk => ?_
  have hu := hr.units
  have pw := passes_of (X := cxOf (L2.CX P w) P w K mg base N__law_mixture "_law_mixture" (defScope st__law_mixture) (ga K "_law_mixture") cdv A outer s H E) rfl
  exact s_cons (s_par2 rfl sc__law_mixture.nd (i := 2) (j := 3) rfl rfl (by decide) rfl rfl (p_n (n_lc (own := [("_law_row", 5)]) (is := [5]) rfl sc__law_mixture.nd (i_seq (d_v 1)) (blkOk_by (own := [("_law_row", 5)]) (N := N__law_mixture) (sc := defScope st__law_mixture) (by decide +kernel)) (by decide) (fun _ _ _ _ _ => g_name (i := 5) sc__law_mixture.nd rfl (by first | exact .inl rfl | exact .inr rfl | exact .inr (.inl rfl) | exact .inr (.inr rfl))) (fun _ _ _ _ _ => ts_one (t_gt (d_len rfl G.n_len (d_cons (d_v 5) (d_nil))) (d_int))) (fun _ _ _ _ _ => d_list rfl G.n_list (d_cons (d_v 5) (d_nil))))) (p_n (n_lst (d_nil))) rfl) (s_cons (s_while 1000000 pw (t_view (t_ne hu (d_v 2) (d_lst (d_nil)))) (s_cons (s_set (i := 4) sc__law_mixture.nd rfl (by first | exact .inl rfl | exact .inr rfl | exact .inr (.inl rfl) | exact .inr (.inr rfl)) (d_view (d_fn (F__law_next G) hG (hr.mono (by decide)) rfl G.m__law_next G.k__law_next G.b__law_next tk0 (r_r 0 (r_e (d_len rfl G.n_len (d_cons (d_v 2) (d_nil))) (r_nil)))))) (s_cons (s_app 3 (d_ixA hu (d_oix 2 hu (d_v 4)) (d_int))) (s_cons (s_oset 2 hu (d_v 4) (d_sl (d_oix 2 hu (d_v 4)) (o_some (d_int)) o_none)) (s_one (s_frz 2 (s_ownLc (i := 2) (own := [("_law_row", 5)]) (is := [5]) rfl sc__law_mixture.nd rfl rfl rfl (i_seq (d_v 2)) (blkOk_by (own := [("_law_row", 5)]) (N := N__law_mixture) (sc := defScope st__law_mixture) (by decide +kernel)) (by decide) (fun _ _ _ _ _ => g_name (i := 5) sc__law_mixture.nd rfl (by first | exact .inl rfl | exact .inr rfl | exact .inr (.inl rfl) | exact .inr (.inr rfl))) (fun _ _ _ _ _ => ts_one (t_ne hu (d_v 5) (d_lst (d_nil)))) (fun _ _ _ _ _ => d_v 5)))))))) (s_one (s_frz 3 (s_ret (d_v 3)))))
abbrev st__law_state : Stmt := top 33
abbrev N__law_state : List Str := ["_law_draw", "_law_plan", "_law_most", "_law_turn", "_law_part", "_law_rows", "_law_age", "_law_ahead", "_law_behind", "_law_cut"]
theorem sc__law_state : FnScope N__law_state ["_law_draw", "_law_plan", "_law_most"] (defScope st__law_state) := ⟨rfl, rfl, rfl, by decide +kernel, rfl, by decide +kernel, by decide +kernel⟩
theorem F__law_state (G : Tx K mg) : FnG P w K mg base 3 (ga K "_law_state") (foK K (ga K "_law_state")) ["_law_draw", "_law_plan", "_law_most"] (spD K (cT K) 3 (f__law_state)) := by
  refine fn_sem (k := 2) G.u__law_state sc__law_state rfl (by decide) fun cdv A outer s H E hcv hG hr tk => ?_
  have hu := hr.units
  have pw := passes_of (X := cxOf (L2.CX P w) P w K mg base N__law_state "_law_state" (defScope st__law_state) (ga K "_law_state") cdv A outer s H E) rfl
  exact s_cons (s_par2 rfl sc__law_state.nd (i := 5) (j := 6) rfl rfl (by decide) rfl rfl (p_n (n_dictP rfl rfl G.n_dict (d_lc (own := [("_law_part", 4)]) (is := [4]) rfl sc__law_state.nd (i_seq (d_ixA hu (d_v 1) (d_int))) (blkOk_by (own := [("_law_part", 4)]) (N := N__law_state) (sc := defScope st__law_state) (by decide +kernel)) (by decide) (fun _ _ _ _ _ => g_name (i := 4) sc__law_state.nd rfl (by first | exact .inl rfl | exact .inr rfl | exact .inr (.inl rfl) | exact .inr (.inr rfl))) (fun _ _ _ _ _ => ts_nil) (fun _ _ _ _ _ => d_tup (d_cons (d_v 4) (d_cons (d_lst (d_nil)) (d_nil))))))) (p_d (d_fn (F__law_next G) hG (hr.mono (by decide)) rfl G.m__law_next G.k__law_next G.b__law_next tk (r_r 0 (r_e (d_int) (r_nil))))) rfl) (s_cons (s_for pw rfl (i_range1 rfl G.n_range (d_fn (F__law_next G) hG (hr.mono (by decide)) rfl G.m__law_next G.k__law_next G.b__law_next tk (r_r 0 (r_e (d_add (d_v 2) (d_int)) (r_nil))))) (g_name (i := 3) sc__law_state.nd rfl (by first | exact .inl rfl | exact .inr rfl | exact .inr (.inl rfl) | exact .inr (.inr rfl))) (s_cons (s_set (i := 4) sc__law_state.nd rfl (by first | exact .inl rfl | exact .inr rfl | exact .inr (.inl rfl) | exact .inr (.inr rfl)) (d_ixA hu (d_ixA hu (d_v 1) (d_int)) (d_fn (F__law_next G) hG (hr.mono (by decide)) rfl G.m__law_next G.k__law_next G.b__law_next tk (r_r 0 (r_e (d_len rfl G.n_len (d_cons (d_ixA hu (d_v 1) (d_int)) (d_nil))) (r_nil)))))) (s_cons (s_oset 5 hu (d_v 4) (d_add (d_oix 5 hu (d_v 4)) (d_lst (d_cons (d_tup (d_cons (d_v 6) (d_cons (d_v 4) (d_nil)))) (d_nil))))) (s_one (s_set (i := 6) sc__law_state.nd rfl (by first | exact .inl rfl | exact .inr rfl | exact .inr (.inl rfl) | exact .inr (.inr rfl)) (d_add (d_add (d_v 6) (d_int)) (d_max2 rfl rfl G.n_max (d_cons (d_int) (d_cons (d_sub (d_fn (F__law_next G) hG (hr.mono (by decide)) rfl G.m__law_next G.k__law_next G.b__law_next tk (r_r 0 (r_e (d_int) (r_nil)))) (d_int)) (d_nil)))))))))) (s_cons (s_par2 rfl sc__law_state.nd (i := 7) (j := 8) rfl rfl (by decide) rfl rfl (p_n (n_lst (d_nil))) (p_n (n_lst (d_nil))) rfl) (s_cons (s_for pw rfl (i_seq (d_ixA hu (d_v 1) (d_int))) (g_name (i := 4) sc__law_state.nd rfl (by first | exact .inl rfl | exact .inr rfl | exact .inr (.inl rfl) | exact .inr (.inr rfl))) (s_cons (s_set (i := 9) sc__law_state.nd rfl (by first | exact .inl rfl | exact .inr rfl | exact .inr (.inl rfl) | exact .inr (.inr rfl)) (d_fn (F__law_next G) hG (hr.mono (by decide)) rfl G.m__law_next G.k__law_next G.b__law_next tk (r_r 0 (r_e (d_add (d_len rfl G.n_len (d_cons (d_oix 5 hu (d_v 4)) (d_nil))) (d_int)) (r_nil))))) (s_cons (s_app 7 (d_sl (d_oix 5 hu (d_v 4)) o_none (o_some (d_v 9)))) (s_one (s_app 8 (d_rev (d_sl (d_oix 5 hu (d_v 4)) (o_some (d_v 9)) o_none))))))) (s_one (s_frz 7 (s_frz 8 (s_ret (d_tup (d_cons (d_tuple rfl G.n_tuple (d_cons (d_fn (F__law_mixture G) hG (hr.mono (by decide)) rfl G.m__law_mixture G.k__law_mixture G.b__law_mixture tk (r_r 0 (r_e (d_v 7) (r_nil)))) (d_nil))) (d_cons (d_tuple rfl G.n_tuple (d_cons (d_fn (F__law_mixture G) hG (hr.mono (by decide)) rfl G.m__law_mixture G.k__law_mixture G.b__law_mixture tk (r_r 0 (r_e (d_v 8) (r_nil)))) (d_nil))) (d_nil)))))))))))
abbrev st__law_among : Stmt := top 34
abbrev N__law_among : List Str := ["_law_edits", "_law_parts", "_law_edit"]
theorem sc__law_among : FnScope N__law_among ["_law_edits", "_law_parts"] (defScope st__law_among) := ⟨rfl, rfl, rfl, by decide +kernel, rfl, by decide +kernel, by decide +kernel⟩
theorem F__law_among (G : Tx K mg) : FnG P w K mg base 1 (ga K "_law_among") (foK K (ga K "_law_among")) ["_law_edits", "_law_parts"] (spD K (cT K) 2 (f__law_among)) := by
  refine fn_sem (k := 0) G.u__law_among sc__law_among rfl (by decide) fun cdv A outer s H E hcv hG hr tk => ?_
  have hu := hr.units
  have pw := passes_of (X := cxOf (L2.CX P w) P w K mg base N__law_among "_law_among" (defScope st__law_among) (ga K "_law_among") cdv A outer s H E) rfl
  exact s_one (s_ret (d_lc (own := [("_law_edit", 2)]) (is := [2]) rfl sc__law_among.nd (i_seq (d_v 0)) (blkOk_by (own := [("_law_edit", 2)]) (N := N__law_among) (sc := defScope st__law_among) (by decide +kernel)) (by decide) (fun _ _ _ _ _ => g_name (i := 2) sc__law_among.nd rfl (by first | exact .inl rfl | exact .inr rfl | exact .inr (.inl rfl) | exact .inr (.inr rfl))) (fun _ _ _ _ _ => ts_one (t_inA hu (d_ixA hu (d_v 2) (d_int)) (d_v 1))) (fun _ _ _ _ _ => d_v 2)))
abbrev st__law_refused : Stmt := top 35
abbrev N__law_refused : List Str := ["_law_call", "_law_caught", "e", "_law_kinds"]
theorem sc__law_refused : FnScope N__law_refused ["_law_call"] (defScope st__law_refused) := ⟨rfl, rfl, rfl, by decide +kernel, rfl, by decide +kernel, by decide +kernel⟩
theorem L__law_refused (G : Tx K mg) : FnL P w K mg base (cT K) 0 (ga K "_law_refused") st__law_refused N__law_refused "_law_refused" "_law_call" (m__law_refused domL) := by
  intro r B1 l cdv A outer s H E hG hr tk act
  have hu := hr.units
  have pw := passes_of (X := cxOf (L2.CX P w) P w K mg base N__law_refused "_law_refused" (defScope st__law_refused) (ga K "_law_refused") cdv A outer s H E) rfl
  exact s_cons (s_set (i := 1) sc__law_refused.nd rfl (by first | exact .inl rfl | exact .inr rfl | exact .inr (.inl rfl) | exact .inr (.inr rfl)) (d_non)) (s_cons (s_try (i := 2) (j := 1) rfl rfl sc__law_refused.nd rfl rfl (by decide) rfl (cls_two (by exact ⟨rfl, by decide, .inl G.m_Missing⟩) (by exact ⟨rfl, by decide, .inl G.m_WindowError⟩)) tk G.ck2_Missing__WindowError (fun W pn xe tk pw => s_one (s_expr (act _ _ _ _ _ tk))) (fun a pn => pss_one (ps_set (i := 1) sc__law_refused.nd rfl (by first | exact .inl rfl | exact .inr rfl | exact .inr (.inl rfl) | exact .inr (.inr rfl)) (pv 2)))) (s_cons (s_set (i := 3) sc__law_refused.nd rfl (by first | exact .inl rfl | exact .inr rfl | exact .inr (.inl rfl) | exact .inr (.inr rfl)) (d_lst (d_cons (d_isx rfl G.n_isinstance rfl G.m_BadFrame (d_v 1) G.is_BadFrame) (d_cons (d_isx rfl G.n_isinstance rfl G.m_BadState (d_v 1) G.is_BadState) (d_cons (d_isx rfl G.n_isinstance rfl G.m_Missing (d_v 1) G.is_Missing) (d_nil)))))) (s_one (s_ret (d_if (t_eq hu (d_countL (d_v 3) (d_bl)) (d_int)) (d_indexL (d_v 3) (d_bl)) (d_int))))))
abbrev st__law_order_right : Stmt := top 36
abbrev N__law_order_right : List Str := ["_law_plan", "_law_state_here", "_law_part", "_law_told"]
theorem sc__law_order_right : FnScope N__law_order_right ["_law_plan", "_law_state_here", "_law_part"] (defScope st__law_order_right) := ⟨rfl, rfl, rfl, by decide +kernel, rfl, by decide +kernel, by decide +kernel⟩
theorem F__law_order_right (G : Tx K mg) (TB : ∀ p ∈ csL K, LamX.TabB base mg p.1 p.2) : FnG P w K mg base 9 (ga K "_law_order_right") (foK K (ga K "_law_order_right")) ["_law_plan", "_law_state_here", "_law_part"] (spD K (cT K) 3 (f__law_order_right domL)) := by
  refine fn_sem (k := 8) G.u__law_order_right sc__law_order_right rfl (by decide) fun cdv A outer s H E hcv hG hr tk => ?_
  have hu := hr.units
  have pw := passes_of (X := cxOf (L2.CX P w) P w K mg base N__law_order_right "_law_order_right" (defScope st__law_order_right) (ga K "_law_order_right") cdv A outer s H E) rfl
  exact s_cons (s_own (i := 3) sc__law_order_right.nd rfl (by first | exact .inl rfl | exact .inr rfl | exact .inr (.inl rfl) | exact .inr (.inr rfl)) (n_lst (d_cons (d_lam (k := 7) (kl := 6) ((L__law_refused G).mono (by decide)) G.u__law_refused sc__law_refused rfl rfl (by first | exact Or.inl rfl | exact Or.inr (Or.inl rfl) | exact Or.inr (Or.inr rfl)) (by decide) hG (hr.mono (by decide)) rfl G.m__law_refused G.k__law_refused G.b__law_refused tk (TB _ tm__law_order_right) (hcv.symm.trans (code_of (p := ("_law_order_right", none)) G.u__law_order_right)) ⟨_, tm__law_order_right, rfl⟩ rfl (show LamX.LamS (defScope st__law_order_right) _ from LamX.lamS_by (by decide +kernel)) rfl (fun _ _ _ _ _ => rfl) (fun A outer s H E f d hG hr tk => have hu := hr.units; d_fn (F_content G) hG (hr.mono (by decide)) rfl G.m_content G.k_content G.b_content tk (r_e (d_tup (d_nil)) (r_e (d_non) (r_e (d_non) (r_nil)))))) (d_nil)))) (s_cons (s_app 3 (d_lam (k := 7) (kl := 6) ((L__law_refused G).mono (by decide)) G.u__law_refused sc__law_refused rfl rfl (by first | exact Or.inl rfl | exact Or.inr (Or.inl rfl) | exact Or.inr (Or.inr rfl)) (by decide) hG (hr.mono (by decide)) rfl G.m__law_refused G.k__law_refused G.b__law_refused tk (TB _ tm__law_order_right) (hcv.symm.trans (code_of (p := ("_law_order_right", none)) G.u__law_order_right)) ⟨_, tm__law_order_right, rfl⟩ rfl (show LamX.LamS (defScope st__law_order_right) _ from LamX.lamS_by (by decide +kernel)) rfl (fun _ _ _ _ _ => rfl) (fun A outer s H E f d hG hr tk => have hu := hr.units; d_fn (F_seen G) hG (hr.mono (by decide)) rfl G.m_seen G.k_seen G.b_seen tk (r_e (d_add (d_v 0) (d_tup (d_cons (d_tup (d_nil)) (d_nil)))) (r_e (d_v 1) (r_e (d_v 2) (r_nil))))))) (s_cons (s_app 3 (d_lam (k := 7) (kl := 6) ((L__law_refused G).mono (by decide)) G.u__law_refused sc__law_refused rfl rfl (by first | exact Or.inl rfl | exact Or.inr (Or.inl rfl) | exact Or.inr (Or.inr rfl)) (by decide) hG (hr.mono (by decide)) rfl G.m__law_refused G.k__law_refused G.b__law_refused tk (TB _ tm__law_order_right) (hcv.symm.trans (code_of (p := ("_law_order_right", none)) G.u__law_order_right)) ⟨_, tm__law_order_right, rfl⟩ rfl (show LamX.LamS (defScope st__law_order_right) _ from LamX.lamS_by (by decide +kernel)) rfl (fun _ _ _ _ _ => rfl) (fun A outer s H E f d hG hr tk => have hu := hr.units; d_fn (F_content G) hG (hr.mono (by decide)) rfl G.m_content G.k_content G.b_content tk (r_e (d_v 0) (r_e (d_tup (d_cons (d_ixA hu (d_v 1) (d_int)) (d_nil))) (r_e (d_non) (r_nil))))))) (s_cons (s_app 3 (d_lam (k := 7) (kl := 6) ((L__law_refused G).mono (by decide)) G.u__law_refused sc__law_refused rfl rfl (by first | exact Or.inl rfl | exact Or.inr (Or.inl rfl) | exact Or.inr (Or.inr rfl)) (by decide) hG (hr.mono (by decide)) rfl G.m__law_refused G.k__law_refused G.b__law_refused tk (TB _ tm__law_order_right) (hcv.symm.trans (code_of (p := ("_law_order_right", none)) G.u__law_order_right)) ⟨_, tm__law_order_right, rfl⟩ rfl (show LamX.LamS (defScope st__law_order_right) _ from LamX.lamS_by (by decide +kernel)) rfl (fun _ _ _ _ _ => rfl) (fun A outer s H E f d hG hr tk => have hu := hr.units; d_fn (F_seen G) hG (hr.mono (by decide)) rfl G.m_seen G.k_seen G.b_seen tk (r_e (d_v 0) (r_e (d_tup (d_cons (d_ixA hu (d_v 1) (d_int)) (d_cons (d_ixA hu (d_v 1) (d_int)) (d_cons (d_tup (d_nil)) (d_nil))))) (r_e (d_str) (r_nil))))))) (s_cons (s_app 3 (d_lam (k := 7) (kl := 6) ((L__law_refused G).mono (by decide)) G.u__law_refused sc__law_refused rfl rfl (by first | exact Or.inl rfl | exact Or.inr (Or.inl rfl) | exact Or.inr (Or.inr rfl)) (by decide) hG (hr.mono (by decide)) rfl G.m__law_refused G.k__law_refused G.b__law_refused tk (TB _ tm__law_order_right) (hcv.symm.trans (code_of (p := ("_law_order_right", none)) G.u__law_order_right)) ⟨_, tm__law_order_right, rfl⟩ rfl (show LamX.LamS (defScope st__law_order_right) _ from LamX.lamS_by (by decide +kernel)) rfl (fun _ _ _ _ _ => rfl) (fun A outer s H E f d hG hr tk => have hu := hr.units; d_fn (F_content G) hG (hr.mono (by decide)) rfl G.m_content G.k_content G.b_content tk (r_e (d_v 0) (r_e (d_v 1) (r_e (d_str) (r_nil))))))) (s_cons (s_app 3 (d_lam (k := 7) (kl := 6) ((L__law_refused G).mono (by decide)) G.u__law_refused sc__law_refused rfl rfl (by first | exact Or.inl rfl | exact Or.inr (Or.inl rfl) | exact Or.inr (Or.inr rfl)) (by decide) hG (hr.mono (by decide)) rfl G.m__law_refused G.k__law_refused G.b__law_refused tk (TB _ tm__law_order_right) (hcv.symm.trans (code_of (p := ("_law_order_right", none)) G.u__law_order_right)) ⟨_, tm__law_order_right, rfl⟩ rfl (show LamX.LamS (defScope st__law_order_right) _ from LamX.lamS_by (by decide +kernel)) rfl (fun _ _ _ _ _ => rfl) (fun A outer s H E f d hG hr tk => have hu := hr.units; d_fn (F_seen G) hG (hr.mono (by decide)) rfl G.m_seen G.k_seen G.b_seen tk (r_e (d_v 0) (r_e (d_v 1) (r_e (d_non) (r_nil))))))) (s_one (s_frz 3 (s_ret (d_eq hu (d_v 3) (d_lst (d_cons (d_int) (d_cons (d_int) (d_cons (d_int) (d_cons (d_int) (d_cons (d_int) (d_cons (d_int) (d_nil)))))))))))))))))
abbrev st_law : Stmt := top 37
abbrev N_law : List Str := ["_law_script", "_law_draw", "_law_turn", "_law_plan", "_law_state_here", "_law_kept", "_law_again", "_law_part", "_law_due", "_law_name", "_law_parts", "_law_edit"]
theorem sc_law : FnScope N_law ["_law_script"] (defScope st_law) := ⟨rfl, rfl, rfl, by decide +kernel, rfl, by decide +kernel, by decide +kernel⟩
theorem F_law (G : Tx K mg) (TB : ∀ p ∈ csL K, LamX.TabB base mg p.1 p.2) (plain : ∀ (ns : List Int) (s : Dr), ns.length ≤ 63 → s.Ok → ∃ E', m_law domL (envL 12 ns s) = .ok (.rt (.bl true)) E') : FnG P w K mg base 10 (ga K "law") (foK K (ga K "law")) ["_law_script"] (spLaw K (isTb (csL K))) := by
  refine fn_law (ct := cT K) (k := 9) (bm := m_law domL) (rest := (defBody st_law).tail) G.u_law sc_law rfl (by decide) rfl (fun cdv A outer s H E hG hr => ?_) (fun cdv A outer s H E hcv hG hr tk => ?_) (fun _ => trivial) plain
  · exact ps_set (i := 1) sc_law.nd rfl (by first | exact .inl rfl | exact .inr rfl | exact .inr (.inl rfl) | exact .inr (.inr rfl)) (pe_fn (F__law_begun G) hG (hr.mono (by decide)) rfl G.m__law_begun G.k__law_begun G.b__law_begun .nil tk0 (pa_cons (pv 0) pa_nil))
  · have hu := hr.units
    have pw := passes_of (X := cxOf (L2.CX P w) P w K mg base N_law "law" (defScope st_law) (ga K "law") cdv A outer s H E) rfl
    exact s_cons (s_for pw rfl (i_range1 rfl G.n_range (d_add (d_int) (d_div (d_min2 rfl rfl G.n_min (d_cons (d_int) (d_cons (d_len rfl G.n_len (d_cons (d_v 0) (d_nil))) (d_nil)))) (d_int)))) (g_name (i := 2) sc_law.nd rfl (by first | exact .inl rfl | exact .inr rfl | exact .inr (.inl rfl) | exact .inr (.inr rfl))) (s_cons (s_set (i := 3) sc_law.nd rfl (by first | exact .inl rfl | exact .inr rfl | exact .inr (.inl rfl) | exact .inr (.inr rfl)) (d_fn (F__law_frame G) hG (hr.mono (by decide)) rfl G.m__law_frame G.k__law_frame G.b__law_frame tk (r_r 1 (r_e (d_int) (r_e (d_int) (r_nil)))))) (s_cons (s_set (i := 4) sc_law.nd rfl (by first | exact .inl rfl | exact .inr rfl | exact .inr (.inl rfl) | exact .inr (.inr rfl)) (d_fn (F__law_state G) hG (hr.mono (by decide)) rfl G.m__law_state G.k__law_state G.b__law_state tk (r_r 1 (r_e (d_v 3) (r_e (d_ixA hu (d_lst (d_cons (d_int) (d_cons (d_int) (d_nil)))) (d_fn (F__law_next G) hG (hr.mono (by decide)) rfl G.m__law_next G.k__law_next G.b__law_next tk (r_r 1 (r_e (d_int) (r_nil))))) (r_nil)))))) (s_cons (s_set (i := 5) sc_law.nd rfl (by first | exact .inl rfl | exact .inr rfl | exact .inr (.inl rfl) | exact .inr (.inr rfl)) (d_repr hG hu rfl G.n_repr (d_cons (d_lst (d_cons (d_v 3) (d_cons (d_v 4) (d_nil)))) (d_nil)))) (s_cons (s_for pw rfl (i_range1 rfl G.n_range (d_int)) (g_name (i := 6) sc_law.nd rfl (by first | exact .inl rfl | exact .inr rfl | exact .inr (.inl rfl) | exact .inr (.inr rfl))) (s_cons (s_for pw rfl (i_seq (d_ixA hu (d_v 3) (d_int))) (g_name (i := 7) sc_law.nd rfl (by first | exact .inl rfl | exact .inr rfl | exact .inr (.inl rfl) | exact .inr (.inr rfl))) (s_cons (s_set (i := 8) sc_law.nd rfl (by first | exact .inl rfl | exact .inr rfl | exact .inr (.inl rfl) | exact .inr (.inr rfl)) (d_tuple rfl G.n_tuple (d_cons (d_lc (own := [("_law_edit", 11)]) (is := [11]) rfl sc_law.nd (i_seq (d_ixA hu (d_v 4) (d_int))) (blkOk_by (own := [("_law_edit", 11)]) (N := N_law) (sc := defScope st_law) (by decide +kernel)) (by decide) (fun _ _ _ _ _ => g_name (i := 11) sc_law.nd rfl (by first | exact .inl rfl | exact .inr rfl | exact .inr (.inl rfl) | exact .inr (.inr rfl))) (fun _ _ _ _ _ => ts_one (t_eq hu (d_ixA hu (d_v 11) (d_int)) (d_v 7))) (fun _ _ _ _ _ => d_ixA hu (d_v 11) (d_int))) (d_nil)))) (s_one (s_if (t_ne hu (d_repr hG hu rfl G.n_repr (d_cons (d_fn (F_content G) hG (hr.mono (by decide)) rfl G.m_content G.k_content G.b_content tk (r_e (d_v 3) (r_e (d_v 4) (r_e (d_v 7) (r_nil))))) (d_nil))) (d_repr hG hu rfl G.n_repr (d_cons (d_v 8) (d_nil)))) (s_one (s_ret (d_bl))) (s_nil))))) (s_one (s_for pw rfl (i_seq (d_ixA hu (d_v 3) (d_int))) (g_tup rfl (gs_cons (i := 9) sc_law.nd rfl (by first | exact .inl rfl | exact .inr rfl | exact .inr (.inl rfl) | exact .inr (.inr rfl)) (gs_cons (i := 10) sc_law.nd rfl (by first | exact .inl rfl | exact .inr rfl | exact .inr (.inl rfl) | exact .inr (.inr rfl)) (gs_nil)))) (s_cons (s_set (i := 8) sc_law.nd rfl (by first | exact .inl rfl | exact .inr rfl | exact .inr (.inl rfl) | exact .inr (.inr rfl)) (d_tup (d_cons (d_tuple rfl G.n_tuple (d_cons (d_fn (F__law_among G) hG (hr.mono (by decide)) rfl G.m__law_among G.k__law_among G.b__law_among tk (r_e (d_ixA hu (d_v 4) (d_int)) (r_e (d_v 10) (r_nil)))) (d_nil))) (d_cons (d_tuple rfl G.n_tuple (d_cons (d_fn (F__law_among G) hG (hr.mono (by decide)) rfl G.m__law_among G.k__law_among G.b__law_among tk (r_e (d_ixA hu (d_v 4) (d_int)) (r_e (d_v 10) (r_nil)))) (d_nil))) (d_nil))))) (s_one (s_if (t_ne hu (d_repr hG hu rfl G.n_repr (d_cons (d_fn (F_seen G) hG (hr.mono (by decide)) rfl G.m_seen G.k_seen G.b_seen tk (r_e (d_v 3) (r_e (d_v 4) (r_e (d_v 9) (r_nil))))) (d_nil))) (d_repr hG hu rfl G.n_repr (d_cons (d_v 8) (d_nil)))) (s_one (s_ret (d_bl))) (s_nil)))))))) (s_one (s_if (PW.pt (t_or (t_not (t_val (d_fn (F__law_order_right G TB) hG (hr.mono (by decide)) rfl G.m__law_order_right G.k__law_order_right G.b__law_order_right tk (r_e (d_v 3) (r_e (d_v 4) (r_e (d_ixA hu (d_ixA hu (d_v 3) (d_int)) (d_int)) (r_nil))))))) (t_or1 (t_ne hu (d_repr hG hu rfl G.n_repr (d_cons (d_lst (d_cons (d_v 3) (d_cons (d_v 4) (d_nil)))) (d_nil))) (d_v 5))))) (s_one (s_ret (d_bl))) (s_nil)))))))) (s_one (s_ret (d_bl)))
end Law

namespace Law
open PySem PySem.Spec PyProof.Rows L2 Wu He
abbrev D__law_among : He.DefD := ⟨("_law_among", none), "_law_among", "_law_among", defArgs (top 34), defBody (top 34), defScope (top 34), [], []⟩
abbrev D__law_begun : He.DefD := ⟨("_law_begun", none), "_law_begun", "_law_begun", defArgs (top 27), defBody (top 27), defScope (top 27), [], []⟩
abbrev D__law_frame : He.DefD := ⟨("_law_frame", none), "_law_frame", "_law_frame", defArgs (top 31), defBody (top 31), defScope (top 31), [], []⟩
abbrev D__law_mixture : He.DefD := ⟨("_law_mixture", none), "_law_mixture", "_law_mixture", defArgs (top 32), defBody (top 32), defScope (top 32), [], []⟩
abbrev D__law_next : He.DefD := ⟨("_law_next", none), "_law_next", "_law_next", defArgs (top 28), defBody (top 28), defScope (top 28), [], []⟩
abbrev D__law_order_right : He.DefD := ⟨("_law_order_right", none), "_law_order_right", "_law_order_right", defArgs (top 36), defBody (top 36), defScope (top 36), [], []⟩
abbrev D__law_refused : He.DefD := ⟨("_law_refused", none), "_law_refused", "_law_refused", defArgs (top 35), defBody (top 35), defScope (top 35), [], []⟩
abbrev D__law_shown : He.DefD := ⟨("_law_shown", none), "_law_shown", "_law_shown", defArgs (top 30), defBody (top 30), defScope (top 30), [], []⟩
abbrev D__law_state : He.DefD := ⟨("_law_state", none), "_law_state", "_law_state", defArgs (top 33), defBody (top 33), defScope (top 33), [], []⟩
abbrev D__law_titles : He.DefD := ⟨("_law_titles", none), "_law_titles", "_law_titles", defArgs (top 29), defBody (top 29), defScope (top 29), [], []⟩
abbrev D_content : He.DefD := ⟨("content", none), "content", "content", defArgs (top 24), defBody (top 24), defScope (top 24), [], []⟩
abbrev D_edits_among : He.DefD := ⟨("edits_among", none), "edits_among", "edits_among", defArgs (top 23), defBody (top 23), defScope (top 23), [], []⟩
abbrev D_is_edit : He.DefD := ⟨("is_edit", none), "is_edit", "is_edit", defArgs (top 20), defBody (top 20), defScope (top 20), [], []⟩
abbrev D_is_integer : He.DefD := ⟨("is_integer", none), "is_integer", "is_integer", defArgs (top 11), defBody (top 11), defScope (top 11), [], []⟩
abbrev D_is_name : He.DefD := ⟨("is_name", none), "is_name", "is_name", defArgs (top 12), defBody (top 12), defScope (top 12), [], []⟩
abbrev D_is_shown : He.DefD := ⟨("is_shown", none), "is_shown", "is_shown", defArgs (top 13), defBody (top 13), defScope (top 13), [], []⟩
abbrev D_is_window : He.DefD := ⟨("is_window", none), "is_window", "is_window", defArgs (top 14), defBody (top 14), defScope (top 14), [], []⟩
abbrev D_need_frame : He.DefD := ⟨("need_frame", none), "need_frame", "need_frame", defArgs (top 15), defBody (top 15), defScope (top 15), [], []⟩
abbrev D_need_good : He.DefD := ⟨("need_good", none), "need_good", "need_good", defArgs (top 22), defBody (top 22), defScope (top 22), [], []⟩
abbrev D_seen : He.DefD := ⟨("seen", none), "seen", "seen", defArgs (top 25), defBody (top 25), defScope (top 25), [], []⟩
abbrev D_stands_well : He.DefD := ⟨("stands_well", none), "stands_well", "stands_well", defArgs (top 21), defBody (top 21), defScope (top 21), [], []⟩
abbrev D_BadFrame_init : He.DefD := ⟨("BadFrame", some "__init__"), "__init__", "BadFrame.__init__", defArgs (meth 3 0), defBody (meth 3 0), defScope (meth 3 0), [], []⟩
abbrev D_BadState_init : He.DefD := ⟨("BadState", some "__init__"), "__init__", "BadState.__init__", defArgs (meth 4 0), defBody (meth 4 0), defScope (meth 4 0), [], []⟩
abbrev D_Missing_init : He.DefD := ⟨("Missing", some "__init__"), "__init__", "Missing.__init__", defArgs (meth 5 0), defBody (meth 5 0), defScope (meth 5 0), [], []⟩
abbrev D_Views___init__ : He.DefD := ⟨("Views", some "__init__"), "__init__", "Views.__init__", defArgs (meth 16 0), defBody (meth 16 0), defScope (meth 16 0), [], []⟩
abbrev D_Views_need_part : He.DefD := ⟨("Views", some "need_part"), "need_part", "Views.need_part", defArgs (meth 16 1), defBody (meth 16 1), defScope (meth 16 1), [], []⟩
abbrev D_Views_need_window : He.DefD := ⟨("Views", some "need_window"), "need_window", "Views.need_window", defArgs (meth 16 2), defBody (meth 16 2), defScope (meth 16 2), [], []⟩
abbrev D_law : He.DefD := ⟨("law", none), "law", "law", defArgs (top 37), defBody (top 37), defScope (top 37), [], []⟩
abbrev faL : List Fk := [.fa (.str "LETTERS" "abcdefghijklmnopqrstuvwxyz"), .fa (.int "LONGEST_NAME" 8), .fa (.int "MOST_AGE" 999), .fa (.int "MOST_EDITS" 40), .fa (.int "MOST_PARTS" 8), .fa (.int "MOST_WINDOWS" 12), .ck2 domL "Missing" "WindowError", .fa (.cls "Views"), .ini "BadFrame", .ini "BadState", .ini "Missing", .isx domL "BadFrame", .isx domL "BadState", .isx domL "Missing", .fa (.keep "_law_among"), .fa (.keep "_law_begun"), .fa (.keep "_law_frame"), .fa (.keep "_law_mixture"), .fa (.keep "_law_next"), .fa (.keep "_law_order_right"), .fa (.keep "_law_refused"), .fa (.keep "_law_shown"), .fa (.keep "_law_state"), .fa (.keep "_law_titles"), .fa (.keep "content"), .fa (.keep "edits_among"), .fa (.keep "is_edit"), .fa (.keep "is_integer"), .fa (.keep "is_name"), .fa (.keep "is_shown"), .fa (.keep "is_window"), .fa (.keep "need_frame"), .fa (.keep "need_good"), .fa (.keep "seen"), .fa (.keep "stands_well"), .fa (.glo "BadFrame"), .fa (.glo "BadState"), .fa (.glo "Missing"), .fa (.glo "Views"), .fa (.glo "WindowError"), .fa (.glo "_law_among"), .fa (.glo "_law_begun"), .fa (.glo "_law_frame"), .fa (.glo "_law_mixture"), .fa (.glo "_law_next"), .fa (.glo "_law_order_right"), .fa (.glo "_law_refused"), .fa (.glo "_law_shown"), .fa (.glo "_law_state"), .fa (.glo "_law_titles"), .fa (.glo "content"), .fa (.glo "edits_among"), .fa (.glo "is_edit"), .fa (.glo "is_integer"), .fa (.glo "is_name"), .fa (.glo "is_shown"), .fa (.glo "is_window"), .fa (.glo "law"), .fa (.glo "need_frame"), .fa (.glo "need_good"), .fa (.glo "seen"), .fa (.glo "stands_well"), .fa (.meth "Views" "need_part"), .fa (.meth "Views" "need_window"), .fa (.mkr "Views"), .fa (.free "KeyError"), .fa (.free "all"), .fa (.free "any"), .fa (.free "bool"), .fa (.free "dict"), .fa (.free "enumerate"), .fa (.free "int"), .fa (.free "isinstance"), .fa (.free "len"), .fa (.free "list"), .fa (.free "max"), .fa (.free "min"), .fa (.free "range"), .fa (.free "repr"), .fa (.free "str"), .fa (.free "tuple"), .fa (.noat "BadFrame" "place"), .fa (.noat "BadState" "place"), .fa (.noat "Missing" "name"), .fa (.noat "Views" "part_windows"), .fa (.noat "Views" "parts"), .fa (.noat "Views" "plan"), .fa (.noat "Views" "window_parts"), .ox "BadFrame" false, .ox "BadState" false, .ox "Missing" true, .bas "WindowError" "ValueError.__init__", .vvT "KeyError" "KeyError.__init__"]
abbrev fnL : List He.DefD := [D__law_among, D__law_begun, D__law_frame, D__law_mixture, D__law_next, D__law_order_right, D__law_refused, D__law_shown, D__law_state, D__law_titles, D_content, D_edits_among, D_is_edit, D_is_integer, D_is_name, D_is_shown, D_is_window, D_need_frame, D_need_good, D_seen, D_stands_well, D_BadFrame_init, D_BadState_init, D_Missing_init, D_Views___init__, D_Views_need_part, D_Views_need_window, D_law]
open He in
theorem tx_of {K : PySem.W.Frag} {h : Heap} {mg : Str → Option Value} (X : K.In h) (G : h.Ns mainGlobals mg) (c : SaysW faL fnL K) : Tx K mg where
  b__law_among := binds_of (fun_of (st := top 34) (c.def_ 0 (d := D__law_among) rfl).choose_spec) (fun _ _ _ _ _ _ us hl => match us, hl with | [_, _], _ => rfl)
  b__law_begun := binds_of (fun_of (st := top 27) (c.def_ 1 (d := D__law_begun) rfl).choose_spec) (fun _ _ _ _ _ _ us hl => match us, hl with | [_], _ => rfl)
  b__law_frame := binds_of (fun_of (st := top 31) (c.def_ 2 (d := D__law_frame) rfl).choose_spec) (fun _ _ _ _ _ _ us hl => match us, hl with | [_, _, _], _ => rfl)
  b__law_mixture := binds_of (fun_of (st := top 32) (c.def_ 3 (d := D__law_mixture) rfl).choose_spec) (fun _ _ _ _ _ _ us hl => match us, hl with | [_, _], _ => rfl)
  b__law_next := binds_of (fun_of (st := top 28) (c.def_ 4 (d := D__law_next) rfl).choose_spec) (fun _ _ _ _ _ _ us hl => match us, hl with | [_, _], _ => rfl)
  b__law_order_right := binds_of (fun_of (st := top 36) (c.def_ 5 (d := D__law_order_right) rfl).choose_spec) (fun _ _ _ _ _ _ us hl => match us, hl with | [_, _, _], _ => rfl)
  b__law_refused := binds_of (fun_of (st := top 35) (c.def_ 6 (d := D__law_refused) rfl).choose_spec) (fun _ _ _ _ _ _ us hl => match us, hl with | [_], _ => rfl)
  b__law_shown := binds_of (fun_of (st := top 30) (c.def_ 7 (d := D__law_shown) rfl).choose_spec) (fun _ _ _ _ _ _ us hl => match us, hl with | [_, _, _], _ => rfl)
  b__law_state := binds_of (fun_of (st := top 33) (c.def_ 8 (d := D__law_state) rfl).choose_spec) (fun _ _ _ _ _ _ us hl => match us, hl with | [_, _, _], _ => rfl)
  b__law_titles := binds_of (fun_of (st := top 29) (c.def_ 9 (d := D__law_titles) rfl).choose_spec) (fun _ _ _ _ _ _ us hl => match us, hl with | [_, _], _ => rfl)
  b_content := binds_of (fun_of (st := top 24) (c.def_ 10 (d := D_content) rfl).choose_spec) (fun _ _ _ _ _ _ us hl => match us, hl with | [_, _, _], _ => rfl)
  b_edits_among := binds_of (fun_of (st := top 23) (c.def_ 11 (d := D_edits_among) rfl).choose_spec) (fun _ _ _ _ _ _ us hl => match us, hl with | [_, _], _ => rfl)
  b_is_edit := binds_of (fun_of (st := top 20) (c.def_ 12 (d := D_is_edit) rfl).choose_spec) (fun _ _ _ _ _ _ us hl => match us, hl with | [_, _], _ => rfl)
  b_is_integer := binds_of (fun_of (st := top 11) (c.def_ 13 (d := D_is_integer) rfl).choose_spec) (fun _ _ _ _ _ _ us hl => match us, hl with | [_, _, _], _ => rfl)
  b_is_name := binds_of (fun_of (st := top 12) (c.def_ 14 (d := D_is_name) rfl).choose_spec) (fun _ _ _ _ _ _ us hl => match us, hl with | [_], _ => rfl)
  b_is_shown := binds_of (fun_of (st := top 13) (c.def_ 15 (d := D_is_shown) rfl).choose_spec) (fun _ _ _ _ _ _ us hl => match us, hl with | [_, _], _ => rfl)
  b_is_window := binds_of (fun_of (st := top 14) (c.def_ 16 (d := D_is_window) rfl).choose_spec) (fun _ _ _ _ _ _ us hl => match us, hl with | [_, _], _ => rfl)
  b_need_frame := binds_of (fun_of (st := top 15) (c.def_ 17 (d := D_need_frame) rfl).choose_spec) (fun _ _ _ _ _ _ us hl => match us, hl with | [_], _ => rfl)
  b_need_good := binds_of (fun_of (st := top 22) (c.def_ 18 (d := D_need_good) rfl).choose_spec) (fun _ _ _ _ _ _ us hl => match us, hl with | [_, _], _ => rfl)
  b_seen := binds_of (fun_of (st := top 25) (c.def_ 19 (d := D_seen) rfl).choose_spec) (fun _ _ _ _ _ _ us hl => match us, hl with | [_, _, _], _ => rfl)
  b_stands_well := binds_of (fun_of (st := top 21) (c.def_ 20 (d := D_stands_well) rfl).choose_spec) (fun _ _ _ _ _ _ us hl => match us, hl with | [_, _, _, _], _ => rfl)
  bi_BadFrame := binds_of (fun_of (st := meth 3 0) (c.def_ 21 (d := D_BadFrame_init) rfl).choose_spec) (fun _ _ _ _ _ _ us hl => match us, hl with | [_, _], _ => rfl)
  bi_BadState := binds_of (fun_of (st := meth 4 0) (c.def_ 22 (d := D_BadState_init) rfl).choose_spec) (fun _ _ _ _ _ _ us hl => match us, hl with | [_, _], _ => rfl)
  bi_Missing := binds_of (fun_of (st := meth 5 0) (c.def_ 23 (d := D_Missing_init) rfl).choose_spec) (fun _ _ _ _ _ _ us hl => match us, hl with | [_, _], _ => rfl)
  bm_Views___init__ := binds_of (fun_of (st := meth 16 0) (c.def_ 24 (d := D_Views___init__) rfl).choose_spec) (fun _ _ _ _ _ _ us hl => match us, hl with | [_, _], _ => rfl)
  bm_Views_need_part := binds_of (fun_of (st := meth 16 1) (c.def_ 25 (d := D_Views_need_part) rfl).choose_spec) (fun _ _ _ _ _ _ us hl => match us, hl with | [_, _], _ => rfl)
  bm_Views_need_window := binds_of (fun_of (st := meth 16 2) (c.def_ 26 (d := D_Views_need_window) rfl).choose_spec) (fun _ _ _ _ _ _ us hl => match us, hl with | [_, _], _ => rfl)
  c_LETTERS := str_ok X G (c.fact 0 (f := .fa (.str "LETTERS" "abcdefghijklmnopqrstuvwxyz")) rfl)
  c_LONGEST_NAME := int_ok X G (c.fact 1 (f := .fa (.int "LONGEST_NAME" 8)) rfl)
  c_MOST_AGE := int_ok X G (c.fact 2 (f := .fa (.int "MOST_AGE" 999)) rfl)
  c_MOST_EDITS := int_ok X G (c.fact 3 (f := .fa (.int "MOST_EDITS" 40)) rfl)
  c_MOST_PARTS := int_ok X G (c.fact 4 (f := .fa (.int "MOST_PARTS" 8)) rfl)
  c_MOST_WINDOWS := int_ok X G (c.fact 5 (f := .fa (.int "MOST_WINDOWS" 12)) rfl)
  ck2_Missing__WindowError := ck2_ok (c.fact 6 (f := .ck2 domL "Missing" "WindowError") rfl)
  cls_Views := cls_ok (c.fact 7 (f := .fa (.cls "Views")) rfl)
  in_BadFrame := in_ok (c.fact 8 (f := .ini "BadFrame") rfl)
  in_BadState := in_ok (c.fact 9 (f := .ini "BadState") rfl)
  in_Missing := in_ok (c.fact 10 (f := .ini "Missing") rfl)
  is_BadFrame := isx_ok (c.fact 11 (f := .isx domL "BadFrame") rfl)
  is_BadState := isx_ok (c.fact 12 (f := .isx domL "BadState") rfl)
  is_Missing := isx_ok (c.fact 13 (f := .isx domL "Missing") rfl)
  k__law_among := keep_ok (c.fact 14 (f := .fa (.keep "_law_among")) rfl)
  k__law_begun := keep_ok (c.fact 15 (f := .fa (.keep "_law_begun")) rfl)
  k__law_frame := keep_ok (c.fact 16 (f := .fa (.keep "_law_frame")) rfl)
  k__law_mixture := keep_ok (c.fact 17 (f := .fa (.keep "_law_mixture")) rfl)
  k__law_next := keep_ok (c.fact 18 (f := .fa (.keep "_law_next")) rfl)
  k__law_order_right := keep_ok (c.fact 19 (f := .fa (.keep "_law_order_right")) rfl)
  k__law_refused := keep_ok (c.fact 20 (f := .fa (.keep "_law_refused")) rfl)
  k__law_shown := keep_ok (c.fact 21 (f := .fa (.keep "_law_shown")) rfl)
  k__law_state := keep_ok (c.fact 22 (f := .fa (.keep "_law_state")) rfl)
  k__law_titles := keep_ok (c.fact 23 (f := .fa (.keep "_law_titles")) rfl)
  k_content := keep_ok (c.fact 24 (f := .fa (.keep "content")) rfl)
  k_edits_among := keep_ok (c.fact 25 (f := .fa (.keep "edits_among")) rfl)
  k_is_edit := keep_ok (c.fact 26 (f := .fa (.keep "is_edit")) rfl)
  k_is_integer := keep_ok (c.fact 27 (f := .fa (.keep "is_integer")) rfl)
  k_is_name := keep_ok (c.fact 28 (f := .fa (.keep "is_name")) rfl)
  k_is_shown := keep_ok (c.fact 29 (f := .fa (.keep "is_shown")) rfl)
  k_is_window := keep_ok (c.fact 30 (f := .fa (.keep "is_window")) rfl)
  k_need_frame := keep_ok (c.fact 31 (f := .fa (.keep "need_frame")) rfl)
  k_need_good := keep_ok (c.fact 32 (f := .fa (.keep "need_good")) rfl)
  k_seen := keep_ok (c.fact 33 (f := .fa (.keep "seen")) rfl)
  k_stands_well := keep_ok (c.fact 34 (f := .fa (.keep "stands_well")) rfl)
  m_BadFrame := glo_ok X G (c.fact 35 (f := .fa (.glo "BadFrame")) rfl)
  m_BadState := glo_ok X G (c.fact 36 (f := .fa (.glo "BadState")) rfl)
  m_Missing := glo_ok X G (c.fact 37 (f := .fa (.glo "Missing")) rfl)
  m_Views := glo_ok X G (c.fact 38 (f := .fa (.glo "Views")) rfl)
  m_WindowError := glo_ok X G (c.fact 39 (f := .fa (.glo "WindowError")) rfl)
  m__law_among := glo_ok X G (c.fact 40 (f := .fa (.glo "_law_among")) rfl)
  m__law_begun := glo_ok X G (c.fact 41 (f := .fa (.glo "_law_begun")) rfl)
  m__law_frame := glo_ok X G (c.fact 42 (f := .fa (.glo "_law_frame")) rfl)
  m__law_mixture := glo_ok X G (c.fact 43 (f := .fa (.glo "_law_mixture")) rfl)
  m__law_next := glo_ok X G (c.fact 44 (f := .fa (.glo "_law_next")) rfl)
  m__law_order_right := glo_ok X G (c.fact 45 (f := .fa (.glo "_law_order_right")) rfl)
  m__law_refused := glo_ok X G (c.fact 46 (f := .fa (.glo "_law_refused")) rfl)
  m__law_shown := glo_ok X G (c.fact 47 (f := .fa (.glo "_law_shown")) rfl)
  m__law_state := glo_ok X G (c.fact 48 (f := .fa (.glo "_law_state")) rfl)
  m__law_titles := glo_ok X G (c.fact 49 (f := .fa (.glo "_law_titles")) rfl)
  m_content := glo_ok X G (c.fact 50 (f := .fa (.glo "content")) rfl)
  m_edits_among := glo_ok X G (c.fact 51 (f := .fa (.glo "edits_among")) rfl)
  m_is_edit := glo_ok X G (c.fact 52 (f := .fa (.glo "is_edit")) rfl)
  m_is_integer := glo_ok X G (c.fact 53 (f := .fa (.glo "is_integer")) rfl)
  m_is_name := glo_ok X G (c.fact 54 (f := .fa (.glo "is_name")) rfl)
  m_is_shown := glo_ok X G (c.fact 55 (f := .fa (.glo "is_shown")) rfl)
  m_is_window := glo_ok X G (c.fact 56 (f := .fa (.glo "is_window")) rfl)
  m_law := glo_ok X G (c.fact 57 (f := .fa (.glo "law")) rfl)
  m_need_frame := glo_ok X G (c.fact 58 (f := .fa (.glo "need_frame")) rfl)
  m_need_good := glo_ok X G (c.fact 59 (f := .fa (.glo "need_good")) rfl)
  m_seen := glo_ok X G (c.fact 60 (f := .fa (.glo "seen")) rfl)
  m_stands_well := glo_ok X G (c.fact 61 (f := .fa (.glo "stands_well")) rfl)
  me_Views_need_part := meth_ok (c.fact 62 (f := .fa (.meth "Views" "need_part")) rfl)
  me_Views_need_window := meth_ok (c.fact 63 (f := .fa (.meth "Views" "need_window")) rfl)
  mk_Views := mkr_ok (c.fact 64 (f := .fa (.mkr "Views")) rfl)
  n_KeyError := free_ok X G (c.fact 65 (f := .fa (.free "KeyError")) rfl)
  n_all := free_ok X G (c.fact 66 (f := .fa (.free "all")) rfl)
  n_any := free_ok X G (c.fact 67 (f := .fa (.free "any")) rfl)
  n_bool := free_ok X G (c.fact 68 (f := .fa (.free "bool")) rfl)
  n_dict := free_ok X G (c.fact 69 (f := .fa (.free "dict")) rfl)
  n_enumerate := free_ok X G (c.fact 70 (f := .fa (.free "enumerate")) rfl)
  n_int := free_ok X G (c.fact 71 (f := .fa (.free "int")) rfl)
  n_isinstance := free_ok X G (c.fact 72 (f := .fa (.free "isinstance")) rfl)
  n_len := free_ok X G (c.fact 73 (f := .fa (.free "len")) rfl)
  n_list := free_ok X G (c.fact 74 (f := .fa (.free "list")) rfl)
  n_max := free_ok X G (c.fact 75 (f := .fa (.free "max")) rfl)
  n_min := free_ok X G (c.fact 76 (f := .fa (.free "min")) rfl)
  n_range := free_ok X G (c.fact 77 (f := .fa (.free "range")) rfl)
  n_repr := free_ok X G (c.fact 78 (f := .fa (.free "repr")) rfl)
  n_str := free_ok X G (c.fact 79 (f := .fa (.free "str")) rfl)
  n_tuple := free_ok X G (c.fact 80 (f := .fa (.free "tuple")) rfl)
  nf_BadFrame := noat_ok (c.fact 81 (f := .fa (.noat "BadFrame" "place")) rfl)
  nf_BadState := noat_ok (c.fact 82 (f := .fa (.noat "BadState" "place")) rfl)
  nf_Missing := noat_ok (c.fact 83 (f := .fa (.noat "Missing" "name")) rfl)
  no_Views__part_windows := noat_ok (c.fact 84 (f := .fa (.noat "Views" "part_windows")) rfl)
  no_Views__parts := noat_ok (c.fact 85 (f := .fa (.noat "Views" "parts")) rfl)
  no_Views__plan := noat_ok (c.fact 86 (f := .fa (.noat "Views" "plan")) rfl)
  no_Views__window_parts := noat_ok (c.fact 87 (f := .fa (.noat "Views" "window_parts")) rfl)
  ox_BadFrame := ox_ok (ke := false) (c.fact 88 (f := .ox "BadFrame" false) rfl)
  ox_BadState := ox_ok (ke := false) (c.fact 89 (f := .ox "BadState" false) rfl)
  ox_Missing := ox_ok (ke := true) (c.fact 90 (f := .ox "Missing" true) rfl)
  rd_WindowError := rd_ok (c.fact 91 (f := .bas "WindowError" "ValueError.__init__") rfl)
  sg_WindowError := sg_ok (c.fact 91 (f := .bas "WindowError" "ValueError.__init__") rfl)
  ti_BadFrame := ti_ok (c.fact 8 (f := .ini "BadFrame") rfl)
  ti_BadState := ti_ok (c.fact 9 (f := .ini "BadState") rfl)
  ti_Missing := ti_ok (c.fact 10 (f := .ini "Missing") rfl)
  u_Views___init__ := (fun_of (st := meth 16 0) (c.def_ 24 (d := D_Views___init__) rfl).choose_spec)
  u_Views_need_part := (fun_of (st := meth 16 1) (c.def_ 25 (d := D_Views_need_part) rfl).choose_spec)
  u_Views_need_window := (fun_of (st := meth 16 2) (c.def_ 26 (d := D_Views_need_window) rfl).choose_spec)
  u__law_among := (fun_of (st := top 34) (c.def_ 0 (d := D__law_among) rfl).choose_spec)
  u__law_begun := (fun_of (st := top 27) (c.def_ 1 (d := D__law_begun) rfl).choose_spec)
  u__law_frame := (fun_of (st := top 31) (c.def_ 2 (d := D__law_frame) rfl).choose_spec)
  u__law_mixture := (fun_of (st := top 32) (c.def_ 3 (d := D__law_mixture) rfl).choose_spec)
  u__law_next := (fun_of (st := top 28) (c.def_ 4 (d := D__law_next) rfl).choose_spec)
  u__law_order_right := (fun_of (st := top 36) (c.def_ 5 (d := D__law_order_right) rfl).choose_spec)
  u__law_refused := (fun_of (st := top 35) (c.def_ 6 (d := D__law_refused) rfl).choose_spec)
  u__law_shown := (fun_of (st := top 30) (c.def_ 7 (d := D__law_shown) rfl).choose_spec)
  u__law_state := (fun_of (st := top 33) (c.def_ 8 (d := D__law_state) rfl).choose_spec)
  u__law_titles := (fun_of (st := top 29) (c.def_ 9 (d := D__law_titles) rfl).choose_spec)
  u_content := (fun_of (st := top 24) (c.def_ 10 (d := D_content) rfl).choose_spec)
  u_edits_among := (fun_of (st := top 23) (c.def_ 11 (d := D_edits_among) rfl).choose_spec)
  u_is_edit := (fun_of (st := top 20) (c.def_ 12 (d := D_is_edit) rfl).choose_spec)
  u_is_integer := (fun_of (st := top 11) (c.def_ 13 (d := D_is_integer) rfl).choose_spec)
  u_is_name := (fun_of (st := top 12) (c.def_ 14 (d := D_is_name) rfl).choose_spec)
  u_is_shown := (fun_of (st := top 13) (c.def_ 15 (d := D_is_shown) rfl).choose_spec)
  u_is_window := (fun_of (st := top 14) (c.def_ 16 (d := D_is_window) rfl).choose_spec)
  u_law := (fun_of (st := top 37) (c.def_ 27 (d := D_law) rfl).choose_spec)
  u_need_frame := (fun_of (st := top 15) (c.def_ 17 (d := D_need_frame) rfl).choose_spec)
  u_need_good := (fun_of (st := top 22) (c.def_ 18 (d := D_need_good) rfl).choose_spec)
  u_seen := (fun_of (st := top 25) (c.def_ 19 (d := D_seen) rfl).choose_spec)
  u_stands_well := (fun_of (st := top 21) (c.def_ 20 (d := D_stands_well) rfl).choose_spec)
  ui_BadFrame := (fun_of (st := meth 3 0) (c.def_ 21 (d := D_BadFrame_init) rfl).choose_spec)
  ui_BadState := (fun_of (st := meth 4 0) (c.def_ 22 (d := D_BadState_init) rfl).choose_spec)
  ui_Missing := (fun_of (st := meth 5 0) (c.def_ 23 (d := D_Missing_init) rfl).choose_spec)
  vv_KeyError := vvT_ok (c.fact 92 (f := .vvT "KeyError" "KeyError.__init__") rfl)
  vv_WindowError := vv_ok (c.fact 91 (f := .bas "WindowError" "ValueError.__init__") rfl)
abbrev Rr : PySem.W.OpenRow := PySem.W.OpenLaw.row PySem.Challenge.rw_windowundos_k04_contents_and_sights
abbrev hk : PySem.W.Hook := hookWT 5 faL fnL tfL
def ob (s : PySem.W.SharedT) : AlW := obsWT 5 faL fnL tfL (HandSHeadRun.getT s)
theorem ob_eq (s : PySem.W.SharedT) : ob s = hk.obs s.abs := obsWT_eq (HandSHeadRun.getT_eq s)
abbrev looseL : List Str := (["_wall", "__name__", "WindowError", "BadFrame", "BadState", "Missing", "MOST_PARTS", "MOST_WINDOWS", "LONGEST_NAME", "LETTERS", "is_integer", "is_name", "is_shown", "is_window", "need_frame", "Views", "MOST_EDITS", "MOST_AGE", "is_edit", "stands_well"] : List Str) ++ (["need_good", "edits_among", "content", "seen", "_law_begun", "_law_next", "_law_titles", "_law_shown", "_law_frame", "_law_mixture", "_law_state", "_law_among", "_law_refused", "_law_order_right"] : List Str)
theorem run (w : World) : HandSHeadRun.RunEq Rr (PySem.W.view Rr.prog [37]) hk ob 4000 looseL w := by
  intro os
  kernel_rfl
end Law

open PySem PySem.W PySem.Calls PyProof.Rows
set_option maxRecDepth 100000 in
set_option maxHeartbeats 8000000 in
theorem PySem.Challenge.cw_windowundos_k04_contents_and_sights_holds : PySem.Challenge.rw_windowundos_k04_contents_and_sights.Holds := by
  w_on; o_law
  refine HandSHeadRun.head_any (r := OpenLaw.row PySem.Challenge.rw_windowundos_k04_contents_and_sights) (q := view (OpenLaw.row PySem.Challenge.rw_windowundos_k04_contents_and_sights).prog [37]) (H := Law.hk) (ob := Law.ob) (M := 4000) (loose := Law.looseL) (d := HandSHeadRun.topDef (OpenLaw.row PySem.Challenge.rw_windowundos_k04_contents_and_sights).prog 37) (kwd := []) Law.ob_eq
    (by kernel_rfl) (fun s => by kernel_rfl) Law.run (by kernel_rfl) (by kernel_rfl) (by kernel_rfl) (by rfl) (by first | assumption | decide +kernel) (by decide +kernel) ⟨rfl, rfl, rfl, rfl, rfl, by decide +kernel⟩ ?hw ?hc
  case hw => w_witness2
  case hc =>
    refine Wu.walk_w (l := PySem.Challenge.rw_windowundos_k04_contents_and_sights) (n := 63) (k := 10) (x := "_law_script") rfl (by decide) (by decide) (by kernel_rfl) ⟨rfl, by decide, by decide⟩ ?F
    intro w mg fa h Y G hmg0
    obtain ⟨K, KX, c⟩ := Y
    have hmg : mg ("law" : PySem.Str) = some (.ref fa) := by
      have e : (HandSHeadRun.topDef (OpenLaw.row PySem.Challenge.rw_windowundos_k04_contents_and_sights).prog 37).name = ("law" : PySem.Str) := by kernel_rfl
      rw [← e]
      exact hmg0
    have T := Law.tx_of KX G c.t
    have e := hmg.symm.trans T.m_law
    cases e
    exact ⟨K, _, Law.csL K, KX, c.tabs KX, fun s u => Wu.bindsTo_of (ps := ["_law_script"]) T.u_law (fun _ _ _ _ _ _ us hl => match us, hl with | [_], _ => rfl) s [u] rfl, fun base _ _ TB => Law.F_law T TB Law.plain⟩

